import PyProof.Rows.All
import Wide.All
import OpenK.AllK
import Wide.FinOn
import HandS.Base
import HandS.Call
import HandS.List
import HandS.Comp
import HandS.Exc
import HandS.Dict
import HandS.Iter
import HandS.Text
import HandS.Lambda
import HandS.HeadHook4
import KE.KeyNested
import HandS.ExcCtx
import HandS.ExcInit
import HandS.ExcField
import HandS.Words
import HandS.Head0
import HandS.Head1
import HandS.Head2
import HandS.HeadEnd
import HandS.HeadHook1
import HandS.HeadHook2
import HandS.HeadHook3
import HandS.EndTab
import HandS.ExcIs
import HandS.TryMany
import HandS.TupAny
import HandS.TupMul
import HandS.IsInst
import HandS.Wide
import HandS.WordsExc
import HandS.CallSlots
import HandS.Defaults
import HandS.Zip
import KE.GoesEnum
import KE.GoesEnumKw
import KE.GoesMore
import HandS.Strs
import HandS.Style
import HandS.SetKeys
import HandS.Small
import KE.KDictLaws
import HandS.SortKw
import HandS.SortInts
import HandS.Conv
import HandS.NoneIn
import HandS.Deep
import HandS.MakeKw
import HandS.Flt
import HandS.ExcOwn
import PyProof.ReprRoads
import HandS.SortOrd
import HandS.Sort
import HandS.Remove
import PyProof.DictMoreH
import KE.KDictPairs
import KE.KDictCopyH
import HandS.Flow
import HandS.DictComp
import HandS.TupLen
import HandS.WordsDict
import KE.SortKeyHeap
import PyProof.Rows.SetFrom
import KE.DataMinMax
import HandS.StrMore
import HandS.RaiseMore
import PyProof.Rows.StrPadFill
import HandS.FStr
import PyProof.Draws
import HandS.IntHex
import HandS.HotCalls
import KE.SortData
import HandS.Star
import HandS.SuiteRaise
import OpenK.KOps
import PySem.Challenge.RW_layerink_k30_boards_filled
set_option Elab.async false
set_option linter.all false
set_option maxRecDepth 100000
namespace Ink
open PySem L2
/-- all defs, of all laws, that make lambdas -/
def CN : List He.Defn := [("law", none), ("_law_web_door", none), ("blocks", none), ("port_columns", none), ("tracks", none), ("in_order", none), ("_law_glance", none), ("_law_spoilt_glance", none), ("_law_drawing_right", none), ("_law_cause", none), ("_law_by_hand", none)]
def hasD (K : PySem.W.Frag) (p : He.Defn) : Bool := decide (He.codeOf K p ≠ 0) && (K.lookup (He.codeOf K p)).isSome
/-- the lambdas' table of a def, with the name that its code objects bear -/
def tlOf (K : PySem.W.Frag) (p : He.Defn) : Addr × Str := ((He.cT K p).2, (p.1 ++ ".<locals>.") ++ "<lambda>")
def TLc (K : PySem.W.Frag) : List (Addr × Str) := (CN.filter (hasD K)).map (tlOf K)
/-- the tables of the defs that are there and make lambdas -/
def TL (K : PySem.W.Frag) : List (Addr × Str) := if ((TLc K).map (·.1)).Nodup then TLc K else []
/-- the head's look: just these defs make lambdas -/
def lamB (K : PySem.W.Frag) (tf : List He.Defn) : Bool := decide (TL K = tf.map (tlOf K))
theorem lamB_in {K : PySem.W.Frag} {tf : List He.Defn} (h : lamB K tf = true) {d : He.Defn} (hd : d ∈ tf) : tlOf K d ∈ TL K := by
  rw [of_decide_eq_true h]; exact List.mem_map_of_mem hd
theorem lamB_at {K : PySem.W.Frag} {tf : List He.Defn} (h : lamB K tf = true) {p : Addr × Str} (hp : p ∈ TL K) : ∃ d ∈ tf, p = tlOf K d := by
  rw [of_decide_eq_true h] at hp
  obtain ⟨d, hd, e⟩ := List.mem_map.mp hp
  exact ⟨d, hd, e.symm⟩
end Ink
set_option Elab.async false
set_option linter.all false
set_option maxRecDepth 100000
set_option maxHeartbeats 2000000
namespace Ink
open PySem PySem.Spec PyProof.Rows L2 LamX
def oexB (K : PySem.W.Frag) (C : Addr) : Bool := match K.lookup C with
  | some ⟨.type t, _, .cls cd, sl⟩ => t == "type" && (match cd.mro, sl.toList with
    | .ref C' :: bm, [_, _, _, _, some (.builtin n), _] => C' == C && (n == "ValueError.__new__" && (!cd.hasDel && (cd.hasDict && PySem.HandSPX.refsVE bm)))
    | _, _ => false)
  | _ => false
theorem oexB_ok {K : PySem.W.Frag} {C : Addr} (h : oexB K C = true) : ∃ nm q N bs bm sn sub ab col dd k0 k1 k2 k3 k5, K.lookup C = some (excClassObj nm q C N bs bm true sn sub ab col dd k0 k1 k2 k3 k5 "ValueError.__new__") ∧ PySem.HandSPX.refsVE bm = true := by
  unfold oexB at h
  split at h
  · rename_i t dd cd sl hK
    obtain ⟨h0, h⟩ := Bool.and_eq_true_iff.mp h
    split at h
    · rename_i C' bm k0 k1 k2 k3 n k5 hm hs
      simp only [Bool.and_eq_true, beq_iff_eq, Bool.not_eq_true'] at h
      obtain ⟨rfl, rfl, h3, h4, h5⟩ := h
      have h0 : t = "type" := beq_iff_eq.mp h0
      subst h0
      obtain ⟨nm, bs, mro, N, q, hd, sn, sub, ab, col, del⟩ := cd
      simp only at hm h3 h4
      subst hm h3 h4
      have es : sl = #[k0, k1, k2, k3, some (.builtin "ValueError.__new__"), k5] := by
        rw [← hs]
      subst es
      exact ⟨nm, q, N, bs, bm, sn, sub, ab, col, dd, k0, k1, k2, k3, k5, hK, h5⟩
    · cases h
  · cases h
abbrev iAd (K : PySem.W.Frag) (x : Str) : Addr := He.ma K (He.ga K x) "__init__"
def viB : Option PySem.W.CFound → Bool
  | some (.val (.builtin n)) => n == "ValueError.__init__"
  | _ => false
theorem viB_ok {r : Option PySem.W.CFound} (h : viB r = true) : r = some (.val (.builtin "ValueError.__init__")) := by
  unfold viB at h
  split at h
  · rw [beq_iff_eq.mp h]
  · cases h
/-- class x, its own base b, its field f -/
def initB (K : PySem.W.Frag) (x b f : Str) : Bool := oexB K (He.ga K x) && (decide (PySem.W.findIn K (.ref (He.ga K x)) "__setattr__" = some (some (.builtin "object.__setattr__"))) && (decide (PySem.W.subIn K (.ref (He.ga K x)) (.type "BaseException") = some true) && (decide (PySem.W.typeIn K (.ref (He.ga K x)) = some (.type "type")) && (PySem.W.keepIn K (.ref (He.ga K x)) &&
  (xfB K (He.ga K x) && (decide (PySem.W.findIn K (.ref (He.ga K x)) f = some none) && (decide (PySem.W.findIn K (.ref (He.ga K x)) "__init__" = some (some (.ref (iAd K x)))) && (decide (PySem.W.typeIn K (.ref (iAd K x)) = some (.type "function")) &&
  (decide (PySem.W.specialIn K (.ref (He.ga K b)) "__getattribute__" = some (some (.builtin "type.__getattribute__"))) && (PySem.W.readsIn K (He.ga K b) (.type "type") && (decide (PySem.W.typeIn K (.ref (He.ga K b)) = some (.type "type")) && viB (PySem.W.findCls K (.ref (He.ga K b)) (.type "type") "__init__"))))))))))))
structure BaseC (K : PySem.W.Frag) (b : Str) : Prop where
  bg : PySem.W.specialIn K (.ref (He.ga K b)) "__getattribute__" = some (some (.builtin "type.__getattribute__"))
  br : PySem.W.readsIn K (He.ga K b) (.type "type") = true
  bt : PySem.W.typeIn K (.ref (He.ga K b)) = some (.type "type")
  bi : PySem.W.findCls K (.ref (He.ga K b)) (.type "type") "__init__" = some (.val (.builtin "ValueError.__init__"))
structure InitC (K : PySem.W.Frag) (x b f : Str) : Prop where
  T : OexC K (He.ga K x)
  F : XfC K (He.ga K x)
  no : PySem.W.findIn K (.ref (He.ga K x)) f = some none
  iC : PySem.W.findIn K (.ref (He.ga K x)) "__init__" = some (some (.ref (iAd K x)))
  tI : PySem.W.typeIn K (.ref (iAd K x)) = some (.type "function")
  B : BaseC K b
theorem initB_ok {K : PySem.W.Frag} {x b f : Str} (h : initB K x b f = true) : InitC K x b f := by
  unfold initB at h
  simp only [Bool.and_eq_true, decide_eq_true_eq] at h
  obtain ⟨h1, h2, h3, h4, h5, h6, h7, h8, h9, h10, h11, h12, h13⟩ := h
  exact ⟨⟨oexB_ok h1, h2, h3, h4, h5⟩, xfB_ok h6, h7, h8, h9, h10, h11, h12, viB_ok h13⟩
def leBase : List Value := [.type "LookupError", .type "Exception", .type "BaseException", .type "object"]
def excLB (K : PySem.W.Frag) (x : Str) : Bool := PySem.W.excIn K (He.ga K x) leBase "LookupError.__new__" && (PySem.W.keepIn K (.ref (He.ga K x)) && (decide (PySem.W.subIn K (.ref (He.ga K x)) (.type "BaseException") = some true) && decide (PySem.W.typeIn K (.ref (He.ga K x)) = some (.type "type"))))
def excCB (K : PySem.W.Frag) (x : Str) : Bool := decide (PySem.W.findIn K (.ref (He.ga K x)) "__getattribute__" = some (some (.builtin "BaseException.__getattribute__"))) && (decide (PySem.W.findIn K (.ref (He.ga K x)) "__getattr__" = some none) && (decide (PySem.W.subIn K (.ref (He.ga K x)) (.type "BaseException") = some true) && (PySem.W.hasDictIn K (He.ga K x) &&
  (decide (PySem.W.findIn K (.ref (He.ga K x)) "__class__" = some (some (.builtin "object.__class__"))) && (decide (PySem.W.specialIn K (.builtin "object.__class__") "__get__" = some (some (.builtin "getset_descriptor.__get__"))) && (decide (PySem.W.takesIn K (.builtin "object.__class__") = some true) && decide (PySem.W.mroIn K (He.ga K x) (.type "object") = some true)))))))
/-- the classes xs, asked of the classes ys: r tells the answers; y1 y2: what the except clause catches -/
def kinB (K : PySem.W.Frag) (xs ys : List Str) (r : Str → Str → Bool) (y1 y2 : Str) : Bool := xs.all fun x => excCB K x && (ys.all (fun y => decide (PySem.W.kitOne K (.ref (He.ga K x)) (.ref (He.ga K y)) = some (r x y))) && decide (PySem.W.exmAny K (.ref (He.ga K x)) [.ref (He.ga K y1), .ref (He.ga K y2)] = some true))
def emptyTB (K : PySem.W.Frag) : Value → Bool
  | .ref p => match K.lookup p with
    | some o => decide (o.cls = .type "tuple") && (match o.data with
      | .seq its _ => its.isEmpty
      | _ => false)
    | none => false
  | _ => false
def newB (K : PySem.W.Frag) (x : Str) : Bool := match K.lookup (He.ga K x) with
  | some o => decide (o.cls = .type "tuple") && (match o.data with
    | .seq its _ => (match its.toList with
      | [a, b, c, .int i _, .int j _, .none] => emptyTB K a && (emptyTB K b && (emptyTB K c && (decide (i = 1) && decide (j = 1))))
      | _ => false)
    | _ => false)
  | none => false
def kinR (x y : Str) : Bool := decide (x = y)
end Ink
set_option Elab.async false
set_option linter.all false
set_option maxRecDepth 100000
namespace Ink
open PySem PySem.Spec PyProof.Rows L2
def kL (g : Addr → Option Obj) (as : List Addr) : PySem.W.Frag := He.frT g as
section
variable (as : List Addr) (fa : List He.Fa) (fn : List He.DefD) (ts : List He.Tab) (tf : List He.Defn) (ex : PySem.W.Frag → Bool)
def obsL (g : Addr → Option Obj) : He.AlX := (He.obsT fa fn ts (kL g as), ex (kL g as) && He.tabsB g tf (kL g as))
variable {as fa fn ts tf ex}
theorem saysL_of {w : World} {h : Heap} (e : obsL as fa fn ts tf ex h.get? = He.valX fn ts w) : He.SaysX fa fn ts tf ex w h (kL h.get? as) := by
  have e1 : He.obsT fa fn ts (kL h.get? as) = He.valT fn ts w := congrArg (fun z : He.AlX => z.1) e
  have e2 : (ex (kL h.get? as) && He.tabsB h.get? tf (kL h.get? as)) = true := congrArg (fun z : He.AlX => z.2) e
  obtain ⟨m, tb⟩ := Bool.and_eq_true_iff.mp e2
  have each : ∀ p ∈ tf, PySem.W.codeHdIn (kL h.get? as) (He.cT (kL h.get? as) p).1 (He.cT (kL h.get? as) p).2 = true ∧ ∃ o, h.get? (He.cT (kL h.get? as) p).2 = some o ∧ He.emptyTab o = true := fun p hp => by
    obtain ⟨c1, c2⟩ := Bool.and_eq_true_iff.mp (List.all_eq_true.mp tb p hp)
    cases q : h.get? (He.cT (kL h.get? as) p).2 with
    | none => rw [q] at c2; cases c2
    | some o => rw [q] at c2; exact ⟨c1, o, rfl, c2⟩
  refine ⟨e1, m, fun p hp => (each p hp).1, fun p hp => ?_, fun p hp => ?_⟩
  · obtain ⟨_, o, q, z⟩ := each p hp
    exact He.frT_none q z
  · obtain ⟨_, o, q, z⟩ := each p hp
    rw [q, He.emptyTab_eq z]
variable (as fa fn ts tf ex)
def hookL : PySem.W.Hook where
  α := He.AlX
  obs := fun s => obsL as fa fn ts tf ex s.heap.get?
  val := fun w => He.valX fn ts w
  says := fun w h => ∃ K : PySem.W.Frag, K.In h ∧ He.SaysX fa fn ts tf ex w h K
  of := fun _ _ e => ⟨_, He.frT_in, saysL_of e⟩
  keeps := fun _ _ _ ⟨K, hK, c⟩ k => ⟨K, PySem.W.Frag.In.keeps hK k, ⟨c.t, c.more, c.hd, c.out, fun p hp => k _ _ (c.empty p hp)⟩⟩
variable {as fa fn ts tf ex}
theorem obsL_eq {g : Addr → Option Obj} {s : Shared} (h : ∀ a, g a = s.heap.get? a) : obsL as fa fn ts tf ex g = (hookL as fa fn ts tf ex).obs s := by
  have e : g = s.heap.get? := funext h
  rw [e] <;> rfl
end
/-- a run's equation, its three looks apart -/
theorem map3 {α β γ δ : Type} {o : Option α} {f : α → β} {g : α → γ} {h : α → δ} {b : β} {c : γ} {d : δ} (e1 : o.map f = some b) (e2 : o.map g = some c) (e3 : o.map h = some d) : o.map (fun s => (f s, g s, h s)) = some (b, c, d) := by
  cases o with
  | none => cases e1
  | some s =>
    have h1 : f s = b := Option.some.inj e1
    have h2 : g s = c := Option.some.inj e2
    have h3 : h s = d := Option.some.inj e3
    show some (f s, g s, h s) = _
    rw [h1, h2, h3]
end Ink
set_option Elab.async false
set_option linter.all false
set_option maxRecDepth 100000
set_option maxHeartbeats 0
namespace Lw
section
open PySem L2 Ink
def tb_DEEDS : List (Str × He.Dv) := [("box", .glo "do_box"), ("drop", .glo "do_drop"), ("arrow", .glo "do_arrow"), ("cut", .glo "do_cut"), ("alter", .glo "do_alter"), ("say", .glo "do_say"), ("unsay", .glo "do_unsay"), ("hold", .glo "do_hold"), ("free", .glo "do_free")]
def tb_THINGS : List (Str × He.Dv) := [("box", .int 1), ("drop", .int 1), ("arrow", .int 4), ("cut", .int 1), ("alter", .int 3), ("say", .int 3), ("unsay", .int 1), ("hold", .int 0), ("free", .int 0)]
end
end Lw
set_option Elab.async false
set_option linter.all false
set_option maxRecDepth 100000
set_option maxHeartbeats 0
namespace Lw
section
open PySem L2 Ink PyProof.Rows
def methN (s : Stmt) (j : Nat) : Stmt := match s with
  | .ClassDef (body := b) .. => b.getD j (.Pass ⟨0, 0, 0, 0⟩)
  | _ => .Pass ⟨0, 0, 0, 0⟩
def top (i : Nat) (j : Nat := 0) : Stmt := match j with
  | 0 => PySem.Challenge.pw_layerink_k30_boards_filled.main.body.getD i (.Pass ⟨0, 0, 0, 0⟩)
  | j + 1 => methN (PySem.Challenge.pw_layerink_k30_boards_filled.main.body.getD i (.Pass ⟨0, 0, 0, 0⟩)) j
def methI (s : Stmt) : Stmt := match s with
  | .ClassDef (body := b) .. => b.getD 0 (.Pass ⟨0, 0, 0, 0⟩)
  | _ => .Pass ⟨0, 0, 0, 0⟩
end
end Lw
set_option Elab.async false
set_option linter.all false
set_option maxRecDepth 100000
set_option maxHeartbeats 0
namespace Lw
section
open PySem PySem.Spec PyProof.Rows L2 Ink
def d_wall : He.DefD := ⟨("_wall", none), "_wall", "_wall", defArgs (top 0), defBody (top 0), defScope (top 0), [], []⟩
def d_is_name : He.DefD := ⟨("is_name", none), "is_name", "is_name", defArgs (top 26), defBody (top 26), defScope (top 26), [], []⟩
def d_is_least : He.DefD := ⟨("is_least", none), "is_least", "is_least", defArgs (top 27), defBody (top 27), defScope (top 27), [], []⟩
def d_is_weight : He.DefD := ⟨("is_weight", none), "is_weight", "is_weight", defArgs (top 28), defBody (top 28), defScope (top 28), [], []⟩
def d_is_far : He.DefD := ⟨("is_far", none), "is_far", "is_far", defArgs (top 29), defBody (top 29), defScope (top 29), [], []⟩
def d_is_arrow : He.DefD := ⟨("is_arrow", none), "is_arrow", "is_arrow", defArgs (top 30), defBody (top 30), defScope (top 30), [], []⟩
def d_is_saying : He.DefD := ⟨("is_saying", none), "is_saying", "is_saying", defArgs (top 31), defBody (top 31), defScope (top 31), [], []⟩
def d_is_web : He.DefD := ⟨("is_web", none), "is_web", "is_web", defArgs (top 32), defBody (top 32), defScope (top 32), [], []⟩
def d_need_web : He.DefD := ⟨("need_web", none), "need_web", "need_web", defArgs (top 33), defBody (top 33), defScope (top 33), [], []⟩
def d_box_item : He.DefD := ⟨("box_item", none), "box_item", "box_item", defArgs (top 35), defBody (top 35), defScope (top 35), [], []⟩
def d_chain_of : He.DefD := ⟨("chain_of", none), "chain_of", "chain_of", defArgs (top 36), defBody (top 36), defScope (top 36), [], []⟩
def d_chains : He.DefD := ⟨("chains", none), "chains", "chains", defArgs (top 37), defBody (top 37), defScope (top 37), [], []⟩
def d_rows : He.DefD := ⟨("rows", none), "rows", "rows", defArgs (top 38), defBody (top 38), defScope (top 38), [], []⟩
def d_segments_by : He.DefD := ⟨("segments_by", none), "segments_by", "segments_by", defArgs (top 40), defBody (top 40), defScope (top 40), [], []⟩
def d_spots_of : He.DefD := ⟨("spots_of", none), "spots_of", "spots_of", defArgs (top 41), defBody (top 41), defScope (top 41), [], []⟩
def d_segments_below : He.DefD := ⟨("segments_below", none), "segments_below", "segments_below", defArgs (top 42), defBody (top 42), defScope (top 42), [], []⟩
def d_added : He.DefD := ⟨("added", none), "added", "added", defArgs (top 44), defBody (top 44), defScope (top 44), [], []⟩
def d_up_to : He.DefD := ⟨("up_to", none), "up_to", "up_to", defArgs (top 45), defBody (top 45), defScope (top 45), [], []⟩
def d_counted : He.DefD := ⟨("counted", none), "counted", "counted", defArgs (top 46), defBody (top 46), defScope (top 46), [], []⟩
def d_crossings : He.DefD := ⟨("crossings", none), "crossings", "crossings", defArgs (top 47), defBody (top 47), defScope (top 47), [], []⟩
def d_arrow_text : He.DefD := ⟨("arrow_text", none), "arrow_text", "arrow_text", defArgs (top 50), defBody (top 50), defScope (top 50), [], []⟩
def d_web_text : He.DefD := ⟨("web_text", none), "web_text", "web_text", defArgs (top 51), defBody (top 51), defScope (top 51), [], []⟩
def d_links_of : He.DefD := ⟨("links_of", none), "links_of", "links_of", defArgs (top 54), defBody (top 54), defScope (top 54), [], []⟩
def d_raised : He.DefD := ⟨("raised", none), "raised", "raised", defArgs (top 55), defBody (top 55), defScope (top 55), [], []⟩
def d_ring_at : He.DefD := ⟨("ring_at", none), "ring_at", "ring_at", defArgs (top 56), defBody (top 56), defScope (top 56), [], []⟩
def d_gain_ring : He.DefD := ⟨("gain_ring", none), "gain_ring", "gain_ring", defArgs (top 57), defBody (top 57), defScope (top 57), [], []⟩
def d_sent : He.DefD := ⟨("sent", none), "sent", "sent", defArgs (top 58), defBody (top 58), defScope (top 58), [], []⟩
def d_best : He.DefD := ⟨("best", none), "best", "best", defArgs (top 59), defBody (top 59), defScope (top 59), [], []⟩
def d_way_to : He.DefD := ⟨("way_to", none), "way_to", "way_to", defArgs (top 61), defBody (top 61), defScope (top 61), [], []⟩
def d_parted : He.DefD := ⟨("parted", none), "parted", "parted", defArgs (top 62), defBody (top 62), defScope (top 62), [], []⟩
def d_turned : He.DefD := ⟨("turned", none), "turned", "turned", defArgs (top 63), defBody (top 63), defScope (top 63), [], []⟩
def d_ties_of : He.DefD := ⟨("ties_of", none), "ties_of", "ties_of", defArgs (top 66), defBody (top 66), defScope (top 66), [], []⟩
def d_solved : He.DefD := ⟨("solved", none), "solved", "solved", defArgs (top 67), defBody (top 67), defScope (top 67), [], []⟩
def d_lots : He.DefD := ⟨("lots", none), "lots", "lots", defArgs (top 68), defBody (top 68), defScope (top 68), [], []⟩
def d_layers : He.DefD := ⟨("layers", none), "layers", "layers", defArgs (top 69), defBody (top 69), defScope (top 69), [], []⟩
def d_neighbours : He.DefD := ⟨("neighbours", none), "neighbours", "neighbours", defArgs (top 74), defBody (top 74), defScope (top 74), [], []⟩
def d_swept : He.DefD := ⟨("swept", none), "swept", "swept", defArgs (top 75), defBody (top 75), defScope (top 75), [], []⟩
def d_swept_rows : He.DefD := ⟨("swept_rows", none), "swept_rows", "swept_rows", defArgs (top 76), defBody (top 76), defScope (top 76), [], []⟩
def d_ahead_of : He.DefD := ⟨("ahead_of", none), "ahead_of", "ahead_of", defArgs (top 77), defBody (top 77), defScope (top 77), [], []⟩
def d_turned_twos : He.DefD := ⟨("turned_twos", none), "turned_twos", "turned_twos", defArgs (top 78), defBody (top 78), defScope (top 78), [], []⟩
def d_gain : He.DefD := ⟨("gain", none), "gain", "gain", defArgs (top 79), defBody (top 79), defScope (top 79), [], []⟩
def d_exchanged : He.DefD := ⟨("exchanged", none), "exchanged", "exchanged", defArgs (top 80), defBody (top 80), defScope (top 80), [], []⟩
def d_ordered : He.DefD := ⟨("ordered", none), "ordered", "ordered", defArgs (top 81), defBody (top 81), defScope (top 81), [.non], []⟩
def d_numbered : He.DefD := ⟨("numbered", none), "numbered", "numbered", defArgs (top 84), defBody (top 84), defScope (top 84), [], []⟩
def d_need_sizes : He.DefD := ⟨("need_sizes", none), "need_sizes", "need_sizes", defArgs (top 86), defBody (top 86), defScope (top 86), [], []⟩
def d_web_of : He.DefD := ⟨("web_of", none), "web_of", "web_of", defArgs (top 87), defBody (top 87), defScope (top 87), [], []⟩
def d_in_order : He.DefD := ⟨("in_order", none), "in_order", "in_order", defArgs (top 88), defBody (top 88), defScope (top 88), [], []⟩
def d_held_pairs : He.DefD := ⟨("held_pairs", none), "held_pairs", "held_pairs", defArgs (top 89), defBody (top 89), defScope (top 89), [], []⟩
def d_do_box : He.DefD := ⟨("do_box", none), "do_box", "do_box", defArgs (top 90), defBody (top 90), defScope (top 90), [], []⟩
def d_do_drop : He.DefD := ⟨("do_drop", none), "do_drop", "do_drop", defArgs (top 91), defBody (top 91), defScope (top 91), [], []⟩
def d_do_arrow : He.DefD := ⟨("do_arrow", none), "do_arrow", "do_arrow", defArgs (top 92), defBody (top 92), defScope (top 92), [], []⟩
def d_do_cut : He.DefD := ⟨("do_cut", none), "do_cut", "do_cut", defArgs (top 93), defBody (top 93), defScope (top 93), [], []⟩
def d_do_alter : He.DefD := ⟨("do_alter", none), "do_alter", "do_alter", defArgs (top 94), defBody (top 94), defScope (top 94), [], []⟩
def d_do_say : He.DefD := ⟨("do_say", none), "do_say", "do_say", defArgs (top 95), defBody (top 95), defScope (top 95), [], []⟩
def d_do_unsay : He.DefD := ⟨("do_unsay", none), "do_unsay", "do_unsay", defArgs (top 96), defBody (top 96), defScope (top 96), [], []⟩
def d_do_hold : He.DefD := ⟨("do_hold", none), "do_hold", "do_hold", defArgs (top 97), defBody (top 97), defScope (top 97), [], []⟩
def d_do_free : He.DefD := ⟨("do_free", none), "do_free", "do_free", defArgs (top 98), defBody (top 98), defScope (top 98), [], []⟩
def d_law_alike : He.DefD := ⟨("_law_alike", none), "_law_alike", "_law_alike", defArgs (top 102), defBody (top 102), defScope (top 102), [], []⟩
def d_law_bag : He.DefD := ⟨("_law_bag", none), "_law_bag", "_law_bag", defArgs (top 103), defBody (top 103), defScope (top 103), [], []⟩
def d_law_crammed : He.DefD := ⟨("_law_crammed", none), "_law_crammed", "_law_crammed", defArgs (top 104), defBody (top 104), defScope (top 104), [], []⟩
def d_law_do : He.DefD := ⟨("_law_do", none), "_law_do", "_law_do", defArgs (top 105), defBody (top 105), defScope (top 105), [], []⟩
def d_law_kin : He.DefD := ⟨("_law_kin", none), "_law_kin", "_law_kin", defArgs (top 106), defBody (top 106), defScope (top 106), [], []⟩
def d_law_names : He.DefD := ⟨("_law_names", none), "_law_names", "_law_names", defArgs (top 107), defBody (top 107), defScope (top 107), [], []⟩
def d_law_pull : He.DefD := ⟨("_law_pull", none), "_law_pull", "_law_pull", defArgs (top 108), defBody (top 108), defScope (top 108), [], []⟩
def d_law_whole : He.DefD := ⟨("_law_whole", none), "_law_whole", "_law_whole", defArgs (top 109), defBody (top 109), defScope (top 109), [], []⟩
def d_law : He.DefD := ⟨("law", none), "law", "law", defArgs (top 110), defBody (top 110), defScope (top 110), [], []⟩
def d_Board___init__ : He.DefD := ⟨("Board", some "__init__"), "__init__", "Board.__init__", defArgs (top 85 1), defBody (top 85 1), defScope (top 85 1), [], []⟩
def d_Board___eq__ : He.DefD := ⟨("Board", some "__eq__"), "__eq__", "Board.__eq__", defArgs (top 85 2), defBody (top 85 2), defScope (top 85 2), [], []⟩
def d_Board___len__ : He.DefD := ⟨("Board", some "__len__"), "__len__", "Board.__len__", defArgs (top 85 3), defBody (top 85 3), defScope (top 85 3), [], []⟩
def d_Board___str__ : He.DefD := ⟨("Board", some "__str__"), "__str__", "Board.__str__", defArgs (top 85 4), defBody (top 85 4), defScope (top 85 4), [], []⟩
def d_Board___repr__ : He.DefD := ⟨("Board", some "__repr__"), "__repr__", "Board.__repr__", defArgs (top 85 5), defBody (top 85 5), defScope (top 85 5), [], []⟩
def d_Board_keep : He.DefD := ⟨("Board", some "keep"), "keep", "Board.keep", defArgs (top 85 6), defBody (top 85 6), defScope (top 85 6), [], []⟩
def d_Board_need_boxes : He.DefD := ⟨("Board", some "need_boxes"), "need_boxes", "Board.need_boxes", defArgs (top 85 7), defBody (top 85 7), defScope (top 85 7), [], []⟩
def d_Board_box : He.DefD := ⟨("Board", some "box"), "box", "Board.box", defArgs (top 85 8), defBody (top 85 8), defScope (top 85 8), [], []⟩
def d_Board_drop : He.DefD := ⟨("Board", some "drop"), "drop", "Board.drop", defArgs (top 85 9), defBody (top 85 9), defScope (top 85 9), [], []⟩
def d_Board_arrow : He.DefD := ⟨("Board", some "arrow"), "arrow", "Board.arrow", defArgs (top 85 10), defBody (top 85 10), defScope (top 85 10), [.int 1, .int 1], []⟩
def d_Board_need_arrow : He.DefD := ⟨("Board", some "need_arrow"), "need_arrow", "Board.need_arrow", defArgs (top 85 11), defBody (top 85 11), defScope (top 85 11), [], []⟩
def d_Board_cut : He.DefD := ⟨("Board", some "cut"), "cut", "Board.cut", defArgs (top 85 12), defBody (top 85 12), defScope (top 85 12), [], []⟩
def d_Board_alter : He.DefD := ⟨("Board", some "alter"), "alter", "Board.alter", defArgs (top 85 13), defBody (top 85 13), defScope (top 85 13), [.int 1, .int 1], []⟩
def d_Board_say : He.DefD := ⟨("Board", some "say"), "say", "Board.say", defArgs (top 85 14), defBody (top 85 14), defScope (top 85 14), [.int 1], []⟩
def d_Board_unsay : He.DefD := ⟨("Board", some "unsay"), "unsay", "Board.unsay", defArgs (top 85 15), defBody (top 85 15), defScope (top 85 15), [], []⟩
def d_Board_hold : He.DefD := ⟨("Board", some "hold"), "hold", "Board.hold", defArgs (top 85 16), defBody (top 85 16), defScope (top 85 16), [], []⟩
def d_Board_free : He.DefD := ⟨("Board", some "free"), "free", "Board.free", defArgs (top 85 17), defBody (top 85 17), defScope (top 85 17), [], []⟩
def d_Board_do : He.DefD := ⟨("Board", some "do"), "do", "Board.do", defArgs (top 85 18), defBody (top 85 18), defScope (top 85 18), [], []⟩
def d_Board_undo : He.DefD := ⟨("Board", some "undo"), "undo", "Board.undo", defArgs (top 85 19), defBody (top 85 19), defScope (top 85 19), [], []⟩
def d_Board_redo : He.DefD := ⟨("Board", some "redo"), "redo", "Board.redo", defArgs (top 85 20), defBody (top 85 20), defScope (top 85 20), [], []⟩
def d_Board_deeds : He.DefD := ⟨("Board", some "deeds"), "deeds", "Board.deeds", defArgs (top 85 21), defBody (top 85 21), defScope (top 85 21), [], []⟩
def d_Board_twin : He.DefD := ⟨("Board", some "twin"), "twin", "Board.twin", defArgs (top 85 22), defBody (top 85 22), defScope (top 85 22), [], []⟩
def d_Board_web : He.DefD := ⟨("Board", some "web"), "web", "Board.web", defArgs (top 85 23), defBody (top 85 23), defScope (top 85 23), [], []⟩
def d_Board_numbers : He.DefD := ⟨("Board", some "numbers"), "numbers", "Board.numbers", defArgs (top 85 24), defBody (top 85 24), defScope (top 85 24), [], []⟩
def d_Board_held : He.DefD := ⟨("Board", some "held"), "held", "Board.held", defArgs (top 85 25), defBody (top 85 25), defScope (top 85 25), [], []⟩
def d_Board_layers : He.DefD := ⟨("Board", some "layers"), "layers", "Board.layers", defArgs (top 85 26), defBody (top 85 26), defScope (top 85 26), [], []⟩
def d_Board_spots : He.DefD := ⟨("Board", some "spots"), "spots", "Board.spots", defArgs (top 85 27), defBody (top 85 27), defScope (top 85 27), [], []⟩
def d_Board_rows : He.DefD := ⟨("Board", some "rows"), "rows", "Board.rows", defArgs (top 85 28), defBody (top 85 28), defScope (top 85 28), [], []⟩
def d_Board_crossings : He.DefD := ⟨("Board", some "crossings"), "crossings", "Board.crossings", defArgs (top 85 29), defBody (top 85 29), defScope (top 85 29), [], []⟩
def d_Board_turned : He.DefD := ⟨("Board", some "turned"), "turned", "Board.turned", defArgs (top 85 30), defBody (top 85 30), defScope (top 85 30), [], []⟩
def d_Board_moved : He.DefD := ⟨("Board", some "moved"), "moved", "Board.moved", defArgs (top 85 31), defBody (top 85 31), defScope (top 85 31), [], []⟩
def d_Board_draw : He.DefD := ⟨("Board", some "draw"), "draw", "Board.draw", defArgs (top 85 32), defBody (top 85 32), defScope (top 85 32), [], []⟩
def di_Clash : He.DefD := ⟨("Clash", some "__init__"), "__init__", "Clash.__init__", defArgs (methI (top 12)), defBody (methI (top 12)), defScope (methI (top 12)), [], []⟩
def fnsH : List He.DefD := [d_wall, d_is_name, d_is_least, d_is_weight, d_is_far, d_is_arrow, d_is_saying, d_is_web, d_need_web, d_box_item, d_chain_of, d_chains, d_rows, d_segments_by, d_spots_of, d_segments_below, d_added, d_up_to, d_counted, d_crossings, d_arrow_text, d_web_text, d_links_of, d_raised, d_ring_at, d_gain_ring, d_sent, d_best, d_way_to, d_parted, d_turned, d_ties_of, d_solved, d_lots, d_layers, d_neighbours, d_swept, d_swept_rows, d_ahead_of, d_turned_twos, d_gain, d_exchanged, d_ordered, d_numbered, d_need_sizes, d_web_of, d_in_order, d_held_pairs, d_do_box, d_do_drop, d_do_arrow, d_do_cut, d_do_alter, d_do_say, d_do_unsay, d_do_hold, d_do_free, d_law_alike, d_law_bag, d_law_crammed, d_law_do, d_law_kin, d_law_names, d_law_pull, d_law_whole, d_law, di_Clash, d_Board___init__, d_Board___eq__, d_Board___len__, d_Board___str__, d_Board___repr__, d_Board_keep, d_Board_need_boxes, d_Board_box, d_Board_drop, d_Board_arrow, d_Board_need_arrow, d_Board_cut, d_Board_alter, d_Board_say, d_Board_unsay, d_Board_hold, d_Board_free, d_Board_do, d_Board_undo, d_Board_redo, d_Board_deeds, d_Board_twin, d_Board_web, d_Board_numbers, d_Board_held, d_Board_layers, d_Board_spots, d_Board_rows, d_Board_crossings, d_Board_turned, d_Board_moved, d_Board_draw]
def factsH : List He.Fa := [.glo "_wall", .glo "is_name", .glo "is_least", .glo "is_weight", .glo "is_far", .glo "is_arrow", .glo "is_saying", .glo "is_web", .glo "need_web", .glo "box_item", .glo "chain_of", .glo "chains", .glo "rows", .glo "segments_by", .glo "spots_of", .glo "segments_below", .glo "added", .glo "up_to", .glo "counted", .glo "crossings", .glo "arrow_text", .glo "web_text", .glo "links_of", .glo "raised", .glo "ring_at", .glo "gain_ring", .glo "sent", .glo "best", .glo "way_to", .glo "parted", .glo "turned", .glo "ties_of", .glo "solved", .glo "lots", .glo "layers", .glo "neighbours", .glo "swept", .glo "swept_rows", .glo "ahead_of", .glo "turned_twos", .glo "gain", .glo "exchanged", .glo "ordered", .glo "numbered", .glo "need_sizes", .glo "web_of", .glo "in_order", .glo "held_pairs", .glo "do_box", .glo "do_drop", .glo "do_arrow", .glo "do_cut", .glo "do_alter", .glo "do_say", .glo "do_unsay", .glo "do_hold", .glo "do_free", .glo "_law_alike", .glo "_law_bag", .glo "_law_crammed", .glo "_law_do", .glo "_law_kin", .glo "_law_names", .glo "_law_pull", .glo "_law_whole", .glo "law", .free "LookupError", .free "ValueError", .free "abs", .free "all", .free "bool", .free "dict", .free "enumerate", .free "int", .free "isinstance", .free "len", .free "list", .free "max", .free "min", .free "range", .free "set", .free "sorted", .free "str", .free "sum", .free "tuple", .free "zip", .str "LETTERS" "abcdefghijklmnopqrstuvwxyz", .int "LONGEST" 6, .int "MOST_BOXES" 40, .int "MOST_ARROWS" 80, .int "MOST_SAYINGS" 20, .int "MOST_LEAST" 3, .int "MOST_WEIGHT" 9, .int "MOST_FAR" 9, .int "BACKWARD" (-1), .int "ROUNDS" 4, .int "FINE" 1000000, .glo "BadDeed", .glo "BadLeast", .glo "BadName", .glo "BadWeb", .glo "BadWeight", .glo "Clash", .glo "Full", .glo "InkError", .glo "Same", .glo "Taken", .glo "Tied", .exc "BadDeed", .exc "BadLeast", .exc "BadName", .exc "BadWeb", .exc "BadWeight", .exc "Full", .exc "Same", .exc "Taken", .exc "Tied", .glo "EMPTY", .glo "Missing", .glo "NoArrow", .glo "NoBox", .glo "NoSaying", .glo "do_arrow", .glo "do_box", .glo "do_say", .glo "Board", .cls "Board", .noat "Board" "now", .noat "Board" "past", .noat "Board" "later", .glo "DEEDS", .glo "THINGS", .mkr "Board", .meth "Board" "__eq__", .meth "Board" "__len__", .meth "Board" "__str__", .meth "Board" "__repr__", .meth "Board" "keep", .meth "Board" "need_boxes", .meth "Board" "box", .meth "Board" "drop", .meth "Board" "arrow", .meth "Board" "need_arrow", .meth "Board" "cut", .meth "Board" "alter", .meth "Board" "say", .meth "Board" "unsay", .meth "Board" "hold", .meth "Board" "free", .meth "Board" "do", .meth "Board" "undo", .meth "Board" "redo", .meth "Board" "deeds", .meth "Board" "twin", .meth "Board" "web", .meth "Board" "numbers", .meth "Board" "held", .meth "Board" "layers", .meth "Board" "spots", .meth "Board" "rows", .meth "Board" "crossings", .meth "Board" "turned", .meth "Board" "moved", .meth "Board" "draw"]
def tsH : List He.Tab := [(fun K => He.ga K "DEEDS", tb_DEEDS.map (·.1)), (fun K => He.ga K "THINGS", tb_THINGS.map (·.1))]
def tfH : List He.Defn := [("law", none), ("in_order", none)]
def exR : PySem.W.Frag → Bool := fun K => initB K "Clash" "InkError" "ring" && He.valsB K (He.ga K "DEEDS") tb_DEEDS && He.valsB K (He.ga K "THINGS") tb_THINGS
def exZ : PySem.W.Frag → Bool := fun K => (excLB K "NoArrow") && (excLB K "NoBox") && (excLB K "NoSaying") && (newB K "EMPTY") && (kinB K [("BadDeed" : Str), ("BadLeast" : Str), ("BadName" : Str), ("BadWeight" : Str), ("Full" : Str), ("Same" : Str), ("Taken" : Str), ("Tied" : Str), ("NoArrow" : Str), ("NoBox" : Str), ("NoSaying" : Str)] [("BadName" : Str), ("Taken" : Str), ("Full" : Str), ("NoSaying" : Str), ("Tied" : Str), ("BadLeast" : Str), ("BadWeight" : Str), ("Same" : Str), ("BadDeed" : Str), ("Clash" : Str), ("NoBox" : Str), ("NoArrow" : Str)] kinR "InkError" "Missing")
def exH : PySem.W.Frag → Bool := fun K => lamB K tfH && (exR K && exZ K)
abbrev RH : PySem.W.OpenRow := PySem.W.OpenLaw.row PySem.Challenge.rw_layerink_k30_boards_filled
def asH : List Addr := PySem.cStatics :: 3 :: 6 :: 4 :: 21 :: 31 :: 44 :: 56 :: 68 :: 80 :: 92 :: 104 :: 116 :: 128 :: 140 :: 159 :: 171 :: 184 :: 196 :: 208 :: 215 :: 222 :: 229 :: 236 :: 243 :: 250 :: 255 :: 262 :: 269 :: 274 :: 279 :: 284 :: 291 :: 298 :: 303 :: 310 :: 317 :: 322 :: 327 :: 334 :: 339 :: 346 :: 353 :: 360 :: 367 :: 372 :: 377 :: 384 :: 391 :: 398 :: 405 :: 412 :: 417 :: 422 :: 429 :: 434 :: 439 :: 444 :: 449 :: 456 :: 461 :: 467 :: 471 :: 476 :: 699 :: 710 :: 715 :: 720 :: 725 :: 732 :: 739 :: 746 :: 753 :: 760 :: 767 :: 774 :: 781 :: 788 :: 789 :: 790 :: 795 :: 800 :: 807 :: 814 :: 819 :: 826 :: 833 :: 840 :: 845 :: 0 :: 20 :: 30 :: 43 :: 55 :: 67 :: 79 :: 91 :: 103 :: 115 :: 127 :: 139 :: 158 :: 170 :: 183 :: 195 :: 207 :: 214 :: 221 :: 228 :: 235 :: 242 :: 249 :: 254 :: 261 :: 268 :: 273 :: 278 :: 283 :: 290 :: 297 :: 302 :: 309 :: 316 :: 321 :: 326 :: 333 :: 338 :: 345 :: 352 :: 359 :: 366 :: 371 :: 376 :: 383 :: 390 :: 397 :: 404 :: 411 :: 416 :: 421 :: 428 :: 433 :: 438 :: 443 :: 448 :: 455 :: 460 :: 466 :: 462 :: 468 :: 469 :: 470 :: 475 :: 698 :: 709 :: 714 :: 719 :: 724 :: 731 :: 738 :: 745 :: 752 :: 759 :: 766 :: 773 :: 780 :: 787 :: 794 :: 799 :: 806 :: 813 :: 818 :: 825 :: 832 :: 839 :: 844 :: 15 :: 16 :: 17 :: 18 :: 19 :: 29 :: 32 :: 42 :: 54 :: 66 :: 78 :: 90 :: 102 :: 114 :: 126 :: 138 :: 156 :: 157 :: 169 :: 172 :: 182 :: 194 :: 206 :: 211 :: 212 :: 213 :: 216 :: 217 :: 218 :: 219 :: 220 :: 223 :: 224 :: 225 :: 226 :: 227 :: 230 :: 231 :: 232 :: 233 :: 234 :: 237 :: 238 :: 239 :: 240 :: 241 :: 244 :: 245 :: 246 :: 247 :: 248 :: 251 :: 252 :: 253 :: 256 :: 257 :: 258 :: 259 :: 260 :: 263 :: 264 :: 265 :: 266 :: 267 :: 270 :: 271 :: 272 :: 275 :: 276 :: 277 :: 280 :: 281 :: 282 :: 285 :: 286 :: 287 :: 288 :: 289 :: 292 :: 293 :: 294 :: 295 :: 296 :: 299 :: 300 :: 301 :: 304 :: 305 :: 306 :: 307 :: 308 :: 311 :: 312 :: 313 :: 314 :: 315 :: 318 :: 319 :: 320 :: 323 :: 324 :: 325 :: 328 :: 329 :: 330 :: 331 :: 332 :: 335 :: 336 :: 337 :: 340 :: 341 :: 342 :: 343 :: 344 :: 347 :: 348 :: 349 :: 350 :: 351 :: 354 :: 355 :: 356 :: 357 :: 358 :: 361 :: 362 :: 363 :: 364 :: 365 :: 368 :: 369 :: 370 :: 373 :: 374 :: 375 :: 378 :: 379 :: 380 :: 381 :: 382 :: 385 :: 386 :: 387 :: 388 :: 389 :: 392 :: 393 :: 394 :: 395 :: 396 :: 399 :: 400 :: 401 :: 402 :: 403 :: 406 :: 407 :: 408 :: 409 :: 410 :: 413 :: 414 :: 415 :: 418 :: 419 :: 420 :: 423 :: 424 :: 425 :: 426 :: 427 :: 430 :: 431 :: 432 :: 435 :: 436 :: 437 :: 440 :: 441 :: 442 :: 445 :: 446 :: 447 :: 450 :: 451 :: 452 :: 453 :: 454 :: 457 :: 458 :: 459 :: 463 :: 464 :: 465 :: 472 :: 473 :: 474 :: 490 :: 497 :: 504 :: 511 :: 518 :: 525 :: 532 :: 539 :: 544 :: 552 :: 559 :: 566 :: 574 :: 582 :: 589 :: 594 :: 601 :: 608 :: 615 :: 622 :: 627 :: 634 :: 641 :: 646 :: 651 :: 658 :: 665 :: 670 :: 677 :: 682 :: 689 :: 696 :: 697 :: 700 :: 701 :: 704 :: 705 :: 706 :: 707 :: 708 :: 711 :: 712 :: 713 :: 716 :: 717 :: 718 :: 721 :: 722 :: 723 :: 726 :: 727 :: 728 :: 729 :: 730 :: 733 :: 734 :: 735 :: 736 :: 737 :: 740 :: 741 :: 742 :: 743 :: 744 :: 747 :: 748 :: 749 :: 750 :: 751 :: 754 :: 755 :: 756 :: 757 :: 758 :: 761 :: 762 :: 763 :: 764 :: 765 :: 768 :: 769 :: 770 :: 771 :: 772 :: 775 :: 776 :: 777 :: 778 :: 779 :: 782 :: 783 :: 784 :: 785 :: 786 :: 791 :: 792 :: 793 :: 796 :: 797 :: 798 :: 801 :: 802 :: 803 :: 804 :: 805 :: 808 :: 809 :: 810 :: 811 :: 812 :: 815 :: 816 :: 817 :: 820 :: 821 :: 822 :: 823 :: 824 :: 827 :: 828 :: 829 :: 830 :: 831 :: 834 :: 835 :: 836 :: 837 :: 838 :: 841 :: 842 :: 843 :: 155 :: 489 :: 496 :: 503 :: 510 :: 517 :: 524 :: 531 :: 538 :: 543 :: 551 :: 545 :: 558 :: 565 :: 573 :: 567 :: 581 :: 575 :: 588 :: 593 :: 600 :: 607 :: 614 :: 621 :: 626 :: 633 :: 640 :: 645 :: 650 :: 657 :: 664 :: 669 :: 676 :: 681 :: 688 :: 695 :: 150 :: 151 :: 152 :: 153 :: 154 :: 484 :: 485 :: 486 :: 487 :: 488 :: 491 :: 492 :: 493 :: 494 :: 495 :: 498 :: 499 :: 500 :: 501 :: 502 :: 505 :: 506 :: 507 :: 508 :: 509 :: 512 :: 513 :: 514 :: 515 :: 516 :: 519 :: 520 :: 521 :: 522 :: 523 :: 526 :: 527 :: 528 :: 529 :: 530 :: 533 :: 534 :: 535 :: 536 :: 537 :: 540 :: 541 :: 542 :: 546 :: 547 :: 548 :: 549 :: 550 :: 553 :: 554 :: 555 :: 556 :: 557 :: 560 :: 561 :: 562 :: 563 :: 564 :: 568 :: 569 :: 570 :: 571 :: 572 :: 576 :: 577 :: 578 :: 579 :: 580 :: 583 :: 584 :: 585 :: 586 :: 587 :: 590 :: 591 :: 592 :: 595 :: 596 :: 597 :: 598 :: 599 :: 602 :: 603 :: 604 :: 605 :: 606 :: 609 :: 610 :: 611 :: 612 :: 613 :: 616 :: 617 :: 618 :: 619 :: 620 :: 623 :: 624 :: 625 :: 628 :: 629 :: 630 :: 631 :: 632 :: 635 :: 636 :: 637 :: 638 :: 639 :: 642 :: 643 :: 644 :: 647 :: 648 :: 649 :: 652 :: 653 :: 654 :: 655 :: 656 :: 659 :: 660 :: 661 :: 662 :: 663 :: 666 :: 667 :: 668 :: 671 :: 672 :: 673 :: 674 :: 675 :: 678 :: 679 :: 680 :: 683 :: 684 :: 685 :: 686 :: 687 :: 690 :: 691 :: 692 :: 693 :: 694 :: []
abbrev hkH : PySem.W.Hook := Ink.hookL asH factsH fnsH tsH tfH exH
def obH (s : PySem.W.SharedT) : He.AlX := Ink.obsL asH factsH fnsH tsH tfH exH (HandSHeadRun.getT s)
theorem obH_eq (s : PySem.W.SharedT) : obH s = hkH.obs s.abs := Ink.obsL_eq (HandSHeadRun.getT_eq s)
def looseH : List PySem.Str := "_wall" :: "InkError" :: "BadWeb" :: "BadName" :: "Taken" :: "Full" :: "Tied" :: "BadLeast" :: "BadWeight" :: "Same" :: "BadDeed" :: "Clash" :: "Missing" :: "NoBox" :: "NoArrow" :: "NoSaying" :: "LETTERS" :: "LONGEST" :: "MOST_BOXES" :: "MOST_ARROWS" :: "MOST_SAYINGS" :: "MOST_LEAST" :: "MOST_WEIGHT" :: "MOST_FAR" :: "is_name" :: "is_least" :: "is_weight" :: "is_far" :: "is_arrow" :: "is_saying" :: "is_web" :: "need_web" :: "box_item" :: "chain_of" :: "chains" :: "rows" :: "rows_chains" :: "segments_by" :: "spots_of" :: "segments_below" :: "added" :: "up_to" :: "counted" :: "crossings" :: "crossings_crossings" :: "arrow_text" :: "web_text" :: "BACKWARD" :: "links_of" :: "raised" :: "ring_at" :: "gain_ring" :: "sent" :: "best" :: "way_to" :: "parted" :: "turned" :: "turned_rings" :: "ties_of" :: "solved" :: "lots" :: "layers" :: "layers_layers" :: "ROUNDS" :: "FINE" :: "neighbours" :: "swept" :: "swept_rows" :: "ahead_of" :: "turned_twos" :: "gain" :: "exchanged" :: "ordered" :: "EMPTY" :: "numbered" :: "Board" :: "need_sizes" :: "web_of" :: "in_order" :: "held_pairs" :: "do_box" :: "do_drop" :: "do_arrow" :: "do_cut" :: "do_alter" :: "do_say" :: "do_unsay" :: "do_hold" :: "do_free" :: "DEEDS" :: "THINGS" :: "_law_alike" :: "_law_bag" :: "_law_crammed" :: "_law_do" :: "_law_kin" :: "_law_names" :: "_law_pull" :: "_law_whole" :: []
open PySem.W HandSHeadRun in
theorem runA0 (w : World) : (fun w : World => ∀ os : OsState, (endF (stepQ (denQ tabQ) RH.prog w) 9000 RH.prog w os).map (fun s => looksF RH.prog (boot_heap w.params) s.abs) = some true) (w.withFollow "special-get-raises" false) := by
  intro os
  kernel_rfl
open PySem.W HandSHeadRun in
theorem runA1 (w : World) : (fun w : World => ∀ os : OsState, (endF (stepQ (denQ tabQ) RH.prog w) 9000 RH.prog w os).map (fun s => looksF RH.prog (boot_heap w.params) s.abs) = some true) (w.withFollow "special-get-raises" true) := by
  intro os
  kernel_rfl
open PySem.W HandSHeadRun in
theorem runA (w : World) : ∀ os : OsState, (endF (stepQ (denQ tabQ) RH.prog w) 9000 RH.prog w os).map (fun s => looksF RH.prog (boot_heap w.params) s.abs) = some true :=
  PySem.W.byRow2 "special-get-raises" (P := fun w => ∀ os : OsState, (endF (stepQ (denQ tabQ) RH.prog w) 9000 RH.prog w os).map (fun s => looksF RH.prog (boot_heap w.params) s.abs) = some true) runA0 runA1 w
open PySem.W HandSHeadRun in
theorem runB0 (w : World) : (fun w : World => ∀ os : OsState, (endF (stepQ (denQ tabQ) RH.prog w) 9000 RH.prog w os).map (fun s => seenQ (view RH.prog [110]) looseH (importedModules RH.prog.main.body) (fun s => xlAt (view RH.prog [110]) [] s && recOk RH.toRowW.records s) s.abs) = some (openGood (view RH.prog [110]) looseH)) (w.withFollow "special-get-raises" false) := by
  intro os
  kernel_rfl
open PySem.W HandSHeadRun in
theorem runB1 (w : World) : (fun w : World => ∀ os : OsState, (endF (stepQ (denQ tabQ) RH.prog w) 9000 RH.prog w os).map (fun s => seenQ (view RH.prog [110]) looseH (importedModules RH.prog.main.body) (fun s => xlAt (view RH.prog [110]) [] s && recOk RH.toRowW.records s) s.abs) = some (openGood (view RH.prog [110]) looseH)) (w.withFollow "special-get-raises" true) := by
  intro os
  kernel_rfl
open PySem.W HandSHeadRun in
theorem runB (w : World) : ∀ os : OsState, (endF (stepQ (denQ tabQ) RH.prog w) 9000 RH.prog w os).map (fun s => seenQ (view RH.prog [110]) looseH (importedModules RH.prog.main.body) (fun s => xlAt (view RH.prog [110]) [] s && recOk RH.toRowW.records s) s.abs) = some (openGood (view RH.prog [110]) looseH) :=
  PySem.W.byRow2 "special-get-raises" (P := fun w => ∀ os : OsState, (endF (stepQ (denQ tabQ) RH.prog w) 9000 RH.prog w os).map (fun s => seenQ (view RH.prog [110]) looseH (importedModules RH.prog.main.body) (fun s => xlAt (view RH.prog [110]) [] s && recOk RH.toRowW.records s) s.abs) = some (openGood (view RH.prog [110]) looseH)) runB0 runB1 w
open PySem.W HandSHeadRun in
theorem runC0 (w : World) : (fun w : World => ∀ os : OsState, (endF (stepQ (denQ tabQ) RH.prog w) 9000 RH.prog w os).map obH = some (hkH.val w)) (w.withFollow "special-get-raises" false) := by
  intro os
  kernel_rfl
open PySem.W HandSHeadRun in
theorem runC1 (w : World) : (fun w : World => ∀ os : OsState, (endF (stepQ (denQ tabQ) RH.prog w) 9000 RH.prog w os).map obH = some (hkH.val w)) (w.withFollow "special-get-raises" true) := by
  intro os
  kernel_rfl
open PySem.W HandSHeadRun in
theorem runC (w : World) : ∀ os : OsState, (endF (stepQ (denQ tabQ) RH.prog w) 9000 RH.prog w os).map obH = some (hkH.val w) :=
  PySem.W.byRow2 "special-get-raises" (P := fun w => ∀ os : OsState, (endF (stepQ (denQ tabQ) RH.prog w) 9000 RH.prog w os).map obH = some (hkH.val w)) runC0 runC1 w
theorem runH (w : World) : HandSHeadRun.RunEq RH (PySem.W.view RH.prog [110]) hkH obH 9000 looseH w := fun os => Ink.map3 (runA w os) (runB w os) (runC w os)
theorem hwqL (h : (PySem.W.OpenLaw.row PySem.Challenge.rw_layerink_k30_boards_filled).wellSaid = true → (PySem.W.OpenLaw.row PySem.Challenge.rw_layerink_k30_boards_filled).Holds) : PySem.Challenge.rw_layerink_k30_boards_filled.Holds := by
  w_on; o_law
  exact h (by assumption)
open PySem.W HandSHeadRun in
theorem hwqA : opening RH.prog = plainProg RH.prog.main.scope.names := by kernel_rfl
open PySem.W HandSHeadRun in
theorem hwqB : ∀ s, fenceModules? RH.prog s = some s := fun s => by kernel_rfl
open PySem.W HandSHeadRun in
theorem hwqC : defOf (view RH.prog [110]) RH.name = some (topDef RH.prog 110, []) := by kernel_rfl
open PySem.W HandSHeadRun in
theorem hwqD : RH.prog.theDef RH.name = some ((topDef RH.prog 110).params, (topDef RH.prog 110).body, (topDef RH.prog 110).scope) := by kernel_rfl
open PySem.W HandSHeadRun in
theorem hwqE : kwWritten? (topDef RH.prog 110).params.kwonlyargs (topDef RH.prog 110).params.kw_defaults = some [] := by kernel_rfl
open PySem.W HandSHeadRun in
theorem hwqG : (chainsOk (view RH.prog [110]) && opensWell RH.prog && (frees RH.toRowW && RH.within.isEmpty)) = true := by decide +kernel
open PySem.W HandSHeadRun in
theorem hwqI : RH.prog.bare := ⟨rfl, rfl, rfl, rfl, rfl, by decide +kernel⟩
open PySem.W HandSHeadRun in
theorem hwqJ : RH.toRowW.promised := by w_witness2
end
end Lw
set_option Elab.async false
set_option linter.all false
set_option maxRecDepth 100000
namespace Ink
open PySem L2
/-- what is let out is taken: exceptions whose context is None -/
abbrev Takes (X : Cx) (W : WX) : Prop := L2N.Takes X W
theorem passAt {X : Cx} {W : WX} (t : Takes X W) (σ : L2.St) : PassesAt (L2N.CX X.prog X.w) X σ (WE W σ) := L2N.passAt t σ
theorem Takes.imp {X : Cx} {W W' : WX} (t : Takes X W) (h : ∀ c d σ H, W' c d σ H → W c d σ H) : Takes X W' := L2N.Takes.imp t h
theorem takesN0 {X : Cx} : Takes X (fun _ _ _ _ => False) := fun _ _ ⟨_, _, _, _, _, _, _, _, _, _, _, _, _, _, _, _, z⟩ => z.elim
/-- a lambda: its number, name, text, names, cells -/
structure LamD where
  ix : Nat
  q : Str
  ps : Arguments
  bd : Expr
  sc : Scope
  cl : List (Str × Addr)
/-- at p: the function object of the lambda l, its code at c -/
def LamO (p c : Addr) (l : LamD) : HO := .ext fun h => ∃ pm ctv : Value, h.get? p = some (PySem.W.kla_obj "<lambda>" l.q l.ps l.bd l.sc l.cl pm c ctv)
/-- at p: a dict whose keys, at us, are tuples of tuples and the like -/
def NstO (p : Addr) (us : List Addr) (ks : List NestedKey) : HO := .ext fun h => (p == sysModules) = false ∧ ∃ (rows : List (NestedKey × Addr × Value)) (o : Obj) (es : Array DictEntry) (ep : Nat), rows.map (·.1) = ks ∧ rows.map (·.2.1) = us ∧ h.get? p = some o ∧ o.ExactDict ∧ o.data = .dict es ep ∧
  (∀ (P : Program) (w : World), es.toList = rows.map (entryOfKey (nestedKind P w))) ∧ ks.Nodup
/-- plain data, never changed -/
inductive D where
  | non | bl (b : Bool) | int (i : Int) | str (x : Str)
  | lst (xs : List D) | tup (xs : List D)
  | dK (kvs : List (Key × D)) | dT (kvs : List (List Key × D))
  /-- a list of ints that is locked (the script) -/
  | scr (ns : List Int)
  | ins (C : Str) (fs : List (Str × D))
  | lam (l : LamD)
  /-- dicts that are locked: looked at alone -/
  | dLK (kvs : List (Key × D)) | dLT (kvs : List (List Key × D))
  /-- a dict of nested keys, looked at by key alone -/
  | nst (ks : List NestedKey) (ds : List D)
  /-- the text's own empty tuple -/
  | emp
  /-- a caught exception, at its place -/
  | exc (C : Str) (a : Addr)
/-- a tree of things that are owned (may be changed), its leaves plain data -/
inductive M where
  | fz (d : D)
  | lst (ms : List M)
  | tup (ms : List M)
  | dK (kvs : List (Key × M)) | dT (kvs : List (List Key × M))
  | ins (C : Str) (fs : List (Str × M))
abbrev E := List (Option M)
abbrev Sub (F F' : Hp) : Prop := ∀ b o, F b = some o → F' b = some o
theorem Sub.refl (F : Hp) : Sub F F := fun _ _ h => h
theorem Sub.trans {F F1 F2 : Hp} (a : Sub F F1) (b : Sub F1 F2) : Sub F F2 := fun c o h => b c o (a c o h)
theorem Sub.rd {F F' : Hp} {p : Addr} {u : HO} (e : Sub F F') (h : Rd F p u) : Rd F' p u := by
  rcases h with h | ⟨o, h⟩
  · exact .inl (e _ _ h)
  · exact .inr ⟨o, e _ _ h⟩
theorem Sub.sql {K : PySem.W.Frag} {F F' : Hp} {p : Addr} {xs : List V} (e : Sub F F') (h : SqL K F p xs) : SqL K F' p xs := by
  rcases h with h | h
  · exact .inl (e.rd h)
  · exact .inr h
theorem Sub.sqt {K : PySem.W.Frag} {F F' : Hp} {p : Addr} {xs : List V} (e : Sub F F') (h : SqT K F p xs) : SqT K F' p xs := by
  rcases h with h | h
  · exact .inl (e.rd h)
  · exact .inr h
/-- a tuple's data that is no key of a dict -/
def kfree (ds : List D) : Bool := ds.any fun d => match d with
  | .non => true
  | _ => false
/-- at p: a tuple; one of the text's own constants is no key -/
def TupR (K : PySem.W.Frag) (F : Hp) (p : Addr) (vs : List V) (ds : List D) : Prop := F p = some (.tup vs) ∨ (SqT K F p vs ∧ kfree ds = true)
theorem TupR.sqt {K : PySem.W.Frag} {F H : Hp} {p : Addr} {vs : List V} {ds : List D} (h : TupR K F p vs ds) (s : Sub F H) : SqT K H p vs := by
  rcases h with h | h
  · exact SqT.of (s _ _ h)
  · exact s.sqt h.1
theorem TupR.mono {K : PySem.W.Frag} {F F' : Hp} {p : Addr} {vs : List V} {ds : List D} (h : TupR K F p vs ds) (s : Sub F F') : TupR K F' p vs ds := by
  rcases h with h | h
  · exact .inl (s _ _ h)
  · exact .inr ⟨s.sqt h.1, h.2⟩
mutual
inductive Rep (K : PySem.W.Frag) (F : Hp) : V → D → Prop
  | non : Rep K F .non .non
  | bl (b : Bool) : Rep K F (.bl b) (.bl b)
  | int (i : Int) : Rep K F (.int i) (.int i)
  | str (x : Str) : Rep K F (.str x) (.str x)
  | lst {p : Addr} {vs : List V} {ds : List D} : F p = some (.lst vs) → Reps K F vs ds → Rep K F (.ref p) (.lst ds)
  | tupR {p : Addr} {vs : List V} {ds : List D} : TupR K F p vs ds → Reps K F vs ds → Rep K F (.ref p) (.tup ds)
  | dK {p : Addr} {kvs : List (Key × V)} {ds : List (Key × D)} : F p = some (.dK kvs) → kvs.map (·.1) = ds.map (·.1) → Reps K F (kvs.map (·.2)) (ds.map (·.2)) → Rep K F (.ref p) (.dK ds)
  | dT {p : Addr} {kvs : List (List Key × V)} {ds : List (List Key × D)} : F p = some (.dT kvs) → kvs.map (·.1) = ds.map (·.1) → Reps K F (kvs.map (·.2)) (ds.map (·.2)) → Rep K F (.ref p) (.dT ds)
  | scr {p : Addr} {ns : List Int} : SqL K F p (ns.map V.int) → Rep K F (.ref p) (.scr ns)
  | ins {p : Addr} {C : Str} {dx : Addr} {fs : List (Str × V)} {ds : List (Str × D)} : F p = some (.ins (He.ga K C) dx fs) → fs.map (·.1) = ds.map (·.1) → Reps K F (fs.map (·.2)) (ds.map (·.2)) → Rep K F (.ref p) (.ins C ds)
  | lam {p c : Addr} {l : LamD} : F p = some (LamO p c l) → F c = some (LamX.CodeO c l.q) → Rep K F (.ref p) (.lam l)
  | dLK {p : Addr} {o : Obj} {kvs : List (Key × V)} {ds : List (Key × D)} : F p = some (.frz o (.dK kvs)) → kvs.map (·.1) = ds.map (·.1) → Reps K F (kvs.map (·.2)) (ds.map (·.2)) → Rep K F (.ref p) (.dLK ds)
  | dLT {p : Addr} {o : Obj} {kvs : List (List Key × V)} {ds : List (List Key × D)} : F p = some (.frz o (.dT kvs)) → kvs.map (·.1) = ds.map (·.1) → Reps K F (kvs.map (·.2)) (ds.map (·.2)) → Rep K F (.ref p) (.dLT ds)
  | nst {p : Addr} {us : List Addr} {vs : List V} {ks : List NestedKey} {ds : List D} : F p = some (NstO p us ks) → vs = us.map V.ref → Reps K F vs ds → Rep K F (.ref p) (.nst ks ds)
  | emp {p : Addr} : SqT K F p [] → Rep K F (.ref p) .emp
  | exc {C : Str} {a : Addr} : Rep K F (.ref a) (.exc C a)
inductive Reps (K : PySem.W.Frag) (F : Hp) : List V → List D → Prop
  | nil : Reps K F [] []
  | cons {v : V} {vs : List V} {d : D} {ds : List D} : Rep K F v d → Reps K F vs ds → Reps K F (v :: vs) (d :: ds)
end
theorem Rep.tup {K : PySem.W.Frag} {F : Hp} {p : Addr} {vs : List V} {ds : List D} (a : F p = some (.tup vs)) (b : Reps K F vs ds) : Rep K F (.ref p) (.tup ds) := .tupR (.inl a) b
theorem Rep.mono {K : PySem.W.Frag} {F F' : Hp} (e : Sub F F') {v : V} {d : D} (h : Rep K F v d) : Rep K F' v d :=
  Rep.rec (K := K) (F := F) (motive_1 := fun v d _ => Rep K F' v d) (motive_2 := fun vs ds _ => Reps K F' vs ds)
    .non .bl .int .str (fun a _ q => .lst (e _ _ a) q) (fun a _ q => .tupR (a.mono e) q) (fun a b _ q => .dK (e _ _ a) b q) (fun a b _ q => .dT (e _ _ a) b q) (fun a => .scr (e.sql a)) (fun a b _ q => .ins (e _ _ a) b q) (fun a b => .lam (e _ _ a) (e _ _ b)) (fun a b _ q => .dLK (e _ _ a) b q) (fun a b _ q => .dLT (e _ _ a) b q) (fun a b _ q => .nst (e _ _ a) b q) (fun a => .emp (e.sqt a)) .exc .nil (fun _ _ a b => .cons a b) h
theorem Reps.mono {K : PySem.W.Frag} {F F' : Hp} (e : Sub F F') {vs : List V} {ds : List D} (h : Reps K F vs ds) : Reps K F' vs ds := by
  induction ds generalizing vs with
  | nil => cases h; exact .nil
  | cons d ds ih => cases h with | cons a b => exact .cons (a.mono e) (ih b)
theorem Reps.length {K : PySem.W.Frag} {F : Hp} {vs : List V} {ds : List D} (h : Reps K F vs ds) : vs.length = ds.length := by
  induction ds generalizing vs with
  | nil => cases h; rfl
  | cons d ds ih => cases h with | cons a b => simp [ih b]
theorem Reps.get {K : PySem.W.Frag} {F : Hp} {vs : List V} {ds : List D} (h : Reps K F vs ds) {i : Nat} {d : D} (e : ds[i]? = some d) : ∃ v, vs[i]? = some v ∧ Rep K F v d := by
  induction ds generalizing vs i with
  | nil => simp at e
  | cons x ds ih =>
    cases h with
    | cons a b =>
      cases i with
      | zero => simp at e; subst e; exact ⟨_, rfl, a⟩
      | succ i => simp at e; obtain ⟨v, h1, h2⟩ := ih b e; exact ⟨v, by simpa using h1, h2⟩
theorem Reps.append {K : PySem.W.Frag} {F : Hp} {vs ws : List V} {ds es : List D} (h : Reps K F vs ds) (h2 : Reps K F ws es) : Reps K F (vs ++ ws) (ds ++ es) := by
  induction ds generalizing vs with
  | nil => cases h; exact h2
  | cons d ds ih => cases h with | cons a b => exact .cons a (ih b)
theorem Reps.take {K : PySem.W.Frag} {F : Hp} {vs : List V} {ds : List D} (h : Reps K F vs ds) (n : Nat) : Reps K F (vs.take n) (ds.take n) := by
  induction ds generalizing vs n with
  | nil => cases h; simp; exact .nil
  | cons d ds ih => cases h with | cons a b => cases n with
    | zero => simp; exact .nil
    | succ n => simp; exact .cons a (ih b n)
theorem Reps.drop {K : PySem.W.Frag} {F : Hp} {vs : List V} {ds : List D} (h : Reps K F vs ds) (n : Nat) : Reps K F (vs.drop n) (ds.drop n) := by
  induction ds generalizing vs n with
  | nil => cases h; simp; exact .nil
  | cons d ds ih => cases h with | cons a b => cases n with
    | zero => simp; exact .cons a b
    | succ n => simp; exact ih b n
theorem Reps.reverse {K : PySem.W.Frag} {F : Hp} {vs : List V} {ds : List D} (h : Reps K F vs ds) : Reps K F vs.reverse ds.reverse := by
  induction ds generalizing vs with
  | nil => cases h; exact .nil
  | cons d ds ih => cases h with | cons a b => rw [List.reverse_cons, List.reverse_cons]; exact (ih b).append (.cons a .nil)
theorem Reps.of {K : PySem.W.Frag} {F : Hp} : ∀ {vs : List V} {ds : List D}, vs.length = ds.length → (∀ (i : Nat) v d, vs[i]? = some v → ds[i]? = some d → Rep K F v d) → Reps K F vs ds
  | [], [], _, _ => .nil
  | [], _ :: _, e, _ => by simp at e
  | _ :: _, [], e, _ => by simp at e
  | v :: vs, d :: ds, e, h => .cons (h 0 v d rfl rfl) (Reps.of (by simpa using e) fun i v d a b => h (i + 1) v d (by simpa using a) (by simpa using b))
mutual
inductive RepM (K : PySem.W.Frag) (F H : Hp) : M → V → List Addr → Prop
  | fz {d : D} {v : V} : Rep K F v d → RepM K F H (.fz d) v []
  | lst {p : Addr} {vs : List V} {ms : List M} {fp : List Addr} : H p = some (.lst vs) → F p = none → RepMs K F H ms vs fp → p ∉ fp → RepM K F H (.lst ms) (.ref p) (p :: fp)
  | tup {p : Addr} {vs : List V} {ms : List M} {fp : List Addr} : F p = some (.tup vs) → RepMs K F H ms vs fp → RepM K F H (.tup ms) (.ref p) fp
  | dK {p : Addr} {kvs : List (Key × V)} {ms : List (Key × M)} {fp : List Addr} : H p = some (.dK kvs) → F p = none → kvs.map (·.1) = ms.map (·.1) → RepMs K F H (ms.map (·.2)) (kvs.map (·.2)) fp → p ∉ fp → RepM K F H (.dK ms) (.ref p) (p :: fp)
  | dT {p : Addr} {kvs : List (List Key × V)} {ms : List (List Key × M)} {fp : List Addr} : H p = some (.dT kvs) → F p = none → kvs.map (·.1) = ms.map (·.1) → RepMs K F H (ms.map (·.2)) (kvs.map (·.2)) fp → p ∉ fp → RepM K F H (.dT ms) (.ref p) (p :: fp)
  | ins {p : Addr} {C : Str} {dx : Addr} {fs : List (Str × V)} {ms : List (Str × M)} {fp : List Addr} : H p = some (.ins (He.ga K C) dx fs) → F p = none → fs.map (·.1) = ms.map (·.1) → RepMs K F H (ms.map (·.2)) (fs.map (·.2)) fp → p ∉ fp → RepM K F H (.ins C ms) (.ref p) (p :: fp)
inductive RepMs (K : PySem.W.Frag) (F H : Hp) : List M → List V → List Addr → Prop
  | nil : RepMs K F H [] [] []
  | cons {m : M} {v : V} {ms : List M} {vs : List V} {fp fq : List Addr} : RepM K F H m v fp → RepMs K F H ms vs fq → (∀ b ∈ fp, b ∉ fq) → RepMs K F H (m :: ms) (v :: vs) (fp ++ fq)
end
theorem RepM.frame {K : PySem.W.Frag} {F H F' H' : Hp} {m : M} {v : V} {fp : List Addr} (h : RepM K F H m v fp) (e : Sub F F') (hH : ∀ b ∈ fp, H' b = H b) (hN : ∀ b ∈ fp, F' b = none) : RepM K F' H' m v fp := by
  refine RepM.rec (K := K) (F := F) (H := H) (motive_1 := fun m v fp _ => (∀ b ∈ fp, H' b = H b) → (∀ b ∈ fp, F' b = none) → RepM K F' H' m v fp) (motive_2 := fun ms vs fp _ => (∀ b ∈ fp, H' b = H b) → (∀ b ∈ fp, F' b = none) → RepMs K F' H' ms vs fp)
    ?_ ?_ ?_ ?_ ?_ ?_ ?_ ?_ h hH hN
  · exact fun r _ _ => .fz (r.mono e)
  · exact fun a b _ n ih hH hN => .lst (by rw [hH _ (List.mem_cons_self ..)]; exact a) (hN _ (List.mem_cons_self ..)) (ih (fun b hb => hH b (List.mem_cons_of_mem _ hb)) fun b hb => hN b (List.mem_cons_of_mem _ hb)) n
  · exact fun a _ ih hH hN => .tup (e _ _ a) (ih hH hN)
  · exact fun a b c _ n ih hH hN => .dK (by rw [hH _ (List.mem_cons_self ..)]; exact a) (hN _ (List.mem_cons_self ..)) c (ih (fun b hb => hH b (List.mem_cons_of_mem _ hb)) fun b hb => hN b (List.mem_cons_of_mem _ hb)) n
  · exact fun a b c _ n ih hH hN => .dT (by rw [hH _ (List.mem_cons_self ..)]; exact a) (hN _ (List.mem_cons_self ..)) c (ih (fun b hb => hH b (List.mem_cons_of_mem _ hb)) fun b hb => hN b (List.mem_cons_of_mem _ hb)) n
  · exact fun a b c _ n ih hH hN => .ins (by rw [hH _ (List.mem_cons_self ..)]; exact a) (hN _ (List.mem_cons_self ..)) c (ih (fun b hb => hH b (List.mem_cons_of_mem _ hb)) fun b hb => hN b (List.mem_cons_of_mem _ hb)) n
  · exact fun _ _ => .nil
  · exact fun _ _ dj i1 i2 hH hN => .cons (i1 (fun b hb => hH b (List.mem_append_left _ hb)) fun b hb => hN b (List.mem_append_left _ hb)) (i2 (fun b hb => hH b (List.mem_append_right _ hb)) fun b hb => hN b (List.mem_append_right _ hb)) dj
theorem RepMs.frame {K : PySem.W.Frag} {F H F' H' : Hp} {ms : List M} {vs : List V} {fp : List Addr} (h : RepMs K F H ms vs fp) (e : Sub F F') (hH : ∀ b ∈ fp, H' b = H b) (hN : ∀ b ∈ fp, F' b = none) : RepMs K F' H' ms vs fp := by
  induction ms generalizing vs fp with
  | nil => cases h; exact .nil
  | cons m ms ih => cases h with | cons a b dj =>
    exact .cons (a.frame e (fun b hb => hH b (List.mem_append_left _ hb)) fun b hb => hN b (List.mem_append_left _ hb)) (ih b (fun b hb => hH b (List.mem_append_right _ hb)) fun b hb => hN b (List.mem_append_right _ hb)) dj
theorem RepM.live {K : PySem.W.Frag} {F H : Hp} {m : M} {v : V} {fp : List Addr} (h : RepM K F H m v fp) : ∀ b ∈ fp, (∃ o, H b = some o) ∧ F b = none := by
  refine RepM.rec (K := K) (F := F) (H := H) (motive_1 := fun m v fp _ => ∀ b ∈ fp, (∃ o, H b = some o) ∧ F b = none) (motive_2 := fun ms vs fp _ => ∀ b ∈ fp, (∃ o, H b = some o) ∧ F b = none)
    ?_ ?_ ?_ ?_ ?_ ?_ ?_ ?_ h
  · exact fun _ b hb => by cases hb
  · exact fun a f _ n ih b hb => by
      rcases List.mem_cons.mp hb with rfl | hb
      · exact ⟨⟨_, a⟩, f⟩
      · exact ih b hb
  · exact fun a _ ih b hb => ih b hb
  · exact fun a f _ _ n ih b hb => by
      rcases List.mem_cons.mp hb with rfl | hb
      · exact ⟨⟨_, a⟩, f⟩
      · exact ih b hb
  · exact fun a f _ _ n ih b hb => by
      rcases List.mem_cons.mp hb with rfl | hb
      · exact ⟨⟨_, a⟩, f⟩
      · exact ih b hb
  · exact fun a f _ _ n ih b hb => by
      rcases List.mem_cons.mp hb with rfl | hb
      · exact ⟨⟨_, a⟩, f⟩
      · exact ih b hb
  · exact fun b hb => by cases hb
  · exact fun _ _ dj i1 i2 b hb => by
      rcases List.mem_append.mp hb with hb | hb
      · exact i1 b hb
      · exact i2 b hb
theorem RepMs.live {K : PySem.W.Frag} {F H : Hp} {ms : List M} {vs : List V} {fp : List Addr} (h : RepMs K F H ms vs fp) : ∀ b ∈ fp, (∃ o, H b = some o) ∧ F b = none := by
  induction ms generalizing vs fp with
  | nil => cases h; intro b hb; cases hb
  | cons m ms ih => cases h with | cons a b dj =>
    intro b hb
    rcases List.mem_append.mp hb with hb | hb
    · exact a.live b hb
    · exact ih (by assumption) b hb
theorem RepMs.length {K : PySem.W.Frag} {F H : Hp} {ms : List M} {vs : List V} {fp : List Addr} (h : RepMs K F H ms vs fp) : vs.length = ms.length := by
  induction ms generalizing vs fp with
  | nil => cases h; rfl
  | cons m ms ih => cases h with | cons a b dj => simp [ih b]
def NT (o : HO) : Prop := ∀ ps, o ≠ .tbl ps
/-- the kinds of objects that are owned -/
def Kin (o : HO) : Prop := (∃ xs, o = .lst xs) ∨ (∃ kvs, o = .dK kvs) ∨ (∃ kvs, o = .dT kvs) ∨ ∃ C dx fs, o = .ins C dx fs
theorem Kin.nt {o : HO} (h : Kin o) : NT o := fun ps e => by
  rcases h with ⟨_, h⟩ | ⟨_, h⟩ | ⟨_, h⟩ | ⟨_, _, _, h⟩ <;> rw [h] at e <;> cases e
theorem Kin.ntp {o : HO} (h : Kin o) : ∀ vs, o ≠ .tup vs := fun ps e => by
  rcases h with ⟨_, h⟩ | ⟨_, h⟩ | ⟨_, h⟩ | ⟨_, _, _, h⟩ <;> rw [h] at e <;> cases e
theorem Kin.nc {o : HO} (h : Kin o) (c : Addr) (q : Str) : o ≠ LamX.CodeO c q := fun e => by
  unfold LamX.CodeO at e
  rcases h with ⟨_, h⟩ | ⟨_, h⟩ | ⟨_, h⟩ | ⟨_, _, _, h⟩ <;> rw [h] at e <;> cases e
theorem RepM.kin {K : PySem.W.Frag} {F H : Hp} {m : M} {v : V} {fp : List Addr} (h : RepM K F H m v fp) : ∀ b ∈ fp, ∃ o, H b = some o ∧ Kin o := by
  refine RepM.rec (K := K) (F := F) (H := H) (motive_1 := fun m v fp _ => ∀ b ∈ fp, ∃ o, H b = some o ∧ Kin o) (motive_2 := fun ms vs fp _ => ∀ b ∈ fp, ∃ o, H b = some o ∧ Kin o)
    ?_ ?_ ?_ ?_ ?_ ?_ ?_ ?_ h
  · exact fun _ b hb => by cases hb
  · exact fun a f _ n ih b hb => by
      rcases List.mem_cons.mp hb with rfl | hb
      · exact ⟨_, a, .inl ⟨_, rfl⟩⟩
      · exact ih b hb
  · exact fun a _ ih b hb => ih b hb
  · exact fun a f _ _ n ih b hb => by
      rcases List.mem_cons.mp hb with rfl | hb
      · exact ⟨_, a, .inr (.inl ⟨_, rfl⟩)⟩
      · exact ih b hb
  · exact fun a f _ _ n ih b hb => by
      rcases List.mem_cons.mp hb with rfl | hb
      · exact ⟨_, a, .inr (.inr (.inl ⟨_, rfl⟩))⟩
      · exact ih b hb
  · exact fun a f _ _ n ih b hb => by
      rcases List.mem_cons.mp hb with rfl | hb
      · exact ⟨_, a, .inr (.inr (.inr ⟨_, _, _, rfl⟩))⟩
      · exact ih b hb
  · exact fun b hb => by cases hb
  · exact fun _ _ dj i1 i2 b hb => by
      rcases List.mem_append.mp hb with hb | hb
      · exact i1 b hb
      · exact i2 b hb
theorem RepMs.kin {K : PySem.W.Frag} {F H : Hp} {ms : List M} {vs : List V} {fp : List Addr} (h : RepMs K F H ms vs fp) : ∀ b ∈ fp, ∃ o, H b = some o ∧ Kin o := by
  induction ms generalizing vs fp with
  | nil => cases h; intro b hb; cases hb
  | cons m ms ih => cases h with | cons a b dj =>
    intro b hb
    rcases List.mem_append.mp hb with hb | hb
    · exact a.kin b hb
    · exact ih (by assumption) b hb
theorem RepM.nt {K : PySem.W.Frag} {F H : Hp} {m : M} {v : V} {fp : List Addr} (h : RepM K F H m v fp) {b : Addr} {o : HO} (hb : b ∈ fp) (ho : H b = some o) : NT o := by
  obtain ⟨u, hu, k⟩ := h.kin b hb
  rw [ho] at hu; cases hu
  exact k.nt
theorem RepMs.nt {K : PySem.W.Frag} {F H : Hp} {m : List M} {v : List V} {fp : List Addr} (h : RepMs K F H m v fp) {b : Addr} {o : HO} (hb : b ∈ fp) (ho : H b = some o) : NT o := by
  obtain ⟨u, hu, k⟩ := h.kin b hb
  rw [ho] at hu; cases hu
  exact k.nt
mutual
def frz : M → Option D
  | .fz d => some d
  | .lst ms => match frzs ms with
    | some ds => some (.lst ds)
    | none => none
  | .tup ms => match frzs ms with
    | some ds => some (.tup ds)
    | none => none
  | .dK kvs => match frzK kvs with
    | some ds => some (.dK ds)
    | none => none
  | .dT kvs => match frzT kvs with
    | some ds => some (.dT ds)
    | none => none
  | .ins C fs => match frzF fs with
    | some ds => some (.ins C ds)
    | none => none
def frzs : List M → Option (List D)
  | [] => some []
  | m :: ms => match frz m with
    | some d => match frzs ms with
      | some ds => some (d :: ds)
      | none => none
    | none => none
def frzK : List (Key × M) → Option (List (Key × D))
  | [] => some []
  | (k, m) :: ms => match frz m with
    | some d => match frzK ms with
      | some ds => some ((k, d) :: ds)
      | none => none
    | none => none
def frzT : List (List Key × M) → Option (List (List Key × D))
  | [] => some []
  | (k, m) :: ms => match frz m with
    | some d => match frzT ms with
      | some ds => some ((k, d) :: ds)
      | none => none
    | none => none
def frzF : List (Str × M) → Option (List (Str × D))
  | [] => some []
  | (k, m) :: ms => match frz m with
    | some d => match frzF ms with
      | some ds => some ((k, d) :: ds)
      | none => none
    | none => none
end
theorem frzK_vals : ∀ {kvs : List (Key × M)} {ds : List (Key × D)}, frzK kvs = some ds → kvs.map (·.1) = ds.map (·.1) ∧ frzs (kvs.map (·.2)) = some (ds.map (·.2))
  | [], ds, h => by rw [frzK] at h; cases h; exact ⟨rfl, by simp [frzs]⟩
  | (k, m) :: r, ds, h => by
    rw [frzK] at h
    cases e : frz m with
    | none => rw [e] at h; cases h
    | some d =>
      rw [e] at h
      cases e2 : frzK r with
      | none => rw [e2] at h; cases h
      | some es =>
        rw [e2] at h; cases h
        obtain ⟨a, b⟩ := frzK_vals e2
        exact ⟨by simp [a], by simp only [List.map_cons, frzs, e, b]⟩
theorem frzT_vals : ∀ {kvs : List (List Key × M)} {ds : List (List Key × D)}, frzT kvs = some ds → kvs.map (·.1) = ds.map (·.1) ∧ frzs (kvs.map (·.2)) = some (ds.map (·.2))
  | [], ds, h => by rw [frzT] at h; cases h; exact ⟨rfl, by simp [frzs]⟩
  | (k, m) :: r, ds, h => by
    rw [frzT] at h
    cases e : frz m with
    | none => rw [e] at h; cases h
    | some d =>
      rw [e] at h
      cases e2 : frzT r with
      | none => rw [e2] at h; cases h
      | some es =>
        rw [e2] at h; cases h
        obtain ⟨a, b⟩ := frzT_vals e2
        exact ⟨by simp [a], by simp only [List.map_cons, frzs, e, b]⟩
theorem frzF_vals : ∀ {kvs : List (Str × M)} {ds : List (Str × D)}, frzF kvs = some ds → kvs.map (·.1) = ds.map (·.1) ∧ frzs (kvs.map (·.2)) = some (ds.map (·.2))
  | [], ds, h => by rw [frzF] at h; cases h; exact ⟨rfl, by simp [frzs]⟩
  | (k, m) :: r, ds, h => by
    rw [frzF] at h
    cases e : frz m with
    | none => rw [e] at h; cases h
    | some d =>
      rw [e] at h
      cases e2 : frzF r with
      | none => rw [e2] at h; cases h
      | some es =>
        rw [e2] at h; cases h
        obtain ⟨a, b⟩ := frzF_vals e2
        exact ⟨by simp [a], by simp only [List.map_cons, frzs, e, b]⟩
theorem RepM.frozen {K : PySem.W.Frag} {F H F' : Hp} {m : M} {v : V} {fp : List Addr} {d : D} (h : RepM K F H m v fp) (e : Sub F F') (hF : ∀ b ∈ fp, F' b = H b) (hd : frz m = some d) : Rep K F' v d := by
  refine RepM.rec (K := K) (F := F) (H := H) (motive_1 := fun m v fp _ => ∀ d, (∀ b ∈ fp, F' b = H b) → frz m = some d → Rep K F' v d) (motive_2 := fun ms vs fp _ => ∀ ds, (∀ b ∈ fp, F' b = H b) → frzs ms = some ds → Reps K F' vs ds)
    ?_ ?_ ?_ ?_ ?_ ?_ ?_ ?_ h d hF hd
  · intro d v r d' _ hd
    rw [frz] at hd; cases hd
    exact r.mono e
  · intro p vs ms fp a b _ n ih d hF hd
    rw [frz] at hd
    cases e2 : frzs ms with
    | none => rw [e2] at hd; cases hd
    | some ds =>
      rw [e2] at hd; cases hd
      exact .lst (by rw [hF _ (List.mem_cons_self ..)]; exact a) (ih ds (fun b hb => hF b (List.mem_cons_of_mem _ hb)) e2)
  · intro p vs ms fp a _ ih d hF hd
    rw [frz] at hd
    cases e2 : frzs ms with
    | none => rw [e2] at hd; cases hd
    | some ds =>
      rw [e2] at hd; cases hd
      exact .tup (e _ _ a) (ih ds hF e2)
  · intro p kvs ms fp a b c _ n ih d hF hd
    rw [frz] at hd
    cases e2 : frzK ms with
    | none => rw [e2] at hd; cases hd
    | some ds =>
      rw [e2] at hd; cases hd
      obtain ⟨k1, k2⟩ := frzK_vals e2
      exact .dK (by rw [hF _ (List.mem_cons_self ..)]; exact a) (c.trans k1) (ih _ (fun b hb => hF b (List.mem_cons_of_mem _ hb)) k2)
  · intro p kvs ms fp a b c _ n ih d hF hd
    rw [frz] at hd
    cases e2 : frzT ms with
    | none => rw [e2] at hd; cases hd
    | some ds =>
      rw [e2] at hd; cases hd
      obtain ⟨k1, k2⟩ := frzT_vals e2
      exact .dT (by rw [hF _ (List.mem_cons_self ..)]; exact a) (c.trans k1) (ih _ (fun b hb => hF b (List.mem_cons_of_mem _ hb)) k2)
  · intro p C dx fs ms fp a b c _ n ih d hF hd
    rw [frz] at hd
    cases e2 : frzF ms with
    | none => rw [e2] at hd; cases hd
    | some ds =>
      rw [e2] at hd; cases hd
      obtain ⟨k1, k2⟩ := frzF_vals e2
      exact .ins (by rw [hF _ (List.mem_cons_self ..)]; exact a) (c.trans k1) (ih _ (fun b hb => hF b (List.mem_cons_of_mem _ hb)) k2)
  · intro ds _ hd
    rw [frzs] at hd; cases hd
    exact .nil
  · intro m v ms vs fp fq _ _ dj i1 i2 ds hF hd
    rw [frzs] at hd
    cases e1 : frz m with
    | none => rw [e1] at hd; cases hd
    | some d =>
      rw [e1] at hd
      cases e2 : frzs ms with
      | none => rw [e2] at hd; cases hd
      | some es =>
        rw [e2] at hd; cases hd
        exact .cons (i1 d (fun b hb => hF b (List.mem_append_left _ hb)) e1) (i2 es (fun b hb => hF b (List.mem_append_right _ hb)) e2)
/-- F with what H holds at fp -/
def addF (F H : Hp) (fp : List Addr) : Hp := fun b => if b ∈ fp then H b else F b
theorem addF_in {F H : Hp} {fp : List Addr} {b : Addr} (h : b ∈ fp) : addF F H fp b = H b := by unfold addF; rw [if_pos h]
theorem addF_out {F H : Hp} {fp : List Addr} {b : Addr} (h : b ∉ fp) : addF F H fp b = F b := by unfold addF; rw [if_neg h]
theorem addF_sub {F H : Hp} {fp : List Addr} (h : ∀ b ∈ fp, F b = none) : Sub F (addF F H fp) := fun b o e => by
  by_cases hb : b ∈ fp
  · rw [h b hb] at e; cases e
  · rw [addF_out hb]; exact e
theorem addF_in_H {F H : Hp} {fp : List Addr} (h : Sub F H) : Sub (addF F H fp) H := fun b o e => by
  by_cases hb : b ∈ fp
  · rw [addF_in hb] at e; exact e
  · rw [addF_out hb] at e; exact h b o e
/-- tables of code objects: F has none, those of H are the known ones -/
structure TOk (K : PySem.W.Frag) (F H : Hp) : Prop where
  nt : ∀ b ps, F b ≠ some (.tbl ps)
  tb : ∀ p ∈ TL K, LamX.TabS H p.1 p.2
  ot : ∀ b ps, H b = some (.tbl ps) → ∃ p ∈ TL K, p.1 = b
  cd : ∀ p ∈ TL K, ∀ ps, H p.1 = some (.tbl ps) → ∀ (pos : Pos) (cv : Value), codeAmong pos ps.toList = some cv → ∃ c, cv = .ref c ∧ F c = some (LamX.CodeO c p.2)
  tp : ∀ b vs, H b = some (.tup vs) → F b = some (.tup vs)
theorem TOk.sub {K : PySem.W.Frag} {F F' H : Hp} (t : TOk K F H) (s : Sub F F') (nt : ∀ b ps, F' b ≠ some (.tbl ps)) : TOk K F' H := ⟨nt, t.tb, t.ot, fun p hp ps h pos cv hc => let ⟨c, e1, e2⟩ := t.cd p hp ps h pos cv hc; ⟨c, e1, s _ _ e2⟩, fun b vs h => s _ _ (t.tp b vs h)⟩
structure TTr (K : PySem.W.Frag) (F H F' H' : Hp) : Prop where
  tbl : ∀ b ps, H b = some (.tbl ps) → ∃ ps', H' b = some (.tbl ps')
  ok : TOk K F H → TOk K F' H'
structure Ext (K : PySem.W.Frag) (F H : Hp) (A : Addr → Prop) (F' H' : Hp) (A' : Addr → Prop) : Prop where
  ff : Sub F F'
  keep : ∀ b o, H b = some o → ¬ A b → NT o → H' b = some o
  own : ∀ b, A' b → A b ∨ H b = none
  fz : ∀ b o, F' b = some o → F b = some o ∨ A b ∨ H b = none
  tt : TTr K F H F' H'
theorem TTr.same {K : PySem.W.Frag} {F F' H : Hp} (s : Sub F F') (nt : (∀ b ps, F b ≠ some (.tbl ps)) → ∀ b ps, F' b ≠ some (.tbl ps)) : TTr K F H F' H := ⟨fun _ ps h => ⟨ps, h⟩, fun t => t.sub s (nt t.nt)⟩
theorem Ext.refl {K : PySem.W.Frag} {F H : Hp} {A A' : Addr → Prop} (h : ∀ b, A' b → A b) : Ext K F H A F H A' := ⟨Sub.refl _, fun _ _ h _ _ => h, fun b a => .inl (h b a), fun _ _ h => .inl h, .same (Sub.refl _) fun h => h⟩
theorem Ext.back {K : PySem.W.Frag} {F H F' H' : Hp} {A A' : Addr → Prop} (e : Ext K F H A F' H' A') {b : Addr} (h : H' b = none) : A b ∨ H b = none := by
  by_cases a : A b
  · exact .inl a
  · cases q : H b with
    | none => exact .inr rfl
    | some o =>
      by_cases n : NT o
      · rw [e.keep b o q a n] at h; cases h
      · obtain ⟨ps, rfl⟩ : ∃ ps, o = .tbl ps := Classical.not_forall.mp n |>.imp fun ps z => Classical.not_not.mp z
        obtain ⟨ps', q'⟩ := e.tt.tbl b ps q
        rw [q'] at h; cases h
theorem TTr.trans {K : PySem.W.Frag} {F H F1 H1 F2 H2 : Hp} (a : TTr K F H F1 H1) (b : TTr K F1 H1 F2 H2) : TTr K F H F2 H2 := ⟨fun c ps h => let ⟨ps', h'⟩ := a.tbl c ps h; b.tbl c ps' h', fun t => b.ok (a.ok t)⟩
theorem Ext.trans {K : PySem.W.Frag} {F H F1 H1 F2 H2 : Hp} {A A1 B A2 C : Addr → Prop} (e1 : Ext K F H A F1 H1 A1) (e2 : Ext K F1 H1 B F2 H2 A2) (hB : ∀ b, B b → A1 b) (hC : ∀ b, C b → A2 b ∨ A1 b) : Ext K F H A F2 H2 C where
  ff := e1.ff.trans e2.ff
  keep := fun b o h a n => e2.keep b o (e1.keep b o h a n) (fun hb => by
    rcases e1.own b (hB b hb) with q | q
    · exact a q
    · rw [q] at h; cases h) n
  own := fun b c => by
    rcases hC b c with q | q
    · rcases e2.own b q with q | q
      · exact e1.own b (hB b q)
      · exact e1.back q
    · exact e1.own b q
  fz := fun b o h => by
    rcases e2.fz b o h with q | q | q
    · exact e1.fz b o q
    · exact .inr (e1.own b (hB b q))
    · exact .inr (e1.back q)
  tt := e1.tt.trans e2.tt
theorem Ext.weak {K : PySem.W.Frag} {F H F1 H1 : Hp} {A A1 C : Addr → Prop} (e1 : Ext K F H A F1 H1 A1) (hC : ∀ b, C b → A1 b) : Ext K F H A F1 H1 C := ⟨e1.ff, e1.keep, fun b c => e1.own b (hC b c), e1.fz, e1.tt⟩
/-- a larger set at the start -/
theorem Ext.wide {K : PySem.W.Frag} {F H F1 H1 : Hp} {A A1 C : Addr → Prop} (e1 : Ext K F H A F1 H1 A1) (hC : ∀ b, A b → C b) : Ext K F H C F1 H1 A1 :=
  ⟨e1.ff, fun b o h c => e1.keep b o h fun a => c (hC b a), fun b c => (e1.own b c).imp (hC b) id, fun b o h => (e1.fz b o h).imp id fun q => q.imp (hC b) id, e1.tt⟩
theorem pendM {K : PySem.W.Frag} {F1 H1 F2 H2 : Hp} {m : M} {v : V} {fp : List Addr} {B A2 : Addr → Prop} (h : RepM K F1 H1 m v fp) (hB : ∀ b ∈ fp, ¬ B b) (e : Ext K F1 H1 B F2 H2 A2) : RepM K F2 H2 m v fp ∧ ∀ b ∈ fp, ¬ A2 b := by
  have l := h.live
  refine ⟨h.frame e.ff (fun b hb => ?_) (fun b hb => ?_), fun b hb a => ?_⟩
  · obtain ⟨⟨o, ho⟩, _⟩ := l b hb
    rw [e.keep b o ho (hB b hb) (h.nt hb ho), ho]
  · obtain ⟨⟨o, ho⟩, hf⟩ := l b hb
    cases q : F2 b with
    | none => rfl
    | some u =>
      rcases e.fz b u q with z | z | z
      · rw [hf] at z; cases z
      · exact absurd z (hB b hb)
      · rw [ho] at z; cases z
  · obtain ⟨⟨o, ho⟩, _⟩ := l b hb
    rcases e.own b a with z | z
    · exact hB b hb z
    · rw [ho] at z; cases z
/-- only what is frozen grows -/
theorem Ext.same {K : PySem.W.Frag} {F F' H : Hp} {A A' : Addr → Prop} (ff : Sub F F') (own : ∀ b, A' b → A b ∨ H b = none) (fz : ∀ b o, F' b = some o → F b = some o ∨ A b ∨ H b = none) (nt : (∀ b ps, F b ≠ some (.tbl ps)) → ∀ b ps, F' b ≠ some (.tbl ps)) : Ext K F H A F' H A' :=
  ⟨ff, fun _ _ h _ _ => h, own, fz, .same ff nt⟩
theorem TTr.new {K : PySem.W.Frag} {F F' H : Hp} {p : Addr} {o : HO} (hp : H p = none) (ho : NT o) (ht : ∀ vs, o = .tup vs → F' p = some (.tup vs)) (s : Sub F F') (nt : (∀ b ps, F b ≠ some (.tbl ps)) → ∀ b ps, F' b ≠ some (.tbl ps)) : TTr K F H F' (upd H p o) :=
  ⟨fun b ps h => ⟨ps, by rw [upd_ne (ne_of_none h hp)]; exact h⟩, fun t => ⟨nt t.nt, fun q hq => (t.tb q hq).ext fun b u e => by rw [upd_ne (ne_of_none e hp)]; exact e, fun b ps e => by
    by_cases z : b = p
    · rw [z, upd_same] at e; exact (ho ps (Option.some.inj e)).elim
    · rw [upd_ne z] at e; exact t.ot b ps e, fun q hq ps h pos cv hc => by
    by_cases z : q.1 = p
    · rw [z, upd_same] at h; exact (ho ps (Option.some.inj h)).elim
    · rw [upd_ne z] at h
      obtain ⟨c, e1, e2⟩ := t.cd q hq ps h pos cv hc
      exact ⟨c, e1, s _ _ e2⟩, fun b vs e => by
    by_cases z : b = p
    · rw [z, upd_same] at e; rw [z]; exact ht vs (Option.some.inj e)
    · rw [upd_ne z] at e; exact s _ _ (t.tp b vs e)⟩⟩
/-- a new object comes -/
theorem Ext.new {K : PySem.W.Frag} {F H : Hp} {A : Addr → Prop} {p : Addr} {o : HO} (hp : H p = none) (ho : NT o := by exact fun _ h => by cases h) (ht : ∀ vs, o ≠ .tup vs := by exact fun _ h => by cases h) : Ext K F H A F (upd H p o) (fun b => A b ∨ b = p) where
  ff := Sub.refl _
  keep := fun b u h _ _ => by rw [upd_ne (ne_of_none h hp)]; exact h
  own := fun b h => h.imp id fun e => by rw [e]; exact hp
  fz := fun _ _ h => .inl h
  tt := .new hp ho (fun vs e => (ht vs e).elim) (Sub.refl _) fun h => h
/-- a new object comes and is frozen -/
theorem Ext.newF {K : PySem.W.Frag} {F H : Hp} {A : Addr → Prop} {p : Addr} {o : HO} (hF : Sub F H) (hp : H p = none) (ho : NT o := by exact fun _ h => by cases h) : Ext K F H A (upd F p o) (upd H p o) A where
  ff := fun b u h => by rw [upd_ne (ne_of_none (hF b u h) hp)]; exact h
  keep := fun b u h _ _ => by rw [upd_ne (ne_of_none h hp)]; exact h
  tt := .new hp ho (fun vs e => by rw [upd_same, e]) (fun b u h => by rw [upd_ne (ne_of_none (hF b u h) hp)]; exact h) fun h b ps e => by
    by_cases z : b = p
    · rw [z, upd_same] at e; cases e; exact ho _ rfl
    · rw [upd_ne z] at e; exact h b ps e
  own := fun b h => .inl h
  fz := fun b u h => by
    by_cases e : b = p
    · rw [e]; exact .inr (.inr hp)
    · rw [upd_ne e] at h; exact .inl h
theorem sub_upd {F H : Hp} {p : Addr} {o : HO} (hF : Sub F H) : Sub (upd F p o) (upd H p o) := fun b u h => by
  by_cases e : b = p
  · rw [e, upd_same] at h ⊢; exact h
  · rw [upd_ne e] at h ⊢; exact hF b u h
theorem sub_new {F H : Hp} {p : Addr} {o : HO} (hF : Sub F H) (hp : H p = none) : Sub F (upd H p o) := fun b u h => by
  rw [upd_ne (ne_of_none (hF b u h) hp)]; exact hF b u h
theorem sub_none {F H : Hp} {p : Addr} (hF : Sub F H) (hp : H p = none) : F p = none := by
  cases q : F p with
  | none => rfl
  | some o => rw [hF p o q] at hp; cases hp
structure REnv (K : PySem.W.Frag) (F H : Hp) (σ : St) (env : E) (fps : Nat → List Addr) : Prop where
  fr : Sub F H
  len : env.length = σ.length
  got : ∀ (i : Nat) (m : M), env[i]? = some (some m) → ∃ v, σ[i]? = some (some v) ∧ RepM K F H m v (fps i)
  nil : ∀ i, (∀ m, env[i]? ≠ some (some m)) → fps i = []
  dj : ∀ i j, i ≠ j → ∀ b ∈ fps i, b ∉ fps j
  tt : TOk K F H
def Own (fps : Nat → List Addr) (b : Addr) : Prop := ∃ i, b ∈ fps i
theorem REnv.live {K : PySem.W.Frag} {F H : Hp} {σ : St} {env : E} {fps : Nat → List Addr} (R : REnv K F H σ env fps) {b : Addr} (h : Own fps b) : (∃ o, H b = some o) ∧ F b = none := by
  obtain ⟨i, hi⟩ := h
  by_cases q : ∃ m, env[i]? = some (some m)
  · obtain ⟨m, e⟩ := q
    obtain ⟨v, _, r⟩ := R.got i m e
    exact r.live b hi
  · rw [R.nil i (fun m e => q ⟨m, e⟩)] at hi
    cases hi
theorem REnv.kin {K : PySem.W.Frag} {F H : Hp} {σ : St} {env : E} {fps : Nat → List Addr} (R : REnv K F H σ env fps) {b : Addr} (h : Own fps b) : ∃ o, H b = some o ∧ Kin o := by
  obtain ⟨i, hi⟩ := h
  by_cases q : ∃ m, env[i]? = some (some m)
  · obtain ⟨m, e⟩ := q
    obtain ⟨v, _, r⟩ := R.got i m e
    exact r.kin b hi
  · rw [R.nil i (fun m e => q ⟨m, e⟩)] at hi
    cases hi
/-- slots over a step that does not touch what they own -/
theorem REnv.frame {K : PySem.W.Frag} {F H F' H' : Hp} {σ : St} {env : E} {fps : Nat → List Addr} {B A2 : Addr → Prop} (R : REnv K F H σ env fps) (hB : ∀ b, Own fps b → ¬ B b) (e : Ext K F H B F' H' A2) (fr : Sub F' H') : REnv K F' H' σ env fps ∧ ∀ b, Own fps b → ¬ A2 b := by
  refine ⟨⟨fr, R.len, fun i m h => ?_, R.nil, R.dj, e.tt.ok R.tt⟩, fun b hb a => ?_⟩
  · obtain ⟨v, hv, r⟩ := R.got i m h
    exact ⟨v, hv, (pendM r (fun b hb => hB b ⟨i, hb⟩) e).1⟩
  · obtain ⟨⟨o, ho⟩, _⟩ := R.live hb
    rcases e.own b a with z | z
    · exact hB b hb z
    · rw [ho] at z; cases z
/-- one slot is stored -/
theorem REnv.store {K : PySem.W.Frag} {F H : Hp} {σ : St} {env : E} {fps : Nat → List Addr} {i : Nat} {m : M} {v : V} {fp : List Addr} (R : REnv K F H σ env fps) (hi : i < σ.length) (r : RepM K F H m v fp) (d : ∀ b ∈ fp, ¬ Own fps b) :
    REnv K F H (σ.set i (some v)) (env.set i (some m)) (fun j => if j = i then fp else fps j) := by
  refine ⟨R.fr, by simp [R.len], fun j n h => ?_, fun j h => ?_, fun a c hac b hb => ?_, R.tt⟩
  · by_cases e : j = i
    · subst e
      rw [List.getElem?_set_self (by rw [R.len]; exact hi)] at h; cases h
      exact ⟨v, List.getElem?_set_self hi, by simp only [if_true]; exact r⟩
    · rw [List.getElem?_set_ne (fun q => e q.symm)] at h
      obtain ⟨w, hw, rw'⟩ := R.got j n h
      refine ⟨w, by rw [List.getElem?_set_ne (fun q => e q.symm)]; exact hw, ?_⟩
      simp only [if_neg e]; exact rw'
  · by_cases e : j = i
    · subst e
      exact absurd (List.getElem?_set_self (by rw [R.len]; exact hi)) (h m)
    · simp only [if_neg e]
      exact R.nil j fun n q => h n (by rw [List.getElem?_set_ne (fun q => e q.symm)]; exact q)
  · by_cases e1 : a = i
    · subst e1
      simp only [if_true] at hb
      have e2 : ¬ c = a := fun q => hac q.symm
      simp only [if_neg e2]
      exact fun q => d b hb ⟨c, q⟩
    · simp only [if_neg e1] at hb
      by_cases e2 : c = i
      · subst e2
        simp only [if_true]
        exact fun q => d b q ⟨a, hb⟩
      · simp only [if_neg e2]
        exact R.dj a c hac b hb
/-- another reading of one slot's content, the slots as they are -/
theorem REnv.put {K : PySem.W.Frag} {F H : Hp} {σ : St} {env : E} {fps : Nat → List Addr} {i : Nat} {m : M} {v : V} {fp : List Addr} (R : REnv K F H σ env fps) (hv : σ[i]? = some (some v)) (r : RepM K F H m v fp) (d : ∀ b ∈ fp, ∀ j, j ≠ i → b ∉ fps j) :
    REnv K F H σ (env.set i (some m)) (fun j => if j = i then fp else fps j) := by
  have hi : i < σ.length := (List.getElem?_eq_some_iff.mp hv).1
  refine ⟨R.fr, by simp [R.len], fun j n h => ?_, fun j h => ?_, fun a c hac b hb => ?_, R.tt⟩
  · by_cases e : j = i
    · subst e
      rw [List.getElem?_set_self (by rw [R.len]; exact hi)] at h; cases h
      exact ⟨v, hv, by simp only [if_true]; exact r⟩
    · rw [List.getElem?_set_ne (fun q => e q.symm)] at h
      obtain ⟨w, hw, rw'⟩ := R.got j n h
      refine ⟨w, hw, ?_⟩
      simp only [if_neg e]; exact rw'
  · by_cases e : j = i
    · subst e
      exact absurd (List.getElem?_set_self (by rw [R.len]; exact hi)) (h m)
    · simp only [if_neg e]
      exact R.nil j fun n q => h n (by rw [List.getElem?_set_ne (fun q => e q.symm)]; exact q)
  · by_cases e1 : a = i
    · subst e1
      simp only [if_true] at hb
      have e2 : ¬ c = a := fun q => hac q.symm
      simp only [if_neg e2]
      exact d b hb c e2
    · simp only [if_neg e1] at hb
      by_cases e2 : c = i
      · subst e2
        simp only [if_true]
        exact fun q => d b q a e1 hb
      · simp only [if_neg e2]
        exact R.dj a c hac b hb
/-- a slot is forgotten -/
theorem REnv.drop {K : PySem.W.Frag} {F H : Hp} {σ : St} {env : E} {fps : Nat → List Addr} (R : REnv K F H σ env fps) (i : Nat) :
    REnv K F H σ (env.set i none) (fun j => if j = i then [] else fps j) := by
  refine ⟨R.fr, by simp [R.len], fun j n h => ?_, fun j h => ?_, fun a c hac b hb => ?_, R.tt⟩
  · by_cases e : j = i
    · subst e
      by_cases hi : j < env.length
      · rw [List.getElem?_set_self hi] at h; cases h
      · rw [List.getElem?_eq_none (by simpa using hi)] at h; cases h
    · rw [List.getElem?_set_ne (fun q => e q.symm)] at h
      obtain ⟨w, hw, rw'⟩ := R.got j n h
      refine ⟨w, hw, ?_⟩
      simp only [if_neg e]; exact rw'
  · by_cases e : j = i
    · simp only [if_pos e]
    · simp only [if_neg e]
      exact R.nil j fun n q => h n (by rw [List.getElem?_set_ne (fun q => e q.symm)]; exact q)
  · by_cases e1 : a = i
    · simp only [if_pos e1] at hb; cases hb
    · simp only [if_neg e1] at hb
      by_cases e2 : c = i
      · simp only [if_pos e2]; exact fun q => by cases q
      · simp only [if_neg e2]
        exact R.dj a c hac b hb
/-- more is frozen: what is owned by nobody here -/
theorem REnv.more {K : PySem.W.Frag} {F F' H : Hp} {σ : St} {env : E} {fps : Nat → List Addr} (R : REnv K F H σ env fps) (e : Sub F F') (fr : Sub F' H) (hn : ∀ b, Own fps b → F' b = none) (ht : ∀ b ps, F' b ≠ some (.tbl ps)) : REnv K F' H σ env fps :=
  ⟨fr, R.len, fun i m h => let ⟨v, hv, r⟩ := R.got i m h; ⟨v, hv, r.frame e (fun _ _ => rfl) fun b hb => hn b ⟨i, hb⟩⟩, R.nil, R.dj, R.tt.sub e ht⟩
theorem addF_nt {K : PySem.W.Frag} {F H : Hp} {m : M} {v : V} {fp : List Addr} (h : RepM K F H m v fp) (hF : ∀ b ps, F b ≠ some (.tbl ps)) : ∀ b ps, addF F H fp b ≠ some (.tbl ps) := fun b ps e => by
  by_cases hb : b ∈ fp
  · rw [addF_in hb] at e
    exact h.nt hb e ps rfl
  · rw [addF_out hb] at e
    exact hF b ps e
end Ink
set_option Elab.async false
set_option linter.all false
set_option maxRecDepth 100000
namespace Ink
open PySem L2
/-- an expression's result: a thing made on the way, or what a slot holds -/
inductive Av where
  | tm (m : M) | sl (i : Nat)
/-- an exception: its class, its own fields -/
structure Xc where
  cls : Str
  fs : Option (List (Str × D))
inductive Out (α : Type) where
  | ok (a : α) (env : E)
  | ex (x : Xc) (env : E)
inductive OutP where
  | ok (m : M) (ms : E)
  | ex (x : Xc) (ms : E)
abbrev FE := E → Option (Out Av)
abbrev FA := E → Option (Out (List Av))
abbrev FT := E → Option (Out Bool)
abbrev FP := List M → Option OutP
section
variable (K : PySem.W.Frag) (F H : Hp) (σ : St)
def RepA : Av → V → List Addr → Prop
  | .tm m, v, fp => RepM K F H m v fp
  | .sl i, v, fp => σ[i]? = some (some v) ∧ fp = []
def RepX (x : Xc) (cls : Value) (d : Option Addr) : Prop := cls = .ref (He.ga K x.cls) ∧ match x.fs, d with
  | none, none => True
  | some fs, some p => ∃ vs, H p = some (.xd vs) ∧ vs.map (·.1) = fs.map (·.1) ∧ Reps K F (vs.map (·.2)) (fs.map (·.2))
  | _, _ => False
structure RepAs (as : List Av) (vs : List V) (fpA : Nat → List Addr) : Prop where
  len : vs.length = as.length
  got : ∀ (j : Nat) (a : Av), as[j]? = some a → ∃ v, vs[j]? = some v ∧ RepA K F H σ a v (fpA j)
  nil : ∀ j, as.length ≤ j → fpA j = []
  dj : ∀ i j, i ≠ j → ∀ b ∈ fpA i, b ∉ fpA j
end
section
variable (K : PySem.W.Frag) (W : WX) (σ : St) (F H : Hp) (A : Addr → Prop)
/-- what is wanted behind a result -/
def PV (a : Av) (env' : E) (Q : VK) : Prop := ∀ v F' H' fps' fp, REnv K F' H' σ env' fps' → RepA K F' H' σ a v fp → (∀ b ∈ fp, ¬ Own fps' b) → Ext K F H A F' H' (fun b => Own fps' b ∨ b ∈ fp) → Q v H'
def PX (x : Xc) (env' : E) : Prop := ∀ cls d F' H' fps', REnv K F' H' σ env' fps' → RepX K F' H' x cls d → Ext K F H A F' H' (Own fps') → W cls d σ H'
def PVs (as : List Av) (env' : E) (Q : List V → Hp → Prop) : Prop := ∀ vs F' H' fps' fpA, REnv K F' H' σ env' fps' → RepAs K F' H' σ as vs fpA → (∀ b, Own fpA b → ¬ Own fps' b) → Ext K F H A F' H' (fun b => Own fps' b ∨ Own fpA b) → Q vs H'
def PB (b : Bool) (env' : E) (Q : Bool → Hp → Prop) : Prop := ∀ F' H' fps', REnv K F' H' σ env' fps' → Ext K F H A F' H' (Own fps') → Q b H'
def poE (o : Option (Out Av)) (Q : VK) : Prop := match o with
  | none => False
  | some (.ok a env') => PV K σ F H A a env' Q
  | some (.ex x env') => PX K W σ F H A x env'
def poA (o : Option (Out (List Av))) (Q : List V → Hp → Prop) : Prop := match o with
  | none => False
  | some (.ok a env') => PVs K σ F H A a env' Q
  | some (.ex x env') => PX K W σ F H A x env'
def poT (o : Option (Out Bool)) (Q : Bool → Hp → Prop) : Prop := match o with
  | none => False
  | some (.ok a env') => PB K σ F H A a env' Q
  | some (.ex x env') => PX K W σ F H A x env'
end
section
variable (K : PySem.W.Frag) (W : WX)
def rE (f : FE) : TE := fun σ H Q => ∃ F env fps, REnv K F H σ env fps ∧ poE K W σ F H (Own fps) (f env) Q
def rA (f : FA) : TA := fun σ H Q => ∃ F env fps, REnv K F H σ env fps ∧ poA K W σ F H (Own fps) (f env) Q
def rT (f : FT) : TT := fun σ H Q => ∃ F env fps, REnv K F H σ env fps ∧ poT K W σ F H (Own fps) (f env) Q
end
theorem PE_mono {X : Cx} {e : Expr} {t t' : TE} (h : PE X e t) (m : ∀ σ H Q, t' σ H Q → t σ H Q) : PE X e t' := ⟨fun pins s σ H Q I q => h.run pins s σ H Q I (m _ _ _ q)⟩
theorem PT_mono {X : Cx} {e : Expr} {t t' : TT} (h : PT X e t) (m : ∀ σ H Q, t' σ H Q → t σ H Q) : PT X e t' := ⟨fun pins s σ H Q I q => h.run pins s σ H Q I (m _ _ _ q)⟩
theorem PW_mono {X : Cx} {e : Expr} {t t' : TT} (h : PW X e t) (m : ∀ σ H Q, t' σ H Q → t σ H Q) : PW X e t' := ⟨fun wh pins s σ H Q I q => h.run wh pins s σ H Q I (m _ _ _ q)⟩
theorem PA_mono {X : Cx} {es : List Expr} {t t' : TA} (h : PA X es t) (m : ∀ σ H Q, t' σ H Q → t σ H Q) : PA X es t' := ⟨fun pos pins s σ H Q I q => h.run pos pins s σ H Q I (m _ _ _ q)⟩
theorem PS_mono {X : Cx} {st : Stmt} {t t' : TS} (h : PS X st t) (m : ∀ D σ H, t' D σ H → t D σ H) : PS X st t' := ⟨fun pins s σ H D I q => h.run pins s σ H D I (m _ _ _ q)⟩
theorem PSs_mono {X : Cx} {st : List Stmt} {t t' : TS} (h : PSs X st t) (m : ∀ D σ H, t' D σ H → t D σ H) : PSs X st t' := ⟨fun pins s σ H D I q => h.run pins s σ H D I (m _ _ _ q)⟩
theorem PI_mono {X : Cx} {tg it : Expr} {t t' : TI} (h : PI X tg it t) (m : ∀ σ H R, t' σ H R → t σ H R) : PI X tg it t' := ⟨fun pins s σ H R I q => h.run pins s σ H R I (m _ _ _ q)⟩
section
variable {K : PySem.W.Frag} {W : WX} {σ : St} {F H F1 H1 : Hp} {A A1 B : Addr → Prop}
theorem PX.wide {x : Xc} {env' : E} (p : PX K W σ F H A x env') (e : Ext K F H A F1 H1 A1) (hB : ∀ b, B b → A1 b) : PX K W σ F1 H1 B x env' :=
  fun cls d F' H' fps' R r e2 => p cls d F' H' fps' R r (e.trans e2 hB fun _ c => .inl c)
theorem poE.wide {o : Option (Out Av)} {Q : VK} (p : poE K W σ F H A o Q) (e : Ext K F H A F1 H1 A1) (hB : ∀ b, B b → A1 b) : poE K W σ F1 H1 B o Q := by
  cases o with
  | none => exact p
  | some o =>
    cases o with
    | ok a env' => exact fun v F' H' fps' fp R r d e2 => p v F' H' fps' fp R r d (e.trans e2 hB fun _ c => .inl c)
    | ex x env' => exact PX.wide p e hB
end
def bindO {α β : Type} (o : Option (Out α)) (k : α → E → Option (Out β)) : Option (Out β) := match o with
  | none => none
  | some (.ok a env) => k a env
  | some (.ex x env) => some (.ex x env)
@[simp] theorem bindO_none {α β : Type} (k : α → E → Option (Out β)) : bindO none k = none := rfl
@[simp] theorem bindO_ok {α β : Type} (a : α) (env : E) (k : α → E → Option (Out β)) : bindO (some (.ok a env)) k = k a env := rfl
@[simp] theorem bindO_ex {α β : Type} (x : Xc) (env : E) (k : α → E → Option (Out β)) : bindO (some (.ex x env)) k = some (.ex x env) := rfl
def cE (d : D) : FE := fun env => some (.ok (.tm (.fz d)) env)
def vE (i : Nat) : FE := fun env => match env[i]? with
  | some (some _) => some (.ok (.sl i) env)
  | _ => none
section
variable {X : Cx} {W : WX}
theorem Own.not_nil {fps : Nat → List Addr} : ∀ b ∈ ([] : List Addr), ¬ Own fps b := fun _ h => by cases h
theorem rE_c {K : PySem.W.Frag} {v : V} {d : D} (r : ∀ F, Rep K F v d) : ∀ σ H Q, rE K W (cE d) σ H Q → tC v σ H Q := fun σ H Q ⟨F, env, fps, R, p⟩ =>
  p v F H fps [] R (RepM.fz (r F)) Own.not_nil (Ext.refl fun b h => h.elim id fun q => by cases q)
theorem e_int {i : Int} {j pos} : PE X (.Constant (.int i) j pos) (rE X.K W (cE (.int i))) := PE_mono pe_int (rE_c fun _ => .int i)
theorem e_bl {b : Bool} {j pos} : PE X (.Constant (.bool b) j pos) (rE X.K W (cE (.bl b))) := PE_mono pe_bl (rE_c fun _ => .bl b)
theorem e_non {j pos} : PE X (.Constant .none j pos) (rE X.K W (cE .non)) := PE_mono pe_non (rE_c fun _ => .non)
theorem e_str {x : Str} {j pos} : PE X (.Constant (.str x) j pos) (rE X.K W (cE (.str x))) := PE_mono pe_str (rE_c fun _ => .str x)
theorem e_glob {x : Str} {v : V} {u : Value} {d : D} {pos : Pos} (hg : Gl X x) (hm : X.mg x = some u) (r : RelV v u) (q : ∀ F, Rep X.K F v d) (hd : (x == ("__debug__" : Str)) = false := by decide) : PE X (.Name x pos) (rE X.K W (cE d)) := PE_mono (pe_glob hg hm r hd) (rE_c q)
theorem rE_v {K : PySem.W.Frag} {i : Nat} : ∀ σ H Q, rE K W (vE i) σ H Q → tVar i σ H Q := fun σ H Q ⟨F, env, fps, R, p⟩ => by
  unfold vE at p
  split at p
  · rename_i m e
    obtain ⟨v, hv, _⟩ := R.got i m e
    exact ⟨v, hv, p v F H fps [] R ⟨hv, rfl⟩ Own.not_nil (Ext.refl fun b h => h.elim id fun q => by cases q)⟩
  · exact p.elim
theorem e_v (i : Nat) {x : Str} {pos : Pos} (hN : X.N[i]? = some x := by rfl) (hv : Vis X.env.scope x := by first | exact Or.inl rfl | exact Or.inr (Or.inl rfl) | exact Or.inr (Or.inr rfl)) (hd : (x == ("__debug__" : Str)) = false := by decide)
    (hcd : (x == ("__classdict__" : Str)) = false := by decide) : PE X (.Name x pos) (rE X.K W (vE i)) := PE_mono (pe_var hN hv hd hcd) rE_v
end
def takeA (a : Av) (env : E) : Option (M × E) := match a with
  | .tm m => some (m, env)
  | .sl i => match env[i]? with
    | some (some m) => match frz m with
      | some d => some (.fz d, env.set i (some (.fz d)))
      | none => none
    | _ => none
theorem take_sound {K : PySem.W.Frag} {F H : Hp} {σ : St} {env env' : E} {fps : Nat → List Addr} {a : Av} {v : V} {fp : List Addr} {m : M} (R : REnv K F H σ env fps) (hA : RepA K F H σ a v fp) (hd : ∀ b ∈ fp, ¬ Own fps b) (ht : takeA a env = some (m, env')) :
    ∃ F' fps' fp', REnv K F' H σ env' fps' ∧ RepM K F' H m v fp' ∧ (∀ b ∈ fp', ¬ Own fps' b) ∧ Ext K F H (fun b => Own fps b ∨ b ∈ fp) F' H (fun b => Own fps' b ∨ b ∈ fp') := by
  cases a with
  | tm n =>
    cases ht
    exact ⟨F, fps, fp, R, hA, hd, Ext.refl fun _ h => h⟩
  | sl i =>
    obtain ⟨hv, rfl⟩ := hA
    unfold takeA at ht
    cases e : env[i]? with
    | none => simp only [e] at ht; cases ht
    | some o =>
      cases o with
      | none => simp only [e] at ht; cases ht
      | some n =>
        simp only [e] at ht
        cases ez : frz n with
        | none => rw [ez] at ht; cases ht
        | some d =>
          rw [ez] at ht; cases ht
          obtain ⟨w, hw, r⟩ := R.got i n e
          rw [hv] at hw; cases hw
          have hl := r.live
          have s1 : Sub F (addF F H (fps i)) := addF_sub fun b hb => (hl b hb).2
          have s2 : Sub (addF F H (fps i)) H := addF_in_H R.fr
          have rz : Rep K (addF F H (fps i)) v d := r.frozen s1 (fun b hb => addF_in hb) ez
          have R0 := R.drop i
          have R1 : REnv K (addF F H (fps i)) H σ (env.set i none) (fun j => if j = i then [] else fps j) := R0.more s1 s2 (fun b hb => by
            obtain ⟨j, hj⟩ := hb
            by_cases ej : j = i
            · simp only [if_pos ej] at hj; cases hj
            · simp only [if_neg ej] at hj
              rw [addF_out (R.dj j i ej b hj)]
              exact (R.live ⟨j, hj⟩).2) (addF_nt r R.tt.nt)
          have R2 := R1.put hv (RepM.fz rz) (fun b hb => by cases hb)
          rw [List.set_set] at R2
          refine ⟨addF F H (fps i), _, [], R2, RepM.fz rz, (fun b hb => by cases hb), Ext.same s1 (fun b h => ?_) (fun b o h => ?_) (fun h => addF_nt r h)⟩
          · rcases h with ⟨j, hj⟩ | h
            · by_cases ej : j = i
              · simp only [if_pos ej] at hj; cases hj
              · simp only [if_neg ej] at hj
                exact .inl (.inl ⟨j, hj⟩)
            · cases h
          · by_cases hb : b ∈ fps i
            · exact .inr (.inl (.inl ⟨i, hb⟩))
            · rw [addF_out hb] at h; exact .inl h
def tk (f : FE) : FE := fun env => bindO (f env) fun a env1 => match takeA a env1 with
  | some (m, env2) => some (.ok (.tm m) env2)
  | none => none
theorem e_tk {X : Cx} {W : WX} {e : Expr} {f : FE} (h : PE X e (rE X.K W f)) : PE X e (rE X.K W (tk f)) := PE_mono h fun σ H Q ⟨F, env, fps, R, p⟩ => ⟨F, env, fps, R, by
  unfold tk at p
  cases ef : f env with
  | none => rw [ef] at p; exact p
  | some o =>
    cases o with
    | ex x env1 => rw [ef] at p; exact p
    | ok a env1 =>
      rw [ef] at p
      simp only [bindO_ok] at p
      cases et : takeA a env1 with
      | none => rw [et] at p; exact p.elim
      | some z =>
        obtain ⟨m, env2⟩ := z
        rw [et] at p
        intro v F' H' fps' fp R1 r d e1
        obtain ⟨F2, fps2, fp2, R2, r2, d2, e2⟩ := take_sound R1 r d et
        exact p v F2 H' fps2 fp2 R2 r2 d2 (e1.trans e2 (fun _ h => h) fun _ h => .inl h)⟩
def nilA : FA := fun env => some (.ok [] env)
def consA (f : FE) (g : FA) : FA := fun env => bindO (f env) fun a env1 => bindO (g env1) fun as env2 => some (.ok (a :: as) env2)
def fcons (fp : List Addr) (fpA : Nat → List Addr) : Nat → List Addr
  | 0 => fp
  | j + 1 => fpA j
theorem own_fcons {fp : List Addr} {fpA : Nat → List Addr} {b : Addr} : Own (fcons fp fpA) b ↔ b ∈ fp ∨ Own fpA b := by
  constructor
  · rintro ⟨j, hj⟩
    cases j with
    | zero => exact .inl hj
    | succ j => exact .inr ⟨j, hj⟩
  · rintro (h | ⟨j, hj⟩)
    · exact ⟨0, h⟩
    · exact ⟨j + 1, hj⟩
theorem RepAs.nil' {K : PySem.W.Frag} {F H : Hp} {σ : St} : RepAs K F H σ [] [] (fun _ => []) := ⟨rfl, fun j a h => by simp at h, fun _ _ => rfl, fun _ _ _ b hb => by cases hb⟩
theorem RepAs.cons' {K : PySem.W.Frag} {F H : Hp} {σ : St} {a : Av} {v : V} {fp : List Addr} {as : List Av} {vs : List V} {fpA : Nat → List Addr} (h : RepA K F H σ a v fp) (hs : RepAs K F H σ as vs fpA) (hd : ∀ b ∈ fp, ¬ Own fpA b) : RepAs K F H σ (a :: as) (v :: vs) (fcons fp fpA) := by
  refine ⟨by simp [hs.len], fun j c hc => ?_, fun j hj => ?_, fun i j hij b hb => ?_⟩
  · cases j with
    | zero => simp at hc; subst hc; exact ⟨v, rfl, h⟩
    | succ j => simp at hc; obtain ⟨w, h1, h2⟩ := hs.got j c hc; exact ⟨w, by simpa using h1, h2⟩
  · cases j with
    | zero => simp at hj
    | succ j => exact hs.nil j (by simpa using hj)
  · cases i with
    | zero =>
      cases j with
      | zero => exact absurd rfl hij
      | succ j => exact fun q => hd b hb ⟨j, q⟩
    | succ i =>
      cases j with
      | zero => exact fun q => hd b q ⟨i, hb⟩
      | succ j => exact hs.dj i j (fun q => hij (by rw [q])) b hb
theorem pendA {K : PySem.W.Frag} {F1 H1 F2 H2 : Hp} {σ : St} {a : Av} {v : V} {fp : List Addr} {B A2 : Addr → Prop} (h : RepA K F1 H1 σ a v fp) (hB : ∀ b ∈ fp, ¬ B b) (e : Ext K F1 H1 B F2 H2 A2) : RepA K F2 H2 σ a v fp ∧ ∀ b ∈ fp, ¬ A2 b := by
  cases a with
  | tm m => exact pendM h hB e
  | sl i => exact ⟨h, fun b hb => by rw [h.2] at hb; cases hb⟩
theorem a_nil {X : Cx} {W : WX} : PA X [] (rA X.K W nilA) := PA_mono pa_nil fun σ H Q ⟨F, env, fps, R, p⟩ =>
  p [] F H fps (fun _ => []) R .nil' (fun b ⟨_, h⟩ => by cases h) (Ext.refl fun b h => h.elim id fun ⟨_, q⟩ => by cases q)
theorem a_cons {X : Cx} {W : WX} {e : Expr} {es : List Expr} {f : FE} {g : FA} (he : PE X e (rE X.K W f)) (hs : PA X es (rA X.K W g)) (hst : starEach (e :: es) X.env = (false, eval e X.env) :: starEach es X.env := by rfl) : PA X (e :: es) (rA X.K W (consA f g)) := PA_mono (pa_cons he hs hst) fun σ H Q ⟨F, env, fps, R, p⟩ => by
  refine ⟨F, env, fps, R, ?_⟩
  unfold consA at p
  cases ef : f env with
  | none => rw [ef] at p; exact p
  | some o =>
    cases o with
    | ex x env1 => rw [ef] at p; exact p
    | ok a env1 =>
      rw [ef] at p
      simp only [bindO_ok] at p
      intro v F1 H1 fps1 fp R1 r d e1
      refine ⟨F1, env1, fps1, R1, ?_⟩
      cases eg : g env1 with
      | none => rw [eg] at p; exact p
      | some o2 =>
        cases o2 with
        | ex x env2 => rw [eg] at p; exact PX.wide p e1 fun _ h => .inl h
        | ok as env2 =>
          rw [eg] at p
          intro vs F2 H2 fps2 fpA R2 rs d2 e2
          obtain ⟨r2, dd⟩ := pendA r d e2
          refine p (v :: vs) F2 H2 fps2 (fcons fp fpA) R2 (RepAs.cons' r2 rs fun b hb q => dd b hb (.inr q)) (fun b hb q => ?_) (e1.trans e2 (fun _ h => .inl h) fun b h => ?_)
          · rcases own_fcons.mp hb with hb | hb
            · exact dd b hb (.inl q)
            · exact d2 b hb q
          · rcases h with h | h
            · exact .inl (.inl h)
            · rcases own_fcons.mp h with h | h
              · exact .inr (.inr h)
              · exact .inl (.inr h)
end Ink
set_option Elab.async false
set_option linter.all false
set_option maxRecDepth 100000
namespace Ink
open PySem L2
abbrev argS (vs : List V) : St := vs.map some
abbrev argE (ms : List M) : E := ms.map some
section
variable (K : PySem.W.Frag)
def poP (F H : Hp) (A : Addr → Prop) (vs : List V) (o : Option OutP) (Q : VK) (Ex : XK) : Prop := match o with
  | none => False
  | some (.ok m ms') => ∀ v F' H' fps' fp, REnv K F' H' (argS vs) ms' fps' → RepM K F' H' m v fp → (∀ b ∈ fp, ¬ Own fps' b) → Ext K F H A F' H' (fun b => Own fps' b ∨ b ∈ fp) → Q v H'
  | some (.ex x ms') => ∀ cls d F' H' fps', REnv K F' H' (argS vs) ms' fps' → RepX K F' H' x cls d → Ext K F H A F' H' (Own fps') → Ex cls d H'
/-- a promise by a mirror -/
def spOf (g : FP) : Sp := fun vs H Q Ex => ∃ F ms fps, REnv K F H (argS vs) (argE ms) fps ∧ poP K F H (Own fps) vs (g ms) Q Ex
end
def res (env : E) : List Av → Option (List M)
  | [] => some []
  | .tm m :: r => match res env r with
    | some ms => some (m :: ms)
    | none => none
  | .sl i :: r => match env[i]? with
    | some (some m) => match res env r with
      | some ms => some (m :: ms)
      | none => none
    | _ => none
def isFz : M → Bool
  | .fz _ => true
  | _ => false
def hasSl (i : Nat) : List Av → Bool
  | [] => false
  | .tm _ :: r => hasSl i r
  | .sl j :: r => (j == i) || hasSl i r
/-- no owned thing is handed over twice -/
def okA (env : E) : List Av → Bool
  | [] => true
  | .tm _ :: r => okA env r
  | .sl i :: r => (match env[i]? with
    | some (some m) => isFz m || !hasSl i r
    | _ => false) && okA env r
def back (env : E) : List Av → E → E
  | .tm _ :: r, _ :: ms => back env r ms
  | .sl i :: r, o :: ms => back (env.set i o) r ms
  | _, _ => env
def runP (g : FP) (as : List Av) (env : E) : Option (Out Av) := match res env as with
  | none => none
  | some ms => match okA env as with
    | false => none
    | true => match g ms with
      | none => none
      | some (.ok m ms') => some (.ok (.tm m) (back env as ms'))
      | some (.ex x ms') => some (.ex x (back env as ms'))
theorem res_spec {env : E} : ∀ {as : List Av} {ms : List M}, res env as = some ms → ms.length = as.length ∧ ∀ (j : Nat) (a : Av), as[j]? = some a → match a with
    | .tm m => ms[j]? = some m
    | .sl i => ∃ m, env[i]? = some (some m) ∧ ms[j]? = some m
  | [], ms, h => by rw [res] at h; cases h; exact ⟨rfl, fun j a q => by simp at q⟩
  | .tm m :: r, ms, h => by
    rw [res] at h
    cases e : res env r with
    | none => rw [e] at h; cases h
    | some ns =>
      rw [e] at h; cases h
      obtain ⟨l, g⟩ := res_spec e
      refine ⟨by simp [l], fun j a q => ?_⟩
      cases j with
      | zero => simp at q; subst q; rfl
      | succ j =>
        simp at q
        have z := g j a q
        cases a with
        | tm n => simpa using z
        | sl i => obtain ⟨n, z1, z2⟩ := z; exact ⟨n, z1, by simpa using z2⟩
  | .sl i :: r, ms, h => by
    rw [res] at h
    split at h
    · rename_i n en
      cases e : res env r with
      | none => rw [e] at h; cases h
      | some ns =>
        rw [e] at h; cases h
        obtain ⟨l, g⟩ := res_spec e
        refine ⟨by simp [l], fun j a q => ?_⟩
        cases j with
        | zero => simp at q; subst q; exact ⟨n, en, rfl⟩
        | succ j =>
          simp at q
          have z := g j a q
          cases a with
          | tm n => simpa using z
          | sl i => obtain ⟨n, z1, z2⟩ := z; exact ⟨n, z1, by simpa using z2⟩
    · cases h
theorem hasSl_of {i : Nat} : ∀ {as : List Av} {j : Nat}, as[j]? = some (.sl i) → hasSl i as = true
  | [], j, h => by simp at h
  | .tm _ :: r, 0, h => by simp at h
  | .tm _ :: r, j + 1, h => by simp at h; rw [hasSl]; exact hasSl_of h
  | .sl k :: r, 0, h => by simp at h; subst h; simp [hasSl]
  | .sl k :: r, j + 1, h => by simp at h; rw [hasSl, hasSl_of h]; simp
theorem okA_spec {env : E} : ∀ {as : List Av}, okA env as = true → ∀ (j k i : Nat), j < k → as[j]? = some (.sl i) → as[k]? = some (.sl i) → ∃ d, env[i]? = some (some (.fz d))
  | [], _, j, k, i, _, h, _ => by simp at h
  | .tm _ :: r, o, 0, k, i, _, h, _ => by simp at h
  | .tm _ :: r, o, j + 1, 0, i, l, h, h2 => by simp at l
  | .tm _ :: r, o, j + 1, k + 1, i, l, h, h2 => okA_spec (by rw [okA] at o; exact o) j k i (by omega) (by simpa using h) (by simpa using h2)
  | .sl s :: r, o, 0, 0, i, l, h, h2 => by simp at l
  | .sl s :: r, o, 0, k + 1, i, l, h, h2 => by
    simp at h h2
    subst h
    rw [okA] at o
    simp only [Bool.and_eq_true] at o
    obtain ⟨o, _⟩ := o
    split at o
    · rename_i m em
      rw [hasSl_of h2] at o
      cases m with
      | fz d => exact ⟨d, em⟩
      | _ => simp [isFz] at o
    · cases o
  | .sl s :: r, o, j + 1, 0, i, l, h, h2 => by simp at l
  | .sl s :: r, o, j + 1, k + 1, i, l, h, h2 => okA_spec (by rw [okA] at o; simp only [Bool.and_eq_true] at o; exact o.2) j k i (by omega) (by simpa using h) (by simpa using h2)
theorem back_length : ∀ (as : List Av) (ms env : E), (back env as ms).length = env.length
  | [], _, env => by simp [back]
  | .tm _ :: r, [], env => by simp [back]
  | .tm _ :: r, m :: ms, env => by rw [back]; exact back_length r ms env
  | .sl i :: r, [], env => by simp [back]
  | .sl i :: r, m :: ms, env => by rw [back, back_length r ms]; simp
theorem back_spec : ∀ (as : List Av) (ms env : E) (i : Nat), ms.length = as.length → i < env.length →
    (∃ (j : Nat) (o : Option M), as[j]? = some (Av.sl i) ∧ ms[j]? = some o ∧ (back env as ms)[i]? = some o) ∨ ((∀ j : Nat, as[j]? ≠ some (Av.sl i)) ∧ (back env as ms)[i]? = env[i]?)
  | [], ms, env, i, _, _ => .inr ⟨fun j h => by simp at h, by simp [back]⟩
  | .tm n :: r, [], env, i, l, _ => by simp at l
  | .sl s :: r, [], env, i, l, _ => by simp at l
  | .tm n :: r, m :: ms, env, i, l, hi => by
    rcases back_spec r ms env i (by simpa using l) hi with ⟨j, m', h1, h2, h3⟩ | ⟨h1, h2⟩
    · exact .inl ⟨j + 1, m', by simpa using h1, by simpa using h2, by rw [back]; exact h3⟩
    · refine .inr ⟨fun j h => ?_, by rw [back]; exact h2⟩
      cases j with
      | zero => simp at h
      | succ j => exact h1 j (by simpa using h)
  | .sl s :: r, m :: ms, env, i, l, hi => by
    rcases back_spec r ms (env.set s m) i (by simpa using l) (by simpa using hi) with ⟨j, m', h1, h2, h3⟩ | ⟨h1, h2⟩
    · exact .inl ⟨j + 1, m', by simpa using h1, by simpa using h2, by rw [back]; exact h3⟩
    · by_cases e : s = i
      · subst e
        exact .inl ⟨0, m, rfl, rfl, by rw [back, h2, List.getElem?_set_self hi]⟩
      · refine .inr ⟨fun j h => ?_, by rw [back, h2, List.getElem?_set_ne e]⟩
        cases j with
        | zero => simp at h; exact e h
        | succ j => exact h1 j (by simpa using h)
theorem argE_get {ms : List M} {j : Nat} {m : M} : (argE ms)[j]? = some (some m) ↔ ms[j]? = some m := by
  rw [List.getElem?_map]
  cases ms[j]? with
  | none => simp
  | some n => simp
theorem argS_get {vs : List V} {j : Nat} {v : V} : (argS vs)[j]? = some (some v) ↔ vs[j]? = some v := by
  rw [List.getElem?_map]
  cases vs[j]? with
  | none => simp
  | some n => simp
theorem RepM.fz_nil {K : PySem.W.Frag} {F H : Hp} {d : D} {v : V} {fp : List Addr} (h : RepM K F H (.fz d) v fp) : fp = [] := by cases h; rfl
/-- what the arguments own -/
def fpArg (as : List Av) (fps fpA : Nat → List Addr) (j : Nat) : List Addr := match as[j]? with
  | some (.tm _) => fpA j
  | some (.sl i) => fps i
  | none => []
section
variable {K : PySem.W.Frag} {F H : Hp} {σ : St} {env : E} {fps fpA : Nat → List Addr} {as : List Av} {vs : List V} {ms : List M}
theorem arg_own (hA : RepAs K F H σ as vs fpA) {b : Addr} (h : Own (fpArg as fps fpA) b) : Own fps b ∨ Own fpA b := by
  obtain ⟨j, hj⟩ := h
  unfold fpArg at hj
  split at hj
  · exact .inr ⟨j, hj⟩
  · exact .inl ⟨_, hj⟩
  · cases hj
theorem arg_env (R : REnv K F H σ env fps) (hA : RepAs K F H σ as vs fpA) (hd : ∀ b, Own fpA b → ¬ Own fps b) (hr : res env as = some ms) (ho : okA env as = true) : REnv K F H (argS vs) (argE ms) (fpArg as fps fpA) := by
  obtain ⟨l, g⟩ := res_spec hr
  refine ⟨R.fr, by simp [l, hA.len], fun j m h => ?_, fun j h => ?_, ?_, R.tt⟩
  · have hm := argE_get.mp h
    have hj : j < as.length := by rw [← l]; exact (List.getElem?_eq_some_iff.mp hm).1
    have ha := List.getElem?_eq_getElem hj
    obtain ⟨v, hv, r⟩ := hA.got j _ ha
    have z := g j _ ha
    refine ⟨v, argS_get.mpr hv, ?_⟩
    unfold fpArg
    rw [ha]
    generalize hx : as[j] = a at *
    cases a with
    | tm n => simp only at z; rw [hm] at z; cases z; exact r
    | sl i =>
      obtain ⟨n, z1, z2⟩ := z
      rw [hm] at z2; cases z2
      obtain ⟨w, hw, rr⟩ := R.got i m z1
      obtain ⟨r1, _⟩ := r
      rw [r1] at hw; cases hw
      exact rr
  · unfold fpArg
    split
    · rename_i m e
      have z := g j _ e
      exact absurd (argE_get.mpr z) (h m)
    · rename_i i e
      obtain ⟨m, _, z⟩ := g j _ e
      exact absurd (argE_get.mpr z) (h m)
    · rfl
  · have key : ∀ i j, i < j → ∀ b ∈ fpArg as fps fpA i, b ∉ fpArg as fps fpA j := by
      intro i j hij b hb hb2
      unfold fpArg at hb hb2
      split at hb
      · rename_i n en
        split at hb2
        · exact hA.dj i j (by omega) b hb hb2
        · exact hd b ⟨i, hb⟩ ⟨_, hb2⟩
        · cases hb2
      · rename_i s es
        split at hb2
        · exact hd b ⟨j, hb2⟩ ⟨_, hb⟩
        · rename_i t et
          by_cases e : s = t
          · subst e
            obtain ⟨d, q⟩ := okA_spec ho i j s hij es et
            obtain ⟨v, _, r⟩ := R.got s _ q
            rw [r.fz_nil] at hb; cases hb
          · exact R.dj s t e b hb hb2
        · cases hb2
      · cases hb
    intro i j hij b hb
    rcases Nat.lt_or_gt_of_ne hij with q | q
    · exact key i j q b hb
    · exact fun hb2 => key j i q b hb2 hb
/-- behind the call: the caller's slots -/
theorem arg_back {F' H' : Hp} {A' : Addr → Prop} {ms' : E} {fps' : Nat → List Addr} (R : REnv K F H σ env fps) (hA : RepAs K F H σ as vs fpA) (hd : ∀ b, Own fpA b → ¬ Own fps b) (hr : res env as = some ms)
    (R' : REnv K F' H' (argS vs) ms' fps') (ex : Ext K F H (Own (fpArg as fps fpA)) F' H' A') (hO : ∀ b, Own fps' b → A' b) :
    ∃ fpsN, REnv K F' H' σ (back env as ms') fpsN ∧ (∀ b, Own fpsN b → Own fps' b ∨ (Own fps b ∧ ¬ Own (fpArg as fps fpA) b)) := by
  obtain ⟨l, g⟩ := res_spec hr
  have l' : ms'.length = as.length := by
    have q := R'.len
    rw [List.length_map] at q
    rw [q, hA.len]
  -- where a slot stands among the arguments
  have hx : ∀ i, ∃ fp, (∀ m, (back env as ms')[i]? = some (some m) → ∃ v, σ[i]? = some (some v) ∧ RepM K F' H' m v fp) ∧ ((∀ m, (back env as ms')[i]? ≠ some (some m)) → fp = []) ∧
      ((∃ j : Nat, as[j]? = some (Av.sl i) ∧ fp = fps' j) ∨ ((∀ j : Nat, as[j]? ≠ some (Av.sl i)) ∧ fp = fps i)) := by
    intro i
    by_cases hi : i < env.length
    · rcases back_spec as ms' env i l' hi with ⟨j, m, h1, h2, h3⟩ | ⟨h1, h2⟩
      · refine ⟨fps' j, fun n hn => ?_, fun hn => R'.nil j fun n q => hn n (by rw [h3, ← h2, q]), .inl ⟨j, h1, rfl⟩⟩
        rw [h3] at hn; cases hn
        obtain ⟨v, hv, r⟩ := R'.got j n h2
        obtain ⟨w, hw, q⟩ := hA.got j _ h1
        rw [argS_get.mp hv] at hw; cases hw
        exact ⟨v, q.1, r⟩
      · refine ⟨fps i, fun n hn => ?_, fun hn => R.nil i fun m q => hn m (by rw [h2]; exact q), .inr ⟨h1, rfl⟩⟩
        rw [h2] at hn
        obtain ⟨v, hv, r⟩ := R.got i n hn
        refine ⟨v, hv, (pendM r (fun b hb q => ?_) ex).1⟩
        obtain ⟨j, hj⟩ := q
        unfold fpArg at hj
        split at hj
        · exact hd b ⟨j, hj⟩ ⟨i, hb⟩
        · rename_i s es
          by_cases e : s = i
          · subst e; exact h1 j es
          · exact R.dj s i e b hj hb
        · cases hj
    · have hn : (back env as ms')[i]? = none := List.getElem?_eq_none (by rw [back_length]; omega)
      refine ⟨fps i, (fun m h => by rw [hn] at h; cases h), (fun _ => R.nil i fun m q => by rw [List.getElem?_eq_none (by omega)] at q; cases q), .inr ⟨fun j h => ?_, rfl⟩⟩
      obtain ⟨m, q, _⟩ := g j _ h
      exact hi (List.getElem?_eq_some_iff.mp q).1
  have notArg : ∀ i, (∀ j : Nat, as[j]? ≠ some (Av.sl i)) → ∀ b ∈ fps i, ¬ Own (fpArg as fps fpA) b := by
    intro i h1 b hb ⟨j, hj⟩
    unfold fpArg at hj
    split at hj
    · exact hd b ⟨j, hj⟩ ⟨i, hb⟩
    · rename_i s es
      by_cases e : s = i
      · subst e; exact h1 j es
      · exact R.dj s i e b hj hb
    · cases hj
  refine ⟨fun i => Classical.choose (hx i), ⟨R'.fr, by rw [back_length]; exact R.len, fun i m h => (Classical.choose_spec (hx i)).1 m h, fun i h => (Classical.choose_spec (hx i)).2.1 h, fun i k hik b hb hb2 => ?_, R'.tt⟩, fun b ⟨i, hb⟩ => ?_⟩
  · have live : ∀ c i, c ∈ fps i → ∃ o, H c = some o := fun c i h => (R.live ⟨i, h⟩).1
    have cross : ∀ (i k j : Nat), (∀ j : Nat, as[j]? ≠ some (Av.sl i)) → b ∈ fps i → b ∈ fps' j → False := by
      intro i k j h1 hb hb2
      rcases ex.own b (hO b ⟨j, hb2⟩) with q | q
      · exact notArg i h1 b hb q
      · obtain ⟨o, ho⟩ := live b i hb
        rw [ho] at q; cases q
    rcases (Classical.choose_spec (hx i)).2.2 with ⟨j, h1, e1⟩ | ⟨h1, e1⟩
    · rcases (Classical.choose_spec (hx k)).2.2 with ⟨j2, h2, e2⟩ | ⟨h2, e2⟩
      · rw [e1] at hb; rw [e2] at hb2
        refine R'.dj j j2 (fun q => ?_) b hb hb2
        subst q
        rw [h1] at h2; cases h2; exact hik rfl
      · rw [e1] at hb; rw [e2] at hb2
        exact cross k i j h2 hb2 hb
    · rcases (Classical.choose_spec (hx k)).2.2 with ⟨j2, h2, e2⟩ | ⟨h2, e2⟩
      · rw [e1] at hb; rw [e2] at hb2
        exact cross i k j2 h1 hb hb2
      · rw [e1] at hb; rw [e2] at hb2
        exact R.dj i k hik b hb hb2
  · rcases (Classical.choose_spec (hx i)).2.2 with ⟨j, h1, e1⟩ | ⟨h1, e1⟩
    · simp only [e1] at hb; exact .inl ⟨j, hb⟩
    · simp only [e1] at hb; exact .inr ⟨⟨i, hb⟩, notArg i h1 b hb⟩
theorem prim_sound {W : WX} {g : FP} {Q : VK} (R : REnv K F H σ env fps) (hA : RepAs K F H σ as vs fpA) (hd : ∀ b, Own fpA b → ¬ Own fps b)
    (post : poE K W σ F H (fun b => Own fps b ∨ Own fpA b) (runP g as env) Q) : spOf K g vs H Q (fun cls d H' => W cls d σ H') := by
  unfold runP at post
  cases hr : res env as with
  | none => rw [hr] at post; exact post.elim
  | some ms =>
    rw [hr] at post
    simp only at post
    cases ho : okA env as with
    | false => rw [ho] at post; exact post.elim
    | true =>
      rw [ho] at post
      simp only at post
      refine ⟨F, ms, fpArg as fps fpA, arg_env R hA hd hr ho, ?_⟩
      cases hg : g ms with
      | none => rw [hg] at post; exact post.elim
      | some o =>
        rw [hg] at post
        cases o with
        | ok m ms' =>
          simp only at post
          intro v F' H' fps' fp R' r dd ex
          obtain ⟨fpsN, RN, hN⟩ := arg_back R hA hd hr R' ex fun b h => .inl h
          refine post v F' H' fpsN fp RN r (fun b hb q => ?_) ⟨ex.ff, fun b o h n => ex.keep b o h fun a => n (arg_own hA a), fun b h => ?_, fun b o h => (ex.fz b o h).imp id fun q => q.imp (fun a => arg_own hA a) id, ex.tt⟩
          · rcases hN b q with q | ⟨q, n⟩
            · exact dd b hb q
            · rcases ex.own b (.inr hb) with z | z
              · exact n z
              · obtain ⟨⟨o, ho⟩, _⟩ := R.live q
                rw [ho] at z; cases z
          · rcases h with h | h
            · rcases hN b h with q | ⟨q, n⟩
              · exact (ex.own b (.inl q)).imp (fun a => arg_own hA a) id
              · exact .inl (.inl q)
            · exact (ex.own b (.inr h)).imp (fun a => arg_own hA a) id
        | ex x ms' =>
          simp only at post
          intro cls d F' H' fps' R' r ex
          obtain ⟨fpsN, RN, hN⟩ := arg_back R hA hd hr R' ex fun b h => h
          refine post cls d F' H' fpsN RN r ⟨ex.ff, fun b o h n => ex.keep b o h fun a => n (arg_own hA a), fun b h => ?_, fun b o h => (ex.fz b o h).imp id fun q => q.imp (fun a => arg_own hA a) id, ex.tt⟩
          rcases hN b h with q | ⟨q, n⟩
          · exact (ex.own b q).imp (fun a => arg_own hA a) id
          · exact .inl (.inl q)
end
end Ink
set_option Elab.async false
set_option linter.all false
set_option maxRecDepth 100000
namespace Ink
open PySem L2
section
variable {K : PySem.W.Frag} {W : WX} {σ : St} {H : Hp}
theorem rE_imp {f : FE} {Q Q' : VK} (h : ∀ v H', Q v H' → Q' v H') (p : rE K W f σ H Q) : rE K W f σ H Q' := by
  obtain ⟨F, env, fps, R, p⟩ := p
  refine ⟨F, env, fps, R, ?_⟩
  cases o : f env with
  | none => rw [o] at p; exact p
  | some z =>
    rw [o] at p
    cases z with
    | ok a e => exact fun v F' H' fps' fp a b c d => h _ _ (p v F' H' fps' fp a b c d)
    | ex x e => exact p
theorem rA_imp {f : FA} {Q Q' : List V → Hp → Prop} (h : ∀ v H', Q v H' → Q' v H') (p : rA K W f σ H Q) : rA K W f σ H Q' := by
  obtain ⟨F, env, fps, R, p⟩ := p
  refine ⟨F, env, fps, R, ?_⟩
  cases o : f env with
  | none => rw [o] at p; exact p
  | some z =>
    rw [o] at p
    cases z with
    | ok a e => exact fun v F' H' fps' fp a b c d => h _ _ (p v F' H' fps' fp a b c d)
    | ex x e => exact p
theorem ra_nil {Q : List V → Hp → Prop} (p : rA K W nilA σ H Q) : Q [] H := by
  obtain ⟨F, env, fps, R, p⟩ := p
  exact p [] F H fps (fun _ => []) R .nil' (fun b ⟨_, h⟩ => by cases h) (Ext.refl fun b h => h.elim id fun ⟨_, q⟩ => by cases q)
theorem ra_cons {f : FE} {g : FA} {Q : List V → Hp → Prop} (p : rA K W (consA f g) σ H Q) : rE K W f σ H fun x H1 => rA K W g σ H1 fun xs H2 => Q (x :: xs) H2 := by
  obtain ⟨F, env, fps, R, p⟩ := p
  refine ⟨F, env, fps, R, ?_⟩
  unfold consA at p
  cases ef : f env with
  | none => rw [ef] at p; exact p
  | some o =>
    cases o with
    | ex x env1 => rw [ef] at p; exact p
    | ok a env1 =>
      rw [ef] at p
      simp only [bindO_ok] at p
      intro v F1 H1 fps1 fp R1 r d e1
      refine ⟨F1, env1, fps1, R1, ?_⟩
      cases eg : g env1 with
      | none => rw [eg] at p; exact p
      | some o2 =>
        cases o2 with
        | ex x env2 => rw [eg] at p; exact PX.wide p e1 fun _ h => .inl h
        | ok as env2 =>
          rw [eg] at p
          intro vs F2 H2 fps2 fpA R2 rs d2 e2
          obtain ⟨r2, dd⟩ := pendA r d e2
          refine p (v :: vs) F2 H2 fps2 (fcons fp fpA) R2 (RepAs.cons' r2 rs fun b hb q => dd b hb (.inr q)) (fun b hb q => ?_) (e1.trans e2 (fun _ h => .inl h) fun b h => ?_)
          · rcases own_fcons.mp hb with hb | hb
            · exact dd b hb (.inl q)
            · exact d2 b hb q
          · rcases h with h | h
            · exact .inl (.inl h)
            · rcases own_fcons.mp h with h | h
              · exact .inr (.inr h)
              · exact .inl (.inr h)
end
/-- a call by a mirror of what is called -/
def callE (g : FP) (fa : FA) : FE := fun env => bindO (fa env) fun as env1 => runP g as env1
theorem r_call {K : PySem.W.Frag} {W : WX} {σ : St} {H : Hp} {g : FP} {fa : FA} {Q : VK} (p : rE K W (callE g fa) σ H Q) : rA K W fa σ H fun vs H1 => spOf K g vs H1 Q (fun c d H' => W c d σ H') := by
  obtain ⟨F, env, fps, R, p⟩ := p
  refine ⟨F, env, fps, R, ?_⟩
  unfold callE at p
  cases ef : fa env with
  | none => rw [ef] at p; exact p
  | some o =>
    cases o with
    | ex x env1 => rw [ef] at p; exact p
    | ok as env1 =>
      rw [ef] at p
      simp only [bindO_ok] at p
      intro vs F1 H1 fps1 fpA R1 r d e1
      exact prim_sound R1 r d (poE.wide p e1 fun b h => h)
/-- readers: the things stay as they are -/
def g1 (h : M → Option M) : FP := fun ms => match ms with
  | [a] => match h a with
    | some m => some (.ok m [some a])
    | none => none
  | _ => none
def g2 (h : M → M → Option M) : FP := fun ms => match ms with
  | [a, b] => match h a b with
    | some m => some (.ok m [some a, some b])
    | none => none
  | _ => none
def g3 (h : M → M → M → Option M) : FP := fun ms => match ms with
  | [a, b, c] => match h a b c with
    | some m => some (.ok m [some a, some b, some c])
    | none => none
  | _ => none
section
variable {K : PySem.W.Frag} {F H : Hp} {vs : List V} {ms : List M} {fps : Nat → List Addr} {Q : VK} {Ex : XK}
theorem sp_flat {v : V} {d : D} (R : REnv K F H (argS vs) (argE ms) fps) (r : Rep K F v d) (p : poP K F H (Own fps) vs (some (.ok (.fz d) (argE ms))) Q Ex) : Q v H :=
  p v F H fps [] R (.fz r) Own.not_nil (Ext.refl fun b h => h.elim id fun q => by cases q)
theorem reps_ms {ws : List V} {ds : List D} (r : Reps K F ws ds) : RepMs K F H (ds.map .fz) ws [] := by
  induction ds generalizing ws with
  | nil => cases r; exact .nil
  | cons d ds ih =>
    cases r with
    | cons a b => exact RepMs.cons (fp := []) (.fz a) (ih b) (fun b hb => by cases hb)
theorem sp_lst {ws : List V} {ds : List D} (R : REnv K F H (argS vs) (argE ms) fps) (r : Reps K F ws ds) (p : poP K F H (Own fps) vs (some (.ok (.lst (ds.map .fz)) (argE ms))) Q Ex) : ∀ q, H q = none → Q (.ref q) (upd H q (.lst ws)) := fun q hq => by
  have e : Ext K F H (fun _ => False) F (upd H q (.lst ws)) (fun b => False ∨ b = q) := Ext.new hq
  have no : ∀ b, Own fps b → ¬ b = q := fun b hb e => by
    obtain ⟨⟨o, ho⟩, _⟩ := R.live hb
    rw [e, hq] at ho; cases ho
  obtain ⟨R', _⟩ := R.frame (fun b _ h => h) e (sub_new R.fr hq)
  refine p (.ref q) F _ fps [q] R' (.lst upd_same (sub_none R.fr hq) (reps_ms r) (by simp)) (fun b hb h => no b h (by simpa using hb)) ?_
  exact (Ext.new hq).weak fun b h => h.imp id fun z => by simpa using z
theorem sp_tup {ws : List V} {ds : List D} (R : REnv K F H (argS vs) (argE ms) fps) (r : Reps K F ws ds) (p : poP K F H (Own fps) vs (some (.ok (.fz (.tup ds)) (argE ms))) Q Ex) : ∀ q, H q = none → Q (.ref q) (upd H q (.tup ws)) := fun q hq => by
  have e : Ext K F H (fun _ => False) (upd F q (.tup ws)) (upd H q (.tup ws)) (fun _ => False) := Ext.newF R.fr hq
  obtain ⟨R', _⟩ := R.frame (fun b _ h => h) e (sub_upd R.fr)
  refine p (.ref q) _ _ fps [] R' (.fz (.tup upd_same (r.mono e.ff))) Own.not_nil ?_
  exact (Ext.newF R.fr hq).weak fun b h => h.elim id fun q => by cases q
theorem args1 {x : V} (R : REnv K F H (argS [x]) (argE ms) fps) : ∃ a, ms = [a] ∧ RepM K F H a x (fps 0) := by
  match ms, R.len with
  | [a], _ =>
    obtain ⟨v, hv, r⟩ := R.got 0 a rfl
    cases hv
    exact ⟨a, rfl, r⟩
theorem args2 {x y : V} (R : REnv K F H (argS [x, y]) (argE ms) fps) : ∃ a b, ms = [a, b] ∧ RepM K F H a x (fps 0) ∧ RepM K F H b y (fps 1) := by
  match ms, R.len with
  | [a, b], _ =>
    obtain ⟨v, hv, r⟩ := R.got 0 a rfl
    cases hv
    obtain ⟨w, hw, r2⟩ := R.got 1 b rfl
    cases hw
    exact ⟨a, b, rfl, r, r2⟩
end
section
variable {K : PySem.W.Frag} {F H : Hp}
theorem rep_int {v : V} {i : Int} (h : Rep K F v (.int i)) : v = .int i := by cases h; rfl
theorem rep_bl {v : V} {i : Bool} (h : Rep K F v (.bl i)) : v = .bl i := by cases h; rfl
theorem rep_str {v : V} {i : Str} (h : Rep K F v (.str i)) : v = .str i := by cases h; rfl
theorem rep_non {v : V} (h : Rep K F v .non) : v = .non := by cases h; rfl
theorem repm_fz {d : D} {v : V} {fp : List Addr} (h : RepM K F H (.fz d) v fp) : Rep K F v d := by cases h; assumption
theorem repm_lst {ms : List M} {v : V} {fp : List Addr} (h : RepM K F H (.lst ms) v fp) : ∃ p vs fq, v = .ref p ∧ H p = some (.lst vs) ∧ F p = none ∧ RepMs K F H ms vs fq ∧ p ∉ fq ∧ fp = p :: fq := by
  cases h with
  | lst a f b n => exact ⟨_, _, _, rfl, a, f, b, n, rfl⟩
/-- the items of a list that holds plain data -/
def unfz : List M → Option (List D)
  | [] => some []
  | .fz d :: r => match unfz r with
    | some ds => some (d :: ds)
    | none => none
  | _ => none
def lstD : M → Option (List D)
  | .fz (.lst ds) => some ds
  | .lst ms => unfz ms
  | _ => none
/-- .. of a list or a tuple -/
def seqD : M → Option (List D)
  | .fz (.lst ds) => some ds
  | .fz (.tup ds) => some ds
  | .fz .emp => some []
  | .lst ms => unfz ms
  | _ => none
theorem unfz_map (ds : List D) : unfz (ds.map M.fz) = some ds := by
  induction ds with
  | nil => rfl
  | cons d ds ih => simp only [List.map_cons, unfz, ih]
theorem unfz_reps : ∀ {ms : List M} {vs : List V} {fp : List Addr} {ds : List D}, RepMs K F H ms vs fp → unfz ms = some ds → Reps K F vs ds
  | [], _, _, _, .nil, e => by rw [unfz] at e; cases e; exact .nil
  | .fz d :: r, _, _, ds, .cons a b _, e => by
    rw [unfz] at e
    cases q : unfz r with
    | none => rw [q] at e; cases e
    | some es => rw [q] at e; cases e; exact .cons (repm_fz a) (unfz_reps b q)
  | .lst _ :: r, _, _, ds, .cons a b _, e => by simp [unfz] at e
  | .tup _ :: r, _, _, ds, .cons a b _, e => by simp [unfz] at e
  | .dK _ :: r, _, _, ds, .cons a b _, e => by simp [unfz] at e
  | .dT _ :: r, _, _, ds, .cons a b _, e => by simp [unfz] at e
  | .ins _ _ :: r, _, _, ds, .cons a b _, e => by simp [unfz] at e
theorem lstD_rep {m : M} {v : V} {fp : List Addr} {ds : List D} (s : Sub F H) (h : RepM K F H m v fp) (e : lstD m = some ds) : ∃ p vs, v = .ref p ∧ H p = some (.lst vs) ∧ Reps K F vs ds := by
  cases m with
  | fz d =>
    cases d with
    | lst es =>
      cases e
      cases repm_fz h with
      | lst a b => exact ⟨_, _, rfl, s _ _ a, b⟩
    | _ => cases e
  | lst ms =>
    cases h with
    | lst a f b n => exact ⟨_, _, rfl, a, unfz_reps b e⟩
  | _ => cases e
theorem seqD_rep {m : M} {v : V} {fp : List Addr} {ds : List D} (s : Sub F H) (h : RepM K F H m v fp) (e : seqD m = some ds) : ∃ p vs, v = .ref p ∧ (SqL K H p vs ∨ SqT K H p vs) ∧ Reps K F vs ds := by
  cases m with
  | fz d =>
    cases d with
    | lst es =>
      cases e
      cases repm_fz h with
      | lst a b => exact ⟨_, _, rfl, .inl (SqL.of (s _ _ a)), b⟩
    | tup es =>
      cases e
      cases repm_fz h with
      | tupR a b => exact ⟨_, _, rfl, .inr (a.sqt s), b⟩
    | emp =>
      cases e
      cases repm_fz h with
      | emp a => exact ⟨_, _, rfl, .inr (s.sqt a), .nil⟩
    | _ => cases e
  | lst ms =>
    cases h with
    | lst a f b n => exact ⟨_, _, rfl, .inl (SqL.of a), unfz_reps b e⟩
  | _ => cases e
theorem emp_rep {v : V} (s : Sub F H) (h : Rep K F v .emp) : ∃ p, v = .ref p ∧ SqT K H p [] := by
  cases h with
  | emp a => exact ⟨_, rfl, s.sqt a⟩
theorem tup_rep {ds : List D} {v : V} (s : Sub F H) (h : Rep K F v (.tup ds)) : ∃ p vs, v = .ref p ∧ SqT K H p vs ∧ Reps K F vs ds := by
  cases h with
  | tupR a b => exact ⟨_, _, rfl, a.sqt s, b⟩
end
def Op2 (K : PySem.W.Frag) (g : FP) (r : R2) : Prop := ∀ x y H Q Ex, spOf K g [x, y] H Q Ex → r x y H Q
def Op1 (K : PySem.W.Frag) (g : FP) (r : V → Hp → VK → Prop) : Prop := ∀ x H Q Ex, spOf K g [x] H Q Ex → r x H Q
def OpC (K : PySem.W.Frag) (g : FP) (r : List V → Hp → VK → Prop) : Prop := ∀ vs H Q Ex, spOf K g vs H Q Ex → r vs H Q
abbrev arg1 (fa : FE) : FA := consA fa nilA
abbrev arg2 (fa fb : FE) : FA := consA fa (consA fb nilA)
abbrev arg3 (fa fb fc : FE) : FA := consA fa (consA fb (consA fc nilA))
section
variable {X : Cx} {W : WX} {a b c : Expr} {fa fb fc : FE} {g : FP} {pos : Pos}
theorem r_two {K : PySem.W.Frag} {r : R2} (hp : Op2 K g r) : ∀ σ H Q, rE K W (callE g (arg2 fa fb)) σ H Q → tOp r (rE K W fa) (rE K W fb) σ H Q := fun σ H Q p =>
  rE_imp (fun x H1 p1 => rE_imp (fun y H2 p2 => hp x y H2 Q _ (ra_nil p2)) (ra_cons p1)) (ra_cons (r_call p))
theorem r_one {K : PySem.W.Frag} {r : V → Hp → VK → Prop} (hp : Op1 K g r) : ∀ σ H Q, rE K W (callE g (arg1 fa)) σ H Q → tUn r (rE K W fa) σ H Q := fun σ H Q p =>
  rE_imp (fun x H1 p1 => hp x H1 Q _ (ra_nil p1)) (ra_cons (r_call p))
theorem e_op {op : Operator} {r : R2} (ho : OpR X (binaryOp op) r) (hp : Op2 X.K g r) (ha : PE X a (rE X.K W fa)) (hb : PE X b (rE X.K W fb)) : PE X (.BinOp a op b pos) (rE X.K W (callE g (arg2 fa fb))) := PE_mono (pe_op ho ha hb) (r_two hp)
theorem e_cmp {op : CmpOp} {r : R2} (ho : OpR X (compareOp op) r) (hp : Op2 X.K g r) (ha : PE X a (rE X.K W fa)) (hb : PE X b (rE X.K W fb)) (hm : behindInMarks op b = false) : PE X (.Compare a [op] [b] pos) (rE X.K W (callE g (arg2 fa fb))) := PE_mono (pe_cmpR ho ha hb hm) (r_two hp)
theorem e_un {op : UnaryOp} {r : V → Hp → VK → Prop} (ho : UnR X (unaryOp op) r) (hp : Op1 X.K g r) (ha : PE X a (rE X.K W fa)) : PE X (.UnaryOp op a pos) (rE X.K W (callE g (arg1 fa))) := PE_mono (pe_un ho ha) (r_one hp)
theorem e_ix {r : R2} (ho : IxR X r) (hp : Op2 X.K g r) (ha : PE X a (rE X.K W fa)) (hb : PE X b (rE X.K W fb)) (hs : PlainIx b) : PE X (.Subscript a b pos) (rE X.K W (callE g (arg2 fa fb))) := PE_mono (pe_ix ho ha hb hs) (r_two hp)
variable {e : Expr} {es : List Expr} {f : FA} {x : Str} {p : Pos} {id T : String}
theorem e_callB {r : List V → Hp → VK → Prop} (hc : CallR X (.builtin id) r) (hp : OpC X.K g r) (hg : Gl X x) (hm : X.mg x = none) (hv : bootBuiltins x = some (.builtin id)) (ha : PA X (e :: es) (rA X.K W f)) (hn : x ≠ "__name__" := by decide) (hdb : (x == ("__debug__" : Str)) = false := by decide)
    (he : starEach (e :: es) X.env = (false, eval e X.env) :: starEach es X.env := by rfl) (hpl : (backTo pos (starEach es X.env)).any (·.1) = false := by rfl) : PE X (.Call (.Name x p) (e :: es) [] pos) (rE X.K W (callE g f)) :=
  PE_mono (pe_callB hc hg hm hv ha hn hdb he hpl) fun σ H Q q => rA_imp (fun vs H1 z => hp vs H1 Q _ z) (r_call q)
theorem e_callTy {r : List V → Hp → VK → Prop} (hc : CallR X (.type T) r) (hp : OpC X.K g r) (hg : Gl X x) (hm : X.mg x = none) (hv : bootBuiltins x = some (.type T)) (ha : PA X (e :: es) (rA X.K W f)) (hn : x ≠ "__name__" := by decide) (hdb : (x == ("__debug__" : Str)) = false := by decide)
    (he : starEach (e :: es) X.env = (false, eval e X.env) :: starEach es X.env := by rfl) (hpl : (backTo pos (starEach es X.env)).any (·.1) = false := by rfl) : PE X (.Call (.Name x p) (e :: es) [] pos) (rE X.K W (callE g f)) :=
  PE_mono (pe_callTy hc hg hm hv ha hn hdb he hpl) fun σ H Q q => rA_imp (fun vs H1 z => hp vs H1 Q _ z) (r_call q)
end
def intM (c : Int → Int → Bool) (f : Int → Int → D) : M → M → Option M
  | .fz (.int i), .fz (.int j) => match c i j with
    | true => some (.fz (f i j))
    | false => none
  | _, _ => none
section
variable {K : PySem.W.Frag}
theorem g2_at {h : M → M → Option M} {x y : V} {H : Hp} {Q : VK} {Ex : XK} (p : spOf K (g2 h) [x, y] H Q Ex) : ∃ F a b m fps, REnv K F H (argS [x, y]) (argE [a, b]) fps ∧ RepM K F H a x (fps 0) ∧ RepM K F H b y (fps 1) ∧ h a b = some m ∧ poP K F H (Own fps) [x, y] (some (.ok m [some a, some b])) Q Ex := by
  obtain ⟨F, ms, fps, R, p⟩ := p
  obtain ⟨a, b, rfl, r1, r2⟩ := args2 R
  unfold g2 at p
  simp only at p
  cases e : h a b with
  | none => rw [e] at p; exact p.elim
  | some m => rw [e] at p; exact ⟨F, a, b, m, fps, R, r1, r2, e, p⟩
theorem g1_at {h : M → Option M} {vs : List V} {H : Hp} {Q : VK} {Ex : XK} (p : spOf K (g1 h) vs H Q Ex) : ∃ x F a m fps, vs = [x] ∧ REnv K F H (argS [x]) (argE [a]) fps ∧ RepM K F H a x (fps 0) ∧ h a = some m ∧ poP K F H (Own fps) [x] (some (.ok m [some a])) Q Ex := by
  obtain ⟨F, ms, fps, R, p⟩ := p
  unfold g1 at p
  have l := R.len
  split at p
  · rename_i a
    simp at l
    match vs, l with
    | [x], _ =>
      obtain ⟨a', e', r⟩ := args1 R
      cases e'
      cases e : h a with
      | none => rw [e] at p; exact p.elim
      | some m => rw [e] at p; exact ⟨x, F, a, m, fps, rfl, R, r, e, p⟩
  · exact p.elim
theorem g2_atC {h : M → M → Option M} {vs : List V} {H : Hp} {Q : VK} {Ex : XK} (p : spOf K (g2 h) vs H Q Ex) : ∃ x y F a b m fps, vs = [x, y] ∧ REnv K F H (argS [x, y]) (argE [a, b]) fps ∧ RepM K F H a x (fps 0) ∧ RepM K F H b y (fps 1) ∧ h a b = some m ∧ poP K F H (Own fps) [x, y] (some (.ok m [some a, some b])) Q Ex := by
  have q := p
  obtain ⟨F, ms, fps, R, p⟩ := p
  unfold g2 at p
  have l := R.len
  split at p
  · rename_i a b
    simp at l
    match vs, l with
    | [x, y], _ =>
      obtain ⟨F, a, b, m, fps, h⟩ := g2_at q
      exact ⟨x, y, F, a, b, m, fps, rfl, h⟩
  · exact p.elim
theorem intM_at {c : Int → Int → Bool} {f : Int → Int → D} {a b m : M} (e : intM c f a b = some m) : ∃ i j, a = .fz (.int i) ∧ b = .fz (.int j) ∧ c i j = true ∧ m = .fz (f i j) := by
  unfold intM at e
  split at e
  · rename_i i j
    cases hc : c i j with
    | false => rw [hc] at e; cases e
    | true => rw [hc] at e; cases e; exact ⟨i, j, rfl, rfl, hc, rfl⟩
  · cases e
theorem op2_int {c : Int → Int → Bool} {f : Int → Int → D} {C : Int → Int → Prop} {gV : Int → Int → V} (hc : ∀ i j, c i j = true → C i j) (hr : ∀ i j F, Rep K F (gV i j) (f i j)) : Op2 K (g2 (intM c f)) (rI C gV) := fun x y H Q Ex p => by
  obtain ⟨F, a, b, m, fps, R, r1, r2, e, p⟩ := g2_at p
  obtain ⟨i, j, rfl, rfl, h, rfl⟩ := intM_at e
  obtain rfl := rep_int (repm_fz r1)
  obtain rfl := rep_int (repm_fz r2)
  exact ⟨i, j, rfl, rfl, hc i j h, sp_flat R (hr i j F) p⟩
theorem op2_int0 {f : Int → Int → D} {gV : Int → Int → V} (hr : ∀ i j F, Rep K F (gV i j) (f i j)) : Op2 K (g2 (intM (fun _ _ => true) f)) (rI0 gV) := fun x y H Q Ex p => by
  obtain ⟨F, a, b, m, fps, R, r1, r2, e, p⟩ := g2_at p
  obtain ⟨i, j, rfl, rfl, h, rfl⟩ := intM_at e
  obtain rfl := rep_int (repm_fz r1)
  obtain rfl := rep_int (repm_fz r2)
  exact ⟨i, j, rfl, rfl, sp_flat R (hr i j F) p⟩
end
abbrev subG : FP := g2 (intM (fun _ _ => true) fun i j => .int (i - j))
def mulC (i j : Int) : Bool := (decide (-(2 ^ 64) < i) && decide (i < 2 ^ 64)) || (decide (-(2 ^ 64) < j) && decide (j < 2 ^ 64))
def divC (_ j : Int) : Bool := decide (0 < j) && decide (j < 1208925819614629174706176)
def modC (_ j : Int) : Bool := decide (0 < j)
def powC (i j : Int) : Bool := decide (0 ≤ j) && (decide (j ≤ 1000000) && decide (i.natAbs < 2 ^ 64))
abbrev fdivG : FP := g2 (intM divC fun i j => .int (i / j))
abbrev modG : FP := g2 (intM modC fun i j => .int (i % j))
abbrev powG : FP := g2 (intM powC fun i j => .int (i ^ j.toNat))
abbrev ltG : FP := g2 (intM (fun _ _ => true) fun i j => .bl (decide (i < j)))
abbrev leG : FP := g2 (intM (fun _ _ => true) fun i j => .bl (decide (i ≤ j)))
abbrev geG : FP := g2 (intM (fun _ _ => true) fun i j => .bl (decide (j ≤ i)))
section
variable {X : Cx} {W : WX} {a b : Expr} {fa fb : FE} {pos : Pos}
theorem e_sub (ha : PE X a (rE X.K W fa)) (hb : PE X b (rE X.K W fb)) : PE X (.BinOp a .Sub b pos) (rE X.K W (callE subG (arg2 fa fb))) := e_op op_sub (op2_int0 fun i j F => .int _) ha hb
theorem e_fdiv (ha : PE X a (rE X.K W fa)) (hb : PE X b (rE X.K W fb)) : PE X (.BinOp a .FloorDiv b pos) (rE X.K W (callE fdivG (arg2 fa fb))) := e_op op_fdivW (op2_int (fun i j h => by
    have h : (0 : Int) < j ∧ j < 1208925819614629174706176 := by simpa [divC] using h
    have h2 : j.natAbs < 2 ^ 80 := by omega
    exact wide_div h.1 h2 (by omega) (by omega)) fun i j F => .int _) ha hb
theorem e_mod (ha : PE X a (rE X.K W fa)) (hb : PE X b (rE X.K W fb)) : PE X (.BinOp a .Mod b pos) (rE X.K W (callE modG (arg2 fa fb))) := e_op op_mod (op2_int (fun i j h => by simpa [modC] using h) fun i j F => .int _) ha hb
theorem e_pow (ha : PE X a (rE X.K W fa)) (hb : PE X b (rE X.K W fb)) : PE X (.BinOp a .Pow b pos) (rE X.K W (callE powG (arg2 fa fb))) := e_op op_pow (op2_int (fun i j h => by
  simp only [powC, Bool.and_eq_true, decide_eq_true_eq] at h; exact h) fun i j F => .int _) ha hb
theorem e_lt (ha : PE X a (rE X.K W fa)) (hb : PE X b (rE X.K W fb)) : PE X (.Compare a [.Lt] [b] pos) (rE X.K W (callE ltG (arg2 fa fb))) := e_cmp op_lt (op2_int0 fun i j F => .bl _) ha hb (nomark _)
theorem e_le (ha : PE X a (rE X.K W fa)) (hb : PE X b (rE X.K W fb)) : PE X (.Compare a [.LtE] [b] pos) (rE X.K W (callE leG (arg2 fa fb))) := e_cmp op_le (op2_int0 fun i j F => .bl _) ha hb (nomark _)
end
/-- -n -/
def negM : M → Option M
  | .fz (.int i) => some (.fz (.int (-i)))
  | _ => none
def absM : M → Option M
  | .fz (.int i) => some (.fz (.int (if i < 0 then -i else i)))
  | _ => none
section
variable {X : Cx} {W : WX} {a : Expr} {fa : FE} {pos : Pos}
theorem e_neg (ha : PE X a (rE X.K W fa)) : PE X (.UnaryOp .USub a pos) (rE X.K W (callE (g1 negM) (arg1 fa))) := e_un un_neg (fun x H Q Ex p => by
  obtain ⟨x', F, m, m', fps, e, R, r, h, p⟩ := g1_at p
  cases e
  unfold negM at h
  split at h
  · cases h
    obtain rfl := rep_int (repm_fz r)
    exact ⟨_, rfl, sp_flat R (.int _) p⟩
  · cases h) ha
end
def addM : M → M → Option M
  | .fz (.int i), .fz (.int j) => some (.fz (.int (i + j)))
  | .fz (.str s), .fz (.str t) => if s.length + t.length ≤ sizeLine then some (.fz (.str (s ++ t))) else none
  | .fz (.tup s), .fz (.tup t) => if s.length + t.length ≤ sizeLine then some (.fz (.tup (s ++ t))) else none
  | .fz .emp, .fz (.tup t) => if t.length ≤ sizeLine then some (.fz (.tup t)) else none
  | .fz (.tup s), .fz .emp => if s.length ≤ sizeLine then (if s.isEmpty then some (.fz .emp) else some (.fz (.tup s))) else none
  | .fz .emp, .fz .emp => some (.fz .emp)
  | a, b => match lstD a with
    | some s => match lstD b with
      | some t => if s.length + t.length ≤ sizeLine then some (.lst ((s ++ t).map .fz)) else none
      | none => none
    | none => none
abbrev addG : FP := g2 addM
section
variable {X : Cx} {W : WX} {a b : Expr} {fa fb : FE} {pos : Pos}
theorem op2_add {K : PySem.W.Frag} : Op2 K addG (fun x y H Q => rI0 (fun i j => .int (i + j)) x y H Q ∨ ((∃ i j, x = .str i ∧ y = .str j ∧ i.length + j.length ≤ sizeLine ∧ Q (.str (i ++ j)) H) ∨ (rCatA K x y H Q ∨ rCat x y H Q))) := fun x y H Q Ex p => by
  obtain ⟨F, a, b, m, fps, R, r1, r2, e, p⟩ := g2_at p
  unfold addM at e
  split at e
  · cases e
    obtain rfl := rep_int (repm_fz r1)
    obtain rfl := rep_int (repm_fz r2)
    exact .inl ⟨_, _, rfl, rfl, sp_flat R (.int _) p⟩
  · split at e
    · rename_i hl
      cases e
      obtain rfl := rep_str (repm_fz r1)
      obtain rfl := rep_str (repm_fz r2)
      exact .inr (.inl ⟨_, _, rfl, rfl, hl, sp_flat R (.str _) p⟩)
    · cases e
  · split at e
    · rename_i s t hl
      cases e
      obtain ⟨p1, vs1, rfl, q1, rs1⟩ := tup_rep R.fr (repm_fz r1)
      obtain ⟨p2, vs2, rfl, q2, rs2⟩ := tup_rep R.fr (repm_fz r2)
      refine .inr (.inr (.inl ⟨p1, p2, vs1, vs2, rfl, rfl, q1, q2, by rw [rs1.length, rs2.length]; exact hl, fun z => ?_, fun z1 z2 => ?_, fun z1 z2 => sp_tup R (rs1.append rs2) p⟩))
      · subst z
        have hs : s = [] := List.eq_nil_of_length_eq_zero rs1.length.symm
        subst hs
        exact sp_flat R (repm_fz r2) p
      · subst z2
        have hs : t = [] := List.eq_nil_of_length_eq_zero rs2.length.symm
        subst hs
        rw [List.append_nil] at p
        exact sp_flat R (repm_fz r1) p
    · cases e
  · split at e
    · rename_i t hl
      cases e
      obtain ⟨p1, rfl, q1⟩ := emp_rep R.fr (repm_fz r1)
      obtain ⟨p2, vs2, rfl, q2, rs2⟩ := tup_rep R.fr (repm_fz r2)
      refine .inr (.inr (.inl ⟨p1, p2, [], vs2, rfl, rfl, q1, q2, by rw [rs2.length]; simpa using hl, fun _ => sp_flat R (repm_fz r2) p, fun z => (z rfl).elim, fun z => (z rfl).elim⟩))
    · cases e
  · split at e
    · rename_i s hl
      obtain ⟨p1, vs1, rfl, q1, rs1⟩ := tup_rep R.fr (repm_fz r1)
      obtain ⟨p2, rfl, q2⟩ := emp_rep R.fr (repm_fz r2)
      have l1 := rs1.length
      refine .inr (.inr (.inl ⟨p1, p2, vs1, [], rfl, rfl, q1, q2, by rw [l1]; simpa using hl, fun z => ?_, fun z1 _ => ?_, fun _ z => (z rfl).elim⟩))
      · subst z
        have hs : s = [] := List.eq_nil_of_length_eq_zero l1.symm
        subst hs
        cases e
        exact sp_flat R (repm_fz r2) p
      · have hs : s.isEmpty = false := by
          cases s with
          | nil => exact (z1 (List.eq_nil_of_length_eq_zero (by rw [l1]; rfl))).elim
          | cons _ _ => rfl
        rw [hs] at e
        cases e
        exact sp_flat R (repm_fz r1) p
    · cases e
  · cases e
    obtain ⟨p1, rfl, q1⟩ := emp_rep R.fr (repm_fz r1)
    obtain ⟨p2, rfl, q2⟩ := emp_rep R.fr (repm_fz r2)
    exact .inr (.inr (.inl ⟨p1, p2, [], [], rfl, rfl, q1, q2, by simp, fun _ => sp_flat R (repm_fz r2) p, fun z => (z rfl).elim, fun z => (z rfl).elim⟩))
  · cases e1 : lstD a with
    | none => rw [e1] at e; cases e
    | some s =>
      rw [e1] at e
      cases e2 : lstD b with
      | none => rw [e2] at e; cases e
      | some t =>
        rw [e2] at e
        simp only at e
        split at e
        · rename_i hl
          cases e
          obtain ⟨p1, vs1, rfl, q1, rs1⟩ := lstD_rep R.fr r1 e1
          obtain ⟨p2, vs2, rfl, q2, rs2⟩ := lstD_rep R.fr r2 e2
          exact .inr (.inr (.inr ⟨p1, p2, vs1, vs2, rfl, rfl, q1, q2, by rw [rs1.length, rs2.length]; exact hl, sp_lst R (rs1.append rs2) p⟩))
        · cases e
theorem e_add (ha : PE X a (rE X.K W fa)) (hb : PE X b (rE X.K W fb)) : PE X (.BinOp a .Add b pos) (rE X.K W (callE addG (arg2 fa fb))) := e_op (op_add.or (op_add_str.or (op_catA.or op_cat))) op2_add ha hb
end
def ixM : M → M → Option M
  | .fz (.str s), .fz (.int i) => if s.length ≤ sizeLine then match atI s.cps.toList i with
      | some c => some (.fz (.str ⟨#[c]⟩))
      | none => none
    else none
  | a, .fz (.int i) => match seqD a with
    | some ds => match atI ds i with
      | some d => some (.fz d)
      | none => none
    | none => none
  | _, _ => none
theorem atI_reps {K : PySem.W.Frag} {F : Hp} {vs : List V} {ds : List D} {i : Int} {d : D} (r : Reps K F vs ds) (h : atI ds i = some d) : ∃ v, atI vs i = some v ∧ Rep K F v d := by
  unfold atI at h ⊢
  rw [r.length]
  cases e : ixN ds.length i with
  | none => rw [e] at h; cases h
  | some j =>
    rw [e] at h
    exact r.get h
abbrev ixG : FP := g2 ixM
section
variable {X : Cx} {W : WX} {a b : Expr} {fa fb : FE} {pos : Pos}
theorem op2_ix {K : PySem.W.Frag} : Op2 K ixG (rIx K) := fun x y H Q Ex p => by
  obtain ⟨F, a, b, m, fps, R, r1, r2, e, p⟩ := g2_at p
  unfold ixM at e
  split at e
  · split at e
    · rename_i hl
      split at e
      · rename_i hc
        cases e
        obtain rfl := rep_str (repm_fz r1)
        obtain rfl := rep_int (repm_fz r2)
        exact .inr (.inr ⟨_, _, _, rfl, rfl, hl, hc, sp_flat R (.str _) p⟩)
      · cases e
    · cases e
  · rename_i i _
    cases e1 : seqD a with
    | none => rw [e1] at e; cases e
    | some ds =>
      rw [e1] at e
      simp only at e
      cases e2 : atI ds i with
      | none => rw [e2] at e; cases e
      | some d =>
        rw [e2] at e; cases e
        obtain rfl := rep_int (repm_fz r2)
        obtain ⟨q, vs, rfl, hq, rs⟩ := seqD_rep R.fr r1 e1
        obtain ⟨v, hv, rv⟩ := atI_reps rs e2
        rcases hq with hq | hq
        · exact .inl ⟨q, vs, i, v, rfl, rfl, hq, hv, sp_flat R rv p⟩
        · exact .inr (.inl ⟨q, vs, i, v, rfl, rfl, hq, hv, sp_flat R rv p⟩)
  · cases e
end
def lenM : M → Option M
  | .fz (.str s) => if s.length ≤ sizeLine then some (.fz (.int s.length)) else none
  | .lst ms => some (.fz (.int ms.length))
  | .fz (.lst ds) => some (.fz (.int ds.length))
  | .fz (.tup ds) => some (.fz (.int ds.length))
  | .fz .emp => some (.fz (.int 0))
  | _ => none
abbrev lenG : FP := g1 lenM
section
variable {X : Cx} {W : WX} {e : Expr} {fa : FE} {p pos : Pos}
theorem opc_len {K : PySem.W.Frag} : OpC K lenG (fun xs H Q => ∃ x n, xs = [x] ∧ LenV K x H n ∧ Q (.int n) H) := fun vs H Q Ex p => by
  obtain ⟨x, F, a, m, fps, rfl, R, r, h, p⟩ := g1_at p
  unfold lenM at h
  split at h
  · split at h
    · rename_i hl
      cases h
      obtain rfl := rep_str (repm_fz r)
      exact ⟨_, _, rfl, ⟨hl, rfl⟩, sp_flat R (.int _) p⟩
    · cases h
  · cases h
    obtain ⟨_, _, _, rfl, q, f, b, n, _⟩ := repm_lst r
    exact ⟨_, _, rfl, .inl ⟨_, SqL.of q, rfl⟩, sp_flat R (by rw [b.length]; exact .int _) p⟩
  · cases h
    cases repm_fz r with
    | lst q b => exact ⟨_, _, rfl, .inl ⟨_, SqL.of (R.fr _ _ q), rfl⟩, sp_flat R (by rw [b.length]; exact .int _) p⟩
  · cases h
    cases repm_fz r with
    | tupR q b => exact ⟨_, _, rfl, .inr ⟨_, q.sqt R.fr, rfl⟩, sp_flat R (by rw [b.length]; exact .int _) p⟩
  · cases h
    cases repm_fz r with
    | emp q => exact ⟨_, _, rfl, .inr ⟨_, R.fr.sqt q, rfl⟩, sp_flat R (.int _) p⟩
  · cases h
theorem e_len (hg : Gl X "len") (hm : X.mg "len" = none) (ha : PE X e (rE X.K W fa)) (hs : starEach [e] X.env = (false, eval e X.env) :: starEach [] X.env := by rfl) : PE X (.Call (.Name "len" p) [e] [] pos) (rE X.K W (callE lenG (arg1 fa))) :=
  e_callB call_len opc_len hg hm PySem.boot_len (a_cons ha a_nil hs) (he := hs)
theorem opc_abs {K : PySem.W.Frag} : OpC K (g1 absM) (fun xs H Q => ∃ i, xs = [.int i] ∧ Q (.int (if i < 0 then -i else i)) H) := fun vs H Q Ex p => by
  obtain ⟨x, F, a, m, fps, rfl, R, r, h, p⟩ := g1_at p
  unfold absM at h
  split at h
  · cases h
    obtain rfl := rep_int (repm_fz r)
    exact ⟨_, rfl, sp_flat R (.int _) p⟩
  · cases h
theorem e_abs (hg : Gl X "abs") (hm : X.mg "abs" = none) (ha : PE X e (rE X.K W fa)) (hs : starEach [e] X.env = (false, eval e X.env) :: starEach [] X.env := by rfl) : PE X (.Call (.Name "abs" p) [e] [] pos) (rE X.K W (callE (g1 absM) (arg1 fa))) :=
  e_callB call_abs opc_abs hg hm (by decide +kernel) (a_cons ha a_nil hs) (he := hs)
end
end Ink
set_option Elab.async false
set_option linter.all false
set_option maxRecDepth 100000
namespace Ink
open PySem L2
inductive Fl where
  | nx (env : E) | rt (m : M) (env : E) | bk (env : E) | ct (env : E) | ex (x : Xc) (env : E)
abbrev FS := E → Option Fl
abbrev FG := M → E → Option E
def Pin (P : List Nat) (σ σ' : St) : Prop := ∀ i ∈ P, σ'[i]? = σ[i]?
theorem Pin.refl {P : List Nat} {σ : St} : Pin P σ σ := fun _ _ => rfl
theorem Pin.trans {P : List Nat} {σ σ1 σ2 : St} (a : Pin P σ σ1) (b : Pin P σ1 σ2) : Pin P σ σ2 := fun i h => (b i h).trans (a i h)
/-- only slots of S were stored -/
def Chg (S : List Nat) (σ σ' : St) : Prop := σ'.length = σ.length ∧ ∀ i, S.contains i = false → σ'[i]? = σ[i]?
theorem Chg.refl {S : List Nat} {σ : St} : Chg S σ σ := ⟨rfl, fun _ _ => rfl⟩
theorem Chg.trans {S : List Nat} {σ σ1 σ2 : St} (a : Chg S σ σ1) (b : Chg S σ1 σ2) : Chg S σ σ2 := ⟨b.1.trans a.1, fun i h => (b.2 i h).trans (a.2 i h)⟩
theorem Chg.set {S : List Nat} {σ : St} {i : Nat} {v : Option V} (h : S.contains i = true) : Chg S σ (σ.set i v) := ⟨List.length_set, fun j hj => by
  rw [List.getElem?_set_ne]
  intro e
  subst e
  rw [h] at hj; cases hj⟩
def apart (S P : List Nat) : Bool := S.all fun i => !P.contains i
theorem Chg.pin {S P : List Nat} {σ σ' : St} (h : Chg S σ σ') (hs : apart S P = true) : Pin P σ σ' := fun i hi => h.2 i (by
  cases e : S.contains i with
  | false => rfl
  | true =>
    have := List.all_eq_true.mp hs i (by simpa using e)
    simp at this
    exact absurd hi this)
section
variable (K : PySem.W.Frag) (W : WX) (P : List Nat) (σ : St) (F H : Hp) (A : Addr → Prop)
def PNC (S : List Nat) (env' : E) (k : St → Hp → Prop) : Prop := ∀ σ' F' H' fps', REnv K F' H' σ' env' fps' → Chg S σ σ' → Ext K F H A F' H' (Own fps') → k σ' H'
def PN (env' : E) (k : St → Hp → Prop) : Prop := ∀ σ' F' H' fps', REnv K F' H' σ' env' fps' → Pin P σ σ' → Ext K F H A F' H' (Own fps') → k σ' H'
def PR (m : M) (env' : E) (k : VK) : Prop := ∀ v σ' F' H' fps' fp, REnv K F' H' σ' env' fps' → RepM K F' H' m v fp → (∀ b ∈ fp, ¬ Own fps' b) → Pin P σ σ' → Ext K F H A F' H' (fun b => Own fps' b ∨ b ∈ fp) → k v H'
def PXS (x : Xc) (env' : E) : Prop := ∀ cls d σ' F' H' fps', REnv K F' H' σ' env' fps' → RepX K F' H' x cls d → Pin P σ σ' → Ext K F H A F' H' (Own fps') → W cls d σ' H'
def poS (o : Option Fl) (D : Ends) : Prop := match o with
  | none => False
  | some (.nx env') => PN K P σ F H A env' D.nx
  | some (.bk env') => PN K P σ F H A env' D.bk
  | some (.ct env') => PN K P σ F H A env' D.ct
  | some (.rt m env') => PR K P σ F H A m env' D.rt
  | some (.ex x env') => PXS K W P σ F H A x env'
end
def rS (K : PySem.W.Frag) (W : WX) (P : List Nat) (f : FS) : TS := fun D σ H => ∃ F env fps, REnv K F H σ env fps ∧ poS K W P σ F H (Own fps) (f env) D
section
variable {K : PySem.W.Frag} {W : WX} {P : List Nat} {σ σ1 : St} {F H F1 H1 : Hp} {A A1 B : Addr → Prop}
theorem PN.wide {env' : E} {k : St → Hp → Prop} (p : PN K P σ F H A env' k) (pn : Pin P σ σ1) (e : Ext K F H A F1 H1 A1) (hB : ∀ b, B b → A1 b) : PN K P σ1 F1 H1 B env' k :=
  fun σ' F' H' fps' R q e2 => p σ' F' H' fps' R (pn.trans q) (e.trans e2 hB fun _ c => .inl c)
theorem PR.wide {m : M} {env' : E} {k : VK} (p : PR K P σ F H A m env' k) (pn : Pin P σ σ1) (e : Ext K F H A F1 H1 A1) (hB : ∀ b, B b → A1 b) : PR K P σ1 F1 H1 B m env' k :=
  fun v σ' F' H' fps' fp R r d q e2 => p v σ' F' H' fps' fp R r d (pn.trans q) (e.trans e2 hB fun _ c => .inl c)
theorem PXS.wide {x : Xc} {env' : E} (p : PXS K W P σ F H A x env') (pn : Pin P σ σ1) (e : Ext K F H A F1 H1 A1) (hB : ∀ b, B b → A1 b) : PXS K W P σ1 F1 H1 B x env' :=
  fun cls d σ' F' H' fps' R r q e2 => p cls d σ' F' H' fps' R r (pn.trans q) (e.trans e2 hB fun _ c => .inl c)
theorem PXS.px {x : Xc} {env' : E} (p : PXS K W P σ F H A x env') : PX K W σ F H A x env' := fun cls d F' H' fps' R r e => p cls d σ F' H' fps' R r .refl e
theorem poS.wide {o : Option Fl} {D : Ends} (p : poS K W P σ F H A o D) (pn : Pin P σ σ1) (e : Ext K F H A F1 H1 A1) (hB : ∀ b, B b → A1 b) : poS K W P σ1 F1 H1 B o D := by
  cases o with
  | none => exact p
  | some o =>
    cases o with
    | nx e2 => exact PN.wide p pn e hB
    | bk e2 => exact PN.wide p pn e hB
    | ct e2 => exact PN.wide p pn e hB
    | rt m e2 => exact PR.wide p pn e hB
    | ex x e2 => exact PXS.wide p pn e hB
end
def skipS : FS := fun env => some (.nx env)
def seqS (f g : FS) : FS := fun env => match f env with
  | some (.nx env1) => g env1
  | o => o
section
variable {X : Cx} {W : WX} {P : List Nat} {st : Stmt} {rest : List Stmt} {f g : FS}
theorem s_nil : PSs X [] (rS X.K W P skipS) := PSs_mono pss_nil fun D σ H ⟨F, env, fps, R, p⟩ => p σ F H fps R .refl (Ext.refl fun _ h => h)
theorem s_cons (h1 : PS X st (rS X.K W P f)) (h2 : PSs X rest (rS X.K W P g)) : PSs X (st :: rest) (rS X.K W P (seqS f g)) := PSs_mono (pss_cons h1 h2) fun D σ H ⟨F, env, fps, R, p⟩ => by
  refine ⟨F, env, fps, R, ?_⟩
  unfold seqS at p
  cases e : f env with
  | none => rw [e] at p; exact p
  | some o =>
    rw [e] at p
    cases o with
    | nx env1 => exact fun σ1 F1 H1 fps1 R1 q e1 => ⟨F1, env1, fps1, R1, poS.wide p q e1 fun _ h => h⟩
    | bk env1 => exact p
    | ct env1 => exact p
    | rt m env1 => exact p
    | ex x env1 => exact p
theorem s_one (h1 : PS X st (rS X.K W P f)) : PSs X [st] (rS X.K W P f) := pss_one h1
end
def boolA (a : Av) (env : E) : Option Bool := match a with
  | .tm (.fz (.bl b)) => some b
  | .sl i => match env[i]? with
    | some (some (.fz (.bl b))) => some b
    | _ => none
  | _ => none
def tst (f : FE) : FT := fun env => bindO (f env) fun a env1 => match boolA a env1 with
  | some b => some (.ok b env1)
  | none => none
theorem boolA_rep {K : PySem.W.Frag} {F H : Hp} {σ : St} {env : E} {fps : Nat → List Addr} {a : Av} {v : V} {fp : List Addr} {b : Bool} (R : REnv K F H σ env fps) (r : RepA K F H σ a v fp) (h : boolA a env = some b) : v = .bl b := by
  unfold boolA at h
  split at h
  · cases h
    exact rep_bl (repm_fz r)
  · split at h
    · rename_i e
      cases h
      obtain ⟨w, hw, rr⟩ := R.got _ _ e
      obtain ⟨q, _⟩ := r
      rw [q] at hw; cases hw
      exact rep_bl (repm_fz rr)
    · cases h
  · cases h
section
variable {X : Cx} {W : WX} {e a b c : Expr} {f : FE} {rest : List Expr} {ta tb : FT} {pos : Pos}
theorem r_tst {K : PySem.W.Frag} : ∀ σ H Q, rT K W (tst f) σ H Q → rE K W f σ H fun x H1 => ∃ k, x = .bl k ∧ Q k H1 := fun σ H Q ⟨F, env, fps, R, p⟩ => by
  refine ⟨F, env, fps, R, ?_⟩
  unfold tst at p
  cases ef : f env with
  | none => rw [ef] at p; exact p
  | some o =>
    rw [ef] at p
    cases o with
    | ex x env1 => exact p
    | ok a env1 =>
      simp only [bindO_ok] at p
      intro v F1 H1 fps1 fp R1 r d e1
      cases eb : boolA a env1 with
      | none => rw [eb] at p; exact p.elim
      | some b =>
        rw [eb] at p
        exact ⟨b, boolA_rep R1 r eb, p F1 H1 fps1 R1 (e1.weak fun _ h => .inl h)⟩
theorem t_val (h : PE X e (rE X.K W f)) (he : ∀ whole, isTrue e X.env whole = (do let v ← whole; standAt e.pos; holding [v] (truthy v)) := by intro _; rfl) : PT X e (rT X.K W (tst f)) := PT_mono (pt_val h he) r_tst
def andT (f g : FT) : FT := fun env => bindO (f env) fun b env1 => match b with
  | true => g env1
  | false => some (.ok false env1)
def orT (f g : FT) : FT := fun env => bindO (f env) fun b env1 => match b with
  | true => some (.ok true env1)
  | false => g env1
def notT (f : FT) : FT := fun env => bindO (f env) fun b env1 => some (.ok (!b) env1)
theorem poT_wide {K : PySem.W.Frag} {σ : St} {F H F1 H1 : Hp} {A A1 B : Addr → Prop} {o : Option (Out Bool)} {Q : Bool → Hp → Prop} (p : poT K W σ F H A o Q) (e : Ext K F H A F1 H1 A1) (hB : ∀ b, B b → A1 b) : poT K W σ F1 H1 B o Q := by
  cases o with
  | none => exact p
  | some o =>
    cases o with
    | ok a env' => exact fun F' H' fps' R e2 => p F' H' fps' R (e.trans e2 hB fun _ c => .inl c)
    | ex x env' => exact PX.wide p e hB
theorem t_or1 (h : PT X a (rT X.K W ta)) : PW X (.BoolOp .Or [a] pos) (rT X.K W ta) := pw_or1 h
theorem ifT {A B : Prop} (h : A) : if true = true then A else B := by rw [if_pos rfl]; exact h
theorem ifF {A B : Prop} (h : B) : if false = true then A else B := by rw [if_neg Bool.false_ne_true]; exact h
theorem t_or (h : PT X a (rT X.K W ta)) (h2 : PW X (.BoolOp .Or (b :: rest) pos) (rT X.K W tb)) : PW X (.BoolOp .Or (a :: b :: rest) pos) (rT X.K W (orT ta tb)) := PW_mono (pw_or h h2) fun σ H Q ⟨F, env, fps, R, p⟩ => by
  refine ⟨F, env, fps, R, ?_⟩
  unfold orT at p
  cases ef : ta env with
  | none => rw [ef] at p; exact p
  | some o =>
    rw [ef] at p
    cases o with
    | ex x env1 => exact p
    | ok k env1 =>
      simp only [bindO_ok] at p
      intro F1 H1 fps1 R1 e1
      cases k with
      | true => exact ifT (p F1 H1 fps1 R1 e1)
      | false => exact ifF ⟨F1, env1, fps1, R1, poT_wide p e1 fun _ h => h⟩
theorem t_not (h : PT X a (rT X.K W ta)) : PT X (.UnaryOp .Not a pos) (rT X.K W (notT ta)) := PT_mono (pt_not h) fun σ H Q ⟨F, env, fps, R, p⟩ => by
  refine ⟨F, env, fps, R, ?_⟩
  unfold notT at p
  cases ef : ta env with
  | none => rw [ef] at p; exact p
  | some o =>
    rw [ef] at p
    cases o with
    | ex x env1 => exact p
    | ok k env1 => exact p
end
def ifS (c : FT) (f g : FS) : FS := fun env => match c env with
  | none => none
  | some (.ok true env1) => f env1
  | some (.ok false env1) => g env1
  | some (.ex x env1) => some (.ex x env1)
def bindS {α : Type} (o : Option (Out α)) (k : α → E → Option Fl) : Option Fl := match o with
  | none => none
  | some (.ok a env1) => k a env1
  | some (.ex x env1) => some (.ex x env1)
/-- return e: a thing made on the way -/
def retS (f : FE) : FS := fun env => bindS (f env) fun a env1 => match a with
  | .tm m => some (.rt m env1)
  | .sl _ => none
/-- return x, x a local: the thing goes out with it -/
def retV (i : Nat) : FS := fun env => match env[i]? with
  | some (some m) => some (.rt m (env.set i none))
  | _ => none
def retN : FS := fun env => some (.rt (.fz .non) env)
def exprS (f : FE) : FS := fun env => bindS (f env) fun _ env1 => some (.nx env1)
/-- target = e -/
def asgS (f : FE) (g : FG) : FS := fun env => bindS (f env) fun a env1 => match a with
  | .tm m => match g m env1 with
    | some env2 => some (.nx env2)
    | none => none
  | .sl _ => none
section
variable {X : Cx} {W : WX} {P : List Nat} {c e : Expr} {a b : List Stmt} {fc : FT} {fa fb : FS} {f : FE} {pos : Pos}
theorem s_if (hc : PT X c (rT X.K W fc)) (ha : PSs X a (rS X.K W P fa)) (hb : PSs X b (rS X.K W P fb)) : PS X (.If c a b pos) (rS X.K W P (ifS fc fa fb)) := PS_mono (ps_if hc ha hb) fun D σ H ⟨F, env, fps, R, p⟩ => by
  refine ⟨F, env, fps, R, ?_⟩
  unfold ifS at p
  cases ef : fc env with
  | none => rw [ef] at p; exact p
  | some o =>
    rw [ef] at p
    cases o with
    | ex x env1 => exact PXS.px p
    | ok k env1 =>
      intro F1 H1 fps1 R1 e1
      cases k with
      | true => exact ifT ⟨F1, env1, fps1, R1, poS.wide p .refl e1 fun _ h => h⟩
      | false => exact ifF ⟨F1, env1, fps1, R1, poS.wide p .refl e1 fun _ h => h⟩
theorem s_ret (he : PE X e (rE X.K W f)) : PS X (.Return (some e) pos) (rS X.K W P (retS f)) := PS_mono (ps_ret he) fun D σ H ⟨F, env, fps, R, p⟩ => by
  refine ⟨F, env, fps, R, ?_⟩
  unfold retS at p
  cases ef : f env with
  | none => rw [ef] at p; exact p
  | some o =>
    rw [ef] at p
    cases o with
    | ex x env1 => exact PXS.px p
    | ok a env1 =>
      cases a with
      | sl i => exact p.elim
      | tm m => exact fun v F1 H1 fps1 fp R1 r d e1 => p v σ F1 H1 fps1 fp R1 r d .refl e1
theorem s_retv {i : Nat} {x : Str} {pos' : Pos} (he : PE X (.Name x pos') (tVar i)) : PS X (.Return (some (.Name x pos')) pos) (rS X.K W P (retV i)) := PS_mono (ps_ret he) fun D σ H ⟨F, env, fps, R, p⟩ => by
  unfold retV at p
  split at p
  · rename_i m em
    obtain ⟨v, hv, r⟩ := R.got i m em
    refine ⟨v, hv, p v σ F H _ (fps i) (R.drop i) r (fun b hb ⟨j, hj⟩ => ?_) .refl (Ext.refl fun b h => ?_)⟩
    · by_cases ej : j = i
      · simp only [if_pos ej] at hj; cases hj
      · simp only [if_neg ej] at hj
        exact R.dj j i ej b hj hb
    · rcases h with ⟨j, hj⟩ | h
      · by_cases ej : j = i
        · simp only [if_pos ej] at hj; cases hj
        · simp only [if_neg ej] at hj; exact ⟨j, hj⟩
      · exact ⟨i, h⟩
  · exact p.elim
theorem s_expr (he : PE X e (rE X.K W f)) (hs : swapsWith e none pos.line X.env = pure false := by rfl) : PS X (.Expr e pos) (rS X.K W P (exprS f)) := PS_mono (ps_expr he hs) fun D σ H ⟨F, env, fps, R, p⟩ => by
  refine ⟨F, env, fps, R, ?_⟩
  unfold exprS at p
  cases ef : f env with
  | none => rw [ef] at p; exact p
  | some o =>
    rw [ef] at p
    cases o with
    | ex x env1 => exact PXS.px p
    | ok a env1 => exact fun v F1 H1 fps1 fp R1 r d e1 => p σ F1 H1 fps1 R1 .refl (e1.weak fun _ h => .inl h)
end
def rG (K : PySem.W.Frag) (S : List Nat) (g : FG) : TG := fun v σ H Q => ∃ F env fps m fp, REnv K F H σ env fps ∧ RepM K F H m v fp ∧ (∀ b ∈ fp, ¬ Own fps b) ∧ ∃ env', g m env = some env' ∧ PNC K σ F H (fun b => Own fps b ∨ b ∈ fp) S env' Q
theorem PG_mono {X : Cx} {e : Expr} {t t' : TG} (h : PG X e t) (m : ∀ v σ H Q, t' v σ H Q → t v σ H Q) : PG X e t' := ⟨fun pins s σ H v u Q I r q => h.run pins s σ H v u Q I r (m _ _ _ _ q)⟩
theorem PNC.wide {K : PySem.W.Frag} {S : List Nat} {σ σ1 : St} {F H F1 H1 : Hp} {A A1 B : Addr → Prop} {env' : E} {k : St → Hp → Prop} (p : PNC K σ F H A S env' k) (pn : Chg S σ σ1) (e : Ext K F H A F1 H1 A1) (hB : ∀ b, B b → A1 b) : PNC K σ1 F1 H1 B S env' k :=
  fun σ' F' H' fps' R q e2 => p σ' F' H' fps' R (pn.trans q) (e.trans e2 hB fun _ c => .inl c)
def nmG (i : Nat) : FG := fun m env => some (env.set i (some m))
/-- (a, b, ..) from plain data -/
def eachG : List FG → List M → E → Option E
  | [], [], env => some env
  | g :: gs, d :: ds, env => match g d env with
    | some env1 => eachG gs ds env1
    | none => none
  | _, _, _ => none
def tupG (gs : List FG) : FG := fun m env => match m with
  | .fz (.tup ds) => eachG gs (ds.map M.fz) env
  | .tup ms => eachG gs ms env
  | _ => none
theorem pendMs {K : PySem.W.Frag} {F1 H1 F2 H2 : Hp} {m : List M} {v : List V} {fp : List Addr} {B A2 : Addr → Prop} (h : RepMs K F1 H1 m v fp) (hB : ∀ b ∈ fp, ¬ B b) (e : Ext K F1 H1 B F2 H2 A2) : RepMs K F2 H2 m v fp ∧ ∀ b ∈ fp, ¬ A2 b := by
  have l := h.live
  refine ⟨h.frame e.ff (fun b hb => ?_) (fun b hb => ?_), fun b hb a => ?_⟩
  · obtain ⟨⟨o, ho⟩, _⟩ := l b hb
    rw [e.keep b o ho (hB b hb) (h.nt hb ho), ho]
  · obtain ⟨⟨o, ho⟩, hf⟩ := l b hb
    cases q : F2 b with
    | none => rfl
    | some u =>
      rcases e.fz b u q with z | z | z
      · rw [hf] at z; cases z
      · exact absurd z (hB b hb)
      · rw [ho] at z; cases z
  · obtain ⟨⟨o, ho⟩, _⟩ := l b hb
    rcases e.own b a with z | z
    · exact hB b hb z
    · rw [ho] at z; cases z
theorem RepMs.ofD {K : PySem.W.Frag} {F H : Hp} : ∀ {vs : List V} {ds : List D}, Reps K F vs ds → RepMs K F H (ds.map M.fz) vs []
  | _, _, .nil => .nil
  | _, _, .cons a b => .cons (fp := []) (fq := []) (RepM.fz a) (RepMs.ofD b) fun b hb => by cases hb
def rGs (K : PySem.W.Frag) (S : List Nat) (gs : List FG) : TGs := fun vs σ H Q => ∃ F env fps ms fp, REnv K F H σ env fps ∧ RepMs K F H ms vs fp ∧ (∀ b ∈ fp, ¬ Own fps b) ∧ ∃ env', eachG gs ms env = some env' ∧ PNC K σ F H (fun b => Own fps b ∨ b ∈ fp) S env' Q
theorem PGs_mono {X : Cx} {e : List Expr} {t t' : TGs} (h : PGs X e t) (m : ∀ v σ H Q, t' v σ H Q → t v σ H Q) : PGs X e t' := ⟨fun pins s σ H v u Q I r q => h.run pins s σ H v u Q I r (m _ _ _ _ q)⟩
section
variable {X : Cx} {S : List Nat} {i : Nat} {x : Str} {pos : Pos}
theorem store_len {K : PySem.W.Frag} {F H : Hp} {σ : St} {env : E} {fps : Nat → List Addr} (R : REnv K F H σ env fps) {i : Nat} {m : M} {v : V} {fp : List Addr} (r : RepM K F H m v fp) (d : ∀ b ∈ fp, ¬ Own fps b) :
    ∃ fps', REnv K F H (σ.set i (some v)) (env.set i (some m)) fps' ∧ ∀ b, Own fps' b → Own fps b ∨ b ∈ fp := by
  by_cases hi : i < σ.length
  · refine ⟨_, R.store hi r d, fun b ⟨j, hj⟩ => ?_⟩
    by_cases e : j = i
    · simp only [if_pos e] at hj; exact .inr hj
    · simp only [if_neg e] at hj; exact .inl ⟨j, hj⟩
  · have e1 : σ.set i (some v) = σ := List.set_eq_of_length_le (by omega)
    have e2 : env.set i (some m) = env := List.set_eq_of_length_le (by rw [R.len]; omega)
    rw [e1, e2]
    exact ⟨fps, R, fun b h => .inl h⟩
theorem r_name {K : PySem.W.Frag} (hp : S.contains i = true) : ∀ v σ H Q, rG K S (nmG i) v σ H Q → gName i v σ H Q := fun v σ H Q ⟨F, env, fps, m, fp, R, r, d, env', e, p⟩ => by
  cases e
  obtain ⟨fps', R', ho⟩ := store_len (i := i) R r d
  exact p _ F H fps' R' (Chg.set hp) (Ext.refl fun b h => ho b h)
theorem g_name (hN : X.N.Nodup) (hi : X.N[i]? = some x) (hx : Loc X.env.scope x) (hp : S.contains i = true := by rfl) (hf : X.fn x = true ∨ X.env.scope.names.lookup x = some .local := by first | exact .inl rfl | exact .inr rfl | assumption) : PG X (.Name x pos) (rG X.K S (nmG i)) := PG_mono (pg_name hN hi hx hf) (r_name hp)
theorem gs_nil : PGs X [] (rGs X.K S []) := PGs_mono pgs_nil fun vs σ H Q ⟨F, env, fps, ms, fp, R, r, d, env', e, p⟩ => by
  cases ms with
  | nil => cases r; cases e; exact ⟨rfl, p σ F H fps R .refl (Ext.refl fun _ h => .inl h)⟩
  | cons d ds => cases e
theorem gs_cons {e : Expr} {es : List Expr} {g : FG} {gs : List FG} (h1 : PG X e (rG X.K S g)) (h2 : PGs X es (rGs X.K S gs)) (hs : (assignEach (e :: es) X.env).map (·.2) = assign e X.env :: (assignEach es X.env).map (·.2) := by rfl) : PGs X (e :: es) (rGs X.K S (g :: gs)) :=
  PGs_mono (pgs_cons h1 h2 hs) fun vs σ H Q ⟨F, env, fps, ms, fp, R, r, d, env', e, p⟩ => by
  cases ms with
  | nil => cases e
  | cons m ms =>
    cases r with
    | @cons _ _ _ _ f1 f2 rv rs dj =>
      unfold eachG at e
      cases eg : g m env with
      | none => rw [eg] at e; cases e
      | some env1 =>
        rw [eg] at e
        refine ⟨_, _, rfl, F, env, fps, m, f1, R, rv, fun b hb => d b (List.mem_append_left _ hb), env1, eg, fun σ1 F1 H1 fps1 R1 q e1 => ?_⟩
        obtain ⟨rs1, n1⟩ := pendMs rs (B := fun b => Own fps b ∨ b ∈ f1) (fun b hb h => h.elim (d b (List.mem_append_right _ hb)) fun z => dj b z hb) e1
        have e2 : Ext X.K F H (fun b => (Own fps b ∨ b ∈ f1) ∨ b ∈ f2) F1 H1 (fun b => Own fps1 b ∨ b ∈ f2) := ⟨e1.ff, fun b o h n => e1.keep b o h fun z => n (.inl z), fun b h => h.elim (fun z => (e1.own b z).elim (fun y => .inl (.inl y)) .inr) fun z => .inl (.inr z), fun b o h => (e1.fz b o h).elim .inl fun z => z.elim (fun y => .inr (.inl (.inl y))) fun y => .inr (.inr y), e1.tt⟩
        exact ⟨F1, env1, fps1, ms, f2, R1, rs1, n1, env', e, PNC.wide p q (e2.wide fun b h => by
          rcases h with (h | h) | h
          · exact .inl h
          · exact .inr (List.mem_append_left _ h)
          · exact .inr (List.mem_append_right _ h)) fun _ h => h⟩
theorem eachG_len {env' : E} : ∀ (gs : List FG) (ds : List M) (env : E), eachG gs ds env = some env' → ds.length = gs.length
  | [], [], _, _ => rfl
  | [], _ :: _, _, h => by cases h
  | _ :: _, [], _, h => by cases h
  | g :: gs, d :: ds, env, h => by
    unfold eachG at h
    cases eg : g d env with
    | none => rw [eg] at h; cases h
    | some env1 => rw [eg] at h; simp [eachG_len gs ds env1 h]
theorem g_tup {es : List Expr} {k n : Nat} {gs : List FG} (hc : X.calm = true) (h : PGs X es (rGs X.K S gs)) (hl : gs.length = n := by rfl)
    (hn : (assignEach es X.env).length = n := by rfl) (hst : (assignEach es X.env).findIdx? (·.1) = none := by rfl) : PG X (.Tuple es k pos) (rG X.K S (tupG gs)) := PG_mono (pg_tup hc h hn hst) fun v σ H Q ⟨F, env, fps, m, fp, R, r, d, env', e, p⟩ => by
  unfold tupG at e
  split at e
  · rename_i ds
    have hz := r.fz_nil
    subst hz
    obtain ⟨a, vs, rfl, q, rs⟩ := tup_rep R.fr (repm_fz r)
    refine ⟨a, vs, rfl, q, by rw [rs.length, ← hl, ← eachG_len gs _ env e, List.length_map], F, env, fps, _, [], R, RepMs.ofD rs, d, env', e, p⟩
  · rename_i ms
    cases r with
    | @tup pa vs _ fq a rs =>
      refine ⟨pa, vs, rfl, SqT.of (R.fr _ _ a), by rw [rs.length, ← hl, ← eachG_len gs _ env e], F, env, fps, _, _, R, rs, d, env', e, p⟩
  · cases e
end
section
variable {X : Cx} {W : WX} {P S : List Nat} {e tg : Expr} {f : FE} {g : FG} {pos : Pos} {i : Nat} {x : Str} {pos' : Pos}
theorem r_asg {K : PySem.W.Frag} (hsp : apart S P = true) : ∀ D σ H, rS K W P (asgS f g) D σ H → tAsg (rE K W f) (rG K S g) D σ H := fun D σ H ⟨F, env, fps, R, p⟩ => by
  refine ⟨F, env, fps, R, ?_⟩
  unfold asgS at p
  cases ef : f env with
  | none => rw [ef] at p; exact p
  | some o =>
    rw [ef] at p
    cases o with
    | ex x env1 => exact PXS.px p
    | ok a env1 =>
      cases a with
      | sl i => exact p.elim
      | tm m =>
        intro v F1 H1 fps1 fp R1 r d e1
        simp only [bindS] at p
        cases eg : g m env1 with
        | none => rw [eg] at p; exact p.elim
        | some env2 =>
          rw [eg] at p
          refine ⟨F1, env1, fps1, m, fp, R1, r, d, env2, eg, fun σ2 F2 H2 fps2 R2 q e2 => p σ2 F2 H2 fps2 R2 (q.pin hsp) (e1.trans e2 (fun _ h => h) fun _ h => .inl h)⟩
theorem s_asg (he : PE X e (rE X.K W f)) (hg : PG X tg (rG X.K S g)) (hsp : apart S P = true := by rfl) (hs : swapsWithSole [tg] e pos.line X.env = pure false := by rfl) (hw : swappedStores [tg] e X.env = pure none := by rfl)
    (h1 : (assignEach [tg] X.env).map (·.2) = [assign tg X.env] := by rfl) : PS X (.Assign [tg] e pos) (rS X.K W P (asgS f g)) := PS_mono (ps_asg he hg hs hw h1) (r_asg hsp)
theorem s_set (hN : X.N.Nodup) (hi : X.N[i]? = some x) (hx : Loc X.env.scope x) (he : PE X e (rE X.K W f)) (hp : apart [i] P = true := by rfl) (hs : swapsWith e (some (.Name x pos')) pos.line X.env = pure false := by rfl) (hf : X.fn x = true ∨ X.env.scope.names.lookup x = some .local := by first | exact .inl rfl | exact .inr rfl | assumption) :
    PS X (.Assign [.Name x pos'] e pos) (rS X.K W P (asgS f (nmG i))) := PS_mono (ps_set hN hi hx he hs hf) fun D σ H q =>
  rE_imp (fun v H' z => r_name (S := [i]) (by simp) v σ H' D.nx z) (r_asg hp D σ H q)
end
end Ink
set_option Elab.async false
set_option linter.all false
set_option maxRecDepth 100000
namespace Ink
open PySem L2
abbrev FI := E → Option (Out (List D))
/-- an iterator over plain data -/
def ItD (K : PySem.W.Frag) (J : It) (F : Hp) (ds : List D) : Prop := ∀ F' H, Sub F F' → Sub F' H → TOk K F' H → (∀ i, ds.length ≤ i → J.stop i H) ∧
  ∀ (i : Nat) (d : D), ds[i]? = some d → J.go i H ∧ ∀ x H', J.yld i H x H' → ∃ F'', Sub F'' H' ∧ Rep K F'' x d ∧ Ext K F' H (fun _ => False) F'' H' (fun _ => False)
section
variable (K : PySem.W.Frag) (W : WX) (σ : St) (F H : Hp) (A : Addr → Prop)
def PJ (ds : List D) (env' : E) (R : It → Hp → Prop) : Prop := ∀ J F' H' fps', REnv K F' H' σ env' fps' → ItD K J F' ds → Ext K F H A F' H' (Own fps') → R J H'
def poI (o : Option (Out (List D))) (R : It → Hp → Prop) : Prop := match o with
  | none => False
  | some (.ok ds env') => PJ K σ F H A ds env' R
  | some (.ex x env') => PX K W σ F H A x env'
end
def rI (K : PySem.W.Frag) (W : WX) (f : FI) : TI := fun σ H R => ∃ F env fps, REnv K F H σ env fps ∧ poI K W σ F H (Own fps) (f env) R
def loopD (g : FG) (fb : FS) : List D → E → Option Fl
  | [], env => some (.nx env)
  | d :: ds, env => match g (.fz d) env with
    | none => none
    | some env1 => match fb env1 with
      | some (.nx env2) => loopD g fb ds env2
      | some (.ct env2) => loopD g fb ds env2
      | some (.bk env2) => some (.nx env2)
      | o => o
def forS (fi : FI) (g : FG) (fb : FS) : FS := fun env => bindS (fi env) fun ds env1 => loopD g fb ds env1
theorem Ext.unit {F H F' H' : Hp} {A : Addr → Prop} (e : Ext K F H (fun _ => False) F' H' (fun _ => False)) : Ext K F H A F' H' A :=
  ⟨e.ff, fun b o h _ => e.keep b o h id, fun b h => .inl h, fun b o h => (e.fz b o h).imp id fun q => q.elim False.elim .inr, e.tt⟩
section
variable {X : Cx} {W : WX} {P S : List Nat} {tg iter : Expr} {body : List Stmt} {fi : FI} {g : FG} {fb : FS} {pos : Pos}
theorem s_for (hp : PassesOwn (model X.prog X.w) X.A X.env X.xe) (hc : X.calm = true) (hi : PI X tg iter (rI X.K W fi)) (hg : PG X tg (rG X.K S g)) (hb : PSs X body (rS X.K W P fb)) (hsp : apart S P = true := by rfl) (hs : ∀ x, foldedSetIterable iter X.env x = pure x := by intro _; rfl) : PS X (.For tg iter body [] pos) (rS X.K W P (forS fi g fb)) := PS_mono (ps_for hp hc hi hg hb hs) fun D σ0 H0 ⟨F0, env0, fps0, R0, p⟩ => by
  refine ⟨F0, env0, fps0, R0, ?_⟩
  unfold forS at p
  cases ef : fi env0 with
  | none => rw [ef] at p; exact p
  | some o =>
    rw [ef] at p
    cases o with
    | ex x env1 => exact PXS.px p
    | ok ds env1 =>
      intro J F1 H1 fps1 R1 hJ e1
      simp only [bindS] at p
      let Wv : Nat → Nat → St → Hp → Prop := fun i m σ' H' => m = ds.length - i ∧ i ≤ ds.length ∧ ∃ F' env' fps', REnv X.K F' H' σ' env' fps' ∧ Sub F1 F' ∧ Pin P σ0 σ' ∧ Ext X.K F0 H0 (Own fps0) F' H' (Own fps') ∧ poS X.K W P σ0 F0 H0 (Own fps0) (loopD g fb (ds.drop i) env') D
      refine ⟨Wv, ⟨ds.length, by omega, Nat.zero_le _, F1, env1, fps1, R1, Sub.refl _, .refl, e1, by simpa using p⟩, ?_⟩
      rintro i m σ' H' ⟨rfl, hi, F', env', fps', R', hF, pin, ext, po⟩
      obtain ⟨hstop, hgo⟩ := hJ F' H' hF R'.fr R'.tt
      by_cases hlt : i < ds.length
      · have hd : ds[i]? = some ds[i] := List.getElem?_eq_getElem hlt
        obtain ⟨go, yl⟩ := hgo i _ hd
        refine .inr ⟨go, Wv (i + 1) (ds.length - (i + 1)), fun σ2 H2 q => ⟨_, by omega, q⟩, fun x H2 hy => ?_⟩
        obtain ⟨F2, s2, rx, e2⟩ := yl x H2 hy
        have e2' : Ext X.K F' H' (Own fps') F2 H2 (Own fps') := e2.unit
        obtain ⟨R2, _⟩ := R'.frame (fun b _ h => h) e2 s2
        rw [List.drop_eq_getElem_cons hlt, loopD] at po
        cases eg : g (.fz ds[i]) env' with
        | none => rw [eg] at po; exact po.elim
        | some env2 =>
          rw [eg] at po
          refine ⟨F2, env', fps', .fz ds[i], [], R2, .fz rx, Own.not_nil, env2, eg, fun σ3 F3 H3 fps3 R3 pin3 e3 => ?_⟩
          have e3' : Ext X.K F0 H0 (Own fps0) F3 H3 (Own fps3) := (ext.trans e2' (fun _ h => h) (C := Own fps') fun _ h => .inl h).trans (e3.wide (C := Own fps') fun b h => h.elim id fun z => by cases z) (fun _ h => h) fun _ h => .inl h
          have pin3' : Pin P σ0 σ3 := pin.trans (pin3.pin hsp)
          have sub3 : Sub F1 F3 := hF.trans (e2.ff.trans e3.ff)
          refine ⟨F3, env2, fps3, R3, ?_⟩
          cases eb : fb env2 with
          | none => simp only [eb] at po; exact po
          | some fl =>
            simp only [eb] at po
            cases fl with
            | nx env3 => exact fun σ4 F4 H4 fps4 R4 q e4 => ⟨rfl, hlt, F4, env3, fps4, R4, sub3.trans e4.ff, pin3'.trans q, e3'.trans e4 (fun _ h => h) fun _ h => .inl h, po⟩
            | ct env3 => exact fun σ4 F4 H4 fps4 R4 q e4 => ⟨rfl, hlt, F4, env3, fps4, R4, sub3.trans e4.ff, pin3'.trans q, e3'.trans e4 (fun _ h => h) fun _ h => .inl h, po⟩
            | bk env3 => exact PN.wide po pin3' e3' fun _ h => h
            | rt v env3 => exact PR.wide po pin3' e3' fun _ h => h
            | ex x env3 => exact PXS.wide po pin3' e3' fun _ h => h
      · have e : i = ds.length := by omega
        subst e
        refine .inl ⟨hstop _ (Nat.le_refl _), ?_⟩
        rw [List.drop_length, loopD] at po
        exact po σ' F' H' fps' R' pin ext
end
def fzOnly : M → Option M
  | .fz d => some (.fz d)
  | _ => none
def outA (asg : List Nat) : Nat → List M → E → E
  | i, m :: ms, o :: env => (if asg.contains i then fzOnly m else o) :: outA asg (i + 1) ms env
  | i, m :: ms, [] => (if asg.contains i then fzOnly m else none) :: outA asg (i + 1) ms []
  | _, [], _ => []
def fnM (np nl : Nat) (asg : List Nat) (body : FS) : FP := fun ms => if ms.length = np then match body (argE ms ++ List.replicate nl none) with
    | some (.nx env') => some (.ok (.fz .non) (outA asg 0 ms env'))
    | some (.rt m env') => some (.ok m (outA asg 0 ms env'))
    | some (.ex x env') => some (.ex x (outA asg 0 ms env'))
    | _ => none
  else none
theorem outA_length {asg : List Nat} : ∀ (i : Nat) (ms : List M) (env : E), (outA asg i ms env).length = ms.length
  | _, [], env => by cases env <;> simp [outA]
  | i, _ :: ms, [] => by rw [outA]; simp [outA_length (i + 1) ms []]
  | i, m :: ms, o :: env => by rw [outA]; simp [outA_length (i + 1) ms env]
theorem fzOnly_at {n m : M} (h : fzOnly n = some m) : ∃ d, m = .fz d ∧ n = .fz d := by
  cases n with
  | fz d => cases h; exact ⟨d, rfl, rfl⟩
  | _ => cases h
theorem outA_get {asg : List Nat} : ∀ (i : Nat) (ms : List M) (env : E) (j : Nat) (m : M), (outA asg i ms env)[j]? = some (some m) → (asg.contains (i + j) = true ∧ ∃ d, m = .fz d ∧ ms[j]? = some (.fz d)) ∨ (asg.contains (i + j) = false ∧ j < ms.length ∧ env[j]? = some (some m))
  | _, [], env, j, m, h => by cases env <;> simp [outA] at h
  | i, n :: ms, [], 0, m, h => by
    rw [outA] at h
    simp only [List.getElem?_cons_zero, Option.some.injEq] at h
    by_cases c : asg.contains i = true
    · rw [if_pos c] at h
      obtain ⟨d, e1, e2⟩ := fzOnly_at h
      exact .inl ⟨c, d, e1, by rw [e2]; rfl⟩
    · rw [if_neg c] at h; cases h
  | i, n :: ms, [], j + 1, m, h => by
    rw [outA] at h
    simp only [List.getElem?_cons_succ] at h
    rcases outA_get (i + 1) ms [] j m h with ⟨a, d, b, c⟩ | ⟨a, b, c⟩
    · exact .inl ⟨by rw [show i + (j + 1) = i + 1 + j by omega]; exact a, d, b, by simpa using c⟩
    · simp at c
  | i, n :: ms, o :: env, 0, m, h => by
    rw [outA] at h
    simp only [List.getElem?_cons_zero, Option.some.injEq] at h
    by_cases c : asg.contains i = true
    · rw [if_pos c] at h
      obtain ⟨d, e1, e2⟩ := fzOnly_at h
      exact .inl ⟨c, d, e1, by rw [e2]; rfl⟩
    · rw [if_neg c] at h
      exact .inr ⟨by simpa using c, by simp, by simp [h]⟩
  | i, n :: ms, o :: env, j + 1, m, h => by
    rw [outA] at h
    simp only [List.getElem?_cons_succ] at h
    rcases outA_get (i + 1) ms env j m h with ⟨a, d, b, c⟩ | ⟨a, b, c⟩
    · exact .inl ⟨by rw [show i + (j + 1) = i + 1 + j by omega]; exact a, d, b, by simpa using c⟩
    · exact .inr ⟨by rw [show i + (j + 1) = i + 1 + j by omega]; exact a, by simp; omega, by simpa using c⟩
theorem outA_put {asg : List Nat} {m : M} : ∀ (k : Nat) (ms : List M) (env : E) (i : Nat), i < ms.length → asg.contains (k + i) = false → env[i]? = some (some m) → (outA asg k ms env)[i]? = some (some m)
  | _, [], _, i, h, _, _ => by simp at h
  | _, _ :: _, [], i, _, _, e => by simp at e
  | k, n :: ms, o :: env, 0, h, hc, he => by
    rw [outA]
    rw [Nat.add_zero] at hc
    simp only [List.getElem?_cons_zero, Option.some.injEq] at he ⊢
    rw [if_neg (by rw [hc]; exact Bool.false_ne_true)]
    exact he
  | k, n :: ms, o :: env, i + 1, h, hc, he => by
    rw [outA]
    simp only [List.getElem?_cons_succ] at he ⊢
    exact outA_put (k + 1) ms env i (by simpa using h) (by rw [show k + 1 + i = k + (i + 1) by omega]; exact hc) he
/-- the parameters that no statement stores -/
def pinsOf (np : Nat) (asg : List Nat) : List Nat := (List.range np).filter fun i => !asg.contains i
theorem fn_body {K : PySem.W.Frag} {np nl : Nat} {asg : List Nat} {body : FS} {N : List Str} {vs : List V} {H : Hp} {Q : VK} {Ex : XK} (hN : N.length = np + nl) (h : spOf K (fnM np nl asg body) vs H Q Ex) :
    vs.length = np ∧ rS K (fun cls d _ H' => Ex cls d H') (pinsOf np asg) body { nx := fun _ H' => Q .non H', rt := Q } (L2.start N vs) H := by
  obtain ⟨F, ms, fps, R, p⟩ := h
  unfold fnM at p
  split at p
  · rename_i hl
    have hv : vs.length = np := by
      have q := R.len
      simp at q
      omega
    refine ⟨hv, F, argE ms ++ List.replicate nl none, fps, ?_, ?_⟩
    · have es : L2.start N vs = argS vs ++ List.replicate nl none := by
        unfold L2.start
        rw [hN, hv, Nat.add_sub_cancel_left]
      rw [es]
      refine ⟨R.fr, by simp; omega, fun i m e => ?_, fun i e => R.nil i fun m q => ?_, R.dj, R.tt⟩
      · by_cases hi : i < ms.length
        · rw [List.getElem?_append_left (by simpa using hi)] at e
          obtain ⟨v, q, r⟩ := R.got i m e
          exact ⟨v, by rw [List.getElem?_append_left (by simp; omega)]; exact q, r⟩
        · rw [List.getElem?_append_right (by simpa using hi), List.getElem?_replicate] at e
          split at e <;> cases e
      · have hi : i < ms.length := by simpa using (List.getElem?_eq_some_iff.mp q).1
        exact e m (by rw [List.getElem?_append_left (by simpa using hi)]; exact q)
    · have es : L2.start N vs = argS vs ++ List.replicate nl none := by
        unfold L2.start
        rw [hN, hv, Nat.add_sub_cancel_left]
      -- what stands behind the body
      have key : ∀ {σ' : St} {F' H' : Hp} {env' : E} {fps' : Nat → List Addr}, REnv K F' H' σ' env' fps' → Pin (pinsOf np asg) (L2.start N vs) σ' → Sub F F' → ∃ fpsO, REnv K F' H' (argS vs) (outA asg 0 ms env') fpsO ∧ ∀ b, Own fpsO b → Own fps' b := by
        intro σ' F' H' env' fps' R' pin sub
        have pin' : ∀ i, i < np → asg.contains i = false → ∀ v, σ'[i]? = some (some v) → vs[i]? = some v := fun i hi hc v e => by
          have q := pin i (by simp [pinsOf, hi, List.mem_range]; simpa using hc)
          rw [es, List.getElem?_append_left (by simp; omega)] at q
          rw [q] at e
          exact argS_get.mp e
        have lo := outA_length (asg := asg) 0 ms env'
        refine ⟨fun i => if asg.contains i = true ∨ np ≤ i then [] else fps' i, ⟨R'.fr, by rw [lo]; simp; omega, fun i m e => ?_, fun i e => ?_, fun i j hij b hb => ?_, R'.tt⟩, fun b ⟨i, hb⟩ => ?_⟩
        · rcases outA_get 0 ms env' i m e with ⟨c, d, rfl, hm⟩ | ⟨c, hi, hm⟩
          · rw [Nat.zero_add] at c
            obtain ⟨v, hv', r⟩ := R.got i _ (argE_get.mpr hm)
            refine ⟨v, hv', ?_⟩
            rw [if_pos (.inl c)]
            exact .fz ((repm_fz r).mono sub)
          · rw [Nat.zero_add] at c
            obtain ⟨v, hv', r⟩ := R'.got i m hm
            refine ⟨v, argS_get.mpr (pin' i (by omega) c v hv'), ?_⟩
            rw [if_neg (by rw [c]; simp; omega)]
            exact r
        · by_cases c : asg.contains i = true ∨ np ≤ i
          · simp only [if_pos c]
          · simp only [if_neg c]
            refine R'.nil i fun m q => ?_
            simp only [not_or, Bool.not_eq_true] at c
            exact e m (outA_put 0 ms env' i (by omega) (by rw [Nat.zero_add]; exact c.1) q)
        · split at hb
          · cases hb
          · split
            · exact fun q => by cases q
            · exact R'.dj i j hij b hb
        · simp only at hb
          split at hb
          · cases hb
          · exact ⟨i, hb⟩
      cases eb : body (argE ms ++ List.replicate nl none) with
      | none => rw [eb] at p; exact p
      | some fl =>
        rw [eb] at p
        cases fl with
        | bk e => exact p.elim
        | ct e => exact p.elim
        | nx e =>
          intro σ' F' H' fps' R' pin ext
          obtain ⟨fpsO, RO, hO⟩ := key R' pin ext.ff
          exact p .non F' H' fpsO [] RO (.fz .non) Own.not_nil (ext.weak fun b h => h.elim (hO b) fun z => by cases z)
        | rt m e =>
          intro v σ' F' H' fps' fp R' r d pin ext
          obtain ⟨fpsO, RO, hO⟩ := key R' pin ext.ff
          exact p v F' H' fpsO fp RO r (fun b hb q => d b hb (hO b q)) (ext.weak fun b h => h.imp (hO b) id)
        | ex x e =>
          intro cls d σ' F' H' fps' R' r pin ext
          obtain ⟨fpsO, RO, hO⟩ := key R' pin ext.ff
          exact p cls d F' H' fpsO RO r (ext.weak hO)
  · exact p.elim
end Ink
set_option Elab.async false
set_option linter.all false
set_option maxRecDepth 100000
namespace Ink
open PySem L2
theorem RepMs.append {K : PySem.W.Frag} {F H : Hp} : ∀ {ms : List M} {vs : List V} {fp : List Addr} {ns : List M} {ws : List V} {fq : List Addr}, RepMs K F H ms vs fp → RepMs K F H ns ws fq → (∀ b ∈ fp, b ∉ fq) → RepMs K F H (ms ++ ns) (vs ++ ws) (fp ++ fq)
  | [], _, _, _, _, _, .nil, h2, _ => h2
  | m :: ms, _, _, ns, ws, fq, .cons (fp := a) (fq := c) h h1 d, h2, dj => by
    have ih := RepMs.append h1 h2 fun b hb => dj b (List.mem_append_right _ hb)
    rw [List.append_assoc]
    exact .cons h ih fun b hb q => by
      rcases List.mem_append.mp q with q | q
      · exact d b hb q
      · exact dj b (List.mem_append_left _ hb) q
theorem Ext.put {K : PySem.W.Frag} {F H : Hp} {p : Addr} {o : HO} {A : Addr → Prop} (hA : A p) {u0 : HO} (hu : H p = some u0 := by assumption) (hk : Kin u0 := by first | exact .inl ⟨_, rfl⟩ | exact .inr (.inl ⟨_, rfl⟩) | exact .inr (.inr (.inl ⟨_, rfl⟩)) | exact .inr (.inr (.inr ⟨_, _, _, rfl⟩))) (ho : NT o := by exact fun _ h => by cases h) (ht : ∀ vs, o ≠ .tup vs := by exact fun _ h => by cases h) : Ext K F H A F (upd H p o) A where
  ff := Sub.refl _
  keep := fun b u h n _ => by rw [upd_ne (fun e => n (by rw [e]; exact hA))]; exact h
  own := fun _ h => .inl h
  fz := fun _ _ h => .inl h
  tt := ⟨fun b ps h => ⟨ps, by
    rw [upd_ne (fun e => by rw [e, hu] at h; exact hk.nt ps (Option.some.inj h))]; exact h⟩, fun t => ⟨t.nt, fun p' hp' => by
    obtain ⟨ps, h1, h2, h3⟩ := t.tb p' hp'
    exact ⟨ps, by rw [upd_ne (fun e => by rw [e, hu] at h1; exact hk.nt ps (Option.some.inj h1))]; exact h1, h2, fun pos cv hc => by
      obtain ⟨c, e1, e2⟩ := h3 pos cv hc
      exact ⟨c, e1, by rw [upd_ne (fun e => by rw [e, hu] at e2; exact hk.nc _ _ (Option.some.inj e2))]; exact e2⟩⟩, fun b ps e => by
    by_cases z : b = p
    · rw [z, upd_same] at e; exact (ho ps (Option.some.inj e)).elim
    · rw [upd_ne z] at e; exact t.ot b ps e, fun q hq ps h pos cv hc => by
    by_cases z : q.1 = p
    · rw [z, upd_same] at h; exact (ho ps (Option.some.inj h)).elim
    · rw [upd_ne z] at h; exact t.cd q hq ps h pos cv hc, fun b vs e => by
    by_cases z : b = p
    · rw [z, upd_same] at e; exact (ht vs (Option.some.inj e)).elim
    · rw [upd_ne z] at e; exact t.tp b vs e⟩⟩
theorem Ext.putO {K : PySem.W.Frag} {F H : Hp} {σ : St} {env : E} {fps : Nat → List Addr} (R : REnv K F H σ env fps) {p : Addr} {o : HO} (h : Own fps p) (ho : NT o := by exact fun _ h => by cases h) (ht : ∀ vs, o ≠ .tup vs := by exact fun _ h => by cases h) : Ext K F H (Own fps) F (upd H p o) (Own fps) := by
  obtain ⟨u, hu, k⟩ := R.kin h
  exact Ext.put h hu k ho ht
theorem sub_put {F H : Hp} {p : Addr} {o : HO} (s : Sub F H) (h : F p = none) : Sub F (upd H p o) := fun b u e => by
  rw [upd_ne (ne_of_none e h)]; exact s b u e
theorem lst_append {K : PySem.W.Frag} {F H : Hp} {ms : List M} {p : Addr} {fp : List Addr} {m : M} {v : V} {fq : List Addr} (h : RepM K F H (.lst ms) (.ref p) fp) (r : RepM K F H m v fq) (d : ∀ b ∈ fp, b ∉ fq) :
    ∃ vs, H p = some (.lst vs) ∧ vs.length = ms.length ∧ p ∈ fp ∧ F p = none ∧ RepM K F (upd H p (.lst (vs ++ [v]))) (.lst (ms ++ [m])) (.ref p) (fp ++ fq) := by
  obtain ⟨p', vs, f1, e, h1, h2, h3, h4, rfl⟩ := repm_lst h
  cases e
  have np : p ∉ fq := d p (List.mem_cons_self ..)
  have hne : ∀ b ∈ f1 ++ fq, b ≠ p := fun b hb e => by
    subst e
    rcases List.mem_append.mp hb with q | q
    · exact h4 q
    · exact np q
  refine ⟨vs, h1, h3.length, List.mem_cons_self .., h2, ?_⟩
  refine RepM.lst upd_same h2 (fp := f1 ++ fq) ?_ fun q => hne p q rfl
  have a : RepMs K F H (ms ++ [m]) (vs ++ [v]) (f1 ++ (fq ++ [])) := h3.append (.cons r .nil fun b _ q => by cases q) fun b hb q => d b (List.mem_cons_of_mem _ hb) (by simpa using q)
  rw [List.append_nil] at a
  exact a.frame (Sub.refl _) (fun b hb => upd_ne (hne b hb)) fun b hb => (a.live b hb).2
def wipeE (env : E) : List Nat → E
  | [] => env
  | v :: vs => (wipeE env vs).set v none
theorem REnv.forget {K : PySem.W.Frag} {F H : Hp} {σ : St} {env : E} {fps : Nat → List Addr} (R : REnv K F H σ env fps) (i : Nat) :
    REnv K F H (σ.set i none) (env.set i none) (fun j => if j = i then [] else fps j) := by
  have D := R.drop i
  refine ⟨D.fr, by simp [R.len], fun j m h => ?_, D.nil, D.dj, D.tt⟩
  obtain ⟨v, hv, r⟩ := D.got j m h
  have e : j ≠ i := fun e => by
    subst e
    by_cases hi : j < env.length
    · rw [List.getElem?_set_self hi] at h; cases h
    · rw [List.getElem?_eq_none (by simpa using hi)] at h; cases h
  exact ⟨v, by rw [List.getElem?_set_ne (fun q => e q.symm)]; exact hv, r⟩
theorem REnv.wipe {K : PySem.W.Frag} {F H : Hp} {σ : St} {env : E} : ∀ (vs : List Nat) {fps : Nat → List Addr}, REnv K F H σ env fps → ∃ fps', REnv K F H (L2.wipe σ vs) (wipeE env vs) fps' ∧ ∀ b, Own fps' b → Own fps b
  | [], fps, R => ⟨fps, R, fun _ h => h⟩
  | v :: vs, fps, R => by
    obtain ⟨fps1, R1, h1⟩ := REnv.wipe vs R
    refine ⟨_, R1.forget v, fun b ⟨j, hj⟩ => h1 b ?_⟩
    by_cases e : j = v
    · simp only [if_pos e] at hj; cases hj
    · simp only [if_neg e] at hj; exact ⟨j, hj⟩
theorem REnv.unwipe {K : PySem.W.Frag} {F H : Hp} {σ : St} {env : E} {vs : List Nat} {fps : Nat → List Addr} (R : REnv K F H (L2.wipe σ vs) env fps) : REnv K F H σ env fps :=
  ⟨R.fr, by rw [R.len, wipe_length], fun i m h => let ⟨v, hv, r⟩ := R.got i m h; ⟨v, (wipe_some hv).1, r⟩, R.nil, R.dj, R.tt⟩
theorem wipe_in {σ : St} : ∀ {vs : List Nat} {i : Nat}, i ∈ vs → i < σ.length → (L2.wipe σ vs)[i]? = some none
  | v :: vs, i, h, hi => by
    unfold L2.wipe
    by_cases e : v = i
    · subst e
      exact List.getElem?_set_self (by rw [wipe_length]; exact hi)
    · rw [List.getElem?_set_ne e]
      exact wipe_in (by
        rcases List.mem_cons.mp h with q | q
        · exact absurd q.symm e
        · exact q) hi
theorem wipe_chg {σ σ' : St} {S vs : List Nat} (h : Chg S (L2.wipe σ vs) σ') (hs : S.all (fun i => vs.contains i) = true) : L2.wipe σ' vs = L2.wipe σ vs := by
  apply List.ext_getElem?
  intro i
  have hl : σ'.length = σ.length := by rw [h.1, wipe_length]
  by_cases hv : i ∈ vs
  · by_cases hi : i < σ.length
    · rw [wipe_in hv hi, wipe_in hv (by omega)]
    · rw [List.getElem?_eq_none (by rw [wipe_length]; omega), List.getElem?_eq_none (by rw [wipe_length]; omega)]
  · rw [wipe_out hv]
    apply h.2
    cases e : S.contains i with
    | false => rfl
    | true =>
      have := List.all_eq_true.mp hs i (by simpa using e)
      exact absurd (by simpa using this) hv
abbrev W0 : WX := fun _ _ _ _ => False
def yesT : FT := fun env => some (.ok true env)
def compD (g : FG) (ft : FT) (fe : FE) (own : List Nat) : List D → E → Option (List M × E)
  | [], env => some ([], env)
  | d :: ds, env => match g (.fz d) env with
    | none => none
    | some env1 => match ft env1 with
      | some (.ok false env2) => compD g ft fe own ds (wipeE env2 own)
      | some (.ok true env2) => match fe env2 with
        | some (.ok (.tm m) env3) => match compD g ft fe own ds (wipeE env3 own) with
          | some (ms, env4) => some (m :: ms, env4)
          | none => none
        | _ => none
      | _ => none
def compE (fi : FI) (g : FG) (ft : FT) (fe : FE) (own : List Nat) : FE := fun env => bindO (fi env) fun ds env1 => if ds.length ≤ sizeLine then match compD g ft fe own ds (wipeE env1 own) with
    | some (ms, env2) => some (.ok (.tm (.lst ms)) env2)
    | none => none
  else none
section
variable {K : PySem.W.Frag} {W : WX} {fi : FI} {g : FG} {ft : FT} {fe : FE} {own S : List Nat}
theorem r_lc (hS : S.all (fun i => own.contains i) = true) : ∀ σ H Q, rE K W (compE fi g ft fe own) σ H Q → tLc (rI K W fi) (rG K S g) (rT K W0 ft) (rE K W0 fe) own σ H Q := fun σ H Q ⟨F, env, fps, R, po⟩ => by
  refine ⟨F, env, fps, R, ?_⟩
  unfold compE at po
  cases ef : fi env with
  | none => rw [ef] at po; exact po
  | some o =>
    rw [ef] at po
    cases o with
    | ex x env1 => exact po
    | ok ds env1 =>
      simp only [bindO_ok] at po
      intro J F1 H1 fps1 R1 hJ e1 L hL
      split at po
      · rename_i hsz
        cases ec : compD g ft fe own ds (wipeE env1 own) with
        | none => rw [ec] at po; exact po.elim
        | some z =>
          obtain ⟨msAll, envF⟩ := z
          rw [ec] at po
          let Wv : Nat → Nat → Hp → Prop := fun i m H' => m = ds.length - i ∧ i ≤ ds.length ∧ ∃ F' env' fps' acc fpD ms', REnv K F' H' (L2.wipe σ own) env' fps' ∧ Sub F1 F' ∧ RepM K F' H' (.lst acc) (.ref L) fpD ∧ (∀ b ∈ fpD, ¬ Own fps' b) ∧ acc.length ≤ i ∧
            Ext K F H (Own fps) F' H' (fun b => Own fps' b ∨ b ∈ fpD) ∧ compD g ft fe own (ds.drop i) env' = some (ms', envF) ∧ acc ++ ms' = msAll
          refine ⟨Wv, ⟨ds.length, by omega, Nat.zero_le _, ?_⟩, ?_⟩
          · have en : Ext K F1 H1 (fun _ => False) F1 (upd H1 L (.lst [])) (fun b => False ∨ b = L) := Ext.new hL
            obtain ⟨fpsw, Rw, hw⟩ := R1.wipe own
            obtain ⟨R2, n2⟩ := Rw.frame (fun b _ h => h) en (sub_new R1.fr hL)
            refine ⟨F1, wipeE env1 own, fpsw, [], [L], msAll, R2, Sub.refl _, .lst upd_same (sub_none R1.fr hL) .nil (by simp), fun b hb q => n2 b q (.inr (by simpa using hb)), Nat.le_refl _, ?_, by simpa using ec, rfl⟩
            exact e1.trans (Ext.new (A := Own fps1) hL) (fun _ h => h) fun b h => .inl (h.imp (hw b) fun z => by simpa using z)
          · rintro i m H' ⟨rfl, hi, F', env', fps', acc, fpD, ms', R', hF, rL, dL, hl, ext, hc, ha⟩
            obtain ⟨hstop, hgo⟩ := hJ F' H' hF R'.fr R'.tt
            by_cases hlt : i < ds.length
            · have hd : ds[i]? = some ds[i] := List.getElem?_eq_getElem hlt
              obtain ⟨go, yl⟩ := hgo i _ hd
              refine .inr ⟨go, Wv (i + 1) (ds.length - (i + 1)), fun H2 q => ⟨_, by omega, q⟩, fun x H2 hy => ?_⟩
              obtain ⟨F2, s2, rx, e2⟩ := yl x H2 hy
              obtain ⟨R2, _⟩ := R'.frame (fun b _ h => h) e2 s2
              have e2' : Ext K F' H' (fun b => Own fps' b ∨ b ∈ fpD) F2 H2 (fun b => Own fps' b ∨ b ∈ fpD) := e2.unit
              obtain ⟨rL2, _⟩ := pendM rL (fun b _ h => h) e2
              have ext2 := ext.trans e2' (fun _ h => h) (C := fun b => Own fps' b ∨ b ∈ fpD) fun _ h => .inl h
              rw [List.drop_eq_getElem_cons hlt, compD] at hc
              cases eg : g (.fz ds[i]) env' with
              | none => rw [eg] at hc; cases hc
              | some env2 =>
                rw [eg] at hc
                simp only at hc
                refine ⟨F2, env', fps', .fz ds[i], [], R2, .fz rx, Own.not_nil, env2, eg, fun σ3 F3 H3 fps3 R3 chg e3 => ?_⟩
                have e3' : Ext K F2 H2 (Own fps') F3 H3 (Own fps3) := e3.wide fun b h => h.elim id fun z => by cases z
                obtain ⟨rL3, dL3⟩ := pendM rL2 dL e3'
                have ext3 : Ext K F H (Own fps) F3 H3 (fun b => Own fps3 b ∨ b ∈ fpD) := ext2.trans e3' (fun _ h => .inl h) fun _ h => h.imp id .inr
                have hwp := wipe_chg chg hS
                refine ⟨hwp, F3, env2, fps3, R3, ?_⟩
                cases et : ft env2 with
                | none => rw [et] at hc; cases hc
                | some o =>
                  rw [et] at hc
                  cases o with
                  | ex x env3 => cases hc
                  | ok b env3 =>
                    intro F4 H4 fps4 R4 e4
                    obtain ⟨rL4, dL4⟩ := pendM rL3 dL3 e4
                    have ext4 : Ext K F H (Own fps) F4 H4 (fun b => Own fps4 b ∨ b ∈ fpD) := ext3.trans e4 (fun _ h => .inl h) fun _ h => h.imp id .inr
                    have sub4 : Sub F1 F4 := hF.trans (e2.ff.trans (e3.ff.trans e4.ff))
                    cases b with
                    | false =>
                      refine ifF ?_
                      obtain ⟨fpsw, Rw, hw⟩ := R4.wipe own
                      rw [hwp] at Rw
                      exact ⟨rfl, hlt, F4, _, fpsw, acc, fpD, ms', Rw, sub4, rL4, fun b hb q => dL4 b hb (hw b q), by omega, ext4.weak fun b h => h.imp (hw b) id, hc, ha⟩
                    | true =>
                      refine ifT ⟨F4, env3, fps4, R4, ?_⟩
                      simp only at hc
                      cases ee : fe env3 with
                      | none => rw [ee] at hc; cases hc
                      | some o =>
                        rw [ee] at hc
                        cases o with
                        | ex x env4 => cases hc
                        | ok a env4 =>
                          cases a with
                          | sl k => cases hc
                          | tm mm =>
                            simp only at hc
                            cases ed : compD g ft fe own (ds.drop (i + 1)) (wipeE env4 own) with
                            | none => rw [ed] at hc; cases hc
                            | some z =>
                              obtain ⟨ms5, env5⟩ := z
                              rw [ed] at hc
                              cases hc
                              intro y F5 H5 fps5 fp5 R5 r5 d5 e5
                              have r5 : RepM K F5 H5 mm y fp5 := r5
                              obtain ⟨rL5, dL5⟩ := pendM rL4 dL4 e5
                              obtain ⟨vs, hD5, hlen, hin, hfn, rN⟩ := lst_append rL5 r5 fun b hb q => dL5 b hb (.inr q)
                              have ext5 : Ext K F H (Own fps) F5 H5 (fun b => Own fps5 b ∨ b ∈ fpD ++ fp5) := ext4.trans e5 (fun _ h => .inl h) fun b h => by
                                rcases h with h | h
                                · exact .inl (.inl h)
                                · rcases List.mem_append.mp h with h | h
                                  · exact .inr (.inr h)
                                  · exact .inl (.inr h)
                              refine ⟨vs, hD5, by omega, rfl, hlt, ?_⟩
                              obtain ⟨fpsw, Rw, hw⟩ := R5.wipe own
                              rw [hwp] at Rw
                              have ep : Ext K F5 H5 (fun b => b = L) F5 (upd H5 L (.lst (vs ++ [y]))) (fun b => b = L) := Ext.put rfl
                              obtain ⟨R6, _⟩ := Rw.frame (B := fun b => b = L) (fun b hb e => by subst e; exact dL5 b hin (.inl (hw b hb))) ep (sub_put R5.fr hfn)
                              refine ⟨F5, _, fpsw, acc ++ [mm], fpD ++ fp5, ms5, R6, sub4.trans e5.ff, rN, fun b hb q => ?_, by simp; omega, ?_, ed, by simp [← ha]⟩
                              · rcases List.mem_append.mp hb with hb | hb
                                · exact dL5 b hb (.inl (hw b q))
                                · exact d5 b hb (hw b q)
                              · exact ext5.trans (Ext.put (A := fun b => Own fps5 b ∨ b ∈ fpD ++ fp5) (.inr (List.mem_append_left _ hin))) (fun _ h => h) fun b h => .inl (h.imp (hw b) id)
            · have e : i = ds.length := by omega
              subst e
              rw [List.drop_length, compD] at hc
              cases hc
              rw [List.append_nil] at ha
              subst ha
              exact .inl ⟨hstop _ (Nat.le_refl _), po (.ref L) F' H' fps' fpD R'.unwipe rL dL ext⟩
      · exact po.elim
end
section
variable {X : Cx} {W : WX} {elt tg iter : Expr} {ifs : List Expr} {scope : Scope} {own : List (Str × Nat)} {pos : Pos} {fi : FI} {g : FG} {ft : FT} {fe : FE} {S : List Nat}
theorem e_lc (hc : X.calm = true) (hN : X.N.Nodup) (hi : PI X tg iter (rI X.K W fi)) (ok : BlkOk X.N X.env.scope scope own)
    (hg : ∀ (s : Shared) (H : Hp) (C : Addr) (cl : List (Str × Addr)) (fp : List Addr), PG (X.blk s H scope (compEnvC scope cl C X.env) fp) tg (rG X.K S g)) (ht : ∀ (s : Shared) (H : Hp) (C : Addr) (cl : List (Str × Addr)) (fp : List Addr), PTs (X.blk s H scope (compEnvC scope cl C X.env) fp) ifs (rT X.K W0 ft))
    (he : ∀ (s : Shared) (H : Hp) (C : Addr) (cl : List (Str × Addr)) (fp : List Addr), PE (X.blk s H scope (compEnvC scope cl C X.env) fp) elt (rE X.K W0 fe)) (hS : S.all (fun i => (own.map (·.2)).contains i) = true := by rfl) (hs : ∀ x, foldedSetIterable iter X.env x = pure x := by intro _; rfl) :
    PE X (.ListComp elt [⟨tg, iter, ifs, 0⟩] scope pos) (rE X.K W (compE fi g ft fe (own.map (·.2)))) := PE_mono (pe_lc hc hN hi ok hg ht he hs) (r_lc hS)
theorem s_setLc {P : List Nat} {i : Nat} {y : Str} {py spos : Pos} (hc : X.calm = true) (hN : X.N.Nodup) (hy : X.N[i]? = some y) (hyl : X.env.scope.names.lookup y = some .local)
    (hsw : swapsWith (.ListComp elt [⟨tg, iter, ifs, 0⟩] scope pos) (some (.Name y py)) spos.line X.env = pure true) (hi : PI X tg iter (rI X.K W fi)) (ok : BlkOk X.N X.env.scope scope own)
    (hg : ∀ (s : Shared) (H : Hp) (C : Addr) (cl : List (Str × Addr)) (fp : List Addr), PG (X.blk s H scope (compEnvC scope cl C X.env) fp) tg (rG X.K S g)) (ht : ∀ (s : Shared) (H : Hp) (C : Addr) (cl : List (Str × Addr)) (fp : List Addr), PTs (X.blk s H scope (compEnvC scope cl C X.env) fp) ifs (rT X.K W0 ft))
    (he : ∀ (s : Shared) (H : Hp) (C : Addr) (cl : List (Str × Addr)) (fp : List Addr), PE (X.blk s H scope (compEnvC scope cl C X.env) fp) elt (rE X.K W0 fe)) (hS : S.all (fun i => (own.map (·.2)).contains i) = true := by rfl) (hp : apart [i] P = true := by rfl) (hs : ∀ x, foldedSetIterable iter X.env x = pure x := by intro _; rfl) :
    PS X (.Assign [.Name y py] (.ListComp elt [⟨tg, iter, ifs, 0⟩] scope pos) spos) (rS X.K W P (asgS (compE fi g ft fe (own.map (·.2))) (nmG i))) := PS_mono (ps_setLc hc hN hy hyl hsw hi ok hg ht he hs) fun D σ H q =>
  r_lc hS σ H _ (rE_imp (fun v H' z => r_name (S := [i]) (by simp) v σ H' D.nx z) (r_asg hp D σ H q))
theorem ts_nil {K : PySem.W.Frag} (hK : X.K = K) : PTs X [] (rT K W0 yesT) := ⟨fun pins s σ H Q I ⟨F, env, fps, R, p⟩ => pts_nil.run pins s σ H Q I (p F H fps R (Ext.refl fun _ h => h))⟩
theorem ts_one {c : Expr} {f : FT} {K : PySem.W.Frag} (h : PT X c (rT K W0 f)) : PTs X [c] (rT K W0 f) := pts_one h
end
section
variable {K : PySem.W.Frag} {F : Hp}
theorem it_list {p : Addr} {vs : List V} {ds : List D} (h : F p = some (.lst vs)) (r : Reps K F vs ds) : ItD K (Itl K p) F ds := fun F' H s1 s2 _ => by
  have q : SqL K H p vs := SqL.of (s2 _ _ (s1 _ _ h))
  refine ⟨fun i hi => ⟨vs, q, by rw [r.length]; exact hi⟩, fun i d hd => ?_⟩
  obtain ⟨v, hv, rv⟩ := r.get hd
  refine ⟨⟨vs, v, q, hv⟩, fun x H' ⟨e, y⟩ => ?_⟩
  subst e
  have := y vs q
  rw [hv] at this; cases this
  exact ⟨F', s2, rv.mono s1, Ext.refl fun _ h => h⟩
theorem it_tup {p : Addr} {vs : List V} {ds : List D} (h : SqT K F p vs) (r : Reps K F vs ds) : ItD K (Itt K p) F ds := fun F' H s1 s2 _ => by
  have q : SqT K H p vs := s2.sqt (s1.sqt h)
  refine ⟨fun i hi => ⟨vs, q, by rw [r.length]; exact hi⟩, fun i d hd => ?_⟩
  obtain ⟨v, hv, rv⟩ := r.get hd
  refine ⟨⟨vs, v, q, hv⟩, fun x H' ⟨e, y⟩ => ?_⟩
  subst e
  have := y vs q
  rw [hv] at this; cases this
  exact ⟨F', s2, rv.mono s1, Ext.refl fun _ h => h⟩
theorem it_range (lo : Int) (n : Nat) : ItD K (Itr lo n) F ((List.range n).map fun k => .int (lo + (k : Nat))) := fun F' H s1 s2 _ => by
  refine ⟨fun i hi => show n ≤ i by simpa using hi, fun i d hd => ?_⟩
  rw [List.getElem?_map] at hd
  by_cases hi : i < n
  · rw [List.getElem?_eq_getElem (by simpa using hi)] at hd
    simp at hd
    subst hd
    exact ⟨hi, fun x H' ⟨e, y⟩ => by subst e y; exact ⟨F', s2, .int _, Ext.refl fun _ h => h⟩⟩
  · rw [List.getElem?_eq_none (by simpa using hi)] at hd
    cases hd
theorem it_str (x : Str) : ItD K (Its x) F (x.cps.toList.map fun c => .str ⟨#[c]⟩) := fun F' H s1 s2 _ => by
  refine ⟨fun i hi => show x.cps.size ≤ i by simpa using hi, fun i d hd => ?_⟩
  rw [List.getElem?_map] at hd
  cases e : x.cps.toList[i]? with
  | none => rw [e] at hd; cases hd
  | some c =>
    rw [e] at hd
    cases hd
    have hi : i < x.cps.size := by simpa using (List.getElem?_eq_some_iff.mp e).1
    refine ⟨hi, fun y H' ⟨e1, c', e2, e3⟩ => ?_⟩
    subst e1 e3
    have : x.cps[i]? = some c := by rw [← Array.getElem?_toList]; exact e
    rw [this] at e2; cases e2
    exact ⟨F', s2, .str _, Ext.refl fun _ h => h⟩
end
/-- the items of what an expression gives -/
def itemsL (m : M) : Option (List D) := match frz m with
  | some (.lst ds) => some ds
  | _ => none
def overE (it : M → Option (List D)) (f : FE) : FI := fun env => bindO (tk f env) fun a env1 => match a with
  | .tm m => match it m with
    | some ds => some (.ok ds env1)
    | none => none
  | .sl _ => none
section
variable {X : Cx} {W : WX} {tg l : Expr} {f : FE}
/-- the common part: a taken value, frozen -/
theorem r_over {K : PySem.W.Frag} {it : M → Option (List D)} : ∀ σ H R, rI K W (overE it f) σ H R → rE K W (tk f) σ H fun x H1 => ∃ F env fps m fp ds, REnv K F H1 σ env fps ∧ RepM K F H1 m x fp ∧ (∀ b ∈ fp, ¬ Own fps b) ∧ it m = some ds ∧ PJ K σ F H1 (fun b => Own fps b ∨ b ∈ fp) ds env R := fun σ H R ⟨F, env, fps, R0, p⟩ => by
  refine ⟨F, env, fps, R0, ?_⟩
  unfold overE at p
  cases ef : tk f env with
  | none => rw [ef] at p; exact p
  | some o =>
    rw [ef] at p
    cases o with
    | ex x env1 => exact p
    | ok a env1 =>
      cases a with
      | sl i => exact p.elim
      | tm m =>
        simp only [bindO_ok] at p
        cases ei : it m with
        | none => rw [ei] at p; exact p.elim
        | some ds =>
          rw [ei] at p
          intro v F1 H1 fps1 fp R1 r d e1
          exact ⟨F1, env1, fps1, m, fp, ds, R1, r, d, ei, fun J F' H' fps' R' hJ e2 => p J F' H' fps' R' hJ (e1.trans e2 (fun _ h => h) fun _ h => .inl h)⟩
theorem freeze_at {K : PySem.W.Frag} {F H : Hp} {σ : St} {env : E} {fps : Nat → List Addr} {m : M} {v : V} {fp : List Addr} {d : D} (R : REnv K F H σ env fps) (r : RepM K F H m v fp) (dj : ∀ b ∈ fp, ¬ Own fps b) (h : frz m = some d) :
    ∃ F', Sub F' H ∧ Rep K F' v d ∧ REnv K F' H σ env fps ∧ Ext K F H (fun b => Own fps b ∨ b ∈ fp) F' H (Own fps) := by
  have hl := r.live
  have s1 : Sub F (addF F H fp) := addF_sub fun b hb => (hl b hb).2
  have s2 : Sub (addF F H fp) H := addF_in_H R.fr
  refine ⟨addF F H fp, s2, r.frozen s1 (fun b hb => addF_in hb) h, R.more s1 s2 (fun b hb => ?_) (addF_nt r R.tt.nt), Ext.same s1 (fun b h => .inl (.inl h)) (fun b o h => ?_) (fun h => addF_nt r h)⟩
  · rw [addF_out (fun q => dj b q hb)]
    exact (R.live hb).2
  · by_cases hb : b ∈ fp
    · exact .inr (.inl (.inr hb))
    · rw [addF_out hb] at h; exact .inl h
/-- range(n), range(a, b) -/
def intA (a : Av) (env : E) : Option Int := match a with
  | .tm (.fz (.int i)) => some i
  | .sl k => match env[k]? with
    | some (some (.fz (.int i))) => some i
    | _ => none
  | _ => none
theorem intA_rep {K : PySem.W.Frag} {F H : Hp} {σ : St} {env : E} {fps : Nat → List Addr} {a : Av} {v : V} {fp : List Addr} {b : Int} (R : REnv K F H σ env fps) (r : RepA K F H σ a v fp) (h : intA a env = some b) : v = .int b := by
  unfold intA at h
  split at h
  · cases h
    exact rep_int (repm_fz r)
  · split at h
    · rename_i e
      cases h
      obtain ⟨w, hw, rr⟩ := R.got _ _ e
      obtain ⟨q, _⟩ := r
      rw [q] at hw; cases hw
      exact rep_int (repm_fz rr)
    · cases h
  · cases h
def fits (i : Int) : Bool := decide (-(2 ^ 62) ≤ i) && decide (i < 2 ^ 62)
def rangeD (lo hi : Int) : List D := (List.range (hi - lo).toNat).map fun k => .int (lo + (k : Nat))
def rng1 (f : FE) : FI := fun env => bindO (f env) fun a env1 => match intA a env1 with
  | some n => if fits n then some (.ok (rangeD 0 n) env1) else none
  | none => none
def rng2 (f g : FE) : FI := fun env => bindO (f env) fun a env1 => bindO (g env1) fun b env2 => match intA a env2 with
  | some i => match intA b env2 with
    | some j => if fits i && fits j then some (.ok (rangeD i j) env2) else none
    | none => none
  | none => none
theorem i_range1 {a : Expr} {p pos : Pos} (hg : Gl X "range") (hm : X.mg "range" = none) (h : PE X a (rE X.K W f)) (hs : starEach [a] X.env = [(false, eval a X.env)] := by rfl) : PI X tg (.Call (.Name "range" p) [a] [] pos) (rI X.K W (rng1 f)) := PI_mono (pi_range1 hg hm (a_cons h a_nil hs) hs) fun σ H R ⟨F, env, fps, R0, p⟩ => by
  refine ⟨F, env, fps, R0, ?_⟩
  unfold rng1 at p
  unfold consA
  cases ef : f env with
  | none => rw [ef] at p; exact p
  | some o =>
    rw [ef] at p
    cases o with
    | ex x env1 => exact p
    | ok a env1 =>
      simp only [bindO_ok] at p ⊢
      intro vs F1 H1 fps1 fpA R1 rs d e1
      cases ei : intA a env1 with
      | none => rw [ei] at p; exact p.elim
      | some n =>
        simp only [ei] at p
        obtain ⟨v, hv, r⟩ := rs.got 0 a rfl
        obtain rfl := intA_rep R1 r ei
        have l := rs.len
        match vs, hv, l with
        | [w], hv, _ =>
          cases hv
          split at p
          · rename_i hf
            simp only [fits, Bool.and_eq_true, decide_eq_true_eq] at hf
            refine ⟨n, rfl, hf.1, hf.2, p _ F1 H1 fps1 R1 ?_ (e1.weak fun _ h => .inl h)⟩
            have := it_range (K := X.K) (F := F1) 0 n.toNat
            rw [rangeD, Int.sub_zero]
            exact this
          · exact p.elim
end
structure Fn (P : Program) (w : World) (K : PySem.W.Frag) (mg : Str → Option Value) (base : Heap) (k : Nat) (x : Str) (ps : List Str) (g : FP) : Prop where
  ex : ∃ f fd, FnOk P w K mg base (L2N.CX P w) k f fd ps (spOf K g) ∧ mg x = some (.ref f) ∧ PySem.W.keepIn K (.ref f) = true ∧ Binds K fd ps []
theorem e_call {X : Cx} {W : WX} {k : Nat} {x : Str} {ps : List Str} {g : FP} {e : Expr} {es : List Expr} {f : FA} {p pos : Pos} (G : Fn X.prog X.w X.K X.mg X.base k x ps g) (hr : Room k X.A) (hg : Gl X x) (t : Takes X W) (ha : PA X (e :: es) (rA X.K W f))
    (hdb : (x == ("__debug__" : Str)) = false := by decide) (he : starEach (e :: es) X.env = (false, eval e X.env) :: starEach es X.env := by rfl) (hpl : (backTo pos (starEach es X.env)).any (·.1) = false := by rfl) : PE X (.Call (.Name x p) (e :: es) [] pos) (rE X.K W (callE g f)) := by
  obtain ⟨fa, fd, F, hm, hk, hb⟩ := G.ex
  exact PE_mono (pe_callS F hr hg hm hk hb (fun σ => passAt t σ) ha hdb he hpl) fun σ H Q q => r_call q
theorem fn_mk {P : Program} {w : World} {K : PySem.W.Frag} {mg : Str → Option Value} {base : Heap} {x qual : Str} {params : Arguments} {body : List Stmt} {scope : Scope} {f : Addr} {fd : FuncData} {N ps : List Str} {k np nl : Nat} {asg : List Nat} {fb : FS}
    (F : FunD K x qual params body scope [] [] f fd) (S : FnScope N ps scope) (hN : N.length = np + nl) (hp : ps.length = np) (hm : mg x = some (.ref f))
    (hbd : ∀ (kV doc pm : Value) (an : Option Addr) (cdv ct : Value) (us : List Value), us.length = ps.length → bindArgs (PySem.W.fnOf x qual params body scope .none kV doc pm an cdv ct) ⟨us, []⟩ = pure (ps.zip us))
    (hb : ∀ (cdv : Value) (A : Around) (outer : List Env) (s : Shared) (H : Hp) (Ex : XK), Room k (A.deeper (PyProof.Rows.envOfC qual scope s.heap.objs.size f cdv)) → PSs (cxOf (L2N.CX P w) P w K mg base N qual scope f cdv A outer s H Ex) body (rS K (fun cls d _ H' => Ex cls d H') (pinsOf np asg) fb)) :
    Fn P w K mg base (k + 1) x ps (fnM np nl asg fb) :=
  ⟨f, fd, F.ok S (fun vs H Q Ex h => by rw [(fn_body hN h).1, hp]) (fun cdv A outer s H vs Q Ex hr h => ⟨_, hb cdv A outer s H Ex hr, (fn_body hN h).2⟩), hm, F.kp, F.bindsN hbd⟩
end Ink
set_option Elab.async false
set_option linter.all false
set_option maxRecDepth 100000
namespace Ink
open PySem L2
def tms : List Av → Option (List M)
  | [] => some []
  | .tm m :: r => match tms r with
    | some ms => some (m :: ms)
    | none => none
  | .sl _ :: _ => none
def lstE (fa : FA) : FE := fun env => bindO (fa env) fun as env1 => match tms as with
  | some ms => if ms.length ≤ sizeLine then some (.ok (.tm (.lst ms)) env1) else none
  | none => none
def tupE (fa : FA) : FE := fun env => bindO (fa env) fun as env1 => match tms as with
  | some ms => match unfz ms with
    | some ds => if ds.length ≤ sizeLine then some (.ok (.tm (.fz (.tup ds))) env1) else none
    | none => if ms.length ≤ sizeLine then some (.ok (.tm (.tup ms)) env1) else none
  | none => none
theorem RepAs.tail {K : PySem.W.Frag} {F H : Hp} {σ : St} {a : Av} {as : List Av} {vs : List V} {fpA : Nat → List Addr} (h : RepAs K F H σ (a :: as) vs fpA) : ∃ v ws, vs = v :: ws ∧ RepA K F H σ a v (fpA 0) ∧ RepAs K F H σ as ws (fun j => fpA (j + 1)) := by
  have l := h.len
  match vs, l with
  | v :: ws, _ =>
    obtain ⟨w, hw, r⟩ := h.got 0 a rfl
    cases hw
    refine ⟨v, ws, rfl, r, ⟨by simpa using h.len, fun j c hc => ?_, fun j hj => h.nil (j + 1) (by simpa using hj), fun i j hij b hb => h.dj (i + 1) (j + 1) (by omega) b hb⟩⟩
    obtain ⟨w, h1, h2⟩ := h.got (j + 1) c (by simpa using hc)
    exact ⟨w, by simpa using h1, h2⟩
theorem tms_reps {K : PySem.W.Frag} {F H : Hp} {σ : St} : ∀ {as : List Av} {vs : List V} {fpA : Nat → List Addr} {ms : List M}, RepAs K F H σ as vs fpA → tms as = some ms → ∃ fp, RepMs K F H ms vs fp ∧ ∀ b ∈ fp, Own fpA b
  | [], vs, fpA, ms, h, e => by
    rw [tms] at e; cases e
    have l := h.len
    match vs, l with
    | [], _ => exact ⟨[], .nil, fun b hb => by cases hb⟩
  | .sl _ :: r, _, _, _, _, e => by rw [tms] at e; cases e
  | .tm m :: r, vs, fpA, ms, h, e => by
    rw [tms] at e
    cases er : tms r with
    | none => rw [er] at e; cases e
    | some ns =>
      rw [er] at e; cases e
      obtain ⟨v, ws, rfl, ra, rs⟩ := h.tail
      obtain ⟨fp, rm, ho⟩ := tms_reps rs er
      refine ⟨fpA 0 ++ fp, .cons ra rm fun b hb q => ?_, fun b hb => ?_⟩
      · obtain ⟨j, hj⟩ := ho b q
        exact h.dj 0 (j + 1) (by omega) b hb hj
      · rcases List.mem_append.mp hb with q | q
        · exact ⟨0, q⟩
        · obtain ⟨j, hj⟩ := ho b q
          exact ⟨j + 1, hj⟩
theorem RepMs.frozen {K : PySem.W.Frag} {F H F' : Hp} : ∀ {ms : List M} {vs : List V} {fp : List Addr} {ds : List D}, RepMs K F H ms vs fp → Sub F F' → (∀ b ∈ fp, F' b = H b) → frzs ms = some ds → Reps K F' vs ds
  | [], _, _, ds, .nil, _, _, e => by rw [frzs] at e; cases e; exact .nil
  | m :: ms, _, _, ds, .cons a b d, s, hF, e => by
    rw [frzs] at e
    cases e1 : frz m with
    | none => rw [e1] at e; cases e
    | some x =>
      rw [e1] at e
      cases e2 : frzs ms with
      | none => rw [e2] at e; cases e
      | some xs =>
        rw [e2] at e; cases e
        exact .cons (a.frozen s (fun b hb => hF b (List.mem_append_left _ hb)) e1) (b.frozen s (fun b hb => hF b (List.mem_append_right _ hb)) e2)
section
variable {X : Cx} {W : WX} {es : List Expr} {fa : FA} {pos : Pos}
theorem e_lst (h : PA X es (rA X.K W fa)) : PE X (.List es pos) (rE X.K W (lstE fa)) := PE_mono (pe_lst h) fun σ H Q ⟨F, env, fps, R, p⟩ => by
  refine ⟨F, env, fps, R, ?_⟩
  unfold lstE at p
  cases ef : fa env with
  | none => rw [ef] at p; exact p
  | some o =>
    rw [ef] at p
    cases o with
    | ex x env1 => exact p
    | ok as env1 =>
      simp only [bindO_ok] at p
      cases et : tms as with
      | none => rw [et] at p; exact p.elim
      | some ms =>
        simp only [et] at p
        split at p
        · rename_i hl
          intro vs F1 H1 fps1 fpA R1 rs d e1
          obtain ⟨fp, rm, ho⟩ := tms_reps rs et
          refine ⟨by rw [rm.length]; exact hl, fun q hq => ?_⟩
          have en : Ext X.K F1 H1 (fun _ => False) F1 (upd H1 q (.lst vs)) (fun b => False ∨ b = q) := Ext.new hq
          obtain ⟨R2, n2⟩ := R1.frame (fun b _ h => h) en (sub_new R1.fr hq)
          have nq : ∀ b ∈ fp, b ≠ q := fun b hb e => by
            obtain ⟨⟨o, ho⟩, _⟩ := rm.live b hb
            rw [e, hq] at ho; cases ho
          have rm2 : RepMs X.K F1 (upd H1 q (.lst vs)) ms vs fp := rm.frame (Sub.refl _) (fun b hb => upd_ne (nq b hb)) fun b hb => (rm.live b hb).2
          refine p (.ref q) F1 _ fps1 (q :: fp) R2 (.lst upd_same (sub_none R1.fr hq) rm2 fun h => nq q h rfl) (fun b hb z => ?_) ?_
          · rcases List.mem_cons.mp hb with e | hb
            · exact n2 b z (.inr e)
            · exact d b (ho b hb) z
          · exact e1.trans (Ext.new (A := fun b => Own fps1 b ∨ Own fpA b) hq) (fun _ h => h) fun b h => by
              rcases h with h | h
              · exact .inl (.inl (.inl h))
              · rcases List.mem_cons.mp h with e | h
                · exact .inl (.inr e)
                · exact .inl (.inl (.inr (ho b h)))
        · exact p.elim
theorem e_tup {k : Nat} (h : PA X es (rA X.K W fa)) : PE X (.Tuple es k pos) (rE X.K W (tupE fa)) := PE_mono (pe_tup h) fun σ H Q ⟨F, env, fps, R, p⟩ => by
  refine ⟨F, env, fps, R, ?_⟩
  unfold tupE at p
  cases ef : fa env with
  | none => rw [ef] at p; exact p
  | some o =>
    rw [ef] at p
    cases o with
    | ex x env1 => exact p
    | ok as env1 =>
      simp only [bindO_ok] at p
      cases et : tms as with
      | none => rw [et] at p; exact p.elim
      | some ms =>
        simp only [et] at p
        cases ed : unfz ms with
        | none =>
          simp only [ed] at p
          split at p
          · rename_i hl
            intro vs F1 H1 fps1 fpA R1 rs d e1
            obtain ⟨fp, rm, ho⟩ := tms_reps rs et
            refine ⟨by rw [rm.length]; exact hl, fun q hq => ?_⟩
            have en : Ext X.K F1 H1 (fun _ => False) (upd F1 q (.tup vs)) (upd H1 q (.tup vs)) (fun _ => False) := Ext.newF R1.fr hq
            obtain ⟨R2, n2⟩ := R1.frame (fun b _ h => h) en (sub_upd R1.fr)
            have nq : ∀ b ∈ fp, b ≠ q := fun b hb e => by
              obtain ⟨⟨o, ho⟩, _⟩ := rm.live b hb
              rw [e, hq] at ho; cases ho
            have rm2 : RepMs X.K (upd F1 q (.tup vs)) (upd H1 q (.tup vs)) ms vs fp := rm.frame en.ff (fun b hb => upd_ne (nq b hb)) fun b hb => by rw [upd_ne (nq b hb)]; exact (rm.live b hb).2
            exact p (.ref q) (upd F1 q (.tup vs)) _ fps1 fp R2 (.tup upd_same rm2) (fun b hb z => d b (ho b hb) z) (e1.trans (Ext.newF (A := fun b => Own fps1 b ∨ Own fpA b) R1.fr hq) (fun _ h => h) fun b h => .inl (h.imp id (ho b)))
          · exact p.elim
        | some ds =>
          simp only [ed] at p
          split at p
          · rename_i hl
            intro vs F1 H1 fps1 fpA R1 rs d e1
            obtain ⟨fp, rm, ho⟩ := tms_reps rs et
            have rd : Reps X.K F1 vs ds := unfz_reps rm ed
            refine ⟨by rw [rd.length]; exact hl, fun q hq => ?_⟩
            have en : Ext X.K F1 H1 (fun _ => False) (upd F1 q (.tup vs)) (upd H1 q (.tup vs)) (fun _ => False) := Ext.newF R1.fr hq
            obtain ⟨R2, _⟩ := R1.frame (fun b _ h => h) en (sub_upd R1.fr)
            refine p (.ref q) _ _ fps1 [] R2 (.fz (.tup upd_same (rd.mono en.ff))) Own.not_nil ?_
            exact (e1.trans en.unit (B := Own fps1) (C := Own fps1) (fun _ h => .inl h) fun _ h => .inl h).weak fun b h => h.elim id fun z => by cases z
          · exact p.elim
end
def chainE (p q : Int → Int → Bool) (fa fb fc : FE) : FE := fun env => bindO (fa env) fun a env1 => bindO (fb env1) fun b env2 => match intA a env2 with
  | some i => match intA b env2 with
    | some j => match p i j with
      | true => bindO (fc env2) fun c env3 => match intA c env3 with
        | some k => some (.ok (.tm (.fz (.bl (q j k)))) env3)
        | none => none
      | false => some (.ok (.tm (.fz (.bl false))) env2)
    | none => none
  | none => none
section
variable {X : Cx} {W : WX} {a b c : Expr} {fa fb fc : FE} {pos : Pos}
theorem r_chain {K : PySem.W.Frag} {p q : Int → Int → Bool} : ∀ σ H Q, rE K W (chainE p q fa fb fc) σ H Q → tChain (rI0 fun i j => .bl (p i j)) (rI0 fun i j => .bl (q i j)) (rE K W fa) (rE K W fb) (rE K W fc) σ H Q := fun σ H Q ⟨F, env, fps, R, po⟩ => by
  refine ⟨F, env, fps, R, ?_⟩
  unfold chainE at po
  cases ef : fa env with
  | none => rw [ef] at po; exact po
  | some o =>
    rw [ef] at po
    cases o with
    | ex x env1 => exact po
    | ok a env1 =>
      simp only [bindO_ok] at po
      intro v F1 H1 fps1 fp R1 r d e1
      refine ⟨F1, env1, fps1, R1, ?_⟩
      cases eg : fb env1 with
      | none => rw [eg] at po; exact po
      | some o2 =>
        rw [eg] at po
        cases o2 with
        | ex x env2 => exact PX.wide po e1 fun _ h => .inl h
        | ok b env2 =>
          simp only [bindO_ok] at po
          intro w F2 H2 fps2 fp2 R2 r2 d2 e2
          obtain ⟨r', _⟩ := pendA r d e2
          cases ei : intA a env2 with
          | none => rw [ei] at po; exact po.elim
          | some i =>
            simp only [ei] at po
            cases ej : intA b env2 with
            | none => rw [ej] at po; exact po.elim
            | some j =>
              simp only [ej] at po
              obtain rfl := intA_rep R2 r' ei
              obtain rfl := intA_rep R2 r2 ej
              have e12 : Ext K F H (Own fps) F2 H2 (Own fps2) := (e1.trans e2 (fun _ h => .inl h) (C := Own fps2) fun _ h => .inl (.inl h))
              refine ⟨i, j, rfl, rfl, p i j, rfl, ?_⟩
              cases hp : p i j with
              | false =>
                simp only [hp] at po
                exact ifF (po (.bl false) F2 H2 fps2 [] R2 (RepM.fz (.bl false)) Own.not_nil (e12.weak fun b h => h.elim id fun z => by cases z))
              | true =>
                simp only [hp] at po
                refine ifT ⟨F2, env2, fps2, R2, ?_⟩
                cases ec : fc env2 with
                | none => rw [ec] at po; exact po
                | some o3 =>
                  rw [ec] at po
                  cases o3 with
                  | ex x env3 => exact PX.wide po e12 fun _ h => h
                  | ok c env3 =>
                    simp only [bindO_ok] at po
                    intro z F3 H3 fps3 fp3 R3 r3 d3 e3
                    cases ek : intA c env3 with
                    | none => rw [ek] at po; exact po.elim
                    | some k =>
                      simp only [ek] at po
                      obtain rfl := intA_rep R3 r3 ek
                      exact ⟨j, k, rfl, rfl, po (.bl (q j k)) F3 H3 fps3 [] R3 (RepM.fz (.bl _)) Own.not_nil (e12.trans e3 (fun _ h => h) fun b h => .inl (.inl (h.elim id fun z => by cases z)))⟩
theorem e_chain {op op' : CmpOp} {p q : Int → Int → Bool} (ho : OpR X (compareOp op) (rI0 fun i j => .bl (p i j))) (ho' : OpR X (compareOp op') (rI0 fun i j => .bl (q i j))) (ha : PE X a (rE X.K W fa)) (hb : PE X b (rE X.K W fb)) (hc : PE X c (rE X.K W fc))
    (hm : lastMarks [op, op'] [b, c] = false := by with_unfolding_all rfl) : PE X (.Compare a [op, op'] [b, c] pos) (rE X.K W (chainE p q fa fb fc)) := PE_mono (pe_chain ho ho' ha hb hc hm) r_chain
end
def andE (fa fb : FE) : FE := fun env => bindO (fa env) fun a env1 => match boolA a env1 with
  | some true => fb env1
  | some false => some (.ok (.tm (.fz (.bl false))) env1)
  | none => none
def orE (fa fb : FE) : FE := fun env => bindO (fa env) fun a env1 => match boolA a env1 with
  | some true => some (.ok (.tm (.fz (.bl true))) env1)
  | some false => fb env1
  | none => none
def notE (fa : FE) : FE := fun env => bindO (fa env) fun a env1 => match boolA a env1 with
  | some b => some (.ok (.tm (.fz (.bl (!b)))) env1)
  | none => none
def ifE (c : FT) (fa fb : FE) : FE := fun env => bindO (c env) fun b env1 => match b with
  | true => fa env1
  | false => fb env1
section
variable {X : Cx} {W : WX} {a b c : Expr} {rest : List Expr} {fa fb : FE} {fc : FT} {pos : Pos}
theorem e_one {op} (h : PE X a (rE X.K W fa)) : PE X (.BoolOp op [a] pos) (rE X.K W fa) := pe_one h
theorem e_and (ha : PE X a (rE X.K W fa)) (hb : PE X (.BoolOp .And (b :: rest) pos) (rE X.K W fb)) : PE X (.BoolOp .And (a :: b :: rest) pos) (rE X.K W (andE fa fb)) := PE_mono (pe_and ha hb) fun σ H Q ⟨F, env, fps, R, po⟩ => by
  refine ⟨F, env, fps, R, ?_⟩
  unfold andE at po
  cases ef : fa env with
  | none => rw [ef] at po; exact po
  | some o =>
    rw [ef] at po
    cases o with
    | ex x env1 => exact po
    | ok a env1 =>
      simp only [bindO_ok] at po
      intro v F1 H1 fps1 fp R1 r d e1
      cases eb : boolA a env1 with
      | none => rw [eb] at po; exact po.elim
      | some k =>
        simp only [eb] at po
        refine ⟨k, boolA_rep R1 r eb, ?_⟩
        cases k with
        | true => exact ifT ⟨F1, env1, fps1, R1, poE.wide po e1 fun _ h => .inl h⟩
        | false => exact ifF (po (.bl false) F1 H1 fps1 [] R1 (RepM.fz (.bl false)) Own.not_nil (e1.weak fun b h => .inl (h.elim id fun z => by cases z)))
theorem e_not (ha : PE X a (rE X.K W fa)) : PE X (.UnaryOp .Not a pos) (rE X.K W (notE fa)) := PE_mono (pe_not ha) fun σ H Q ⟨F, env, fps, R, po⟩ => by
  refine ⟨F, env, fps, R, ?_⟩
  unfold notE at po
  cases ef : fa env with
  | none => rw [ef] at po; exact po
  | some o =>
    rw [ef] at po
    cases o with
    | ex x env1 => exact po
    | ok a env1 =>
      simp only [bindO_ok] at po
      intro v F1 H1 fps1 fp R1 r d e1
      cases eb : boolA a env1 with
      | none => rw [eb] at po; exact po.elim
      | some k =>
        simp only [eb] at po
        exact ⟨k, boolA_rep R1 r eb, po (.bl (!k)) F1 H1 fps1 [] R1 (RepM.fz (.bl _)) Own.not_nil (e1.weak fun b h => .inl (h.elim id fun z => by cases z))⟩
theorem e_if (hc : PT X c (rT X.K W fc)) (ha : PE X a (rE X.K W fa)) (hb : PE X b (rE X.K W fb)) : PE X (.IfExp c a b pos) (rE X.K W (ifE fc fa fb)) := PE_mono (pe_ifExp hc ha hb) fun σ H Q ⟨F, env, fps, R, po⟩ => by
  refine ⟨F, env, fps, R, ?_⟩
  unfold ifE at po
  cases ef : fc env with
  | none => rw [ef] at po; exact po
  | some o =>
    rw [ef] at po
    cases o with
    | ex x env1 => exact po
    | ok k env1 =>
      simp only [bindO_ok] at po
      intro F1 H1 fps1 R1 e1
      cases k with
      | true => exact ifT ⟨F1, env1, fps1, R1, poE.wide po e1 fun _ h => h⟩
      | false => exact ifF ⟨F1, env1, fps1, R1, poE.wide po e1 fun _ h => h⟩
end
def isNon : M → Bool
  | .fz .non => true
  | _ => false
theorem isNon_rep {K : PySem.W.Frag} {F H : Hp} {m : M} {v : V} {fp : List Addr} (r : RepM K F H m v fp) : decide (v = .non) = isNon m := by
  cases r with
  | fz h => cases h <;> simp [isNon]
  | lst => simp [isNon]
  | tup => simp [isNon]
  | dK => simp [isNon]
  | dT => simp [isNon]
  | ins => simp [isNon]
def isNM (a b : M) : Option M := match b with
  | .fz .non => some (.fz (.bl (isNon a)))
  | _ => none
def notNM (a b : M) : Option M := match b with
  | .fz .non => some (.fz (.bl (!isNon a)))
  | _ => none
section
variable {X : Cx} {W : WX} {a b : Expr} {fa fb : FE} {pos : Pos}
theorem e_isN (ha : PE X a (rE X.K W fa)) (hb : PE X b (rE X.K W fb)) : PE X (.Compare a [.Is] [b] pos) (rE X.K W (callE (g2 isNM) (arg2 fa fb))) := e_cmp op_isN (fun x y H Q Ex p => by
  obtain ⟨F, a, b, m, fps, R, r1, r2, e, p⟩ := g2_at p
  unfold isNM at e
  split at e
  · cases e
    exact ⟨rep_non (repm_fz r2), sp_flat R (by rw [isNon_rep r1]; exact .bl _) p⟩
  · cases e) ha hb (nomark _)
end
mutual
def toPD : D → Option PyData
  | .non => some .none
  | .bl b => some (.bool b)
  | .int i => some (.int i)
  | .str x => some (.str x)
  | .lst ds => match toPDs ds with
    | some ps => some (.list ps)
    | none => none
  | .tup ds => match toPDs ds with
    | some ps => some (.tuple ps)
    | none => none
  | .dK _ => none
  | .dT _ => none
  | .scr _ => none
  | .ins _ _ => none
  | .lam _ => none
  | .dLK _ => none
  | .dLT _ => none
  | .nst _ _ => none
  | .emp => some (.tuple [])
  | .exc _ _ => none
def toPDs : List D → Option (List PyData)
  | [] => some []
  | d :: ds => match toPD d with
    | some p => match toPDs ds with
      | some ps => some (p :: ps)
      | none => none
    | none => none
end
mutual
def toPM : M → Option PyData
  | .fz d => toPD d
  | .lst ms => match toPMs ms with
    | some ps => some (.list ps)
    | none => none
  | .tup ms => match toPMs ms with
    | some ps => some (.tuple ps)
    | none => none
  | .dK _ => none
  | .dT _ => none
  | .ins _ _ => none
def toPMs : List M → Option (List PyData)
  | [] => some []
  | d :: ds => match toPM d with
    | some p => match toPMs ds with
      | some ps => some (p :: ps)
      | none => none
    | none => none
end
section
variable {K : PySem.W.Frag} {F H : Hp}
theorem dp_of (s : Sub F H) {v : V} {d : D} (h : Rep K F v d) : ∀ p, toPD d = some p → Dp K H v p :=
  Rep.rec (K := K) (F := F) (motive_1 := fun v d _ => ∀ p, toPD d = some p → Dp K H v p) (motive_2 := fun vs ds _ => ∀ ps, toPDs ds = some ps → DpAll K H vs ps)
    (fun p e => by rw [toPD] at e; cases e; exact .non) (fun b p e => by rw [toPD] at e; cases e; exact .bl b) (fun i p e => by rw [toPD] at e; cases e; exact .int i) (fun x p e => by rw [toPD] at e; cases e; exact .str x)
    (fun {q vs ds} a _ ih p e => by
      rw [toPD] at e
      cases e2 : toPDs ds with
      | none => rw [e2] at e; cases e
      | some ps => rw [e2] at e; cases e; exact .lst (SqL.of (s _ _ a)) (ih ps e2))
    (fun {q vs ds} a _ ih p e => by
      rw [toPD] at e
      cases e2 : toPDs ds with
      | none => rw [e2] at e; cases e
      | some ps => rw [e2] at e; cases e; exact .tup (a.sqt s) (ih ps e2))
    (fun _ _ _ _ p e => by rw [toPD] at e; cases e) (fun _ _ _ _ p e => by rw [toPD] at e; cases e) (fun _ p e => by rw [toPD] at e; cases e) (fun _ _ _ _ p e => by rw [toPD] at e; cases e) (fun _ _ p e => by rw [toPD] at e; cases e) (fun _ _ _ _ p e => by rw [toPD] at e; cases e) (fun _ _ _ _ p e => by rw [toPD] at e; cases e) (fun _ _ _ _ p e => by rw [toPD] at e; cases e) (fun a p e => by rw [toPD] at e; cases e; exact .tup (s.sqt a) .nil) (fun p e => by rw [toPD] at e; cases e)
    (fun ps e => by rw [toPDs] at e; cases e; exact .nil)
    (fun {v vs d ds} _ _ i1 i2 ps e => by
      rw [toPDs] at e
      cases e1 : toPD d with
      | none => rw [e1] at e; cases e
      | some p =>
        rw [e1] at e
        cases e2 : toPDs ds with
        | none => rw [e2] at e; cases e
        | some qs => rw [e2] at e; cases e; exact .cons (i1 p e1) (i2 qs e2)) h
theorem dpm_of (s : Sub F H) {m : M} {v : V} {fp : List Addr} (h : RepM K F H m v fp) : ∀ p, toPM m = some p → Dp K H v p :=
  RepM.rec (K := K) (F := F) (H := H) (motive_1 := fun m v _ _ => ∀ p, toPM m = some p → Dp K H v p) (motive_2 := fun ms vs _ _ => ∀ ps, toPMs ms = some ps → DpAll K H vs ps)
    (fun r p e => by rw [toPM] at e; exact dp_of s r p e)
    (fun {q vs ms fp} a _ _ _ ih p e => by
      rw [toPM] at e
      cases e2 : toPMs ms with
      | none => rw [e2] at e; cases e
      | some ps => rw [e2] at e; cases e; exact .lst (SqL.of a) (ih ps e2))
    (fun {q vs ms fp} a _ ih p e => by
      rw [toPM] at e
      cases e2 : toPMs ms with
      | none => rw [e2] at e; cases e
      | some ps => rw [e2] at e; cases e; exact .tup (SqT.of (s _ _ a)) (ih ps e2))
    (fun _ _ _ _ _ _ p e => by rw [toPM] at e; cases e) (fun _ _ _ _ _ _ p e => by rw [toPM] at e; cases e) (fun _ _ _ _ _ _ p e => by rw [toPM] at e; cases e)
    (fun ps e => by rw [toPMs] at e; cases e; exact .nil)
    (fun {m v ms vs fp fq} _ _ _ i1 i2 ps e => by
      rw [toPMs] at e
      cases e1 : toPM m with
      | none => rw [e1] at e; cases e
      | some p =>
        rw [e1] at e
        cases e2 : toPMs ms with
        | none => rw [e2] at e; cases e
        | some qs => rw [e2] at e; cases e; exact .cons (i1 p e1) (i2 qs e2)) h
end
/-- == : of numbers, texts, truths at once; else by their data -/
def eqB : M → M → Option Bool
  | .fz (.int i), .fz (.int j) => some (decide (i = j))
  | .fz (.str s), .fz (.str t) => some (decide (s = t))
  | .fz (.bl a), .fz (.bl b) => some (decide (a = b))
  | a, b => match toPM a with
    | some p => match toPM b with
      | some q => if SeqAt.shaped p && SeqAt.shaped q then some (PyData.eqv p q) else none
      | none => none
    | none => none
def eqM (a b : M) : Option M := match eqB a b with
  | some k => some (.fz (.bl k))
  | none => none
def neM (a b : M) : Option M := match eqB a b with
  | some k => some (.fz (.bl (!k)))
  | none => none
theorem eqB_at {K : PySem.W.Frag} {F H : Hp} {a b : M} {x y : V} {fa fb : List Addr} {k : Bool} (s : Sub F H) (r1 : RepM K F H a x fa) (r2 : RepM K F H b y fb) (h : eqB a b = some k) : (scal x y = true ∧ k = decide (x = y)) ∨ ∃ p q, Dp K H x p ∧ Dp K H y q ∧ SeqAt.shaped p = true ∧ SeqAt.shaped q = true ∧ k = PyData.eqv p q := by
  unfold eqB at h
  split at h
  · cases h
    obtain rfl := rep_int (repm_fz r1)
    obtain rfl := rep_int (repm_fz r2)
    exact .inl ⟨rfl, by simp⟩
  · cases h
    obtain rfl := rep_str (repm_fz r1)
    obtain rfl := rep_str (repm_fz r2)
    exact .inl ⟨rfl, by simp⟩
  · cases h
    obtain rfl := rep_bl (repm_fz r1)
    obtain rfl := rep_bl (repm_fz r2)
    exact .inl ⟨rfl, by simp⟩
  · cases e1 : toPM a with
    | none => rw [e1] at h; cases h
    | some p =>
      simp only [e1] at h
      cases e2 : toPM b with
      | none => rw [e2] at h; cases h
      | some q =>
        simp only [e2] at h
        split at h
        · rename_i hs
          cases h
          simp only [Bool.and_eq_true] at hs
          exact .inr ⟨p, q, dpm_of s r1 p e1, dpm_of s r2 q e2, hs.1, hs.2, rfl⟩
        · cases h
section
variable {X : Cx} {W : WX} {a b : Expr} {fa fb : FE} {pos : Pos}
theorem e_eq (hu : X.A.units + 64 < cLine) (ha : PE X a (rE X.K W fa)) (hb : PE X b (rE X.K W fb)) : PE X (.Compare a [.Eq] [b] pos) (rE X.K W (callE (g2 eqM) (arg2 fa fb))) := e_cmp (op_eq.or (op_eqD hu)) (fun x y H Q Ex p => by
  obtain ⟨F, a, b, m, fps, R, r1, r2, e, p⟩ := g2_at p
  unfold eqM at e
  cases ek : eqB a b with
  | none => rw [ek] at e; cases e
  | some k =>
    rw [ek] at e; cases e
    have q := sp_flat R (Rep.bl k) p
    rcases eqB_at R.fr r1 r2 ek with ⟨h, rfl⟩ | ⟨d, e, h1, h2, h3, h4, rfl⟩
    · exact .inl ⟨h, q⟩
    · exact .inr ⟨d, e, h1, h2, h3, h4, q⟩) ha hb (nomark _)
end
end Ink
set_option Elab.async false
set_option linter.all false
set_option maxRecDepth 100000
namespace Ink
open PySem L2
def cutL {α : Type} (xs : List α) (lo hi : Option Int) : List α := (xs.drop (HT.sIx xs.length 0 lo)).take (HT.sIx xs.length xs.length hi - HT.sIx xs.length 0 lo)
theorem cut_reps {K : PySem.W.Frag} {F : Hp} {vs : List V} {ds : List D} (r : Reps K F vs ds) (lo hi : Option Int) : Reps K F (cutV vs lo hi) (cutL ds lo hi) := by
  unfold cutV cutL
  rw [r.length]
  exact (r.drop _).take _
theorem cut_ints {K : PySem.W.Frag} {F : Hp} (ns : List Int) (lo hi : Option Int) : Reps K F (cutV (ns.map V.int) lo hi) ((cutL ns lo hi).map D.int) := by
  have e : cutV (ns.map V.int) lo hi = (cutL ns lo hi).map V.int := by
    unfold cutV cutL
    rw [List.length_map, ← List.map_drop, ← List.map_take]
  rw [e]
  induction cutL ns lo hi with
  | nil => exact .nil
  | cons n ns ih => exact .cons (.int n) ih
def sliceM (m : M) (lo hi : Option Int) : Option M := match m with
  | .fz (.str s) => if s.length ≤ sizeLine then some (.fz (.str (cutS s lo hi))) else none
  | .fz (.tup ds) => some (.fz (.tup (cutL ds lo hi)))
  | .fz (.scr ns) => some (.lst ((cutL ns lo hi).map fun n => .fz (.int n)))
  | m => match lstD m with
    | some ds => some (.lst ((cutL ds lo hi).map .fz))
    | none => none
def rSl (K : PySem.W.Frag) : V → Option Int → Option Int → Hp → VK → Prop := fun x lo hi H Q => rSlS x lo hi H Q ∨ (rSlA K x lo hi H Q ∨ rSlL K x lo hi H Q)
theorem slice_at {K : PySem.W.Frag} {F H : Hp} {vs : List V} {ms : List M} {fps : Nat → List Addr} {Q : VK} {Ex : XK} {m z : M} {x : V} {fp : List Addr} {lo hi : Option Int} (R : REnv K F H (argS vs) (argE ms) fps) (r : RepM K F H m x fp) (h : sliceM m lo hi = some z)
    (p : poP K F H (Own fps) vs (some (.ok z (argE ms))) Q Ex) : rSl K x lo hi H Q := by
  unfold sliceM at h
  split at h
  · split at h
    · rename_i hl
      cases h
      obtain rfl := rep_str (repm_fz r)
      exact .inl ⟨_, rfl, hl, sp_flat R (.str _) p⟩
    · cases h
  · rename_i ds
    cases h
    obtain ⟨q, ws, rfl, hq, rs⟩ := tup_rep R.fr (repm_fz r)
    refine .inr (.inl ⟨q, ws, rfl, hq, fun ⟨h1, h2⟩ => ?_, fun _ => sp_tup R (cut_reps rs lo hi) p⟩)
    have e : cutL ds lo hi = ds := by
      unfold cutL
      rw [rs.length] at h1 h2
      rw [h1, h2]
      simp
    rw [e] at p
    exact sp_flat R (repm_fz r) p
  · cases h
    cases repm_fz r with
    | scr hq =>
      rename_i ns pp
      refine .inr (.inr ⟨pp, _, rfl, R.fr.sql hq, ?_⟩)
      have e : ((cutL ns lo hi).map fun n => M.fz (.int n)) = ((cutL ns lo hi).map D.int).map M.fz := by rw [List.map_map]; rfl
      rw [e] at p
      exact sp_lst R (cut_ints ns lo hi) p
  · rename_i m' _ _ _
    cases e1 : lstD m with
    | none => rw [e1] at h; cases h
    | some ds =>
      rw [e1] at h; cases h
      obtain ⟨q, ws, rfl, hq, rs⟩ := lstD_rep R.fr r e1
      exact .inr (.inr ⟨q, ws, rfl, SqL.of hq, sp_lst R (cut_reps rs lo hi) p⟩)
def sl00 : FP := g1 fun m => sliceM m none none
def sl10 : FP := g2 fun m a => match a with
  | .fz (.int i) => sliceM m (some i) none
  | _ => none
def sl01 : FP := g2 fun m a => match a with
  | .fz (.int i) => sliceM m none (some i)
  | _ => none
def slice11E (fe fl fu : FE) : FE := fun env => bindO (fe env) fun a env1 => bindO (fl env1) fun b env2 => match intA b env2 with
  | some i => bindO (fu env2) fun c env3 => match intA c env3 with
    | some j => runP (g1 fun m => sliceM m (some i) (some j)) [a] env3
    | none => none
  | none => none
section
variable {X : Cx} {W : WX} {e l u : Expr} {fe fl fu : FE} {p2 pos : Pos}
theorem sl_any : SlR X (rSl X.K) := sl_str.or (sl_tupA.or sl_list)
theorem e_slice10 (he : PE X e (rE X.K W fe)) (hl : PE X l (rE X.K W fl)) : PE X (.Subscript e (.Slice (some l) none none p2) pos) (rE X.K W (callE sl10 (arg2 fe fl))) := PE_mono (pe_slice sl_any he (po_some hl) po_none) fun σ H Q p =>
  rE_imp (fun x H1 p1 => rE_imp (fun y H2 p2 => by
    obtain ⟨F, a, b, m, fps, R, r1, r2, h, p⟩ := g2_at (ra_nil p2)
    split at h
    · obtain rfl := rep_int (repm_fz r2)
      exact ⟨_, rfl, slice_at R r1 h p⟩
    · cases h) (ra_cons p1)) (ra_cons (r_call p))
theorem e_slice01 (he : PE X e (rE X.K W fe)) (hu : PE X u (rE X.K W fu)) : PE X (.Subscript e (.Slice none (some u) none p2) pos) (rE X.K W (callE sl01 (arg2 fe fu))) := PE_mono (pe_slice sl_any he po_none (po_some hu)) fun σ H Q p =>
  rE_imp (fun x H1 p1 => rE_imp (fun y H2 p2 => by
    obtain ⟨F, a, b, m, fps, R, r1, r2, h, p⟩ := g2_at (ra_nil p2)
    split at h
    · obtain rfl := rep_int (repm_fz r2)
      exact ⟨_, rfl, slice_at R r1 h p⟩
    · cases h) (ra_cons p1)) (ra_cons (r_call p))
end
def flatD : D → Bool
  | .non => true
  | .bl _ => true
  | .int _ => true
  | .str _ => true
  | _ => false
def eqD : D → D → Bool
  | .non, .non => true
  | .bl a, .bl b => a == b
  | .bl a, .int b => (if a then 1 else 0) == b
  | .int a, .bl b => a == (if b then 1 else 0)
  | .int a, .int b => a == b
  | .str a, .str b => a == b
  | _, _ => false
theorem flat_rep {K : PySem.W.Frag} {F : Hp} {v : V} {d : D} (r : Rep K F v d) (h : flatD d = true) : flatV v = true := by
  cases r <;> first | rfl | cases h
theorem eq_rep {K : PySem.W.Frag} {F : Hp} {v w : V} {d e : D} (r : Rep K F v d) (r2 : Rep K F w e) (h : flatD d = true) (h2 : flatD e = true) : eqV v w = eqD d e := by
  cases r <;> first | (cases h; done) | (cases r2 <;> first | rfl | (cases h2; done))
theorem in_rep {K : PySem.W.Frag} {F : Hp} {x : V} {d : D} (r : Rep K F x d) (h : flatD d = true) : ∀ {vs : List V} {ds : List D}, Reps K F vs ds → ds.all flatD = true → vs.all flatV = true ∧ inV x vs = ds.any fun e => eqD e d
  | _, _, .nil, _ => ⟨rfl, rfl⟩
  | _, _, .cons a b, hf => by
    rw [List.all_cons, Bool.and_eq_true] at hf
    obtain ⟨h1, h2⟩ := in_rep r h b hf.2
    refine ⟨by rw [List.all_cons, flat_rep a hf.1, h1]; rfl, ?_⟩
    unfold inV at h2 ⊢
    rw [List.any_cons, List.any_cons, h2, eq_rep a r hf.1 h]
def inB : M → M → Option Bool
  | .fz (.str ⟨⟨[c]⟩⟩), .fz (.str t) => some (decide (c ∈ t.cps.toList))
  | .fz d, b => if flatD d then match seqD b with
      | some ds => if ds.all flatD then some (ds.any fun e => eqD e d) else none
      | none => none
    else none
  | _, _ => none
def inM (neg : Bool) (a b : M) : Option M := match inB a b with
  | some k => some (.fz (.bl (if neg then !k else k)))
  | none => none
theorem inB_at {K : PySem.W.Frag} {F H : Hp} {a b : M} {x y : V} {fa fb : List Addr} {k : Bool} (s : Sub F H) (r1 : RepM K F H a x fa) (r2 : RepM K F H b y fb) (h : inB a b = some k) :
    (∃ (c : Nat) (z : Str), x = .str ⟨#[c]⟩ ∧ y = .str z ∧ k = decide (c ∈ z.cps.toList)) ∨ ∃ p xs, y = .ref p ∧ (SqL K H p xs ∨ SqT K H p xs) ∧ flatV x = true ∧ xs.all flatV = true ∧ k = inV x xs := by
  unfold inB at h
  split at h
  · rename_i c t
    cases h
    obtain rfl := rep_str (repm_fz r1)
    obtain rfl := rep_str (repm_fz r2)
    exact .inl ⟨c, t, rfl, rfl, rfl⟩
  · rename_i d _
    split at h
    · rename_i hf
      cases e1 : seqD b with
      | none => rw [e1] at h; cases h
      | some ds =>
        simp only [e1] at h
        split at h
        · rename_i ha
          cases h
          obtain ⟨p, vs, rfl, hq, rs⟩ := seqD_rep s r2 e1
          obtain ⟨h1, h2⟩ := in_rep (repm_fz r1) hf rs ha
          exact .inr ⟨p, vs, rfl, hq, flat_rep (repm_fz r1) hf, h1, h2.symm⟩
        · cases h
    · cases h
  · cases h
def intM1 : M → Option M
  | .fz (.int i) => some (.fz (.int i))
  | .fz (.bl b) => some (.fz (.int (if b then 1 else 0)))
  | _ => none
def listM : M → Option M := fun m => match seqD m with
  | some ds => some (.lst (ds.map .fz))
  | none => none
def tupleM : M → Option M := fun m => match m with
  | .fz (.tup ds) => some (.fz (.tup ds))
  | .fz .emp => some (.fz .emp)
  | m => match lstD m with
    | some ds => some (.fz (.tup ds))
    | none => none
def bools : List D → Option (List Bool)
  | [] => some []
  | .bl b :: r => match bools r with
    | some bs => some (b :: bs)
    | none => none
  | _ => none
def allM (all : Bool) : M → Option M := fun m => match lstD m with
  | some ds => match bools ds with
    | some bs => some (.fz (.bl (if all then bs.all id else bs.any id)))
    | none => none
  | none => none
theorem bools_reps {K : PySem.W.Frag} {F : Hp} : ∀ {vs : List V} {ds : List D} {bs : List Bool}, Reps K F vs ds → bools ds = some bs → vs = bs.map V.bl
  | _, [], bs, .nil, e => by rw [bools] at e; cases e; rfl
  | _, .bl b :: r, bs, .cons a t, e => by
    rw [bools] at e
    cases e2 : bools r with
    | none => rw [e2] at e; cases e
    | some cs => rw [e2] at e; cases e; rw [rep_bl a, bools_reps t e2]; rfl
  | _, .non :: _, _, _, e => by simp [bools] at e
  | _, .int _ :: _, _, _, e => by simp [bools] at e
  | _, .str _ :: _, _, _, e => by simp [bools] at e
  | _, .lst _ :: _, _, _, e => by simp [bools] at e
  | _, .tup _ :: _, _, _, e => by simp [bools] at e
  | _, .dK _ :: _, _, _, e => by simp [bools] at e
  | _, .dT _ :: _, _, _, e => by simp [bools] at e
  | _, .scr _ :: _, _, _, e => by simp [bools] at e
  | _, .ins _ _ :: _, _, _, e => by simp [bools] at e
  | _, .lam _ :: _, _, _, e => by simp [bools] at e
  | _, .dLK _ :: _, _, _, e => by simp [bools] at e
  | _, .dLT _ :: _, _, _, e => by simp [bools] at e
  | _, .nst _ _ :: _, _, _, e => by simp [bools] at e
  | _, .emp :: _, _, _, e => by simp [bools] at e
  | _, .exc _ _ :: _, _, _, e => by simp [bools] at e
section
variable {X : Cx} {W : WX} {e e2 : Expr} {fa fb : FE} {p pos : Pos}
theorem opc_all {K : PySem.W.Frag} : OpC K (g1 (allM true)) (rAll K) := fun vs H Q Ex p => by
  obtain ⟨x, F, a, m, fps, rfl, R, r, h, p⟩ := g1_at p
  unfold allM at h
  cases e1 : lstD a with
  | none => rw [e1] at h; cases h
  | some ds =>
    simp only [e1] at h
    cases e2 : bools ds with
    | none => rw [e2] at h; cases h
    | some bs =>
      simp only [e2] at h
      cases h
      obtain ⟨q, vs, rfl, hq, rs⟩ := lstD_rep R.fr r e1
      exact ⟨q, bs, rfl, by rw [← bools_reps rs e2]; exact SqL.of hq, sp_flat R (.bl _) p⟩
theorem e_all (hc : X.calm = true) (hg : Gl X "all") (hm : X.mg "all" = none) (ha : PE X e (rE X.K W fa)) (hs : starEach [e] X.env = (false, eval e X.env) :: starEach [] X.env := by rfl) : PE X (.Call (.Name "all" p) [e] [] pos) (rE X.K W (callE (g1 (allM true)) (arg1 fa))) :=
  e_callB (cr_all hc) opc_all hg hm (by decide +kernel) (a_cons ha a_nil hs) (he := hs)
theorem e_int1 (hg : Gl X "int") (hm : X.mg "int" = none) (ha : PE X e (rE X.K W fa)) (hs : starEach [e] X.env = (false, eval e X.env) :: starEach [] X.env := by rfl) : PE X (.Call (.Name "int" p) [e] [] pos) (rE X.K W (callE (g1 intM1) (arg1 fa))) :=
  e_callTy call_int1 (fun vs H Q Ex p => by
    obtain ⟨x, F, a, m, fps, rfl, R, r, h, p⟩ := g1_at p
    unfold intM1 at h
    split at h
    · cases h
      obtain rfl := rep_int (repm_fz r)
      exact .inl ⟨_, rfl, sp_flat R (.int _) p⟩
    · cases h
      obtain rfl := rep_bl (repm_fz r)
      exact .inr ⟨_, rfl, sp_flat R (.int _) p⟩
    · cases h) hg hm (by decide +kernel) (a_cons ha a_nil hs) (he := hs)
theorem e_tuple (hg : Gl X "tuple") (hm : X.mg "tuple" = none) (ha : PE X e (rE X.K W fa)) (hs : starEach [e] X.env = (false, eval e X.env) :: starEach [] X.env := by rfl) : PE X (.Call (.Name "tuple" p) [e] [] pos) (rE X.K W (callE (g1 tupleM) (arg1 fa))) :=
  e_callTy call_tuple_of (fun vs H Q Ex p => by
    obtain ⟨x, F, a, m, fps, rfl, R, r, h, p⟩ := g1_at p
    unfold tupleM at h
    split at h
    · cases h
      obtain ⟨q, vs, rfl, hq, rs⟩ := tup_rep R.fr (repm_fz r)
      exact ⟨q, vs, rfl, .inr ⟨hq, sp_flat R (repm_fz r) p⟩⟩
    · cases h
      obtain ⟨q, rfl, hq⟩ := emp_rep R.fr (repm_fz r)
      exact ⟨q, [], rfl, .inr ⟨hq, sp_flat R (repm_fz r) p⟩⟩
    · cases e1 : lstD a with
      | none => rw [e1] at h; cases h
      | some ds =>
        simp only [e1] at h
        cases h
        obtain ⟨q, vs, rfl, hq, rs⟩ := lstD_rep R.fr r e1
        exact ⟨q, vs, rfl, .inl ⟨SqL.of hq, sp_tup R rs p⟩⟩) hg hm (by decide +kernel) (a_cons ha a_nil hs) (he := hs)
def maxM : M → M → Option M := intM (fun _ _ => true) fun i j => .int (if j > i then j else i)
theorem e_max2 (hc : X.calm = true) (hg : Gl X "max") (hm : X.mg "max" = none) (ha : PE X e (rE X.K W fa)) (hb : PE X e2 (rE X.K W fb)) (hs : starEach [e, e2] X.env = (false, eval e X.env) :: starEach [e2] X.env := by rfl) (hs2 : starEach [e2] X.env = (false, eval e2 X.env) :: starEach [] X.env := by rfl) (hpl : (backTo pos (starEach [e2] X.env)).any (·.1) = false := by rfl) : PE X (.Call (.Name "max" p) [e, e2] [] pos) (rE X.K W (callE (g2 maxM) (arg2 fa fb))) :=
  e_callB (call_max2 hc) (fun vs H Q Ex p => by
    obtain ⟨x, y, F, a, b, m, fps, rfl, R, r1, r2, h, p⟩ := g2_atC p
    obtain ⟨i, j, rfl, rfl, _, rfl⟩ := intM_at h
    obtain rfl := rep_int (repm_fz r1)
    obtain rfl := rep_int (repm_fz r2)
    exact ⟨i, j, rfl, sp_flat R (.int _) p⟩) hg hm (by decide +kernel) (a_cons ha (a_cons hb a_nil hs2) hs) (he := hs) (hpl := hpl)
end
end Ink
set_option Elab.async false
set_option linter.all false
set_option maxRecDepth 100000
namespace Ink
open PySem PySem.Spec PyProof.Rows L2
theorem enumEnd_list {prog : Program} {w : World} {A : Around} {E : Value → Shared → Prop} {s : Shared} {e it a : Addr} {c : Int} {i : Nat} {items : Array Value} {old : Value} {Q : Option Value → Shared → Prop} (hh : A.handled = none)
    (he : IsEnum s.heap e it c old) (hit : s.heap.IsListIter it a i) (hl : s.heap.IsList a items) (hx : items.size ≤ i) (hQ : ∀ h1, Heap.ExtBut it s.heap h1 → Q none { s with heap := h1 }) : wpAny (model prog w) A (pyNext (.ref e)) Q E s := by
  have hT : s.TypeIs (.ref e) "enumerate" := ⟨_, he, rfl⟩
  unfold pyNext
  refine wpAny_bind (wpAny_attempt (wpAny_callSpecial?_slot (name := Str.ofString "__next__") hT PySem.F.slot_enumerate_next
    (wpAny_call_entry PySem.F.slot_enumerate_next hT PySem.F.entry_enumerate_next ?_ (PySem.F.args_enumerate_next_1 _))))
  show wpAny _ _ (field (.ref e) 2 >>= _) _ _ _
  refine wpAny_bind (wpAny_field he rfl (x := .ref it) rfl ?_)
  refine wpAny_bind (wpAny_nextOf_list_end (A := A.in1) hh hit hl (by simp; exact hx) fun h1 x e1 hx1 => ?_)
  obtain ⟨o, ho, hc⟩ := hx1
  exact wpAny_bind (wpAny_isInstance (T := "StopIteration") (b := true) ⟨o, ho, hc⟩ isSubtype_stop (wpAny_pure (hQ _ e1)))
theorem enumEnd_tup {prog : Program} {w : World} {A : Around} {E : Value → Shared → Prop} {s : Shared} {e it a : Addr} {c : Int} {i : Nat} {items : Array Value} {old : Value} {Q : Option Value → Shared → Prop} (hh : A.handled = none)
    (he : IsEnum s.heap e it c old) (hit : s.heap.IsTupleIter it a i) (hl : s.heap.IsTuple a items) (hx : items.size ≤ i) (hQ : ∀ h1, Heap.ExtBut it s.heap h1 → Q none { s with heap := h1 }) : wpAny (model prog w) A (pyNext (.ref e)) Q E s := by
  have hT : s.TypeIs (.ref e) "enumerate" := ⟨_, he, rfl⟩
  unfold pyNext
  refine wpAny_bind (wpAny_attempt (wpAny_callSpecial?_slot (name := Str.ofString "__next__") hT PySem.F.slot_enumerate_next
    (wpAny_call_entry PySem.F.slot_enumerate_next hT PySem.F.entry_enumerate_next ?_ (PySem.F.args_enumerate_next_1 _))))
  show wpAny _ _ (field (.ref e) 2 >>= _) _ _ _
  refine wpAny_bind (wpAny_field he rfl (x := .ref it) rfl ?_)
  refine wpAny_bind (wpAny_nextOf_tuple_end (A := A.in1) hh hit hl (by simp; exact hx) fun h1 x e1 hx1 => ?_)
  obtain ⟨o, ho, hc⟩ := hx1
  exact wpAny_bind (wpAny_isInstance (T := "StopIteration") (b := true) ⟨o, ho, hc⟩ isSubtype_stop (wpAny_pure (hQ _ e1)))
/-- each item of the list at a in a new pair, counted from k -/
def Ielist (K : PySem.W.Frag) (a : Addr) (k : Int) : It :=
  ⟨fun i H => ∃ (xs : List V) (x : V), SqL K H a xs ∧ xs[i]? = some x, fun i H v H' => ∃ T x, v = .ref T ∧ H T = none ∧ H' = upd H T (.tup [.int (k + (i : Nat)), x]) ∧ ∀ xs, SqL K H a xs → xs[i]? = some x,
    fun i H => ∃ xs : List V, SqL K H a xs ∧ xs.length ≤ i⟩
theorem turnE_list {P : Program} {w : World} {K : PySem.W.Frag} {elts : List Expr} {kk : Nat} {tpos : Pos} (a e it : Addr) (k : Int) :
    Turn P w K (.Tuple elts kk tpos) (Ielist K a k) [e, it] e (fun i h => (∃ old, IsEnum h e it (k + (i : Nat)) old) ∧ h.IsListIter it a i ∧ e ≠ it ∧ a ≠ it ∧ a ≠ e) where
  mem := by simp
  obj := fun i h st b hb => by
    obtain ⟨⟨old, he⟩, ⟨o, ho, hc, hd⟩, _⟩ := st
    have z : b = e ∨ b = it := by simpa using hb
    rcases z with rfl | rfl
    · exact ⟨_, he, fun v q => nomatch q⟩
    · exact ⟨o, ho, fun v q => by rw [hd] at q; cases q⟩
  keep := fun i h h' st kp => by
    obtain ⟨⟨old, he⟩, hi, r⟩ := st
    exact ⟨⟨old, kp e (by simp) _ he⟩, hi.at fun o q => kp it (by simp) o q, r⟩
  item := by
    intro X hP hw hK hc i pins s σ H E I hf st hg
    subst hP hw hK
    obtain ⟨⟨old, he⟩, hit, hne, hai, hae⟩ := st
    obtain ⟨xs, x, hq, hx⟩ := hg
    obtain ⟨its, rv, p, hz⟩ := I.list hq
    obtain ⟨u, hu, ru⟩ := rv.get hx
    have hlt : i < its.toArray.size := by
      have := (List.getElem?_eq_some_iff.mp hu).1
      simpa using this
    have hel : e < s.heap.objs.size := Heap.lt_size he
    have hil : it < s.heap.objs.size := by
      obtain ⟨_, q, _⟩ := hit
      exact Heap.lt_size q
    have Dw := Draws.list (prog := X.prog) (w := X.w) (A := X.A.in1) (I.ok.hd hc) it a hai its.toArray
    refine wpAny_pyNext_enum_itemC Dw he ⟨hit, p.isList⟩ hlt hne (by simp; exact ⟨hne, fun q => hae q.symm⟩) fun y h1 tk hy ho hst hT hsz hk => ?_
    have ey : y = u := by
      have q : its.toArray[i]? = some u := by simpa using hu
      rw [q] at hy
      exact (Option.some.inj hy).symm
    subst ey
    refine ⟨_, rfl, wpAny_letOwnedTupleGo_enum (s := { s with heap := h1, toks := tk + 1 }) ho fun h2 he2 sb => ?_⟩
    have hT2 : h2.get? s.heap.objs.size = some { cls := .type "tuple", data := .seq #[.int (k + (i : Nat)) tk, y] } := (sb.2 _ (Nat.ne_of_gt hel)).trans hT
    have nw : ObjOk X.prog X.w (upd H s.heap.objs.size (.tup [.int (k + (i : Nat)), x])) h2 s.heap.objs.size (.tup [.int (k + (i : Nat)), x]) :=
      ⟨by show 2 ≤ sizeLine; decide, [.int (k + (i : Nat)) tk, y], .cons ⟨_, rfl⟩ (.cons ru .nil), ⟨_, hT2, rfl, _, rfl⟩⟩
    have I1 : Inv X pins σ (upd H s.heap.objs.size (.tup [.int (k + (i : Nat)), x])) { s with heap := h2, toks := tk + 1 } :=
      I.turnedNew (ch := [e, it]) (fun b ob hb q => (sb.2 b fun z => hb (by simp [z])).trans (hk b ob (fun z => hb (by simp [z])) (fun z => hb (by simp [z])) q)) hf (Nat.le_refl _) nw
    refine ⟨.ref s.heap.objs.size, _, I1, rfl, ⟨_, x, rfl, I.hok.fresh (Nat.le_refl _), rfl, fun ys hy => by rw [I.list_inj hy hq]; exact hx⟩, ⟨⟨y, ?_⟩, hst.1.at fun o q => (sb.2 it (Ne.symm hne)).trans q, hne, hai, hae⟩, fun b hb => ?_⟩
    · have e1 : k + ((i + 1 : Nat) : Int) = k + (i : Nat) + 1 := by omega
      rw [e1]
      exact he2
    · have z : b = e ∨ b = it := by simpa using hb
      have hb2 : b < s.heap.objs.size := by rcases z with rfl | rfl <;> assumption
      rw [upd_ne (Nat.ne_of_lt hb2)]
      exact (hf b hb).1
  done := by
    intro X hP hw hK hc i pins s σ H E I hf st hg
    subst hP hw hK
    obtain ⟨⟨old, he⟩, hit, hne, hai, hae⟩ := st
    obtain ⟨xs, hq, hx⟩ := hg
    obtain ⟨its, rv, p, hz⟩ := I.list hq
    obtain ⟨f0, f1, f2, f3, f4, f5⟩ := hf it (by simp)
    have hl := rv.length
    have hle : its.toArray.size ≤ i := by simp; omega
    exact enumEnd_list (I.ok.hd hc) he hit p.isList hle fun h1 eb => ⟨rfl, I.turned (t' := s.toks) (fun b o hb q => eb b o hb q) f0 f1 f3 f4 f5⟩
  self := fun A i s Q E st h => by
    obtain ⟨⟨_, he⟩, _⟩ := st
    exact wpAny_pyIter_enum he h
/-- each item of the tup at a in a new pair, counted from k -/
def Ietup (K : PySem.W.Frag) (a : Addr) (k : Int) : It :=
  ⟨fun i H => ∃ (xs : List V) (x : V), SqT K H a xs ∧ xs[i]? = some x, fun i H v H' => ∃ T x, v = .ref T ∧ H T = none ∧ H' = upd H T (.tup [.int (k + (i : Nat)), x]) ∧ ∀ xs, SqT K H a xs → xs[i]? = some x,
    fun i H => ∃ xs : List V, SqT K H a xs ∧ xs.length ≤ i⟩
theorem turnE_tup {P : Program} {w : World} {K : PySem.W.Frag} {elts : List Expr} {kk : Nat} {tpos : Pos} (a e it : Addr) (k : Int) :
    Turn P w K (.Tuple elts kk tpos) (Ietup K a k) [e, it] e (fun i h => (∃ old, IsEnum h e it (k + (i : Nat)) old) ∧ h.IsTupleIter it a i ∧ e ≠ it ∧ a ≠ it ∧ a ≠ e) where
  mem := by simp
  obj := fun i h st b hb => by
    obtain ⟨⟨old, he⟩, ⟨o, ho, hc, hd⟩, _⟩ := st
    have z : b = e ∨ b = it := by simpa using hb
    rcases z with rfl | rfl
    · exact ⟨_, he, fun v q => nomatch q⟩
    · exact ⟨o, ho, fun v q => by rw [hd] at q; cases q⟩
  keep := fun i h h' st kp => by
    obtain ⟨⟨old, he⟩, hi, r⟩ := st
    exact ⟨⟨old, kp e (by simp) _ he⟩, hi.at fun o q => kp it (by simp) o q, r⟩
  item := by
    intro X hP hw hK hc i pins s σ H E I hf st hg
    subst hP hw hK
    obtain ⟨⟨old, he⟩, hit, hne, hai, hae⟩ := st
    obtain ⟨xs, x, hq, hx⟩ := hg
    obtain ⟨its, rv, p, hz⟩ := I.tuple hq
    obtain ⟨u, hu, ru⟩ := rv.get hx
    have hlt : i < its.toArray.size := by
      have := (List.getElem?_eq_some_iff.mp hu).1
      simpa using this
    have hel : e < s.heap.objs.size := Heap.lt_size he
    have hil : it < s.heap.objs.size := by
      obtain ⟨_, q, _⟩ := hit
      exact Heap.lt_size q
    have Dw := Draws.tuple (prog := X.prog) (w := X.w) (A := X.A.in1) (I.ok.hd hc) it a hai its.toArray
    refine wpAny_pyNext_enum_itemC Dw he ⟨hit, (show s.heap.IsTuple a its.toArray from p)⟩ hlt hne (by simp; exact ⟨hne, fun q => hae q.symm⟩) fun y h1 tk hy ho hst hT hsz hk => ?_
    have ey : y = u := by
      have q : its.toArray[i]? = some u := by simpa using hu
      rw [q] at hy
      exact (Option.some.inj hy).symm
    subst ey
    refine ⟨_, rfl, wpAny_letOwnedTupleGo_enum (s := { s with heap := h1, toks := tk + 1 }) ho fun h2 he2 sb => ?_⟩
    have hT2 : h2.get? s.heap.objs.size = some { cls := .type "tuple", data := .seq #[.int (k + (i : Nat)) tk, y] } := (sb.2 _ (Nat.ne_of_gt hel)).trans hT
    have nw : ObjOk X.prog X.w (upd H s.heap.objs.size (.tup [.int (k + (i : Nat)), x])) h2 s.heap.objs.size (.tup [.int (k + (i : Nat)), x]) :=
      ⟨by show 2 ≤ sizeLine; decide, [.int (k + (i : Nat)) tk, y], .cons ⟨_, rfl⟩ (.cons ru .nil), ⟨_, hT2, rfl, _, rfl⟩⟩
    have I1 : Inv X pins σ (upd H s.heap.objs.size (.tup [.int (k + (i : Nat)), x])) { s with heap := h2, toks := tk + 1 } :=
      I.turnedNew (ch := [e, it]) (fun b ob hb q => (sb.2 b fun z => hb (by simp [z])).trans (hk b ob (fun z => hb (by simp [z])) (fun z => hb (by simp [z])) q)) hf (Nat.le_refl _) nw
    refine ⟨.ref s.heap.objs.size, _, I1, rfl, ⟨_, x, rfl, I.hok.fresh (Nat.le_refl _), rfl, fun ys hy => by rw [I.tuple_inj hy hq]; exact hx⟩, ⟨⟨y, ?_⟩, hst.1.at fun o q => (sb.2 it (Ne.symm hne)).trans q, hne, hai, hae⟩, fun b hb => ?_⟩
    · have e1 : k + ((i + 1 : Nat) : Int) = k + (i : Nat) + 1 := by omega
      rw [e1]
      exact he2
    · have z : b = e ∨ b = it := by simpa using hb
      have hb2 : b < s.heap.objs.size := by rcases z with rfl | rfl <;> assumption
      rw [upd_ne (Nat.ne_of_lt hb2)]
      exact (hf b hb).1
  done := by
    intro X hP hw hK hc i pins s σ H E I hf st hg
    subst hP hw hK
    obtain ⟨⟨old, he⟩, hit, hne, hai, hae⟩ := st
    obtain ⟨xs, hq, hx⟩ := hg
    obtain ⟨its, rv, p, hz⟩ := I.tuple hq
    obtain ⟨f0, f1, f2, f3, f4, f5⟩ := hf it (by simp)
    have hl := rv.length
    have hle : its.toArray.size ≤ i := by simp; omega
    exact enumEnd_tup (I.ok.hd hc) he hit (show s.heap.IsTuple a its.toArray from p) hle fun h1 eb => ⟨rfl, I.turned (t' := s.toks) (fun b o hb q => eb b o hb q) f0 f1 f3 f4 f5⟩
  self := fun A i s Q E st h => by
    obtain ⟨⟨_, he⟩, _⟩ := st
    exact wpAny_pyIter_enum he h
set_option maxHeartbeats 1000000 in
theorem meets_enum1 {v : Value} {o : Obj} {H : Heap → Prop} (B : Begins v o H) :
    Meets (Builtin.«enumerate.__new__» ⟨[.type "enumerate", v], []⟩) (fun _ R s => H s.heap ∧
      R (.ok (.ret (.ref (s.heap.push o).objs.size))) { s with heap := (s.heap.push o).push { cls := .type "enumerate", data := .fields #[.none, .bool false, .ref s.heap.objs.size, rawInt 0, .none, .none] } }) :=
  .of_wp fun prog w A R s h => by
    obtain ⟨hp, g, d, tk, os⟩ := s; obtain ⟨h1, h⟩ := h
    have hsub := sub_enumerate
    have q1 : ∀ {B1 : Around} {E : Value → Shared → Prop} {Q : Value → Shared → Prop}, Q (.ref hp.objs.size) ⟨hp.push o, g, d, tk, os⟩ → wpAny (model prog w) B1 (pyIter v) Q E ⟨hp, g, d, tk, os⟩ := fun q => B.iter prog w _ _ ⟨hp, g, d, tk, os⟩ _ h1 q
    wp_walk using q1
    refine wpAny_stack_any fun st => wpAny_pure ?_
    split
    · rename_i c _ _ _ _ _
      cases (c == Value.type "enumerate")
      · wp_walk using q1
        exact ⟨_, rfl, h⟩
      · wp_walk using q1
        exact ⟨_, rfl, h⟩
    · wp_walk using q1
      exact ⟨_, rfl, h⟩
theorem enum_one {prog : Program} {w : World} {A : Around} {E : Value → Shared → Prop} {s : Shared} {v : Value} {o : Obj} {H : Heap → Prop} {Q : Value → Shared → Prop} (B : Begins v o H) (h1 : H s.heap)
    (h : ∀ h2, IsEnum h2 (s.heap.objs.size + 1) s.heap.objs.size 0 .none → h2.get? s.heap.objs.size = some o → (∀ b o, s.heap.get? b = some o → h2.get? b = some o) → Q (.ref (s.heap.objs.size + 1)) { s with heap := h2 }) :
    wpAny (model prog w) A (call (.type "enumerate") [v]) Q E s := by
  refine callType_new PySem.F.called_enumerate (by decide) (PySem.F.typeCall_enumerate_1 _) (PySem.F.newCall_enumerate_1 _) (fun obj => PySem.F.args_object_init_2 obj _) PySem.F.entry_enumerate_new (meets_enum1 B) ⟨h1, ?_⟩
  have hz : (s.heap.push o).objs.size = s.heap.objs.size + 1 := Heap.size_push ..
  show _ ∧ _
  rw [hz]
  have he : IsEnum ((s.heap.push o).push { cls := .type "enumerate", data := .fields #[.none, .bool false, .ref s.heap.objs.size, rawInt 0, .none, .none] }) (s.heap.objs.size + 1) s.heap.objs.size 0 .none := by
    have q := Heap.get?_push_size (s.heap.push o) (o := { cls := .type "enumerate", data := .fields #[.none, .bool false, .ref s.heap.objs.size, rawInt 0, .none, .none] }) rfl
    rw [hz] at q
    exact q
  exact ⟨⟨_, he, rfl⟩, h _ he (Heap.get?_push_of_some _ (Heap.get?_push_size _ B.free)) fun b o x => Heap.get?_push_of_some _ (Heap.get?_push_of_some _ x)⟩
section
variable {X : Cx} {pins : List (Addr × Obj)} {σ : L2.St} {H1 : Hp} {s1 : Shared} {tg : Expr} {R : It → Hp → Prop} {a : Addr} {xs : List V}
theorem tl_list (I1 : Inv X pins σ H1 s1) (hq : SqL X.K H1 a xs) (q : R (Itl X.K a) H1) : wpAny (model X.prog X.w) X.A (pyIter (.ref a)) (PIE X pins σ tg R) X.xe s1 := by
  obtain ⟨its, rv, p, hz⟩ := I1.list hq
  refine wpAny_pyIter_list p.isList ⟨s1.heap.objs.size, [s1.heap.objs.size], _, _, H1, rfl, I1.kept (t' := s1.toks) fun b o e => Heap.get?_push_of_some _ e, turn_list a _, ⟨_, Heap.get?_push_size _ rfl, rfl, rfl⟩, fun b hb => ?_, q⟩
  obtain rfl : b = s1.heap.objs.size := by simpa using hb
  exact I1.fpOk (Nat.le_refl _) (I1.hok.fresh (Nat.le_refl _))
theorem tl_tup (I1 : Inv X pins σ H1 s1) (hq : SqT X.K H1 a xs) (q : R (Itt X.K a) H1) : wpAny (model X.prog X.w) X.A (pyIter (.ref a)) (PIE X pins σ tg R) X.xe s1 := by
  obtain ⟨its, rv, p, hz⟩ := I1.tuple hq
  refine wpAny_pyIter_tuple (show s1.heap.IsTuple a its.toArray from p) ⟨s1.heap.objs.size, [s1.heap.objs.size], _, _, H1, rfl, I1.kept (t' := s1.toks) fun b o e => Heap.get?_push_of_some _ e, turn_tuple a _, ⟨_, Heap.get?_push_size _ rfl, rfl, rfl⟩, fun b hb => ?_, q⟩
  obtain rfl : b = s1.heap.objs.size := by simpa using hb
  exact I1.fpOk (Nat.le_refl _) (I1.hok.fresh (Nat.le_refl _))
theorem tl_str {x : Str} {t : Tok} (I1 : Inv X pins σ H1 s1) (q : R (Its x) H1) : wpAny (model X.prog X.w) X.A (pyIter (.str x t)) (PIE X pins σ tg R) X.xe s1 := by
  cases ha : x.cps.all (· < 128)
  · exact wpAny_pyIter_wide ha (pi_one (tk := s1.toks) I1 _ (turn_str _ x t "str_iterator" (.inr rfl)) ⟨_, Heap.get?_push_size _ rfl, rfl, rfl⟩ q)
  · exact wpAny_pyIter_ascii ha (pi_one (tk := s1.toks) I1 _ (turn_str _ x t "str_ascii_iterator" (.inl rfl)) ⟨_, Heap.get?_push_size _ rfl, rfl, rfl⟩ q)
end
/-- a list, a tuple or a text -/
def iSeq (K : PySem.W.Frag) (te : TE) : TI := fun σ H R => te σ H fun x H1 => (∃ a xs, x = .ref a ∧ SqL K H1 a xs ∧ R (Itl K a) H1) ∨ (∃ a xs, x = .ref a ∧ SqT K H1 a xs ∧ R (Itt K a) H1) ∨ ∃ z, x = .str z ∧ R (Its z) H1
theorem pi_seq {X : Cx} {tg l : Expr} {tl : TE} (hl : PE X l tl) : PI X tg l (iSeq X.K tl) := ⟨fun pins s σ H R I h => thn (hl.run pins s σ H _ I h) fun v s1 ⟨x, H1, I1, r1, q1⟩ => by
  rcases q1 with ⟨a, xs, rfl, hq, q⟩ | ⟨a, xs, rfl, hq, q⟩ | ⟨z, rfl, q⟩
  · cases r1; exact tl_list I1 hq q
  · cases r1; exact tl_tup I1 hq q
  · obtain ⟨t, rfl⟩ := r1; exact tl_str I1 q⟩
/-- enumerate of a list or a tuple -/
def iEnumA (K : PySem.W.Frag) (ta : TA) : TI := fun σ H R => ta σ H fun vs H1 => (∃ a xs, vs = [.ref a] ∧ SqL K H1 a xs ∧ R (Ielist K a 0) H1) ∨ ∃ a xs, vs = [.ref a] ∧ SqT K H1 a xs ∧ R (Ietup K a 0) H1
theorem pi_enumA {X : Cx} {e : Expr} {ta : TA} {p pos tpos : Pos} {elts : List Expr} {kk : Nat} (hg : Gl X "enumerate") (hm : X.mg "enumerate" = none) (ha : PA X [e] ta) (hs : starEach [e] X.env = [(false, eval e X.env)] := by rfl) :
    PI X (.Tuple elts kk tpos) (.Call (.Name "enumerate" p) [e] [] pos) (iEnumA X.K ta) := ⟨fun pins s σ H R I h => by
  refine Call_ (ld_blt I hg hm boot_enumerate (PyProof.Rows.callWith_type1 (thn (ha.run pos pins s σ H _ I h) fun us s1 ⟨vs, H1, I1, r1, q1⟩ => ?_) hs rfl))
  have fpo : ∀ b ∈ [s1.heap.objs.size + 1, s1.heap.objs.size], FpOk X pins H1 b := fun b hb => by
    have z : b = s1.heap.objs.size + 1 ∨ b = s1.heap.objs.size := by simpa using hb
    have hle : s1.heap.objs.size ≤ b := by rcases z with rfl | rfl <;> omega
    exact I1.fpOk hle (I1.hok.fresh hle)
  rcases q1 with ⟨a, xs, rfl, hq, q⟩ | ⟨a, xs, rfl, hq, q⟩
  · rw [Vals.ref1 r1]
    obtain ⟨its, rv, pl, hz⟩ := I1.list hq
    have hlt : a < s1.heap.objs.size := Heap.lt_size pl.isList.choose_spec.1
    refine enum_one (begins_list a its.toArray) pl.isList fun h2 he ho hk => wpAny_pyIter_enum he ?_
    exact ⟨s1.heap.objs.size + 1, [s1.heap.objs.size + 1, s1.heap.objs.size], _, _, H1, rfl, I1.kept (t' := s1.toks) hk, turnE_list a (s1.heap.objs.size + 1) s1.heap.objs.size 0, ⟨⟨.none, by simpa using he⟩, ⟨_, ho, rfl, rfl⟩, Nat.succ_ne_self _, Nat.ne_of_lt hlt, Nat.ne_of_lt (Nat.lt_succ_of_lt hlt)⟩, fpo, q⟩
  · rw [Vals.ref1 r1]
    obtain ⟨its, rv, pl, hz⟩ := I1.tuple hq
    have pl2 : s1.heap.IsTuple a its.toArray := pl
    have hlt : a < s1.heap.objs.size := pl.lt
    refine enum_one (begins_tuple a its.toArray) pl2 fun h2 he ho hk => wpAny_pyIter_enum he ?_
    exact ⟨s1.heap.objs.size + 1, [s1.heap.objs.size + 1, s1.heap.objs.size], _, _, H1, rfl, I1.kept (t' := s1.toks) hk, turnE_tup a (s1.heap.objs.size + 1) s1.heap.objs.size 0, ⟨⟨.none, by simpa using he⟩, ⟨_, ho, rfl, rfl⟩, Nat.succ_ne_self _, Nat.ne_of_lt hlt, Nat.ne_of_lt (Nat.lt_succ_of_lt hlt)⟩, fpo, q⟩⟩
def enumD (k : Int) : List D → List D
  | [] => []
  | d :: ds => .tup [.int k, d] :: enumD (k + 1) ds
theorem enumD_length : ∀ (k : Int) (ds : List D), (enumD k ds).length = ds.length
  | _, [] => rfl
  | k, d :: ds => by rw [enumD]; simp [enumD_length (k + 1) ds]
theorem enumD_get : ∀ (k : Int) (ds : List D) (i : Nat), (enumD k ds)[i]? = ds[i]?.map fun d => .tup [.int (k + (i : Nat)), d]
  | _, [], i => by simp [enumD]
  | k, d :: ds, 0 => by simp [enumD]
  | k, d :: ds, i + 1 => by
    rw [enumD]
    simp only [List.getElem?_cons_succ]
    rw [enumD_get (k + 1) ds i]
    have e : k + 1 + (i : Nat) = k + ((i + 1 : Nat) : Int) := by omega
    rw [e]
section
variable {K : PySem.W.Frag} {F : Hp}
theorem it_enumL {p : Addr} {vs : List V} {ds : List D} {k : Int} (h : F p = some (.lst vs)) (r : Reps K F vs ds) : ItD K (Ielist K p k) F (enumD k ds) := fun F1 H s1 s2 _ => by
  have q : SqL K H p vs := SqL.of (s2 _ _ (s1 _ _ h))
  refine ⟨fun i hi => ⟨vs, q, by rw [r.length]; rw [enumD_length] at hi; exact hi⟩, fun i d hd => ?_⟩
  rw [enumD_get] at hd
  cases ei : ds[i]? with
  | none => rw [ei] at hd; cases hd
  | some d0 =>
    rw [ei] at hd
    cases hd
    obtain ⟨v, hv, rv⟩ := r.get ei
    refine ⟨⟨vs, v, q, hv⟩, fun x H2 hy => ?_⟩
    obtain ⟨T, y, rfl, hT, rfl, hy⟩ := hy
    have := hy vs q
    rw [hv] at this; cases this
    have e : Ext K F1 H (fun _ => False) (upd F1 T (.tup [.int (k + (i : Nat)), v])) (upd H T (.tup [.int (k + (i : Nat)), v])) (fun _ => False) := Ext.newF s2 hT
    exact ⟨_, sub_upd s2, .tup upd_same (.cons (.int _) (.cons (rv.mono (s1.trans e.ff)) .nil)), e⟩
theorem it_enumT {p : Addr} {vs : List V} {ds : List D} {k : Int} (h : SqT K F p vs) (r : Reps K F vs ds) : ItD K (Ietup K p k) F (enumD k ds) := fun F1 H s1 s2 _ => by
  have q : SqT K H p vs := s2.sqt (s1.sqt h)
  refine ⟨fun i hi => ⟨vs, q, by rw [r.length]; rw [enumD_length] at hi; exact hi⟩, fun i d hd => ?_⟩
  rw [enumD_get] at hd
  cases ei : ds[i]? with
  | none => rw [ei] at hd; cases hd
  | some d0 =>
    rw [ei] at hd
    cases hd
    obtain ⟨v, hv, rv⟩ := r.get ei
    refine ⟨⟨vs, v, q, hv⟩, fun x H2 hy => ?_⟩
    obtain ⟨T, y, rfl, hT, rfl, hy⟩ := hy
    have := hy vs q
    rw [hv] at this; cases this
    have e : Ext K F1 H (fun _ => False) (upd F1 T (.tup [.int (k + (i : Nat)), v])) (upd H T (.tup [.int (k + (i : Nat)), v])) (fun _ => False) := Ext.newF s2 hT
    exact ⟨_, sub_upd s2, .tup upd_same (.cons (.int _) (.cons (rv.mono (s1.trans e.ff)) .nil)), e⟩
end
/-- what a loop walks -/
def itemsA (m : M) : Option (List D) := match frz m with
  | some (.lst ds) => some ds
  | some (.tup ds) => some ds
  | some .emp => some []
  | some (.str x) => some (x.cps.toList.map fun c => .str ⟨#[c]⟩)
  | _ => none
def itemsE (k : Int) (m : M) : Option (List D) := match frz m with
  | some (.lst ds) => some (enumD k ds)
  | some (.tup ds) => some (enumD k ds)
  | some .emp => some []
  | _ => none
section
variable {X : Cx} {W : WX} {tg l : Expr} {f : FE}
theorem i_seq (h : PE X l (rE X.K W f)) : PI X tg l (rI X.K W (overE itemsA f)) := PI_mono (pi_seq (e_tk h)) fun σ H R p => rE_imp (fun x H1 ⟨F, env, fps, m, fp, ds, R1, r, d, ei, pj⟩ => by
  unfold itemsA at ei
  split at ei
  · rename_i ds1 ef
    cases ei
    obtain ⟨F1, s1, rd, R2, e⟩ := freeze_at R1 r d ef
    cases rd with
    | lst a b => exact .inl ⟨_, _, rfl, SqL.of (s1 _ _ a), pj _ F1 H1 fps R2 (it_list a b) e⟩
  · rename_i ds1 ef
    cases ei
    obtain ⟨F1, s1, rd, R2, e⟩ := freeze_at R1 r d ef
    cases rd with
    | tupR a b => exact .inr (.inl ⟨_, _, rfl, a.sqt s1, pj _ F1 H1 fps R2 (it_tup (a.sqt (Sub.refl _)) b) e⟩)
  · rename_i ef
    cases ei
    obtain ⟨F1, s1, rd, R2, e⟩ := freeze_at R1 r d ef
    cases rd with
    | emp a => exact .inr (.inl ⟨_, _, rfl, s1.sqt a, pj _ F1 H1 fps R2 (it_tup a .nil) e⟩)
  · rename_i x1 ef
    cases ei
    obtain ⟨F1, s1, rd, R2, e⟩ := freeze_at R1 r d ef
    obtain rfl := rep_str rd
    exact .inr (.inr ⟨_, rfl, pj _ F1 H1 fps R2 (it_str _) e⟩)
  · cases ei) (r_over σ H R p)
theorem i_enum {p pos tpos : Pos} {elts : List Expr} {kk : Nat} (hg : Gl X "enumerate") (hm : X.mg "enumerate" = none) (h : PE X l (rE X.K W f)) (hs : starEach [l] X.env = [(false, eval l X.env)] := by rfl) : PI X (.Tuple elts kk tpos) (.Call (.Name "enumerate" p) [l] [] pos) (rI X.K W (overE (itemsE 0) f)) :=
  PI_mono (pi_enumA hg hm (pa_cons (e_tk h) pa_nil hs) hs) fun σ H R p => rE_imp (fun x H1 ⟨F, env, fps, m, fp, ds, R1, r, d, ei, pj⟩ => by
  unfold itemsE at ei
  split at ei
  · rename_i ds1 ef
    cases ei
    obtain ⟨F1, s1, rd, R2, e⟩ := freeze_at R1 r d ef
    cases rd with
    | lst a b => exact .inl ⟨_, _, rfl, SqL.of (s1 _ _ a), pj _ F1 H1 fps R2 (it_enumL a b) e⟩
  · rename_i ds1 ef
    cases ei
    obtain ⟨F1, s1, rd, R2, e⟩ := freeze_at R1 r d ef
    cases rd with
    | tupR a b => exact .inr ⟨_, _, rfl, a.sqt s1, pj _ F1 H1 fps R2 (it_enumT (a.sqt (Sub.refl _)) b) e⟩
  · rename_i ef
    cases ei
    obtain ⟨F1, s1, rd, R2, e⟩ := freeze_at R1 r d ef
    cases rd with
    | emp a => exact .inr ⟨_, _, rfl, s1.sqt a, pj _ F1 H1 fps R2 (it_enumT a .nil) e⟩
  · cases ei) (r_over σ H R p)
end
end Ink
set_option Elab.async false
set_option linter.all false
set_option maxRecDepth 100000
namespace Ink
open PySem L2
inductive Kd where
  | non | bl | int | str | lst | tup | dct
  deriving DecidableEq
def kdName : Kd → String
  | .non => "NoneType" | .bl => "bool" | .int => "int" | .str => "str" | .lst => "list" | .tup => "tuple" | .dct => "dict"
def kdSub (k t : Kd) : Bool := decide (k = t) || (decide (k = .bl) && decide (t = .int))
theorem kd_kit (k t : Kd) (h : t ≠ .non) : kitB (kdName k) (kdName t) = some (kdSub k t) := by
  cases t with
  | non => exact absurd rfl h
  | _ => cases k <;> decide +kernel
def kdD : D → Kd
  | .non => .non | .bl _ => .bl | .int _ => .int | .str _ => .str | .lst _ => .lst | .tup _ => .tup | .dK _ => .dct | .dT _ => .dct | .scr _ => .lst | .ins _ _ => .non | .lam _ => .non | .dLK _ => .non | .dLT _ => .non | .nst _ _ => .non | .emp => .tup | .exc _ _ => .non
def kdM : M → Option Kd
  | .fz (.scr _) => none
  | .fz (.ins _ _) => none
  | .fz (.lam _) => none
  | .fz (.dLK _) => none
  | .fz (.dLT _) => none
  | .fz (.nst _ _) => none
  | .fz (.exc _ _) => none
  | .fz d => some (kdD d)
  | .lst _ => some .lst
  | .tup _ => some .tup
  | .dK _ => some .dct
  | .dT _ => some .dct
  | .ins _ _ => none
theorem tyx_tup {K : PySem.W.Frag} {H : Hp} {p : Addr} {vs : List V} (h : SqT K H p vs) : TyX K H (.ref p) (.type "tuple") := by
  rcases h with (h | ⟨o, h⟩) | ⟨o, its, n, e, c, _⟩
  · exact .base (.tup h)
  · exact .fTuple h
  · exact .kTuple e c
theorem kd_ty {K : PySem.W.Frag} {F H : Hp} {m : M} {v : V} {fp : List Addr} {k : Kd} (s : Sub F H) (r : RepM K F H m v fp) (h : kdM m = some k) : TyX K H v (.type (kdName k)) := by
  cases r with
  | fz q =>
    cases q with
    | non => cases h; exact .base .non
    | bl b => cases h; exact .base (.bl b)
    | int i => cases h; exact .base (.int i)
    | str x => cases h; exact .base (.str x)
    | lst a _ => cases h; exact .base (.lst (s _ _ a))
    | tupR a _ =>
      cases h
      exact tyx_tup (a.sqt s)
    | dK a _ _ => cases h; exact .base (.dK (s _ _ a))
    | dT a _ _ => cases h; exact .base (.dT (s _ _ a))
    | scr _ => cases h
    | ins _ _ _ => cases h
    | lam _ _ => cases h
    | dLK _ _ _ => cases h
    | dLT _ _ _ => cases h
    | nst _ _ _ => cases h
    | emp a => cases h; exact tyx_tup (s.sqt a)
    | exc => cases h
  | lst a _ _ _ => cases h; exact .base (.lst a)
  | tup a _ => cases h; exact .base (.tup (s _ _ a))
  | dK a _ _ _ _ => cases h; exact .base (.dK a)
  | dT a _ _ _ _ => cases h; exact .base (.dT a)
  | ins _ _ _ _ _ => cases h
def resA (env : E) (a : Av) : Option M := match a with
  | .tm m => some m
  | .sl i => match env[i]? with
    | some (some m) => some m
    | _ => none
theorem resA_rep {K : PySem.W.Frag} {F H : Hp} {σ : St} {env : E} {fps : Nat → List Addr} {a : Av} {v : V} {fp : List Addr} {m : M} (R : REnv K F H σ env fps) (r : RepA K F H σ a v fp) (h : resA env a = some m) : ∃ fq, RepM K F H m v fq := by
  cases a with
  | tm n => cases h; exact ⟨fp, r⟩
  | sl i =>
    unfold resA at h
    simp only at h
    split at h
    · rename_i n e
      cases h
      obtain ⟨w, hw, rr⟩ := R.got i _ e
      obtain ⟨q, _⟩ := r
      rw [q] at hw; cases hw
      exact ⟨_, rr⟩
    · cases h
def isiE (ts : List Kd) (f : FE) : FE := fun env => bindO (f env) fun a env1 => match resA env1 a with
  | some m => match kdM m with
    | some k => some (.ok (.tm (.fz (.bl (ts.any fun t => kdSub k t)))) env1)
    | none => none
  | none => none
section
variable {X : Cx} {W : WX} {e : Expr} {f : FE} {p p1 p2 p3 pos : Pos}
theorem isi_any {K : PySem.W.Frag} {k : Kd} : ∀ (ts : List Kd), (∀ t ∈ ts, t ≠ .non) → PySem.W.kitAny K (.type (kdName k)) (ts.map fun t => .type (kdName t)) = some (ts.any fun t => kdSub k t)
  | [], _ => rfl
  | t :: ts, h => by
    refine kitAny_cons (kit_ty (kd_kit k t (h t (List.mem_cons_self ..)))) (fun e => ?_) fun e => by simp [e]
    rw [List.any_cons, e, Bool.false_or]
    exact isi_any ts fun t ht => h t (List.mem_cons_of_mem _ ht)
theorem e_isi (t : Kd) (ht : t ≠ .non) {x : Str} (hg : Gl X "isinstance") (hm : X.mg "isinstance" = none) (hg2 : Gl X x) (hm2 : X.mg x = none) (hv : bootBuiltins x = some (.type (kdName t))) (he : PE X e (rE X.K W f)) (hn : x ≠ "__name__" := by decide) (hd : (x == ("__debug__" : Str)) = false := by decide)
    (hs : starEach [e, .Name x p1] X.env = (false, eval e X.env) :: starEach [.Name x p1] X.env := by rfl) (hs2 : starEach [.Name x p1] X.env = (false, eval (.Name x p1) X.env) :: starEach [] X.env := by rfl) (hpl : (backTo pos (starEach [.Name x p1] X.env)).any (·.1) = false := by rfl) :
    PE X (.Call (.Name "isinstance" p) [e, .Name x p1] [] pos) (rE X.K W (isiE [t] f)) :=
  PE_mono (pe_callB call_isi hg hm (by decide +kernel) (pa_cons he (pa_cons (pe_bltn hg2 hm2 hv (v := .ty (kdName t)) rfl hn hd) pa_nil hs2) hs) (he := hs) (hpl := hpl)) fun σ H Q ⟨F, env, fps, R, po⟩ => by
  refine ⟨F, env, fps, R, ?_⟩
  unfold isiE at po
  cases ef : f env with
  | none => rw [ef] at po; exact po
  | some o =>
    rw [ef] at po
    cases o with
    | ex x env1 => exact po
    | ok a env1 =>
      simp only [bindO_ok] at po
      intro v F1 H1 fps1 fp R1 r d e1
      cases er : resA env1 a with
      | none => rw [er] at po; exact po.elim
      | some m =>
        simp only [er] at po
        cases ek : kdM m with
        | none => rw [ek] at po; exact po.elim
        | some k =>
          simp only [ek] at po
          obtain ⟨fq, rm⟩ := resA_rep R1 r er
          refine ⟨v, .ty (kdName t), _, _, kdSub k t, rfl, .ty _, kd_ty R1.fr rm ek, kit_ty (kd_kit k t ht), ?_⟩
          have := po (.bl (kdSub k t)) F1 H1 fps1 [] R1 (RepM.fz (by simpa using Rep.bl (K := X.K) (F := F1) (kdSub k t))) Own.not_nil (e1.weak fun b h => .inl (h.elim id fun z => by cases z))
          exact this
theorem e_isi2 (t u : Kd) (ht : t ≠ .non) (hu : u ≠ .non) {x y : Str} {kk : Nat} (hg : Gl X "isinstance") (hm : X.mg "isinstance" = none) (hg2 : Gl X x) (hm2 : X.mg x = none) (hv : bootBuiltins x = some (.type (kdName t))) (hg3 : Gl X y) (hm3 : X.mg y = none) (hv3 : bootBuiltins y = some (.type (kdName u))) (he : PE X e (rE X.K W f))
    (hn : x ≠ "__name__" := by decide) (hd : (x == ("__debug__" : Str)) = false := by decide) (hn3 : y ≠ "__name__" := by decide) (hd3 : (y == ("__debug__" : Str)) = false := by decide)
    (hs : starEach [e, .Tuple [.Name x p1, .Name y p2] kk p3] X.env = (false, eval e X.env) :: starEach [.Tuple [.Name x p1, .Name y p2] kk p3] X.env := by rfl) (hs2 : starEach [.Tuple [.Name x p1, .Name y p2] kk p3] X.env = (false, eval (.Tuple [.Name x p1, .Name y p2] kk p3) X.env) :: starEach [] X.env := by rfl) (hpl : (backTo pos (starEach [.Tuple [.Name x p1, .Name y p2] kk p3] X.env)).any (·.1) = false := by rfl)
    (hs4 : starEach [.Name x p1, .Name y p2] X.env = (false, eval (.Name x p1) X.env) :: starEach [.Name y p2] X.env := by rfl) (hs5 : starEach [.Name y p2] X.env = (false, eval (.Name y p2) X.env) :: starEach [] X.env := by rfl) :
    PE X (.Call (.Name "isinstance" p) [e, .Tuple [.Name x p1, .Name y p2] kk p3] [] pos) (rE X.K W (isiE [t, u] f)) :=
  PE_mono (pe_callB call_isiT hg hm (by decide +kernel) (pa_cons he (pa_cons (pe_tup (pa_cons (pe_bltn hg2 hm2 hv (v := .ty (kdName t)) rfl hn hd) (pa_cons (pe_bltn hg3 hm3 hv3 (v := .ty (kdName u)) rfl hn3 hd3) pa_nil hs5) hs4)) pa_nil hs2) hs) (he := hs) (hpl := hpl)) fun σ H Q ⟨F, env, fps, R, po⟩ => by
  refine ⟨F, env, fps, R, ?_⟩
  unfold isiE at po
  cases ef : f env with
  | none => rw [ef] at po; exact po
  | some o =>
    rw [ef] at po
    cases o with
    | ex x env1 => exact po
    | ok a env1 =>
      simp only [bindO_ok] at po
      intro v F1 H1 fps1 fp R1 r d e1
      cases er : resA env1 a with
      | none => rw [er] at po; exact po.elim
      | some m =>
        simp only [er] at po
        cases ek : kdM m with
        | none => rw [ek] at po; exact po.elim
        | some k =>
          simp only [ek] at po
          obtain ⟨fq, rm⟩ := resA_rep R1 r er
          refine ⟨by show 2 ≤ sizeLine; decide, fun q hq => ?_⟩
          have en : Ext X.K F1 H1 (fun _ => False) (upd F1 q (.tup [.ty (kdName t), .ty (kdName u)])) (upd H1 q (.tup [.ty (kdName t), .ty (kdName u)])) (fun _ => False) := Ext.newF R1.fr hq
          obtain ⟨R2, _⟩ := R1.frame (fun b _ h => h) en (sub_upd R1.fr)
          obtain ⟨rm2, _⟩ := pendM rm (fun b _ h => h) en
          refine ⟨v, q, [.ty (kdName t), .ty (kdName u)], _, [.type (kdName t), .type (kdName u)], _, rfl, upd_same, .cons (.ty _) (.cons (.ty _) .nil), kd_ty R2.fr rm2 ek, isi_any [t, u] (by simp [ht, hu]), ?_⟩
          exact po (.bl _) _ _ fps1 [] R2 (RepM.fz (.bl _)) Own.not_nil ((e1.trans (en.unit (A := fun b => Own fps1 b ∨ b ∈ fp)) (fun _ h => h) (C := fun b => Own fps1 b ∨ b ∈ fp) fun _ h => .inl h).weak fun b h => .inl (h.elim id fun z => by cases z))
end
def tyM (T : Kd) (m : M) : Bool := match T, m with
  | .str, .fz (.str _) => true
  | .lst, .fz (.lst _) => true
  | .lst, .lst _ => true
  | .dct, .fz (.dK _) => true
  | .dct, .fz (.dT _) => true
  | .dct, .dK _ => true
  | .dct, .dT _ => true
  | _, _ => false
theorem tyM_rep {K : PySem.W.Frag} {F H : Hp} {m : M} {v : V} {fp : List Addr} {T : Kd} (s : Sub F H) (r : RepM K F H m v fp) (h : tyM T m = true) : tyV K (kdName T) v H := by
  unfold tyM at h
  split at h
  · obtain rfl := rep_str (repm_fz r); rfl
  · cases repm_fz r with
    | lst a _ => exact .inl ⟨rfl, _, SqL.of (s _ _ a)⟩
  · cases r with
    | lst a _ _ _ => exact .inl ⟨rfl, _, SqL.of a⟩
  · cases repm_fz r with
    | dK a _ _ => exact .inr (.inr (.inl ⟨rfl, .inl ⟨_, s _ _ a⟩⟩))
  · cases repm_fz r with
    | dT a _ _ => exact .inr (.inr (.inl ⟨rfl, .inr ⟨_, s _ _ a⟩⟩))
  · cases r with
    | dK a _ _ _ _ => exact .inr (.inr (.inl ⟨rfl, .inl ⟨_, a⟩⟩))
  · cases r with
    | dT a _ _ _ _ => exact .inr (.inr (.inl ⟨rfl, .inr ⟨_, a⟩⟩))
  · cases h
def bmE (T : Kd) (g : FP) (fo : FE) (fa : FA) : FE := fun env => bindO (fo env) fun a env1 => match resA env1 a with
  | some m => match tyM T m with
    | true => bindO (fa env1) fun as env2 => runP g (a :: as) env2
    | false => none
  | none => none
section
variable {X : Cx} {W : WX} {o e : Expr} {es : List Expr} {fo : FE} {fa : FA} {g : FP} {name : Str} {apos cpos : Pos} {id : String} {r : V → List V → Hp → VK → Prop} {T : Kd}
def OpMt (K : PySem.W.Frag) (g : FP) (r : V → List V → Hp → VK → Prop) : Prop := ∀ x vs H Q Ex, spOf K g (x :: vs) H Q Ex → r x vs H Q
theorem r_bm {K : PySem.W.Frag} (hp : OpMt K g r) : ∀ σ H Q, rE K W (bmE T g fo fa) σ H Q → tBM K (kdName T) r (rE K W fo) (rA K W fa) σ H Q := fun σ H Q ⟨F, env, fps, R, po⟩ => by
  refine ⟨F, env, fps, R, ?_⟩
  unfold bmE at po
  cases ef : fo env with
  | none => rw [ef] at po; exact po
  | some z =>
    rw [ef] at po
    cases z with
    | ex x env1 => exact po
    | ok a env1 =>
      simp only [bindO_ok] at po
      intro v F1 H1 fps1 fp R1 ra d e1
      cases er : resA env1 a with
      | none => rw [er] at po; exact po.elim
      | some m =>
        simp only [er] at po
        cases et : tyM T m with
        | false => rw [et] at po; exact po.elim
        | true =>
          simp only [et] at po
          obtain ⟨fq, rm⟩ := resA_rep R1 ra er
          refine ⟨tyM_rep R1.fr rm et, F1, env1, fps1, R1, ?_⟩
          cases eg : fa env1 with
          | none => rw [eg] at po; exact po
          | some z2 =>
            rw [eg] at po
            cases z2 with
            | ex x env2 => exact PX.wide po e1 fun _ h => .inl h
            | ok as env2 =>
              simp only [bindO_ok] at po
              intro vs F2 H2 fps2 fpA R2 rs d2 e2
              obtain ⟨r2, dd⟩ := pendA ra d e2
              refine hp v vs H2 Q _ (prim_sound R2 (RepAs.cons' r2 rs fun b hb q => dd b hb (.inr q)) (fun b hb q => ?_) (poE.wide po (e1.trans e2 (fun _ h => .inl h) (C := fun b => Own fps2 b ∨ Own (fcons fp fpA) b) fun b h => ?_) fun _ h => h))
              · rcases own_fcons.mp hb with hb | hb
                · exact dd b hb (.inl q)
                · exact d2 b hb q
              · rcases h with h | h
                · exact .inl (.inl h)
                · rcases own_fcons.mp h with h | h
                  · exact .inr (.inr h)
                  · exact .inl (.inr h)
theorem e_bm (pa : PlainAttrs (kdName T)) (slot : Slot (kdName T) name id) (hty : typeOf (.builtin id) = pure (.type "method_descriptor")) (hm : MtR X id r) (hp : OpMt X.K g r) (ho : PE X o (rE X.K W fo)) (ha : PA X (e :: es) (rA X.K W fa))
    (hbase : attributeBase o name X.env (eval o X.env) = eval o X.env := by rfl)
    (hfew : ((backTo cpos (starEach (e :: es) X.env)).all (fun x => !x.1) && (backToKw cpos (keywordEach [] X.env)).all (fun x => x.1.isSome)
      && decide ((e :: es).length + ([] : List Keyword).length + (if ([] : List Keyword).isEmpty then 0 else 1) < 30)) = true := by rfl)
    (hline : (apos.endLine == cpos.line) = true := by rfl) (hs : starEach (e :: es) X.env = (false, eval e X.env) :: starEach es X.env := by rfl) (hplain : (backTo cpos (starEach es X.env)).any (·.1) = false := by rfl) :
    PE X (.Call (.Attribute o name apos) (e :: es) [] cpos) (rE X.K W (bmE T g fo fa)) := PE_mono (pe_bm pa slot hty hm ho ha hbase hfew hline hs hplain) (r_bm hp)
end
theorem args_upd {K : PySem.W.Frag} {F H : Hp} {vs : List V} {env : E} {fps : Nat → List Addr} {i : Nat} {m : M} {p : Addr} {fp : List Addr} {o : HO} (R : REnv K F H (argS vs) env fps) (hv : vs[i]? = some (.ref p)) (hp : p ∈ fps i) (hF : F p = none)
    (r : RepM K F (upd H p o) m (.ref p) fp) (hfp : ∀ b ∈ fp, ∀ j, j ≠ i → b ∉ fps j) (ho : NT o := by exact fun _ h => by cases h) (ht : ∀ vs, o ≠ .tup vs := by exact fun _ h => by cases h) : REnv K F (upd H p o) (argS vs) (env.set i (some m)) (fun j => if j = i then fp else fps j) := by
  have R0 := R.drop i
  obtain ⟨u0, hu0, hk0⟩ := R.kin ⟨i, hp⟩
  have e : Ext K F H (fun b => b = p) F (upd H p o) (fun b => b = p) := Ext.put rfl hu0 hk0 ho ht
  obtain ⟨R1, _⟩ := R0.frame (B := fun b => b = p) (fun b ⟨j, hj⟩ hb => by
    subst hb
    by_cases ej : j = i
    · simp only [if_pos ej] at hj; cases hj
    · simp only [if_neg ej] at hj
      exact R.dj i j (fun q => ej q.symm) b hp hj) e (sub_put R.fr hF)
  have R2 := R1.put (i := i) (argS_get.mpr hv) r (fun b hb j hj q => by
    simp only [if_neg hj] at q
    exact hfp b hb j hj q)
  rw [List.set_set] at R2
  refine ⟨R2.fr, R2.len, fun j n h => ?_, fun j h => ?_, fun a c hac b hb => ?_, R2.tt⟩
  · obtain ⟨v, h1, h2⟩ := R2.got j n h
    by_cases ej : j = i
    · simp only [if_pos ej] at h2 ⊢; exact ⟨v, h1, h2⟩
    · simp only [if_neg ej] at h2 ⊢; exact ⟨v, h1, h2⟩
  · have := R2.nil j h
    by_cases ej : j = i
    · simp only [if_pos ej] at this ⊢; exact this
    · simp only [if_neg ej] at this ⊢; exact this
  · have := R2.dj a c hac b
    by_cases ea : a = i
    · by_cases ec : c = i
      · exact absurd (ea.trans ec.symm) hac
      · simp only [if_pos ea, if_neg ec] at this hb ⊢; exact this hb
    · by_cases ec : c = i
      · simp only [if_neg ea, if_pos ec] at this hb ⊢; exact this hb
      · simp only [if_neg ea, if_neg ec] at this hb ⊢; exact this hb
/-- xs.append(y) -/
def appG : FP := fun ms => match ms with
  | [.lst xs, y] => if xs.length < sizeLine then some (.ok (.fz .non) [some (.lst (xs ++ [y])), none]) else none
  | _ => none
theorem opm_append {K : PySem.W.Frag} : OpMt K appG rAppend := fun x vs H Q Ex p => by
  obtain ⟨F, ms, fps, R, p⟩ := p
  unfold appG at p
  split at p
  · rename_i xs y
    split at p
    · rename_i hl
      have l := R.len
      simp at l
      match vs, l with
      | [w], _ =>
        obtain ⟨v0, h0, r0⟩ := R.got 0 _ rfl
        cases h0
        obtain ⟨v1, h1, r1⟩ := R.got 1 _ rfl
        cases h1
        obtain ⟨q, ws, fq, rfl, _⟩ := repm_lst r0
        have dj : ∀ b ∈ fps 0, b ∉ fps 1 := R.dj 0 1 (by omega)
        obtain ⟨ws, hq, hlen, hin, hFq, rN⟩ := lst_append r0 r1 dj
        refine ⟨q, ws, w, rfl, rfl, hq, by omega, ?_⟩
        have R1 := R.drop 1
        have R2 := args_upd (i := 0) (m := .lst (xs ++ [y])) (fp := fps 0 ++ fps 1) R1 rfl (by simp; exact hin) hFq rN (fun b hb j hj z => by
          by_cases e1 : j = 1
          · simp only [if_pos e1] at z; cases z
          · simp only [if_neg e1] at z
            rcases List.mem_append.mp hb with hb | hb
            · exact R.dj 0 j (fun q => hj q.symm) b hb z
            · exact R.dj 1 j (fun q => e1 q.symm) b hb z)
        refine p .non F _ _ [] R2 (.fz .non) Own.not_nil ?_
        refine (Ext.putO R ⟨0, hin⟩).weak fun b h => ?_
        rcases h with ⟨j, hj⟩ | h
        · by_cases e0 : j = 0
          · simp only [if_pos e0] at hj
            rcases List.mem_append.mp hj with z | z
            · exact ⟨0, z⟩
            · exact ⟨1, z⟩
          · simp only [if_neg e0] at hj
            by_cases e1 : j = 1
            · simp only [if_pos e1] at hj; cases hj
            · simp only [if_neg e1] at hj; exact ⟨j, hj⟩
        · cases h
    · exact p.elim
  · exact p.elim
section
variable {X : Cx} {W : WX} {o e : Expr} {fo fe : FE} {apos cpos : Pos}
theorem e_append (ho : PE X o (rE X.K W fo)) (he : PE X e (rE X.K W fe)) (hbase : attributeBase o "append" X.env (eval o X.env) = eval o X.env := by rfl)
    (hfew : ((backTo cpos (starEach [e] X.env)).all (fun x => !x.1) && (backToKw cpos (keywordEach [] X.env)).all (fun x => x.1.isSome)
      && decide (([e]).length + ([] : List Keyword).length + (if ([] : List Keyword).isEmpty then 0 else 1) < 30)) = true := by rfl)
    (hline : (apos.endLine == cpos.line) = true := by rfl) (hs : starEach [e] X.env = (false, eval e X.env) :: starEach [] X.env := by rfl) (hplain : (backTo cpos (starEach [] X.env)).any (·.1) = false := by rfl) :
    PE X (.Call (.Attribute o "append" apos) [e] [] cpos) (rE X.K W (bmE .lst appG fo (arg1 (tk fe)))) := e_bm (T := .lst) PySem.F.plainAttrs_list PySem.F.slot_list_append PySem.F.type_list_append mt_append opm_append ho (a_cons (e_tk he) a_nil hs) hbase hfew hline hs hplain
end
theorem RepMs.set {K : PySem.W.Frag} {F H : Hp} : ∀ {ms : List M} {vs : List V} {fp : List Addr} {j : Nat} {m : M} {v : V} {fq : List Addr}, RepMs K F H ms vs fp → RepM K F H m v fq → (∀ b ∈ fq, b ∉ fp) → ∃ fr, RepMs K F H (ms.set j m) (vs.set j v) fr ∧ ∀ b ∈ fr, b ∈ fp ∨ b ∈ fq
  | [], _, _, j, m, v, fq, .nil, _, _ => ⟨[], .nil, fun b hb => by cases hb⟩
  | n :: ms, _, _, 0, m, v, fq, .cons (fp := f1) (fq := f2) a b d, r, dj => ⟨fq ++ f2, .cons r b fun b hb q => dj b hb (List.mem_append_right _ q), fun b hb => (List.mem_append.mp hb).elim .inr fun q => .inl (List.mem_append_right _ q)⟩
  | n :: ms, _, _, j + 1, m, v, fq, .cons (fp := f1) (fq := f2) a b d, r, dj => by
    obtain ⟨fr, h1, h2⟩ := RepMs.set (j := j) b r fun b hb q => dj b hb (List.mem_append_right _ q)
    refine ⟨f1 ++ fr, .cons a h1 fun b hb q => ?_, fun b hb => ?_⟩
    · rcases h2 b q with q | q
      · exact d b hb q
      · exact dj b q (List.mem_append_left _ hb)
    · rcases List.mem_append.mp hb with q | q
      · exact .inl (List.mem_append_left _ q)
      · exact (h2 b q).imp (List.mem_append_right _) fun z => z
def setG : FP := fun ms => match ms with
  | [v, .lst xs, .fz (.int i)] => match ixN xs.length i with
    | some j => some (.ok (.fz .non) [none, some (.lst (xs.set j v)), some (.fz (.int i))])
    | none => none
  | _ => none
theorem op_set {K : PySem.W.Frag} {v o i : V} {H : Hp} {Q : Hp → Prop} {Ex : XK} (p : spOf K setG [v, o, i] H (fun _ H1 => Q H1) Ex) : rSetL o i v H Q := by
  obtain ⟨F, ms, fps, R, p⟩ := p
  unfold setG at p
  split at p
  · rename_i y xs k
    cases ei : ixN xs.length k with
    | none => rw [ei] at p; exact p.elim
    | some j =>
      simp only [ei] at p
      obtain ⟨v0, h0, r0⟩ := R.got 0 _ rfl
      cases h0
      obtain ⟨v1, h1, r1⟩ := R.got 1 _ rfl
      cases h1
      obtain ⟨v2, h2, r2⟩ := R.got 2 _ rfl
      cases h2
      obtain rfl := rep_int (repm_fz r2)
      obtain ⟨q, ws, fq, rfl, hq, hF, rs, nq, hfp⟩ := repm_lst r1
      have dj : ∀ b ∈ fps 0, b ∉ fps 1 := R.dj 0 1 (by omega)
      refine ⟨q, ws, k, j, rfl, rfl, hq, by rw [rs.length]; exact ei, ?_⟩
      obtain ⟨fr, rN, hfr⟩ := rs.set (j := j) r0 fun b hb z => dj b hb (by rw [hfp]; exact List.mem_cons_of_mem _ z)
      have hnq : ∀ b ∈ fr, b ≠ q := fun b hb e => by
        subst e
        rcases hfr b hb with z | z
        · exact nq z
        · exact dj b z (by rw [hfp]; exact List.mem_cons_self ..)
      have rM : RepM K F (upd H q (.lst (ws.set j v))) (.lst (xs.set j y)) (.ref q) (q :: fr) := .lst upd_same hF (rN.frame (Sub.refl _) (fun b hb => upd_ne (hnq b hb)) fun b hb => (rN.live b hb).2) fun z => hnq q z rfl
      have R1 := R.drop 0
      have R2 := args_upd (i := 1) (m := .lst (xs.set j y)) (fp := q :: fr) R1 rfl (by simp [hfp]) hF rM (fun b hb a ha z => by
        by_cases e1 : a = 0
        · simp only [if_pos e1] at z; cases z
        · simp only [if_neg e1] at z
          rcases List.mem_cons.mp hb with rfl | hb
          · exact R.dj 1 a (fun q => ha q.symm) b (by rw [hfp]; exact List.mem_cons_self ..) z
          · rcases hfr b hb with hb | hb
            · exact R.dj 1 a (fun q => ha q.symm) b (by rw [hfp]; exact List.mem_cons_of_mem _ hb) z
            · exact R.dj 0 a (fun q => e1 q.symm) b hb z)
      refine p .non F _ _ [] R2 (.fz .non) Own.not_nil ?_
      refine (Ext.putO R ⟨1, by rw [hfp]; exact List.mem_cons_self ..⟩).weak fun b h => ?_
      rcases h with ⟨a, ha⟩ | h
      · by_cases e0 : a = 1
        · simp only [if_pos e0] at ha
          rcases List.mem_cons.mp ha with rfl | z
          · exact ⟨1, by rw [hfp]; exact List.mem_cons_self ..⟩
          · rcases hfr b z with z | z
            · exact ⟨1, by rw [hfp]; exact List.mem_cons_of_mem _ z⟩
            · exact ⟨0, z⟩
        · simp only [if_neg e0] at ha
          by_cases e1 : a = 0
          · simp only [if_pos e1] at ha; cases ha
          · simp only [if_neg e1] at ha; exact ⟨a, ha⟩
      · cases h
  · exact p.elim
def setS (fe fo fi : FE) : FS := fun env => bindS (callE setG (arg3 fe fo fi) env) fun _ env1 => some (.nx env1)
end Ink
set_option Elab.async false
set_option linter.all false
set_option maxRecDepth 100000
namespace Ink
open PySem L2
theorem get_list {X : Cx} : PGet X (rIxL X.K) := fun pins s σ H o i ov iv Q I ro ri h => by
  obtain ⟨p, xs, k, v, rfl, rfl, hq, he, q⟩ := h
  cases ro
  obtain ⟨t, rfl⟩ := ri
  obtain ⟨its, r, pl, hz⟩ := I.list hq
  obtain ⟨j, h1, h2, h3, h4, h5⟩ := atI_get he
  obtain ⟨w, ew, rw'⟩ := r.get h2
  have hl := r.length
  have hn := line63
  have fin : EP X pins σ Q w s := ⟨v, H, I, rw', q⟩
  by_cases h0 : 0 ≤ k
  · have hj : k.toNat = j := by
      rw [seqIndex_of h0 h5] at h1
      exact Option.some.inj h1
    exact wpAny_getItem_list pl.isList h0 (by omega) (by rw [hj]; simpa using ew) fin
  · have hj : (k + (its.toArray.size : Int)).toNat = j := by
      rw [seqIndex_neg (by omega) h4] at h1
      rw [List.size_toArray, ← hl]
      exact Option.some.inj h1
    exact wpAny_getItem_list_neg pl.isList (by omega) (by rw [List.size_toArray] <;> omega) (by omega) (by rw [hj]; simpa using ew) fin
/-- the int at a place of an owned list -/
def ixInt (m : M) (i : Int) : Option Int := match m with
  | .lst ms => match atI ms i with
    | some (.fz (.int x)) => some x
    | _ => none
  | _ => none
def augIx (f : Int → Int → Int) (fo fi fe : FE) : FS := fun env => bindS (fo env) fun a env1 => bindS (fi env1) fun b env2 => match intA b env2 with
  | some i => match resA env2 a with
    | some m => match ixInt m i with
      | some x => bindS (fe env2) fun c env3 => match intA c env3 with
        | some y => bindS (runP setG [.tm (.fz (.int (f x y))), a, b] env3) fun _ env4 => some (.nx env4)
        | none => none
      | none => none
    | none => none
  | none => none
theorem ixInt_rep {K : PySem.W.Frag} {F H : Hp} {m : M} {v : V} {fp : List Addr} {i x : Int} (r : RepM K F H m v fp) (h : ixInt m i = some x) : ∃ p vs, v = .ref p ∧ H p = some (.lst vs) ∧ atI vs i = some (.int x) := by
  unfold ixInt at h
  split at h
  · rename_i ms
    obtain ⟨p, vs, fq, rfl, hp, hF, rs, _⟩ := repm_lst r
    split at h
    · rename_i z ez
      cases h
      refine ⟨p, vs, rfl, hp, ?_⟩
      unfold atI at ez ⊢
      rw [rs.length]
      cases ej : ixN ms.length i with
      | none => rw [ej] at ez; cases ez
      | some j =>
        rw [ej] at ez
        have gen : ∀ {ms : List M} {vs : List V} {fp : List Addr} {j : Nat}, RepMs K F H ms vs fp → ms[j]? = some (.fz (.int x)) → vs[j]? = some (.int x) := by
          intro ms
          induction ms with
          | nil => intro vs fp j _ e; simp at e
          | cons m ms ih =>
            intro vs fp j r e
            cases r with
            | cons a b d =>
              cases j with
              | zero => simp at e; subst e; rw [rep_int (repm_fz a)]; rfl
              | succ j => simp at e; simpa using ih b e
        exact gen rs ez
    · cases h
  · cases h
section
variable {X : Cx} {W : WX} {P : List Nat} {o i e : Expr} {fo fi fe : FE} {pos tpos : Pos} {op : Operator} {f : Int → Int → Int}
theorem s_augix (hop : PIp X op (rI0 fun i j => .int (f i j))) (ho : PE X o (rE X.K W fo)) (hi : PE X i (rE X.K W fi)) (he : PE X e (rE X.K W fe)) (ha : ∀ ov iv new, augStore i ov iv new = (do holding [new, ov, iv] (setItem ov iv new); release [new, ov, iv] []; pure .next) := by intros; rfl) :
    PS X (.AugAssign (.Subscript o i tpos) op e pos) (rS X.K W P (augIx f fo fi fe)) := PS_mono (ps_augS ho hi get_list he hop set_list ha) fun D σ H ⟨F, env, fps, R, po⟩ => by
  refine ⟨F, env, fps, R, ?_⟩
  unfold augIx at po
  cases ef : fo env with
  | none => rw [ef] at po; exact po
  | some z =>
    rw [ef] at po
    cases z with
    | ex x env1 => exact PXS.px po
    | ok a env1 =>
      simp only [bindS] at po
      intro ov F1 H1 fps1 fp R1 r d e1
      refine ⟨F1, env1, fps1, R1, ?_⟩
      cases eg : fi env1 with
      | none => rw [eg] at po; exact po
      | some z2 =>
        rw [eg] at po
        cases z2 with
        | ex x env2 => exact PX.wide (PXS.px po) e1 fun _ h => .inl h
        | ok b env2 =>
          simp only at po
          intro iv F2 H2 fps2 fp2 R2 r2 d2 e2
          obtain ⟨ra, da⟩ := pendA r d e2
          have e12 : Ext X.K F H (Own fps) F2 H2 (fun b => Own fps2 b ∨ (b ∈ fp ∨ b ∈ fp2)) := e1.trans e2 (fun _ h => .inl h) fun b h => by
            rcases h with h | h | h
            · exact .inl (.inl h)
            · exact .inr (.inr h)
            · exact .inl (.inr h)
          cases ei : intA b env2 with
          | none => rw [ei] at po; exact po.elim
          | some k =>
            simp only [ei] at po
            cases em : resA env2 a with
            | none => rw [em] at po; exact po.elim
            | some m =>
              simp only [em] at po
              cases ex : ixInt m k with
              | none => rw [ex] at po; exact po.elim
              | some x =>
                simp only [ex] at po
                have hiv := intA_rep R2 r2 ei
                obtain ⟨fq, rm⟩ := resA_rep R2 ra em
                obtain ⟨p, vs, rfl, hp, hat⟩ := ixInt_rep rm ex
                subst hiv
                refine ⟨p, vs, k, .int x, rfl, rfl, SqL.of hp, hat, F2, env2, fps2, R2, ?_⟩
                cases ec : fe env2 with
                | none => rw [ec] at po; exact po
                | some z3 =>
                  rw [ec] at po
                  cases z3 with
                  | ex xx env3 => exact PX.wide (PXS.px po) e12 fun _ h => .inl h
                  | ok c env3 =>
                    simp only at po
                    intro yv F3 H3 fps3 fp3 R3 r3 d3 e3
                    cases ey : intA c env3 with
                    | none => rw [ey] at po; exact po.elim
                    | some y =>
                      simp only [ey] at po
                      obtain rfl := intA_rep R3 r3 ey
                      obtain ⟨ra3, da3⟩ := pendA ra (fun b hb q => da b hb (.inl q)) e3
                      obtain ⟨rb3, db3⟩ := pendA r2 d2 e3
                      refine ⟨x, y, rfl, rfl, ?_⟩
                      have hab : ∀ b ∈ fp, b ∉ fp2 := fun b hb q => da b hb (.inr q)
                      have rs := RepAs.cons' (a := .tm (.fz (.int (f x y)))) (fp := []) (RepM.fz (K := X.K) (F := F3) (H := H3) (.int (f x y))) (RepAs.cons' ra3 (RepAs.cons' rb3 .nil' fun b hb ⟨_, q⟩ => by cases q) fun b hb q => by
                        rcases own_fcons.mp q with q | ⟨_, q⟩
                        · exact hab b hb q
                        · cases q) fun b hb => by cases hb
                      have ow : ∀ b, Own (fcons [] (fcons fp (fcons fp2 fun _ => []))) b → b ∈ fp ∨ b ∈ fp2 := fun b h => by
                        rcases own_fcons.mp h with h | h
                        · cases h
                        · rcases own_fcons.mp h with h | h
                          · exact .inl h
                          · rcases own_fcons.mp h with h | ⟨_, h⟩
                            · exact .inr h
                            · cases h
                      have e13 : Ext X.K F H (Own fps) F3 H3 (fun b => Own fps3 b ∨ (b ∈ fp ∨ b ∈ fp2)) := e12.trans e3 (fun _ h => .inl h) fun b h => by
                        rcases h with h | h
                        · exact .inl (.inl h)
                        · exact .inr (.inr h)
                      refine op_set (prim_sound (W := W) R3 rs (fun b hb q => ?_) ?_)
                      · rcases ow b hb with hb | hb
                        · exact da3 b hb (.inl q)
                        · exact db3 b hb (.inl q)
                      · cases er : runP setG [.tm (.fz (.int (f x y))), a, b] env3 with
                        | none => rw [er] at po; exact po
                        | some z4 =>
                          rw [er] at po
                          cases z4 with
                          | ex xx env4 => exact PX.wide (PXS.px po) e13 fun b h => h.imp id (ow b)
                          | ok rr env4 => exact fun v F4 H4 fps4 fp4 R4 _ _ e4 => po σ F4 H4 fps4 R4 .refl (e13.trans e4 (fun b h => h.imp id (ow b)) fun b h => .inl (.inl h))
end
def iaddM : M → M → Option M
  | .fz (.int i), .fz (.int j) => some (.fz (.int (i + j)))
  | .fz (.str s), .fz (.str t) => if s.length + t.length ≤ sizeLine then some (.fz (.str (s ++ t))) else none
  | _, _ => none
def augNm (i : Nat) (g : FP) (fe : FE) : FS := fun env => match env[i]? with
  | some (some _) => bindS (fe env) fun a env1 => bindS (runP g [.sl i, a] env1) fun r env2 => match r with
    | .tm m => some (.nx (env2.set i (some m)))
    | .sl _ => none
  | _ => none
def parS (i j : Nat) (fa : FA) : FS := fun env => bindS (fa env) fun as env1 => match tms as with
  | some [m, n] => some (.nx ((env1.set i (some m)).set j (some n)))
  | _ => none
section
variable {X : Cx} {W : WX} {P : List Nat} {a b : Expr} {fa : FA} {pos px py pt pt2 : Pos} {kt k2 : Nat} {i j : Nat} {x y : Str}
theorem s_par (hc : X.calm = true) (hN : X.N.Nodup) (hi : X.N[i]? = some x) (hj : X.N[j]? = some y) (hij : i ≠ j) (hx : X.env.scope.names.lookup x = some .local) (hy : X.env.scope.names.lookup y = some .local) (ha : PA X [a, b] (rA X.K W fa))
    (hw : swappedStores [.Tuple [.Name x px, .Name y py] kt pt] (.Tuple [a, b] k2 pt2) X.env = pure (some [x, y]) := by rfl) (hp : apart [i, j] P = true := by rfl)
    (hs : swapsWithSole [.Tuple [.Name x px, .Name y py] kt pt] (.Tuple [a, b] k2 pt2) pos.line X.env = pure false := by rfl) :
    PS X (.Assign [.Tuple [.Name x px, .Name y py] kt pt] (.Tuple [a, b] k2 pt2) pos) (rS X.K W P (parS i j fa)) := PS_mono (ps_par hc hN hi hj hij hx hy ha hw hs) fun D σ H ⟨F, env, fps, R, po⟩ => by
  refine ⟨F, env, fps, R, ?_⟩
  unfold parS at po
  cases ef : fa env with
  | none => rw [ef] at po; exact po
  | some z =>
    rw [ef] at po
    cases z with
    | ex x env1 => exact PXS.px po
    | ok as env1 =>
      simp only [bindS] at po
      intro vs F1 H1 fps1 fpA R1 rs d e1
      split at po
      · rename_i m n et
        obtain ⟨fp, rm, ho⟩ := tms_reps rs et
        cases rm with
        | cons r1 rr dj =>
          cases rr with
          | cons r2 rn _ =>
            cases rn
            rename_i v f1 w f2 _
            refine ⟨v, w, rfl, ?_⟩
            obtain ⟨fps2, R2, h2⟩ := store_len (i := i) R1 r1 fun b hb q => d b (ho b (List.mem_append_left _ hb)) q
            obtain ⟨fps3, R3, h3⟩ := store_len (i := j) R2 r2 fun b hb q => by
              rcases h2 b q with q | q
              · exact d b (ho b (List.mem_append_right _ (by simp [hb]))) q
              · exact dj b q (by simp [hb])
            refine po _ F1 H1 fps3 R3 (((Chg.set (S := [i, j]) (by simp)).trans (Chg.set (by simp))).pin hp) (e1.weak fun b h => ?_)
            rcases h3 b h with h | h
            · rcases h2 b h with h | h
              · exact .inl h
              · exact .inr (ho b (List.mem_append_left _ h))
            · exact .inr (ho b (List.mem_append_right _ (by simp [h])))
      · exact po.elim
end
end Ink
set_option Elab.async false
set_option linter.all false
set_option maxRecDepth 100000
namespace Ink
open PySem L2
def stepS (acc : List Str) (x : Str) : List Str := if acc.any (· == x) then acc else acc ++ [x]
def ddS (xs : List Str) : List Str := xs.foldl stepS []
def strsD : List D → Option (List Str)
  | [] => some []
  | .str x :: r => match strsD r with
    | some xs => some (x :: xs)
    | none => none
  | _ => none
theorem strsD_reps {K : PySem.W.Frag} {F : Hp} : ∀ {vs : List V} {ds : List D} {xs : List Str}, Reps K F vs ds → strsD ds = some xs → vs = xs.map V.str
  | _, [], xs, .nil, e => by rw [strsD] at e; cases e; rfl
  | _, .str b :: r, xs, .cons a t, e => by
    rw [strsD] at e
    cases e2 : strsD r with
    | none => rw [e2] at e; cases e
    | some cs => rw [e2] at e; cases e; rw [rep_str a, strsD_reps t e2]; rfl
  | _, .non :: _, _, _, e => by simp [strsD] at e
  | _, .int _ :: _, _, _, e => by simp [strsD] at e
  | _, .bl _ :: _, _, _, e => by simp [strsD] at e
  | _, .lst _ :: _, _, _, e => by simp [strsD] at e
  | _, .tup _ :: _, _, _, e => by simp [strsD] at e
  | _, .dK _ :: _, _, _, e => by simp [strsD] at e
  | _, .dT _ :: _, _, _, e => by simp [strsD] at e
  | _, .scr _ :: _, _, _, e => by simp [strsD] at e
  | _, .ins _ _ :: _, _, _, e => by simp [strsD] at e
  | _, .lam _ :: _, _, _, e => by simp [strsD] at e
  | _, .dLK _ :: _, _, _, e => by simp [strsD] at e
  | _, .dLT _ :: _, _, _, e => by simp [strsD] at e
  | _, .nst _ _ :: _, _, _, e => by simp [strsD] at e
  | _, .emp :: _, _, _, e => by simp [strsD] at e
  | _, .exc _ _ :: _, _, _, e => by simp [strsD] at e
/-- len(set(t)), t a tuple of texts -/
def lenSetE (f : FE) : FE := fun env => bindO (f env) fun a env1 => match resA env1 a with
  | some (.fz (.tup ds)) => match strsD ds with
    | some xs => if xs.length ≤ 4000 then some (.ok (.tm (.fz (.int (ddS xs).length))) env1) else none
    | none => none
  | _ => none
end Ink
set_option Elab.async false
set_option linter.all false
set_option maxRecDepth 100000
namespace Ink
open PySem L2
def repL {α : Type} (n : Nat) (xs : List α) : List α := (List.replicate n xs).flatten
def repS (z : Str) (n : Nat) : Str := ⟨(repL n z.cps.toList).toArray⟩
theorem repL_reps {K : PySem.W.Frag} {F : Hp} {vs : List V} {ds : List D} (r : Reps K F vs ds) : ∀ n : Nat, Reps K F (List.replicate n vs).flatten (repL n ds)
  | 0 => .nil
  | n + 1 => by
    unfold repL
    rw [List.replicate_succ, List.flatten_cons, List.replicate_succ, List.flatten_cons]
    exact r.append (repL_reps r n)
theorem foldl_cps (a : Array Nat) : ∀ (k : Nat) (acc : List Nat), List.foldl (fun x y => x ++ y) acc.toArray (List.replicate k a) = (acc ++ (List.replicate k a.toList).flatten).toArray
  | 0, acc => by simp
  | k + 1, acc => by
    rw [List.replicate_succ, List.foldl_cons]
    have e : acc.toArray ++ a = (acc ++ a.toList).toArray := by
      apply Array.ext'
      simp
    rw [e, foldl_cps a k]
    simp [List.replicate_succ]
theorem op_mulstr {X : Cx} : OpR X (binaryOp .Mult) (fun x y H Q => ∃ z n, x = .str z ∧ y = .int n ∧ 0 ≤ n ∧ n ≤ 1000 ∧ z.length ≤ 1000 ∧ Q (.str (repS z n.toNat)) H) := fun pins s σ H x y v u Q I rx ry h => by
  obtain ⟨z, n, rfl, rfl, h0, h1, hz, q⟩ := h
  obtain ⟨t, rfl⟩ := rx
  obtain ⟨t2, rfl⟩ := ry
  have hmul : z.length * n.toNat ≤ 1000 * 1000 := Nat.mul_le_mul hz (by omega)
  have hlenR : (repL n.toNat z.cps.toList).length = n.toNat * z.length := by
    unfold repL
    rw [PyProof.Rows.lm_len_rep_flat]
    show n.toNat * z.cps.toList.length = n.toNat * z.cps.size
    simp
  refine PySem.P.mul_str ?_ (fun _ _ => ?_) (fun _ _ => ?_) ?_
  · rw [decide_eq_false (by omega), decide_eq_false (by omega)]; rfl
  · intro hgt
    have : (2 ^ 63 - 1) / n ≥ (2 ^ 63 - 1) / 1000 := by
      rename_i hn1 _
      apply Int.le_ediv_of_mul_le (by omega)
      have : (2 ^ 63 - 1 : Int) / 1000 * n ≤ (2 ^ 63 - 1) / 1000 * 1000 := Int.mul_le_mul_of_nonneg_left (by omega) (by decide)
      have h2 : (2 ^ 63 - 1 : Int) / 1000 * 1000 ≤ 2 ^ 63 - 1 := Int.ediv_mul_le _ (by decide)
      omega
    have h3 : ((2 : Int) ^ 63 - 1) / 1000 ≥ 1000 := by decide
    omega
  · unfold Builtin.Str.tooLong
    rw [sizeLine_eq]
    exact decide_eq_false (by omega)
  · by_cases hn : n < 1
    · rw [if_pos hn]
      have e : n.toNat = 0 := by omega
      have e2 : repS z n.toNat = Str.empty := by rw [e]; rfl
      rw [e2] at q
      exact ⟨by decide, .str Str.empty, H, I.tok _, ⟨_, rfl⟩, q⟩
    · rw [if_neg hn]
      by_cases hc : (n == 1 || z.length == 0) = true
      · rw [if_pos hc]
        have e2 : repS z n.toNat = z := by
          simp only [Bool.or_eq_true, beq_iff_eq] at hc
          rcases hc with hc | hc
          · subst hc
            obtain ⟨a⟩ := z
            unfold repS repL
            simp
          · obtain ⟨a⟩ := z
            have ha : a = #[] := Array.eq_empty_of_size_eq_zero hc
            subst ha
            unfold repS repL
            simp
        rw [e2] at q
        exact ⟨.str z, H, I, ⟨_, rfl⟩, q⟩
      · rw [if_neg hc]
        have e3 : (⟨(List.replicate n.toNat z.cps).foldl (fun x y => x ++ y) #[]⟩ : Str) = repS z n.toNat := by
          have := foldl_cps z.cps n.toNat []
          rw [List.nil_append] at this
          unfold repS repL
          rw [← this]
        refine ⟨?_, .str (repS z n.toNat), H, I.tok _, ⟨_, by rw [← e3]⟩, q⟩
        show Array.size _ ≤ sizeLine
        have : (⟨(List.replicate n.toNat z.cps).foldl (fun x y => x ++ y) #[]⟩ : Str).cps.size = (repS z n.toNat).cps.size := by rw [e3]
        rw [this]
        show (repL n.toNat z.cps.toList).toArray.size ≤ sizeLine
        rw [List.size_toArray, hlenR, sizeLine_eq]
        have : n.toNat * z.length = z.length * n.toNat := Nat.mul_comm _ _
        omega
/-- t * n where the answer is t itself -/
theorem tup_mul_same (l : Addr) (items : Array Value) (n : Nat) (dd : Option Addr) (sl : Array (Option Value)) (x : Int) (u : Tok) (c0 : (decide (x < -(2 ^ 63)) || decide (x ≥ 2 ^ 63)) = false) (c1 : (items.isEmpty || x == 1) = true) :
    Meets (Builtin.«tuple.__mul__» ⟨[.ref l, .int x u], []⟩) (fun _ R s => s.heap.get? l = some { cls := .type "tuple", dict := dd, data := .seq items n, slots := sl } ∧ R (.ok (.ret (Value.ref l))) s) :=
  .of_wp fun prog w A R s h => by
    obtain ⟨hp, g, d, tk, os⟩ := s
    obtain ⟨hl, h⟩ := h
    have f1 := AutoSeq1.idx_int
    wp_walk using AutoSeq1.wpAny_loadPart' hl
    repeat (first
      | (refine wpAny_ite_false (decide_eq_false (by rw [c0]; exact Bool.false_ne_true)) ?_; wp_walk using AutoSeq1.wpAny_loadPart' hl)
      | (refine wpAny_ite_true (decide_eq_true c1) ?_; wp_walk using AutoSeq1.wpAny_loadPart' hl))
    exact ⟨_, rfl, h⟩
theorem op_tupsame {X : Cx} : OpR X (binaryOp .Mult) (fun x y H Q => ∃ l k xs, x = .ref l ∧ y = .int k ∧ SqT X.K H l xs ∧ (xs = [] ∨ k = 1) ∧ -1000 ≤ k ∧ k ≤ 1000 ∧ Q (.ref l) H) := fun pins s σ H x y v u Q I rx ry h => by
  obtain ⟨l, k, xs, rfl, rfl, hT, hne, h1, h2, q⟩ := h
  cases rx
  obtain ⟨t, rfl⟩ := ry
  obtain ⟨its, r, ⟨⟨cls, dd, data, sl⟩, ho, hc, n, hd⟩, hs⟩ := I.tuple hT
  simp only at hc hd
  subst hc hd
  have c0 : (decide (k < -(2 ^ 63)) || decide (k ≥ 2 ^ 63)) = false := by rw [decide_eq_false (by omega), decide_eq_false (by omega)]; rfl
  have c1 : (its.toArray.isEmpty || k == 1) = true := by
    rcases hne with e | e
    · subst e
      have : its = [] := List.eq_nil_of_length_eq_zero (by rw [← r.length]; rfl)
      subst this
      rfl
    · subst e; simp
  exact wpAny_binaryOp_repeat_ref (T := "tuple") (U := "int") (by decide) ⟨_, ho, rfl⟩ (fun s2 => typeIs_int s2 k t) noFill_tuple_mul PySem.F.fills_int_mul PySem.F.slot_int_rmul repeat_tuple PySem.F.slot_int_index.lookup
    (call_meets PySem.F.slot_int_rmul (typeIs_int s k t) PySem.F.entry_int_rmul (PySem.F.args_int_rmul_2 _ _) (int_rmul_tuple k t l its.toArray n dd sl)
      ⟨ho, rfl, ⟨_, ho, rfl⟩, call_meets PySem.F.slot_tuple_mul ⟨_, ho, rfl⟩ PySem.F.entry_tuple_mul (PySem.F.args_tuple_mul_2 _ _) (tup_mul_same l its.toArray n dd sl k t c0 c1) ⟨ho, ⟨.ref l, H, I, rfl, q⟩⟩⟩)
def mulM : M → M → Option M
  | .fz (.int i), .fz (.int j) => match mulC i j with
    | true => some (.fz (.int (i * j)))
    | false => none
  | .fz (.str z), .fz (.int n) => if 0 ≤ n ∧ n ≤ 1000 ∧ z.length ≤ 1000 then some (.fz (.str (repS z n.toNat))) else none
  | .fz (.tup ds), .fz (.int k) => if ds = [] ∨ k = 1 then (if -1000 ≤ k ∧ k ≤ 1000 then some (.fz (.tup ds)) else none) else if 2 ≤ k ∧ k ≤ 1000 ∧ ds.length ≤ 1000 then some (.fz (.tup (repL k.toNat ds))) else none
  | a, .fz (.int k) => match lstD a with
    | some ds => if -1000 ≤ k ∧ k ≤ 1000000 ∧ ds.length * k.toNat ≤ sizeLine then some (.lst ((repL k.toNat ds).map .fz)) else none
    | none => none
  | _, _ => none
abbrev mulG : FP := g2 mulM
theorem op2_mul {K : PySem.W.Frag} : Op2 K mulG (fun x y H Q => L2.rI CMul (fun i j => .int (i * j)) x y H Q ∨ ((∃ z n, x = .str z ∧ y = .int n ∧ 0 ≤ n ∧ n ≤ 1000 ∧ z.length ≤ 1000 ∧ Q (.str (repS z n.toNat)) H) ∨
    ((∃ l k xs, x = .ref l ∧ y = .int k ∧ SqT K H l xs ∧ (xs = [] ∨ k = 1) ∧ -1000 ≤ k ∧ k ≤ 1000 ∧ Q (.ref l) H) ∨ (rRepT K x y H Q ∨ rRep x y H Q)))) := fun x y H Q Ex p => by
  obtain ⟨F, a, b, m, fps, R, r1, r2, e, p⟩ := g2_at p
  unfold mulM at e
  split at e
  · rename_i i j
    cases hc : mulC i j with
    | false => rw [hc] at e; cases e
    | true =>
      rw [hc] at e; cases e
      obtain rfl := rep_int (repm_fz r1)
      obtain rfl := rep_int (repm_fz r2)
      refine .inl ⟨_, _, rfl, rfl, ?_, sp_flat R (.int _) p⟩
      simp only [mulC, Bool.or_eq_true, Bool.and_eq_true, decide_eq_true_eq] at hc
      exact hc
  · split at e
    · rename_i hl
      cases e
      obtain rfl := rep_str (repm_fz r1)
      obtain rfl := rep_int (repm_fz r2)
      exact .inr (.inl ⟨_, _, rfl, rfl, hl.1, hl.2.1, hl.2.2, sp_flat R (.str _) p⟩)
    · cases e
  · rename_i ds k
    obtain ⟨q, vs, rfl, hq, rs⟩ := tup_rep R.fr (repm_fz r1)
    obtain rfl := rep_int (repm_fz r2)
    split at e
    · rename_i hs
      split at e
      · rename_i hk
        cases e
        refine .inr (.inr (.inl ⟨q, k, vs, rfl, rfl, hq, ?_, hk.1, hk.2, sp_flat R (repm_fz r1) p⟩))
        rcases hs with hs | hs
        · subst hs
          exact .inl (List.eq_nil_of_length_eq_zero (by rw [rs.length]; rfl))
        · exact .inr hs
      · cases e
    · rename_i hs
      split at e
      · rename_i hk
        cases e
        refine .inr (.inr (.inr (.inl ⟨q, k, vs, rfl, rfl, hq, fun z => hs (.inl ?_), hk.1, hk.2.1, by rw [rs.length]; exact hk.2.2, sp_tup R (repL_reps rs _) p⟩)))
        subst z
        exact List.eq_nil_of_length_eq_zero (by rw [← rs.length]; rfl)
      · cases e
  · rename_i k _ _ _
    cases e1 : lstD a with
    | none => rw [e1] at e; cases e
    | some ds =>
      simp only [e1] at e
      split at e
      · rename_i hk
        cases e
        obtain ⟨q, vs, rfl, hq, rs⟩ := lstD_rep R.fr r1 e1
        obtain rfl := rep_int (repm_fz r2)
        exact .inr (.inr (.inr (.inr ⟨q, k, vs, rfl, rfl, hq, by omega, by omega, by rw [rs.length]; exact hk.2.2, sp_lst R (repL_reps rs _) p⟩)))
      · cases e
  · cases e
theorem e_mul {X : Cx} {W : WX} {a b : Expr} {fa fb : FE} {pos : Pos} (ha : PE X a (rE X.K W fa)) (hb : PE X b (rE X.K W fb)) : PE X (.BinOp a .Mult b pos) (rE X.K W (callE mulG (arg2 fa fb))) := e_op (op_mul.or (op_mulstr.or (op_tupsame.or (op_repT.or op_rep)))) op2_mul ha hb
end Ink
set_option Elab.async false
set_option linter.all false
set_option maxRecDepth 100000
namespace Ink
open PySem PySem.Spec PyProof.Rows L2 LamX
abbrev noTab : Obj := { cls := .none, data := .fields #[] }
theorem law_run {P : Program} {w : World} {K : PySem.W.Frag} {mg mb : Str → Option Value} {CX : CXT} {fa a : Addr} {cs : List (Addr × Addr)} {s1 : Shared} {vs : List Value} {ns : List Int}
    (kin : K.In s1.heap) (gl : s1.heap.Ns mainGlobals mg) (bu : s1.heap.Ns builtinsNs mb) (bb : ∀ x : Str, x ≠ "__name__" → mb x = bootBuiltins x) (lim : s1.heap.NoLimit) (gens : s1.gens = #[])
    (tab : ∀ p ∈ cs, s1.heap.get? p.2 = some noTab) (ntab : ∀ p ∈ cs, K.lookup p.2 = none) (cod : ∀ p ∈ cs, PySem.W.CodeHd s1.heap p.1 p.2)
    (bm : ∃ (m : Addr) (ob : Obj), mg "__builtins__" = some (.ref m) ∧ m ≠ builtinsNs ∧ s1.heap.get? m = some ob ∧ ob.cls = .type "module" ∧ ob.dict = some builtinsNs ∧ ob.data = .plain)
    (scr : s1.heap.get? a = some { cls := .type "list", data := .seq vs.toArray }) (hin : IntsAre vs ns) (len : ns.length ≤ sizeLine)
    (run : ∀ (base : Heap) (H : Hp), K.In base → base.Ns mainGlobals mg → (∀ p ∈ cs, TabB base mg p.1 p.2) → (∀ p ∈ cs, H p.2 = some (.tbl #[])) → (∀ b ps, H b = some (.tbl ps) → ∃ p ∈ cs, p.2 = b) → SqL K H a (ns.map V.int) → Env0 P w K mg base callerA [] s1 H →
      codeAny (model P w) callerA (.call (.ref fa) ⟨[.ref a], []⟩) (CR CX [] P w H s1 (fun v _ => v = .bl true) (fun _ _ _ => False)) s1)
    (nox : ∀ H e s', CX [] H s1 (fun _ _ _ => False) e s' → False) :
    codeAny (model P w) callerA (.call (.ref fa) ⟨[.ref a], []⟩) (fun r s' => r = .ok (.ret (.bool true)) ∧ OldK s1.heap s'.heap ∧ s'.os = s1.os ∧ AllBare s'.gens) s1 := by
  classical
  obtain ⟨ta, hta⟩ : ∃ ta, ta = cs.map (·.2) := ⟨_, rfl⟩
  have mem : ∀ p ∈ cs, p.2 ∈ ta := fun p hp => by rw [hta]; exact List.mem_map.mpr ⟨p, hp, rfl⟩
  have mem' : ∀ b ∈ ta, ∃ p ∈ cs, p.2 = b := fun b hb => by rw [hta] at hb; exact List.mem_map.mp hb
  have tobj : ∀ b ∈ ta, s1.heap.get? b = some noTab := fun b hb => by
    obtain ⟨p, hp, rfl⟩ := mem' b hb
    exact tab p hp
  have ant : a ∉ ta := fun z => by
    have q := tobj a z
    rw [scr] at q
    have y : (Data.seq vs.toArray _ : Data) = .fields #[] := congrArg Obj.data (Option.some.inj q)
    cases y
  have rv := vals_ints hin
  have lv := hin.length
  obtain ⟨so, hso⟩ : ∃ so : Obj, so = { cls := .type "list", data := .seq vs.toArray } := ⟨_, rfl⟩
  obtain ⟨H, hH⟩ : ∃ H : Hp, H = fun b => if b ∈ ta then some (.tbl #[]) else if b = a ∧ K.lookup a = none then some (.frz so (.lst (ns.map V.int))) else none := ⟨_, rfl⟩
  have Ht : ∀ b ∈ ta, H b = some (.tbl #[]) := fun b hb => by rw [hH]; exact if_pos hb
  have Ha : K.lookup a = none → H a = some (.frz so (.lst (ns.map V.int))) := fun h => by rw [hH]; exact (if_neg ant).trans (if_pos ⟨rfl, h⟩)
  have Hn : ∀ b, b ∉ ta → ¬ (b = a ∧ K.lookup a = none) → H b = none := fun b h1 h2 => by rw [hH]; exact (if_neg h1).trans (if_neg h2)
  have Hc : ∀ b u, H b = some u → (b ∈ ta ∧ u = .tbl #[]) ∨ (b = a ∧ K.lookup a = none ∧ u = .frz so (.lst (ns.map V.int))) := fun b u e => by
    by_cases h1 : b ∈ ta
    · rw [Ht b h1] at e; exact .inl ⟨h1, (Option.some.inj e).symm⟩
    · by_cases h2 : b = a ∧ K.lookup a = none
      · rw [h2.1, Ha h2.2] at e; exact .inr ⟨h2.1, h2.2, (Option.some.inj e).symm⟩
      · rw [Hn b h1 h2] at e; cases e
  have hok : HOk P w H s1.heap := fun b u e => by
    rcases Hc b u e with ⟨h1, rfl⟩ | ⟨rfl, _, rfl⟩
    · exact tobj b h1
    · rw [hso]
      exact ⟨scr, by rw [List.length_map]; exact len, vs, _, rv, scr⟩
  have sq : SqL K H a (ns.map V.int) := by
    cases hk : K.lookup a with
    | none => exact .inl (.inr ⟨so, Ha hk⟩)
    | some o =>
      have e := kin a o hk
      rw [scr] at e; cases e
      exact .inr ⟨_, vs.toArray, _, hk, rfl, rfl, rfl, by rw [List.size_toArray, lv]; exact len, by simpa using rv⟩
  -- what is not tracked
  have free : ∀ {b : Addr} {o : Obj}, s1.heap.get? b = some o → o.data ≠ .fields #[] → (∀ xs n, o.data ≠ .seq xs n) → H b = none := fun {b o} e h1 h2 => Hn b
    (fun z => by rw [tobj b z] at e; cases e; exact h1 rfl) fun z => by
      rw [z.1, scr] at e; cases e
      exact h2 _ _ rfl
  have at_ : ∀ {b : Addr} {o : Obj}, s1.heap.get? b = some o → H b = none → (hidT s1.heap H).get? b = some o := fun e n => hidT_get e n
  have ns_ : ∀ {b : Addr} {m : Str → Option Value}, s1.heap.Ns b m → (hidT s1.heap H).Ns b m := fun ⟨o, es, ep, e, d, r⟩ => ⟨o, es, ep, at_ e (free e (by rw [d]; exact nofun) (by rw [d]; exact nofun)), d, r⟩
  have kin' : K.In (hidT s1.heap H) := fun b o e => at_ (kin b o e) (Hn b (fun z => by
    obtain ⟨p, hp, rfl⟩ := mem' b z
    rw [ntab p hp] at e; cases e) fun z => by
      rw [z.1, z.2] at e; cases e)
  have tb : ∀ p ∈ cs, TabB (hidT s1.heap H) mg p.1 p.2 := fun p hp => by
    have ht := tab p hp
    refine ⟨?_, ?_, fun z => ?_⟩
    · obtain ⟨o, us, file, tf, flags, tg, inF, text, tt, e1, r1, r2, r3, rest⟩ := cod p hp
      exact ⟨o, us, file, tf, flags, tg, inF, text, tt, at_ e1 (free e1 (fun z => by rw [r2] at z; cases z; simp at r3) (by rw [r2]; exact nofun)), r1, r2, r3, rest⟩
    · obtain ⟨m, ob, b1, b2, b3, b4, b5, b6⟩ := bm
      refine ⟨m, ob, b1, b2, fun q => ?_, fun q => ?_, at_ b3 (free b3 (by rw [b6]; exact nofun) (by rw [b6]; exact nofun)), b4, b5, b6⟩
      · obtain ⟨o, es, ep, e, hd, _⟩ := gl
        rw [q, e] at b3; cases b3
        rw [hd] at b6; cases b6
      · rw [q, ht] at b3; cases b3
        cases b6
    · obtain ⟨o, es, ep, e, hd, _⟩ := gl
      rw [z, ht] at e; cases e
      cases hd
  have e0 : Env0 P w K mg (hidT s1.heap H) callerA [] s1 H := ⟨rfl, ⟨kin', ns_ gl, ⟨mb, ns_ bu, bb⟩, let ⟨mc, h1, h2⟩ := lim; ⟨mc, ns_ h1, h2⟩⟩, fun b o e => of_hidT e, Nat.le_of_eq (hidT_size _ _), trivial, (fun b hb => by cases (show b ∈ ([] : List Addr) from hb)), hok, .of_eq gens⟩
  refine codeAny_mono (run _ H kin' (ns_ gl) tb (fun p hp => Ht _ (mem p hp)) (fun b ps e => ?_) sq e0) fun r s' h => ?_
  · rcases Hc b _ e with ⟨h1, _⟩ | ⟨_, _, z⟩
    · exact mem' b h1
    · cases z
  cases r with
  | error e => exact (nox H e s' h).elim
  | ok fl =>
    cases fl with
    | next => exact h.elim
    | brk => exact h.elim
    | cont => exact h.elim
    | ret u =>
      obtain ⟨v, H', os, bare, un, hok', rr, q⟩ := h
      cases (show v = .bl true from q)
      obtain rfl : u = Value.bool true := rr
      have old : ∀ b o, b ∉ ta → s1.heap.get? b = some o → s'.heap.get? b = some o := fun b o nb e => by
        cases z : H b with
        | none => exact un.keep b o e z (fun y => by cases (show b ∈ ([] : List Addr) from y)) (by simp)
        | some y =>
          rcases Hc b y z with ⟨h1, _⟩ | ⟨rfl, _, rfl⟩
          · exact absurd h1 nb
          · obtain ⟨e1, _⟩ := hok b _ z
            obtain ⟨e2, _⟩ := hok' b _ (un.frzs b so _ z)
            rw [e] at e1; cases e1
            exact e2
      have grown : ∀ p ∈ cs, ∃ more : Array Value, s'.heap.get? p.2 = some { cls := .none, data := .fields more } := fun p hp => by
        obtain ⟨more, z⟩ := un.tbls p.2 #[] (Ht _ (mem p hp))
        exact ⟨_, hok' p.2 _ z⟩
      refine ⟨rfl, ⟨fun b o e => ?_, fun b o e => ?_⟩, os, bare⟩
      · by_cases hb : b ∈ ta
        · obtain ⟨p, hp, rfl⟩ := mem' b hb
          obtain ⟨more, hm⟩ := grown p hp
          rw [tab p hp] at e; cases e
          exact .inr (.inl ⟨((cod p hp).tab (tab p hp)).isCodeTable, rfl, #[], more, rfl, by rw [Array.empty_append]; exact hm⟩)
        · exact .inl (old b o hb e)
      · by_cases hb : b ∈ ta
        · obtain ⟨p, hp, rfl⟩ := mem' b hb
          obtain ⟨more, hm⟩ := grown p hp
          exact ⟨_, hm⟩
        · exact ⟨o, old b o hb e⟩
end Ink
set_option Elab.async false
set_option linter.all false
set_option maxRecDepth 100000
namespace Ink
open PySem L2
theorem e_globI {X : Cx} {W : WX} {x : Str} {i : Int} {pos : Pos} (hg : Gl X x) (hm : ∃ t, X.mg x = some (.int i t)) (hd : (x == ("__debug__" : Str)) = false := by decide) : PE X (.Name x pos) (rE X.K W (cE (.int i))) := by
  obtain ⟨t, e⟩ := hm
  exact e_glob (v := .int i) hg e ⟨t, rfl⟩ (fun _ => .int i) hd
theorem e_globS {X : Cx} {W : WX} {x z : Str} {pos : Pos} (hg : Gl X x) (hm : ∃ t, X.mg x = some (.str z t)) (hd : (x == ("__debug__" : Str)) = false := by decide) : PE X (.Name x pos) (rE X.K W (cE (.str z))) := by
  obtain ⟨t, e⟩ := hm
  exact e_glob (v := .str z) hg e ⟨t, rfl⟩ (fun _ => .str z) hd
theorem no_sp {K : PySem.W.Frag} {vs : List V} {H : Hp} {Q : VK} {Ex : XK} (h : spOf K (fun _ => none) vs H Q Ex) : False := by
  obtain ⟨F, ms, fps, R, p⟩ := h
  exact p
theorem fn_none {P : Program} {w : World} {K : PySem.W.Frag} {mg : Str → Option Value} {base : Heap} {x qual : Str} {params : Arguments} {body : List Stmt} {scope : Scope} {f : Addr} {fd : FuncData} {ps : List Str} {k : Nat}
    (F : FunD K x qual params body scope [] [] f fd) (hm : mg x = some (.ref f))
    (hbd : ∀ (kV doc pm : Value) (an : Option Addr) (cdv ct : Value) (us : List Value), us.length = ps.length → bindArgs (PySem.W.fnOf x qual params body scope .none kV doc pm an cdv ct) ⟨us, []⟩ = pure (ps.zip us)) :
    Fn P w K mg base k x ps (fun _ => none) :=
  ⟨f, fd, ⟨fun vs H Q E h => (no_sp h).elim, fun A outer s H args us vs Q E _ _ _ _ h => (no_sp h).elim⟩, hm, F.kp, F.bindsN hbd⟩
/-- a def that is called where no repr is under way -/
def FnG (P : Program) (w : World) (K : PySem.W.Frag) (mg : Str → Option Value) (base : Heap) (CX : CXT) (k : Nat) (f : Addr) (fd : FuncData) (ps : List Str) (sp : Sp) : Prop :=
  ∀ (A : Around) (outer : List Env) (s : Shared) (H : Hp) (args : Args) (us : List Value) (vs : List V) (Q : VK) (E : XK), A.guards = some [] → Room k A → Env0 P w K mg base A outer s H → BindsTo s fd args (ps.zip us) → Vals vs us → sp vs H Q E →
    codeAny (model P w) A (.call (.ref f) args) (CR CX outer P w H s Q E) s
/-- the law's own def: it makes lambdas, so its code object is told -/
theorem fn_mkO {P : Program} {w : World} {K : PySem.W.Frag} {mg : Str → Option Value} {base : Heap} {x qual : Str} {params : Arguments} {body : List Stmt} {scope : Scope} {f : Addr} {fd : FuncData} {N ps : List Str} {k np nl : Nat} {asg : List Nat} {fb : FS}
    (F : FunD K x qual params body scope [] [] f fd) (hf : f = He.ga K x) (S : FnScope N ps scope) (hN : N.length = np + nl) (hp : ps.length = np)
    (hb : ∀ (cdv : Value) (A : Around) (outer : List Env) (s : Shared) (H : Hp) (Ex : XK), cdv = .ref (He.codeOf K (x, none)) → A.guards = some [] → Room k (A.deeper (PyProof.Rows.envOfC qual scope s.heap.objs.size f cdv)) → PSs (cxOf (L2N.CX P w) P w K mg base N qual scope f cdv A outer s H Ex) body (rS K (fun cls d _ H' => Ex cls d H') (pinsOf np asg) fb)) :
    FnG P w K mg base (L2N.CX P w) (k + 1) f fd ps (spOf K (fnM np nl asg fb)) := by
  obtain ⟨oc, od, dV, kV, doc, pm, an, cdv, ct, osl, e1, lk, hc, _, _⟩ := F.ex
  subst e1
  obtain ⟨c, hc1⟩ := He.codeIn_ref hc
  have hco : cdv = .ref (He.codeOf K (x, none)) := by
    rw [hc1]
    subst hf
    rw [He.codeOf_eq (p := (x, none)) lk hc1]
  intro A outer s H args us vs Q E hg hr e0 hbd rv h
  have hl : vs.length = ps.length := by rw [(fn_body hN h).1, hp]
  exact LamX.run_ofS lk hc S hr e0 hbd rv hl fun hr' => ⟨_, hb cdv A outer s H E hco hg hr', (fn_body hN h).2⟩
/-- the law's promise from its mirror -/
theorem sp_law {K : PySem.W.Frag} {H : Hp} {a : Addr} {ns : List Int} {g : FP} {ms : E} (hg : g [.fz (.scr ns)] = some (.ok (.fz (.bl true)) ms)) (hT : ∀ p ∈ TL K, H p.1 = some (.tbl #[])) (hO : ∀ b ps, H b = some (.tbl ps) → ∃ p ∈ TL K, p.1 = b) (hS : SqL K H a (ns.map V.int)) : spOf K g [.ref a] H (fun v _ => v = .bl true) (fun _ _ _ => False) := by
  have tb : ∀ p ∈ TL K, LamX.TabS H p.1 p.2 := fun p hp => LamX.TabS.nil (hT p hp)
  have fin : ∀ F : Hp, Sub F H → (∀ b ps, F b ≠ some (.tbl ps)) → SqL K F a (ns.map V.int) → spOf K g [.ref a] H (fun v _ => v = .bl true) (fun _ _ _ => False) := fun F0 sF0 nF0 hF0 => by
    obtain ⟨F, hFd⟩ : ∃ F : Hp, F = fun b => match H b with | some (HO.tup vs) => some (HO.tup vs) | _ => F0 b := ⟨_, rfl⟩
    have tpF : ∀ b vs, H b = some (.tup vs) → F b = some (.tup vs) := fun b vs h => by
      rw [hFd]
      show (match H b with | some (HO.tup vs) => some (HO.tup vs) | _ => F0 b) = _
      rw [h]
    have elF : ∀ b, (∀ vs, H b ≠ some (.tup vs)) → F b = F0 b := fun b h => by
      rw [hFd]
      show (match H b with | some (HO.tup vs) => some (HO.tup vs) | _ => F0 b) = F0 b
      cases e : H b with
      | none => rfl
      | some o => cases o with
        | tup vs => exact (h vs e).elim
        | _ => rfl
    have sF : Sub F H := fun b o h => by
      by_cases q : ∃ vs, H b = some (.tup vs)
      · obtain ⟨vs, q⟩ := q
        rw [tpF b vs q] at h; rw [q]; exact h
      · rw [elF b fun vs z => q ⟨vs, z⟩] at h; exact sF0 b o h
    have s0 : Sub F0 F := fun b o h => by
      by_cases q : ∃ vs, H b = some (.tup vs)
      · obtain ⟨vs, q⟩ := q
        have := sF0 b o h
        rw [tpF b vs q]; rw [q] at this; exact this
      · rw [elF b fun vs z => q ⟨vs, z⟩]; exact h
    have nF : ∀ b ps, F b ≠ some (.tbl ps) := fun b ps h => by
      by_cases q : ∃ vs, H b = some (.tup vs)
      · obtain ⟨vs, q⟩ := q
        rw [tpF b vs q] at h; cases h
      · rw [elF b fun vs z => q ⟨vs, z⟩] at h; exact nF0 b ps h
    have hF : SqL K F a (ns.map V.int) := hF0.imp (fun z => z.imp (s0 _ _) fun ⟨o, z⟩ => ⟨o, s0 _ _ z⟩) id
    refine ⟨F, [.fz (.scr ns)], fun _ => [], ⟨sF, rfl, fun i m h => ?_, fun _ _ => rfl, (fun _ _ _ b hb => by cases hb), ⟨nF, tb, hO, fun p hp ps h pos cv hc => by
      rw [hT p hp] at h; cases h
      have z : codeAmong pos [] = some cv := hc
      simp [codeAmong] at z, tpF⟩⟩, ?_⟩
    · match i, h with
      | 0, h =>
        cases h
        exact ⟨.ref a, rfl, RepM.fz (.scr hF)⟩
      | i + 1, h => simp at h
    · rw [hg]
      exact fun v F' H' fps' fp R r _ _ => rep_bl (repm_fz r)
  rcases hS with h | h
  · refine fin (fun b => if b = a then H b else none) (fun b o e => ?_) (fun b ps e => ?_) (.inl ?_)
    · by_cases z : b = a
      · simp only [if_pos z] at e; exact e
      · simp only [if_neg z] at e; cases e
    · by_cases z : b = a
      · simp only [if_pos z] at e
        rw [z] at e
        rcases h with h | ⟨o, h⟩ <;> rw [h] at e <;> cases e
      · simp only [if_neg z] at e; cases e
    · rcases h with h | ⟨o, h⟩
      · exact .inl (by simp only [if_true]; exact h)
      · exact .inr ⟨o, by simp only [if_true]; exact h⟩
  · exact fin (fun _ => none) (fun b o e => by cases e) (fun b ps e => by cases e) (.inr h)
theorem walkT {l : PySem.W.OpenLaw} {n k : Nat} {q : Program} {loose : List Str} {XP : (Str → Option Value) → Heap → Prop} {YP : World → Heap → Prop} {d : DefRec} {CX : World → CXT} {x : Str} (hn : l.most = some n) (hn2 : n ≤ sizeLine) (hdf : d.params.defaults = []) (hr : Room k callerA)
    (F : ∀ (w : World) (mg : Str → Option Value) (fa : Addr) (h : Heap), YP w h → h.Ns PySem.mainGlobals mg → mg d.name = some (.ref fa) → ∃ (K : PySem.W.Frag) (fd : FuncData) (cs : List (Addr × Addr)) (sp : Sp), K.In h ∧ (∀ p ∈ cs, h.get? p.2 = some noTab) ∧ (∀ p ∈ cs, K.lookup p.2 = none) ∧ (∀ p ∈ cs, PySem.W.CodeHd h p.1 p.2) ∧
      (∀ (s : Shared) (u : Value), BindsTo s fd ⟨[u], []⟩ [(x, u)]) ∧ (∀ (H : Hp) (a : Addr) (ns : List Int), ns.length ≤ n → (∀ p ∈ cs, H p.2 = some (.tbl #[])) → (∀ b ps, H b = some (.tbl ps) → ∃ p ∈ cs, p.2 = b) → SqL K H a (ns.map V.int) → sp [.ref a] H (fun v _ => v = .bl true) fun _ _ _ => False) ∧ ∀ base : Heap, K.In base → base.Ns PySem.mainGlobals mg → (∀ p ∈ cs, LamX.TabB base mg p.1 p.2) → FnG l.prog w K mg base (CX w) k fa fd [x] sp)
    (hCX : ∀ (w : World) (H : Hp) (s : Shared) (e : Value) (s' : Shared), CX w [] H s (fun _ _ _ => False) e s' → False) : PySem.W.WalkO q loose XP YP l.row.toRowW d [] (fun f vs => PySem.call f vs) := by
  refine Att.attach_call hn hdf ?_
  intro w s0 s1 mg mb fa o pm cd doc a vs ns G Y _ _ _ hm hob hin hle hge
  have z := F w mg fa _ Y G.T.g hm
  obtain ⟨K, fd, cs, sp, kx, hT, nT, hC, hbd, hs, hf⟩ := z
  refine law_run kx G.T.g G.T.b G.T.builtins G.T.nolimit hge hT nT hC G.T.bmain hob hin (Nat.le_trans hle hn2) (fun base H kb nb tb hH hO hS e0 => ?_) fun H e s' => hCX w H s1 e s'
  exact hf base kb nb tb callerA [] s1 H ⟨[.ref a], []⟩ [.ref a] [.ref a] _ _ rfl hr e0 (hbd s1 (.ref a)) (.cons rfl .nil) (hs H a ns hle hH hO hS)
theorem noCX {P : Program} {w : World} {H : Hp} {s : Shared} {e : Value} {s' : Shared} (h : L2N.CX P w [] H s (fun _ _ _ => False) e s') : False := by
  obtain ⟨_, _, _, _, _, _, _, _, _, _, _, _, z⟩ := h
  exact z
end Ink
set_option Elab.async false
set_option linter.all false
set_option maxRecDepth 100000
namespace Ink
open PySem L2
section
variable {X : Cx} {W : WX} {a b : Expr} {fa fb : FE} {pos : Pos} {g : FP}
theorem t_cmp {op : CmpOp} {r : R2} (ho : OpR X (compareOp op) r) (hp : Op2 X.K g r) (ha : PE X a (rE X.K W fa)) (hb : PE X b (rE X.K W fb)) (hm : behindInMarks op b = false) : PT X (.Compare a [op] [b] pos) (rT X.K W (tst (callE g (arg2 fa fb)))) :=
  PT_mono (pt_cmpR ho ha hb hm) fun σ H Q z => r_two hp σ H _ (r_tst σ H Q z)
theorem t_lt (ha : PE X a (rE X.K W fa)) (hb : PE X b (rE X.K W fb)) : PT X (.Compare a [.Lt] [b] pos) (rT X.K W (tst (callE ltG (arg2 fa fb)))) := t_cmp op_lt (op2_int0 fun i j F => .bl _) ha hb (nomark _)
theorem t_le (ha : PE X a (rE X.K W fa)) (hb : PE X b (rE X.K W fb)) : PT X (.Compare a [.LtE] [b] pos) (rT X.K W (tst (callE leG (arg2 fa fb)))) := t_cmp op_le (op2_int0 fun i j F => .bl _) ha hb (nomark _)
theorem t_ge (ha : PE X a (rE X.K W fa)) (hb : PE X b (rE X.K W fb)) : PT X (.Compare a [.GtE] [b] pos) (rT X.K W (tst (callE geG (arg2 fa fb)))) := t_cmp op_ge (op2_int0 fun i j F => .bl _) ha hb (nomark _)
theorem t_isN (ha : PE X a (rE X.K W fa)) (hb : PE X b (rE X.K W fb)) : PT X (.Compare a [.Is] [b] pos) (rT X.K W (tst (callE (g2 isNM) (arg2 fa fb)))) := t_cmp op_isN (fun x y H Q Ex p => by
  obtain ⟨F, a, b, m, fps, R, r1, r2, e, p⟩ := g2_at p
  unfold isNM at e
  split at e
  · cases e
    exact ⟨rep_non (repm_fz r2), sp_flat R (by rw [isNon_rep r1]; exact .bl _) p⟩
  · cases e) ha hb (nomark _)
theorem t_eq (hu : X.A.units + 64 < cLine) (ha : PE X a (rE X.K W fa)) (hb : PE X b (rE X.K W fb)) : PT X (.Compare a [.Eq] [b] pos) (rT X.K W (tst (callE (g2 eqM) (arg2 fa fb)))) := t_cmp (op_eq.or (op_eqD hu)) (fun x y H Q Ex p => by
  obtain ⟨F, a, b, m, fps, R, r1, r2, e, p⟩ := g2_at p
  unfold eqM at e
  cases ek : eqB a b with
  | none => rw [ek] at e; cases e
  | some k =>
    rw [ek] at e; cases e
    have q := sp_flat R (Rep.bl k) p
    rcases eqB_at R.fr r1 r2 ek with ⟨h, rfl⟩ | ⟨d, e, h1, h2, h3, h4, rfl⟩
    · exact .inl ⟨h, q⟩
    · exact .inr ⟨d, e, h1, h2, h3, h4, q⟩) ha hb (nomark _)
theorem t_ne (hu : X.A.units + 64 < cLine) (ha : PE X a (rE X.K W fa)) (hb : PE X b (rE X.K W fb)) : PT X (.Compare a [.NotEq] [b] pos) (rT X.K W (tst (callE (g2 neM) (arg2 fa fb)))) := t_cmp (op_ne.or (op_neD hu)) (fun x y H Q Ex p => by
  obtain ⟨F, a, b, m, fps, R, r1, r2, e, p⟩ := g2_at p
  unfold neM at e
  cases ek : eqB a b with
  | none => rw [ek] at e; cases e
  | some k =>
    rw [ek] at e; cases e
    have q := sp_flat R (Rep.bl (!k)) p
    rcases eqB_at R.fr r1 r2 ek with ⟨h, rfl⟩ | ⟨d, e, h1, h2, h3, h4, rfl⟩
    · exact .inl ⟨h, q⟩
    · exact .inr ⟨d, e, h1, h2, h3, h4, q⟩) ha hb (nomark _)
end
end Ink
set_option Elab.async false
set_option linter.all false
set_option maxRecDepth 100000
namespace Ink
open PySem L2
def kSeq (g : FS) (o : Option Fl) : Option Fl := match o with
  | some (.nx env1) => g env1
  | o => o
@[simp] theorem kSeq_nx {g : FS} {env1 : E} : kSeq g (some (.nx env1)) = g env1 := (rfl)
@[simp] theorem kSeq_rt {g : FS} {m : M} {env1 : E} : kSeq g (some (.rt m env1)) = some (.rt m env1) := (rfl)
@[simp] theorem kSeq_bk {g : FS} {env1 : E} : kSeq g (some (.bk env1)) = some (.bk env1) := (rfl)
@[simp] theorem kSeq_ct {g : FS} {env1 : E} : kSeq g (some (.ct env1)) = some (.ct env1) := (rfl)
@[simp] theorem kSeq_ex {g : FS} {x : Xc} {env1 : E} : kSeq g (some (.ex x env1)) = some (.ex x env1) := (rfl)
@[simp] theorem ev_seqS {env : E} {f g : FS} : seqS f g env = kSeq g (f env) := (rfl)
@[simp] theorem ev_skip {env : E} : skipS env = some (.nx env) := (rfl)
def kIf (f : FS) (g : FS) (o : Option (Out Bool)) : Option Fl := match o with
  | some (.ok true env1) => f env1
  | some (.ok false env1) => g env1
  | some (.ex x env1) => some (.ex x env1)
  | _ => none
@[simp] theorem kIf_0 {f : FS} {g : FS} {env1 : E} : kIf f g (some (.ok true env1)) = f env1 := (rfl)
@[simp] theorem kIf_1 {f : FS} {g : FS} {env1 : E} : kIf f g (some (.ok false env1)) = g env1 := (rfl)
@[simp] theorem kIf_2 {f : FS} {g : FS} {x : Xc} {env1 : E} : kIf f g (some (.ex x env1)) = some (.ex x env1) := (rfl)
@[simp] theorem ev_ifS {env : E} {c : FT} {f g : FS} : ifS c f g env = kIf f g (c env) := by
  unfold ifS kIf
  cases c env with
  | none => rfl
  | some o => cases o with
    | ok b e => cases b <;> rfl
    | ex x e => rfl
def kRet  (o : Option (Out Av)) : Option Fl := match o with
  | some (.ok (.tm m) env1) => some (.rt m env1)
  | some (.ex x env1) => some (.ex x env1)
  | _ => none
@[simp] theorem kRet_0  {m : M} {env1 : E} : kRet  (some (.ok (.tm m) env1)) = some (.rt m env1) := (rfl)
@[simp] theorem kRet_1  {x : Xc} {env1 : E} : kRet  (some (.ex x env1)) = some (.ex x env1) := (rfl)
@[simp] theorem ev_retS {env : E} {f : FE} : retS f env = kRet (f env) := by
  unfold retS kRet
  cases f env with
  | none => rfl
  | some o => cases o with
    | ok a e => cases a <;> rfl
    | ex x e => rfl
@[simp] theorem ev_retV {env : E} {i : Nat} : retV i env = match env[i]? with
  | some (some m) => some (.rt m (env.set i none))
  | _ => none := (rfl)
@[simp] theorem ev_retN {env : E} : retN env = some (.rt (.fz .non) env) := (rfl)
def kExp  (o : Option (Out Av)) : Option Fl := match o with
  | some (.ok a env1) => some (.nx env1)
  | some (.ex x env1) => some (.ex x env1)
  | _ => none
@[simp] theorem kExp_0  {a : Av} {env1 : E} : kExp  (some (.ok a env1)) = some (.nx env1) := (rfl)
@[simp] theorem kExp_1  {x : Xc} {env1 : E} : kExp  (some (.ex x env1)) = some (.ex x env1) := (rfl)
@[simp] theorem ev_exprS {env : E} {f : FE} : exprS f env = kExp (f env) := by
  unfold exprS kExp bindS
  cases f env with
  | none => rfl
  | some o => cases o <;> rfl
def kSt  (o : Option E) : Option Fl := match o with
  | some env1 => some (.nx env1)
  | _ => none
@[simp] theorem kSt_0  {env1 : E} : kSt  (some env1) = some (.nx env1) := (rfl)
def kAsg (g : FG) (o : Option (Out Av)) : Option Fl := match o with
  | some (.ok (.tm m) env1) => kSt (g m env1)
  | some (.ex x env1) => some (.ex x env1)
  | _ => none
@[simp] theorem kAsg_0 {g : FG} {m : M} {env1 : E} : kAsg g (some (.ok (.tm m) env1)) = kSt (g m env1) := (rfl)
@[simp] theorem kAsg_1 {g : FG} {x : Xc} {env1 : E} : kAsg g (some (.ex x env1)) = some (.ex x env1) := (rfl)
@[simp] theorem ev_asgS {env : E} {f : FE} {g : FG} : asgS f g env = kAsg g (f env) := by
  unfold asgS kAsg bindS
  cases f env with
  | none => rfl
  | some o => cases o with
    | ok a e => cases a with
      | tm m => simp only []; unfold kSt; cases g m e <;> rfl
      | sl i => rfl
    | ex x e => rfl
@[simp] theorem ev_nmG {env : E} {i : Nat} {m : M} : nmG i m env = some (env.set i (some m)) := (rfl)
@[simp] theorem ev_tupG {env : E} {gs : List FG} {ds : List D} : tupG gs (.fz (.tup ds)) env = eachG gs (ds.map M.fz) env := (rfl)
@[simp] theorem ev_tupG2 {env : E} {gs : List FG} {ds : List M} : tupG gs (.tup ds) env = eachG gs ds env := (rfl)
def kEach (gs : List FG) (ds : List M) (o : Option E) : Option E := match o with
  | some env1 => eachG gs ds env1
  | none => none
@[simp] theorem kEach_0 {gs : List FG} {ds : List M} {env1 : E} : kEach gs ds (some env1) = eachG gs ds env1 := (rfl)
@[simp] theorem ev_each0 {env : E} : eachG [] [] env = some env := (rfl)
@[simp] theorem ev_each1 {env : E} {g : FG} {gs : List FG} {d : M} {ds : List M} : eachG (g :: gs) (d :: ds) env = kEach gs ds (g d env) := by
  rw [eachG]
  unfold kEach
  cases g d env <;> rfl
@[simp] theorem ev_cE {env : E} {d : D} : cE d env = some (.ok (.tm (.fz d)) env) := (rfl)
@[simp] theorem ev_vE {env : E} {i : Nat} : vE i env = match env[i]? with
  | some (some _) => some (.ok (.sl i) env)
  | _ => none := (rfl)
@[simp] theorem ev_take1 {env : E} {m : M} : takeA (.tm m) env = some (m, env) := (rfl)
def kTk2 (i : Nat) (env : E) (o : Option D) : Option (M × E) := match o with
  | some d => some (.fz d, env.set i (some (.fz d)))
  | none => none
@[simp] theorem kTk2_0 {i : Nat} {env : E} {d : D} : kTk2 i env (some d) = some (.fz d, env.set i (some (.fz d))) := (rfl)
@[simp] theorem ev_take2 {env : E} {i : Nat} : takeA (.sl i) env = match env[i]? with
    | some (some m) => kTk2 i env (frz m)
    | _ => none := by
  unfold takeA kTk2
  rfl
def kTk1 (o : Option (M × E)) : Option (Out Av) := match o with
  | some (m, env2) => some (.ok (.tm m) env2)
  | none => none
@[simp] theorem kTk1_0 {m : M} {env2 : E} : kTk1 (some (m, env2)) = some (.ok (.tm m) env2) := (rfl)
def kTk  (o : Option (Out Av)) : Option (Out Av) := match o with
  | some (.ok a env1) => kTk1 (takeA a env1)
  | some (.ex x env1) => some (.ex x env1)
  | _ => none
@[simp] theorem kTk_0  {a : Av} {env1 : E} : kTk  (some (.ok a env1)) = kTk1 (takeA a env1) := (rfl)
@[simp] theorem kTk_1  {x : Xc} {env1 : E} : kTk  (some (.ex x env1)) = some (.ex x env1) := (rfl)
@[simp] theorem ev_tk {env : E} {f : FE} : tk f env = kTk (f env) := by
  unfold tk kTk bindO
  cases f env with
  | none => rfl
  | some o => cases o <;> rfl
@[simp] theorem ev_nilA {env : E} : nilA env = some (.ok [] env) := (rfl)
def kCn2 (a : Av) (o : Option (Out (List Av))) : Option (Out (List Av)) := match o with
  | some (.ok as env1) => some (.ok (a :: as) env1)
  | some (.ex x env1) => some (.ex x env1)
  | _ => none
@[simp] theorem kCn2_0 {a : Av} {as : List Av} {env1 : E} : kCn2 a (some (.ok as env1)) = some (.ok (a :: as) env1) := (rfl)
@[simp] theorem kCn2_1 {a : Av} {x : Xc} {env1 : E} : kCn2 a (some (.ex x env1)) = some (.ex x env1) := (rfl)
def kCn (g : FA) (o : Option (Out Av)) : Option (Out (List Av)) := match o with
  | some (.ok a env1) => kCn2 a (g env1)
  | some (.ex x env1) => some (.ex x env1)
  | _ => none
@[simp] theorem kCn_0 {g : FA} {a : Av} {env1 : E} : kCn g (some (.ok a env1)) = kCn2 a (g env1) := (rfl)
@[simp] theorem kCn_1 {g : FA} {x : Xc} {env1 : E} : kCn g (some (.ex x env1)) = some (.ex x env1) := (rfl)
@[simp] theorem ev_consA {env : E} {f : FE} {g : FA} : consA f g env = kCn g (f env) := by
  unfold consA kCn bindO
  cases f env with
  | none => rfl
  | some o => cases o with
    | ok a e => simp only []; unfold kCn2; cases g e with
      | none => rfl
      | some o => cases o <;> rfl
    | ex x e => rfl
def kRn (as : List Av) (env : E) (o : Option OutP) : Option (Out Av) := match o with
  | some (.ok m ms) => some (.ok (.tm m) (back env as ms))
  | some (.ex x ms) => some (.ex x (back env as ms))
  | _ => none
@[simp] theorem kRn_0 {as : List Av} {env : E} {m : M} {ms : E} : kRn as env (some (.ok m ms)) = some (.ok (.tm m) (back env as ms)) := (rfl)
@[simp] theorem kRn_1 {as : List Av} {env : E} {x : Xc} {ms : E} : kRn as env (some (.ex x ms)) = some (.ex x (back env as ms)) := (rfl)
def kRb (g : FP) (as : List Av) (env : E) (ms : List M) (b : Bool) : Option (Out Av) := match b with
  | true => kRn as env (g ms)
  | false => none
@[simp] theorem kRb_0 {g : FP} {as : List Av} {env : E} {ms : List M} : kRb g as env ms true = kRn as env (g ms) := (rfl)
def kRm (g : FP) (as : List Av) (env : E) (o : Option (List M)) : Option (Out Av) := match o with
  | some ms => kRb g as env ms (okA env as)
  | none => none
@[simp] theorem kRm_0 {g : FP} {as : List Av} {env : E} {ms : List M} : kRm g as env (some ms) = kRb g as env ms (okA env as) := (rfl)
@[simp] theorem ev_runP {env : E} {g : FP} {as : List Av} : runP g as env = kRm g as env (res env as) := by
  unfold runP kRm
  cases res env as with
  | none => rfl
  | some ms =>
    simp only []
    unfold kRb
    cases okA env as with
    | false => rfl
    | true => simp only []; unfold kRn; cases g ms with
      | none => rfl
      | some o => cases o <;> rfl
def kCall (g : FP) (o : Option (Out (List Av))) : Option (Out Av) := match o with
  | some (.ok as env1) => runP g as env1
  | some (.ex x env1) => some (.ex x env1)
  | _ => none
@[simp] theorem kCall_0 {g : FP} {as : List Av} {env1 : E} : kCall g (some (.ok as env1)) = runP g as env1 := (rfl)
@[simp] theorem kCall_1 {g : FP} {x : Xc} {env1 : E} : kCall g (some (.ex x env1)) = some (.ex x env1) := (rfl)
@[simp] theorem ev_callE {env : E} {g : FP} {fa : FA} : callE g fa env = kCall g (fa env) := by
  unfold callE kCall bindO
  cases fa env with
  | none => rfl
  | some o => cases o <;> rfl
def kRs (m : M) (o : Option (List M)) : Option (List M) := match o with
  | some ms => some (m :: ms)
  | none => none
@[simp] theorem kRs_0 {m : M} {ms : List M} : kRs m (some ms) = some (m :: ms) := (rfl)
@[simp] theorem ev_res0 {env : E} : res env [] = some [] := (rfl)
@[simp] theorem ev_res1 {env : E} {m : M} {r : List Av} : res env (.tm m :: r) = kRs m (res env r) := (rfl)
@[simp] theorem ev_res2 {env : E} {i : Nat} {r : List Av} : res env (.sl i :: r) = match env[i]? with
    | some (some m) => kRs m (res env r)
    | _ => none := (rfl)
@[simp] theorem ev_okA0 {env : E} : okA env [] = true := (rfl)
@[simp] theorem ev_okA1 {env : E} {m : M} {r : List Av} : okA env (.tm m :: r) = okA env r := (rfl)
@[simp] theorem ev_okA2 {env : E} {i : Nat} {r : List Av} : okA env (.sl i :: r) = ((match env[i]? with
    | some (some m) => isFz m || !hasSl i r
    | _ => false) && okA env r) := (rfl)
@[simp] theorem ev_isFz {d : D} : isFz (.fz d) = true := (rfl)
@[simp] theorem ev_isFzL {ms : List M} : isFz (.lst ms) = false := (rfl)
@[simp] theorem ev_hs0 {i : Nat} : hasSl i [] = false := (rfl)
@[simp] theorem ev_hs1 {i : Nat} {m : M} {r : List Av} : hasSl i (.tm m :: r) = hasSl i r := (rfl)
@[simp] theorem ev_hs2 {i j : Nat} {r : List Av} : hasSl i (.sl j :: r) = ((j == i) || hasSl i r) := (rfl)
@[simp] theorem ev_back0 {env ms : E} : back env [] ms = env := by cases ms <;> rfl
@[simp] theorem ev_back1 {env : E} {m : M} {r : List Av} {o : Option M} {ms : E} : back env (.tm m :: r) (o :: ms) = back env r ms := (rfl)
@[simp] theorem ev_back2 {env : E} {i : Nat} {r : List Av} {o : Option M} {ms : E} : back env (.sl i :: r) (o :: ms) = back (env.set i o) r ms := (rfl)
def kG (xs : E) (o : Option M) : Option OutP := match o with
  | some m => some (.ok m xs)
  | none => none
@[simp] theorem kG_0 {xs : E} {m : M} : kG xs (some m) = some (.ok m xs) := (rfl)
@[simp] theorem ev_g1 {h : M → Option M} {a : M} : g1 h [a] = kG [some a] (h a) := (rfl)
@[simp] theorem ev_g2 {h : M → M → Option M} {a b : M} : g2 h [a, b] = kG [some a, some b] (h a b) := (rfl)
@[simp] theorem ev_boolA1 {env : E} {b : Bool} : boolA (.tm (.fz (.bl b))) env = some b := (rfl)
@[simp] theorem ev_boolA2 {env : E} {i : Nat} : boolA (.sl i) env = match env[i]? with
    | some (some (.fz (.bl b))) => some b
    | _ => none := (rfl)
def kT1 (env : E) (o : Option Bool) : Option (Out Bool) := match o with
  | some b => some (.ok b env)
  | none => none
@[simp] theorem kT1_0 {env : E} {b : Bool} : kT1 env (some b) = some (.ok b env) := (rfl)
def kT  (o : Option (Out Av)) : Option (Out Bool) := match o with
  | some (.ok a env1) => kT1 env1 (boolA a env1)
  | some (.ex x env1) => some (.ex x env1)
  | _ => none
@[simp] theorem kT_0  {a : Av} {env1 : E} : kT  (some (.ok a env1)) = kT1 env1 (boolA a env1) := (rfl)
@[simp] theorem kT_1  {x : Xc} {env1 : E} : kT  (some (.ex x env1)) = some (.ex x env1) := (rfl)
@[simp] theorem ev_tst {env : E} {f : FE} : tst f env = kT (f env) := by
  unfold tst kT bindO
  cases f env with
  | none => rfl
  | some o => cases o <;> rfl
def kAndT (g : FT) (o : Option (Out Bool)) : Option (Out Bool) := match o with
  | some (.ok true env1) => g env1
  | some (.ok false env1) => some (.ok false env1)
  | some (.ex x env1) => some (.ex x env1)
  | _ => none
@[simp] theorem kAndT_0 {g : FT} {env1 : E} : kAndT g (some (.ok true env1)) = g env1 := (rfl)
@[simp] theorem kAndT_1 {g : FT} {env1 : E} : kAndT g (some (.ok false env1)) = some (.ok false env1) := (rfl)
@[simp] theorem kAndT_2 {g : FT} {x : Xc} {env1 : E} : kAndT g (some (.ex x env1)) = some (.ex x env1) := (rfl)
@[simp] theorem ev_andT {env : E} {f : FT} {g : FT} : andT f g env = kAndT g (f env) := by
  unfold andT kAndT bindO
  cases f env with
  | none => rfl
  | some o => cases o with
    | ok b e => cases b <;> rfl
    | ex x e => rfl
def kOrT (g : FT) (o : Option (Out Bool)) : Option (Out Bool) := match o with
  | some (.ok true env1) => some (.ok true env1)
  | some (.ok false env1) => g env1
  | some (.ex x env1) => some (.ex x env1)
  | _ => none
@[simp] theorem kOrT_0 {g : FT} {env1 : E} : kOrT g (some (.ok true env1)) = some (.ok true env1) := (rfl)
@[simp] theorem kOrT_1 {g : FT} {env1 : E} : kOrT g (some (.ok false env1)) = g env1 := (rfl)
@[simp] theorem kOrT_2 {g : FT} {x : Xc} {env1 : E} : kOrT g (some (.ex x env1)) = some (.ex x env1) := (rfl)
@[simp] theorem ev_orT {env : E} {f : FT} {g : FT} : orT f g env = kOrT g (f env) := by
  unfold orT kOrT bindO
  cases f env with
  | none => rfl
  | some o => cases o with
    | ok b e => cases b <;> rfl
    | ex x e => rfl
def kNotT  (o : Option (Out Bool)) : Option (Out Bool) := match o with
  | some (.ok true env1) => some (.ok false env1)
  | some (.ok false env1) => some (.ok true env1)
  | some (.ex x env1) => some (.ex x env1)
  | _ => none
@[simp] theorem kNotT_0  {env1 : E} : kNotT  (some (.ok true env1)) = some (.ok false env1) := (rfl)
@[simp] theorem kNotT_1  {env1 : E} : kNotT  (some (.ok false env1)) = some (.ok true env1) := (rfl)
@[simp] theorem kNotT_2  {x : Xc} {env1 : E} : kNotT  (some (.ex x env1)) = some (.ex x env1) := (rfl)
@[simp] theorem ev_notT {env : E} {f : FT} : notT f env = kNotT  (f env) := by
  unfold notT kNotT bindO
  cases f env with
  | none => rfl
  | some o => cases o with
    | ok b e => cases b <;> rfl
    | ex x e => rfl
def kIfE (fa : FE) (fb : FE) (o : Option (Out Bool)) : Option (Out Av) := match o with
  | some (.ok true env1) => fa env1
  | some (.ok false env1) => fb env1
  | some (.ex x env1) => some (.ex x env1)
  | _ => none
@[simp] theorem kIfE_0 {fa : FE} {fb : FE} {env1 : E} : kIfE fa fb (some (.ok true env1)) = fa env1 := (rfl)
@[simp] theorem kIfE_1 {fa : FE} {fb : FE} {env1 : E} : kIfE fa fb (some (.ok false env1)) = fb env1 := (rfl)
@[simp] theorem kIfE_2 {fa : FE} {fb : FE} {x : Xc} {env1 : E} : kIfE fa fb (some (.ex x env1)) = some (.ex x env1) := (rfl)
@[simp] theorem ev_ifE {env : E} {c : FT} {fa : FE} {fb : FE} : ifE c fa fb env = kIfE fa fb (c env) := by
  unfold ifE kIfE bindO
  cases c env with
  | none => rfl
  | some o => cases o with
    | ok b e => cases b <;> rfl
    | ex x e => rfl
@[simp] theorem ev_intA1 {env : E} {i : Int} : intA (.tm (.fz (.int i))) env = some i := (rfl)
@[simp] theorem ev_intA2 {env : E} {k : Nat} : intA (.sl k) env = match env[k]? with
    | some (some (.fz (.int i))) => some i
    | _ => none := (rfl)
@[simp] theorem ev_resA1 {env : E} {m : M} : resA env (.tm m) = some m := (rfl)
@[simp] theorem ev_resA2 {env : E} {i : Nat} : resA env (.sl i) = match env[i]? with
    | some (some m) => some m
    | _ => none := (rfl)
def kOk (m : M) (b : Bool) : Option M := match b with
  | true => some m
  | false => none
@[simp] theorem kOk_0 {m : M} : kOk m true = some m := (rfl)
@[simp] theorem ev_intM {c : Int → Int → Bool} {f : Int → Int → D} {i j : Int} : intM c f (.fz (.int i)) (.fz (.int j)) = kOk (.fz (f i j)) (c i j) := (rfl)
def kFor (g : FG) (fb : FS) (o : Option (Out (List D))) : Option Fl := match o with
  | some (.ok ds env1) => loopD g fb ds env1
  | some (.ex x env1) => some (.ex x env1)
  | _ => none
@[simp] theorem kFor_0 {g : FG} {fb : FS} {ds : List D} {env1 : E} : kFor g fb (some (.ok ds env1)) = loopD g fb ds env1 := (rfl)
@[simp] theorem kFor_1 {g : FG} {fb : FS} {x : Xc} {env1 : E} : kFor g fb (some (.ex x env1)) = some (.ex x env1) := (rfl)
@[simp] theorem ev_forS {env : E} {fi : FI} {g : FG} {fb : FS} : forS fi g fb env = kFor g fb (fi env) := by
  unfold forS kFor bindS
  cases fi env with
  | none => rfl
  | some o => cases o <;> rfl
def kR1 (env : E) (o : Option Int) : Option (Out (List D)) := match o with
  | some n => if fits n then some (.ok (rangeD 0 n) env) else none
  | none => none
@[simp] theorem kR1_0 {env : E} {n : Int} : kR1 env (some n) = if fits n then some (.ok (rangeD 0 n) env) else none := (rfl)
def kR  (o : Option (Out Av)) : Option (Out (List D)) := match o with
  | some (.ok a env1) => kR1 env1 (intA a env1)
  | some (.ex x env1) => some (.ex x env1)
  | _ => none
@[simp] theorem kR_0  {a : Av} {env1 : E} : kR  (some (.ok a env1)) = kR1 env1 (intA a env1) := (rfl)
@[simp] theorem kR_1  {x : Xc} {env1 : E} : kR  (some (.ex x env1)) = some (.ex x env1) := (rfl)
@[simp] theorem ev_rng1 {env : E} {f : FE} : rng1 f env = kR (f env) := by
  unfold rng1 kR bindO
  cases f env with
  | none => rfl
  | some o => cases o <;> rfl
def kR2c (env : E) (o p : Option Int) : Option (Out (List D)) := match o, p with
  | some i, some j => if fits i && fits j then some (.ok (rangeD i j) env) else none
  | _, _ => none
@[simp] theorem kR2c_0 {env : E} {i j : Int} : kR2c env (some i) (some j) = if fits i && fits j then some (.ok (rangeD i j) env) else none := (rfl)
def kR2b (a : Av) (o : Option (Out Av)) : Option (Out (List D)) := match o with
  | some (.ok b env1) => kR2c env1 (intA a env1) (intA b env1)
  | some (.ex x env1) => some (.ex x env1)
  | _ => none
@[simp] theorem kR2b_0 {a : Av} {b : Av} {env1 : E} : kR2b a (some (.ok b env1)) = kR2c env1 (intA a env1) (intA b env1) := (rfl)
@[simp] theorem kR2b_1 {a : Av} {x : Xc} {env1 : E} : kR2b a (some (.ex x env1)) = some (.ex x env1) := (rfl)
def kR2 (g : FE) (o : Option (Out Av)) : Option (Out (List D)) := match o with
  | some (.ok a env1) => kR2b a (g env1)
  | some (.ex x env1) => some (.ex x env1)
  | _ => none
@[simp] theorem kR2_0 {g : FE} {a : Av} {env1 : E} : kR2 g (some (.ok a env1)) = kR2b a (g env1) := (rfl)
@[simp] theorem kR2_1 {g : FE} {x : Xc} {env1 : E} : kR2 g (some (.ex x env1)) = some (.ex x env1) := (rfl)
@[simp] theorem ev_rng2 {env : E} {f g : FE} : rng2 f g env = kR2 g (f env) := by
  unfold rng2 kR2 bindO
  cases f env with
  | none => rfl
  | some o => cases o with
    | ok a e => simp only []; unfold kR2b; cases g e with
      | none => rfl
      | some o => cases o with
        | ok b e2 => simp only []; unfold kR2c; cases intA a e2 <;> cases intA b e2 <;> rfl
        | ex x e2 => rfl
    | ex x e => rfl
def kOv1 (env : E) (o : Option (List D)) : Option (Out (List D)) := match o with
  | some ds => some (.ok ds env)
  | none => none
@[simp] theorem kOv1_0 {env : E} {ds : List D} : kOv1 env (some ds) = some (.ok ds env) := (rfl)
def kOv (it : M → Option (List D)) (o : Option (Out Av)) : Option (Out (List D)) := match o with
  | some (.ok (.tm m) env1) => kOv1 env1 (it m)
  | some (.ex x env1) => some (.ex x env1)
  | _ => none
@[simp] theorem kOv_0 {it : M → Option (List D)} {m : M} {env1 : E} : kOv it (some (.ok (.tm m) env1)) = kOv1 env1 (it m) := (rfl)
@[simp] theorem kOv_1 {it : M → Option (List D)} {x : Xc} {env1 : E} : kOv it (some (.ex x env1)) = some (.ex x env1) := (rfl)
@[simp] theorem ev_overE {env : E} {it : M → Option (List D)} {f : FE} : overE it f env = kOv it (tk f env) := by
  unfold overE kOv bindO
  cases tk f env with
  | none => rfl
  | some o => cases o with
    | ok a e => cases a with
      | tm m => simp only []; unfold kOv1; cases it m <;> rfl
      | sl i => rfl
    | ex x e => rfl
def kCo1 (o : Option (List M × E)) : Option (Out Av) := match o with
  | some (ms, env2) => some (.ok (.tm (.lst ms)) env2)
  | none => none
@[simp] theorem kCo1_0 {ms : List M} {env2 : E} : kCo1 (some (ms, env2)) = some (.ok (.tm (.lst ms)) env2) := (rfl)
def kCo (g : FG) (ft : FT) (fe : FE) (own : List Nat) (o : Option (Out (List D))) : Option (Out Av) := match o with
  | some (.ok ds env1) => if ds.length ≤ sizeLine then kCo1 (compD g ft fe own ds (wipeE env1 own)) else none
  | some (.ex x env1) => some (.ex x env1)
  | _ => none
@[simp] theorem kCo_0 {g : FG} {ft : FT} {fe : FE} {own : List Nat} {ds : List D} {env1 : E} : kCo g ft fe own (some (.ok ds env1)) = if ds.length ≤ sizeLine then kCo1 (compD g ft fe own ds (wipeE env1 own)) else none := (rfl)
@[simp] theorem kCo_1 {g : FG} {ft : FT} {fe : FE} {own : List Nat} {x : Xc} {env1 : E} : kCo g ft fe own (some (.ex x env1)) = some (.ex x env1) := (rfl)
@[simp] theorem ev_compE {env : E} {fi : FI} {g : FG} {ft : FT} {fe : FE} {own : List Nat} : compE fi g ft fe own env = kCo g ft fe own (fi env) := by
  unfold compE kCo bindO
  cases fi env with
  | none => rfl
  | some o => cases o with
    | ok ds e =>
      simp only []
      unfold kCo1
      split
      · cases compD g ft fe own ds (wipeE e own) <;> rfl
      · rfl
    | ex x e => rfl
@[simp] theorem ev_wipe0 {env : E} : wipeE env [] = env := (rfl)
@[simp] theorem ev_wipe1 {env : E} {v : Nat} {vs : List Nat} : wipeE env (v :: vs) = (wipeE env vs).set v none := (rfl)
@[simp] theorem ev_yesT {env : E} : yesT env = some (.ok true env) := (rfl)
@[simp] theorem ev_tms0 : tms [] = some [] := (rfl)
@[simp] theorem ev_tms1 {m : M} {r : List Av} : tms (.tm m :: r) = kRs m (tms r) := (rfl)
def kLs1 (env : E) (o : Option (List M)) : Option (Out Av) := match o with
  | some ms => if ms.length ≤ sizeLine then some (.ok (.tm (.lst ms)) env) else none
  | none => none
@[simp] theorem kLs1_0 {env : E} {ms : List M} : kLs1 env (some ms) = if ms.length ≤ sizeLine then some (.ok (.tm (.lst ms)) env) else none := (rfl)
def kLs  (o : Option (Out (List Av))) : Option (Out Av) := match o with
  | some (.ok as env1) => kLs1 env1 (tms as)
  | some (.ex x env1) => some (.ex x env1)
  | _ => none
@[simp] theorem kLs_0  {as : List Av} {env1 : E} : kLs  (some (.ok as env1)) = kLs1 env1 (tms as) := (rfl)
@[simp] theorem kLs_1  {x : Xc} {env1 : E} : kLs  (some (.ex x env1)) = some (.ex x env1) := (rfl)
@[simp] theorem ev_lstE {env : E} {fa : FA} : lstE fa env = kLs (fa env) := by
  unfold lstE kLs bindO
  cases fa env with
  | none => rfl
  | some o => cases o <;> rfl
def kTu2 (env : E) (ms : List M) (o : Option (List D)) : Option (Out Av) := match o with
  | some ds => if ds.length ≤ sizeLine then some (.ok (.tm (.fz (.tup ds))) env) else none
  | none => if ms.length ≤ sizeLine then some (.ok (.tm (.tup ms)) env) else none
@[simp] theorem kTu2_0 {env : E} {ms : List M} {ds : List D} : kTu2 env ms (some ds) = if ds.length ≤ sizeLine then some (.ok (.tm (.fz (.tup ds))) env) else none := (rfl)
@[simp] theorem kTu2_1 {env : E} {ms : List M} : kTu2 env ms none = if ms.length ≤ sizeLine then some (.ok (.tm (.tup ms)) env) else none := (rfl)
def kTu1 (env : E) (o : Option (List M)) : Option (Out Av) := match o with
  | some ms => kTu2 env ms (unfz ms)
  | none => none
@[simp] theorem kTu1_0 {env : E} {ms : List M} : kTu1 env (some ms) = kTu2 env ms (unfz ms) := (rfl)
def kTu  (o : Option (Out (List Av))) : Option (Out Av) := match o with
  | some (.ok as env1) => kTu1 env1 (tms as)
  | some (.ex x env1) => some (.ex x env1)
  | _ => none
@[simp] theorem kTu_0  {as : List Av} {env1 : E} : kTu  (some (.ok as env1)) = kTu1 env1 (tms as) := (rfl)
@[simp] theorem kTu_1  {x : Xc} {env1 : E} : kTu  (some (.ex x env1)) = some (.ex x env1) := (rfl)
@[simp] theorem ev_tupE {env : E} {fa : FA} : tupE fa env = kTu (fa env) := by
  unfold tupE kTu bindO
  cases fa env with
  | none => rfl
  | some o => cases o <;> rfl
def kAnd1 (fb : FE) (env1 : E) (o : Option Bool) : Option (Out Av) := match o with
  | some true => fb env1
  | some false => some (.ok (.tm (.fz (.bl false))) env1)
  | none => none
@[simp] theorem kAnd1_0 {fb : FE} {env1 : E} : kAnd1 fb env1 (some true) = fb env1 := (rfl)
@[simp] theorem kAnd1_1 {fb : FE} {env1 : E} : kAnd1 fb env1 (some false) = some (.ok (.tm (.fz (.bl false))) env1) := (rfl)
def kAnd (fb : FE) (o : Option (Out Av)) : Option (Out Av) := match o with
  | some (.ok a env1) => kAnd1 fb env1 (boolA a env1)
  | some (.ex x env1) => some (.ex x env1)
  | _ => none
@[simp] theorem kAnd_0 {fb : FE} {a : Av} {env1 : E} : kAnd fb (some (.ok a env1)) = kAnd1 fb env1 (boolA a env1) := (rfl)
@[simp] theorem kAnd_1 {fb : FE} {x : Xc} {env1 : E} : kAnd fb (some (.ex x env1)) = some (.ex x env1) := (rfl)
@[simp] theorem ev_andE {env : E} {fa fb : FE} : andE fa fb env = kAnd fb (fa env) := by
  unfold andE kAnd bindO
  cases fa env with
  | none => rfl
  | some o => cases o with
    | ok a e => simp only []; unfold kAnd1; rfl
    | ex x e => rfl
def kOr1 (fb : FE) (env1 : E) (o : Option Bool) : Option (Out Av) := match o with
  | some true => some (.ok (.tm (.fz (.bl true))) env1)
  | some false => fb env1
  | none => none
@[simp] theorem kOr1_0 {fb : FE} {env1 : E} : kOr1 fb env1 (some true) = some (.ok (.tm (.fz (.bl true))) env1) := (rfl)
@[simp] theorem kOr1_1 {fb : FE} {env1 : E} : kOr1 fb env1 (some false) = fb env1 := (rfl)
def kOr (fb : FE) (o : Option (Out Av)) : Option (Out Av) := match o with
  | some (.ok a env1) => kOr1 fb env1 (boolA a env1)
  | some (.ex x env1) => some (.ex x env1)
  | _ => none
@[simp] theorem kOr_0 {fb : FE} {a : Av} {env1 : E} : kOr fb (some (.ok a env1)) = kOr1 fb env1 (boolA a env1) := (rfl)
@[simp] theorem kOr_1 {fb : FE} {x : Xc} {env1 : E} : kOr fb (some (.ex x env1)) = some (.ex x env1) := (rfl)
@[simp] theorem ev_orE {env : E} {fa fb : FE} : orE fa fb env = kOr fb (fa env) := by
  unfold orE kOr bindO
  cases fa env with
  | none => rfl
  | some o => cases o with
    | ok a e => simp only []; unfold kOr1; rfl
    | ex x e => rfl
def kNo1 (env1 : E) (o : Option Bool) : Option (Out Av) := match o with
  | some b => some (.ok (.tm (.fz (.bl (!b)))) env1)
  | none => none
@[simp] theorem kNo1_0 {env1 : E} {b : Bool} : kNo1 env1 (some b) = some (.ok (.tm (.fz (.bl (!b)))) env1) := (rfl)
def kNo  (o : Option (Out Av)) : Option (Out Av) := match o with
  | some (.ok a env1) => kNo1 env1 (boolA a env1)
  | some (.ex x env1) => some (.ex x env1)
  | _ => none
@[simp] theorem kNo_0  {a : Av} {env1 : E} : kNo  (some (.ok a env1)) = kNo1 env1 (boolA a env1) := (rfl)
@[simp] theorem kNo_1  {x : Xc} {env1 : E} : kNo  (some (.ex x env1)) = some (.ex x env1) := (rfl)
@[simp] theorem ev_notE {env : E} {f : FE} : notE f env = kNo (f env) := by
  unfold notE kNo bindO
  cases f env with
  | none => rfl
  | some o => cases o <;> rfl
def kCh4 (q : Int → Int → Bool) (j : Int) (env : E) (o : Option Int) : Option (Out Av) := match o with
  | some k => some (.ok (.tm (.fz (.bl (q j k)))) env)
  | none => none
@[simp] theorem kCh4_0 {q : Int → Int → Bool} {j k : Int} {env : E} : kCh4 q j env (some k) = some (.ok (.tm (.fz (.bl (q j k)))) env) := (rfl)
def kCh3 (q : Int → Int → Bool) (j : Int) (o : Option (Out Av)) : Option (Out Av) := match o with
  | some (.ok c env1) => kCh4 q j env1 (intA c env1)
  | some (.ex x env1) => some (.ex x env1)
  | _ => none
@[simp] theorem kCh3_0 {q : Int → Int → Bool} {j : Int} {c : Av} {env1 : E} : kCh3 q j (some (.ok c env1)) = kCh4 q j env1 (intA c env1) := (rfl)
@[simp] theorem kCh3_1 {q : Int → Int → Bool} {j : Int} {x : Xc} {env1 : E} : kCh3 q j (some (.ex x env1)) = some (.ex x env1) := (rfl)
def kCh2 (q : Int → Int → Bool) (j : Int) (fc : FE) (env : E) (b : Bool) : Option (Out Av) := match b with
  | true => kCh3 q j (fc env)
  | false => some (.ok (.tm (.fz (.bl false))) env)
@[simp] theorem kCh2_0 {q : Int → Int → Bool} {j : Int} {fc : FE} {env : E} : kCh2 q j fc env true = kCh3 q j (fc env) := (rfl)
@[simp] theorem kCh2_1 {q : Int → Int → Bool} {j : Int} {fc : FE} {env : E} : kCh2 q j fc env false = some (.ok (.tm (.fz (.bl false))) env) := (rfl)
def kCh1 (p q : Int → Int → Bool) (fc : FE) (env : E) (a b : Option Int) : Option (Out Av) := match a, b with
  | some i, some j => kCh2 q j fc env (p i j)
  | _, _ => none
@[simp] theorem kCh1_0 {p q : Int → Int → Bool} {fc : FE} {env : E} {i j : Int} : kCh1 p q fc env (some i) (some j) = kCh2 q j fc env (p i j) := (rfl)
def kChb (p : Int → Int → Bool) (q : Int → Int → Bool) (fc : FE) (a : Av) (o : Option (Out Av)) : Option (Out Av) := match o with
  | some (.ok b env1) => kCh1 p q fc env1 (intA a env1) (intA b env1)
  | some (.ex x env1) => some (.ex x env1)
  | _ => none
@[simp] theorem kChb_0 {p : Int → Int → Bool} {q : Int → Int → Bool} {fc : FE} {a : Av} {b : Av} {env1 : E} : kChb p q fc a (some (.ok b env1)) = kCh1 p q fc env1 (intA a env1) (intA b env1) := (rfl)
@[simp] theorem kChb_1 {p : Int → Int → Bool} {q : Int → Int → Bool} {fc : FE} {a : Av} {x : Xc} {env1 : E} : kChb p q fc a (some (.ex x env1)) = some (.ex x env1) := (rfl)
def kCha (p : Int → Int → Bool) (q : Int → Int → Bool) (fb : FE) (fc : FE) (o : Option (Out Av)) : Option (Out Av) := match o with
  | some (.ok a env1) => kChb p q fc a (fb env1)
  | some (.ex x env1) => some (.ex x env1)
  | _ => none
@[simp] theorem kCha_0 {p : Int → Int → Bool} {q : Int → Int → Bool} {fb : FE} {fc : FE} {a : Av} {env1 : E} : kCha p q fb fc (some (.ok a env1)) = kChb p q fc a (fb env1) := (rfl)
@[simp] theorem kCha_1 {p : Int → Int → Bool} {q : Int → Int → Bool} {fb : FE} {fc : FE} {x : Xc} {env1 : E} : kCha p q fb fc (some (.ex x env1)) = some (.ex x env1) := (rfl)
@[simp] theorem ev_chainE {env : E} {p q : Int → Int → Bool} {fa fb fc : FE} : chainE p q fa fb fc env = kCha p q fb fc (fa env) := by
  unfold chainE kCha bindO
  cases fa env with
  | none => rfl
  | some o => cases o with
    | ok a e => simp only []; unfold kChb; cases fb e with
      | none => rfl
      | some o => cases o with
        | ok b e2 =>
          simp only []
          unfold kCh1
          cases intA a e2 with
          | none => cases intA b e2 <;> rfl
          | some i => cases intA b e2 with
            | none => rfl
            | some j =>
              simp only []
              unfold kCh2
              cases p i j with
              | false => rfl
              | true =>
                simp only []
                unfold kCh3
                cases fc e2 with
                | none => rfl
                | some o => cases o with
                  | ok c e3 => simp only []; unfold kCh4; cases intA c e3 <;> rfl
                  | ex x e3 => rfl
        | ex x e2 => rfl
    | ex x e => rfl
def kIs2 (ts : List Kd) (env : E) (o : Option Kd) : Option (Out Av) := match o with
  | some k => some (.ok (.tm (.fz (.bl (ts.any fun t => kdSub k t)))) env)
  | none => none
@[simp] theorem kIs2_0 {ts : List Kd} {env : E} {k : Kd} : kIs2 ts env (some k) = some (.ok (.tm (.fz (.bl (ts.any fun t => kdSub k t)))) env) := (rfl)
def kIs1 (ts : List Kd) (env : E) (o : Option M) : Option (Out Av) := match o with
  | some m => kIs2 ts env (kdM m)
  | none => none
@[simp] theorem kIs1_0 {ts : List Kd} {env : E} {m : M} : kIs1 ts env (some m) = kIs2 ts env (kdM m) := (rfl)
def kIs (ts : List Kd) (o : Option (Out Av)) : Option (Out Av) := match o with
  | some (.ok a env1) => kIs1 ts env1 (resA env1 a)
  | some (.ex x env1) => some (.ex x env1)
  | _ => none
@[simp] theorem kIs_0 {ts : List Kd} {a : Av} {env1 : E} : kIs ts (some (.ok a env1)) = kIs1 ts env1 (resA env1 a) := (rfl)
@[simp] theorem kIs_1 {ts : List Kd} {x : Xc} {env1 : E} : kIs ts (some (.ex x env1)) = some (.ex x env1) := (rfl)
@[simp] theorem ev_isiE {env : E} {ts : List Kd} {f : FE} : isiE ts f env = kIs ts (f env) := by
  unfold isiE kIs bindO
  cases f env with
  | none => rfl
  | some o => cases o <;> rfl
def kBm3 (g : FP) (a : Av) (o : Option (Out (List Av))) : Option (Out Av) := match o with
  | some (.ok as env2) => runP g (a :: as) env2
  | some (.ex x env2) => some (.ex x env2)
  | none => none
@[simp] theorem kBm3_0 {g : FP} {a : Av} {as : List Av} {env2 : E} : kBm3 g a (some (.ok as env2)) = runP g (a :: as) env2 := (rfl)
@[simp] theorem kBm3_1 {g : FP} {a : Av} {x : Xc} {env2 : E} : kBm3 g a (some (.ex x env2)) = some (.ex x env2) := (rfl)
def kBm2 (g : FP) (fa : FA) (a : Av) (env : E) (b : Bool) : Option (Out Av) := match b with
  | true => kBm3 g a (fa env)
  | false => none
@[simp] theorem kBm2_0 {g : FP} {fa : FA} {a : Av} {env : E} : kBm2 g fa a env true = kBm3 g a (fa env) := (rfl)
def kBm1 (T : Kd) (g : FP) (fa : FA) (a : Av) (env : E) (o : Option M) : Option (Out Av) := match o with
  | some m => kBm2 g fa a env (tyM T m)
  | none => none
@[simp] theorem kBm1_0 {T : Kd} {g : FP} {fa : FA} {a : Av} {env : E} {m : M} : kBm1 T g fa a env (some m) = kBm2 g fa a env (tyM T m) := (rfl)
def kBm (T : Kd) (g : FP) (fa : FA) (o : Option (Out Av)) : Option (Out Av) := match o with
  | some (.ok a env1) => kBm1 T g fa a env1 (resA env1 a)
  | some (.ex x env1) => some (.ex x env1)
  | _ => none
@[simp] theorem kBm_0 {T : Kd} {g : FP} {fa : FA} {a : Av} {env1 : E} : kBm T g fa (some (.ok a env1)) = kBm1 T g fa a env1 (resA env1 a) := (rfl)
@[simp] theorem kBm_1 {T : Kd} {g : FP} {fa : FA} {x : Xc} {env1 : E} : kBm T g fa (some (.ex x env1)) = some (.ex x env1) := (rfl)
@[simp] theorem ev_bmE {env : E} {T : Kd} {g : FP} {fo : FE} {fa : FA} : bmE T g fo fa env = kBm T g fa (fo env) := by
  unfold bmE kBm bindO
  cases fo env with
  | none => rfl
  | some o => cases o with
    | ok a e =>
      simp only []
      unfold kBm1
      cases resA e a with
      | none => rfl
      | some m =>
        simp only []
        unfold kBm2
        cases tyM T m with
        | false => rfl
        | true => simp only []; unfold kBm3; cases fa e with
          | none => rfl
          | some o => cases o <;> rfl
    | ex x e => rfl
@[simp] theorem ev_app {xs : List M} {y : M} : appG [.lst xs, y] = if xs.length < sizeLine then some (.ok (.fz .non) [some (.lst (xs ++ [y])), none]) else none := (rfl)
@[simp] theorem ev_tyl {ms : List M} : tyM .lst (.lst ms) = true := (rfl)
def kSet (v : M) (xs : List M) (i : Int) (o : Option Nat) : Option OutP := match o with
    | some j => some (.ok (.fz .non) [none, some (.lst (xs.set j v)), some (.fz (.int i))])
    | none => none
@[simp] theorem kSet_0 {v : M} {xs : List M} {i : Int} {j : Nat} : kSet v xs i (some j) = some (.ok (.fz .non) [none, some (.lst (xs.set j v)), some (.fz (.int i))]) := (rfl)
@[simp] theorem ev_setG {v : M} {xs : List M} {i : Int} : setG [v, .lst xs, .fz (.int i)] = kSet v xs i (ixN xs.length i) := (rfl)
@[simp] theorem ev_setS {env : E} {fe fo fi : FE} : setS fe fo fi env = kExp (callE setG (arg3 fe fo fi) env) := by
  unfold setS bindS kExp
  cases callE setG (arg3 fe fo fi) env with
  | none => rfl
  | some o => cases o <;> rfl
def kAu4 (f : Int → Int → Int) (a b : Av) (x : Int) (env : E) (o : Option Int) : Option Fl := match o with
  | some y => kExp (runP setG [.tm (.fz (.int (f x y))), a, b] env)
  | none => none
@[simp] theorem kAu4_0 {f : Int → Int → Int} {a b : Av} {x y : Int} {env : E} : kAu4 f a b x env (some y) = kExp (runP setG [.tm (.fz (.int (f x y))), a, b] env) := (rfl)
def kAu3 (f : Int → Int → Int) (a b : Av) (x : Int) (o : Option (Out Av)) : Option Fl := match o with
  | some (.ok c env3) => kAu4 f a b x env3 (intA c env3)
  | some (.ex x env3) => some (.ex x env3)
  | none => none
@[simp] theorem kAu3_0 {f : Int → Int → Int} {a b c : Av} {x : Int} {env3 : E} : kAu3 f a b x (some (.ok c env3)) = kAu4 f a b x env3 (intA c env3) := (rfl)
@[simp] theorem kAu3_1 {f : Int → Int → Int} {a b : Av} {x : Int} {y : Xc} {env3 : E} : kAu3 f a b x (some (.ex y env3)) = some (.ex y env3) := (rfl)
def kAu2 (f : Int → Int → Int) (a b : Av) (fe : FE) (env : E) (o : Option Int) : Option Fl := match o with
  | some x => kAu3 f a b x (fe env)
  | none => none
@[simp] theorem kAu2_0 {f : Int → Int → Int} {a b : Av} {fe : FE} {env : E} {x : Int} : kAu2 f a b fe env (some x) = kAu3 f a b x (fe env) := (rfl)
def kAu1 (f : Int → Int → Int) (a b : Av) (fe : FE) (env : E) (o : Option Int) (p : Option M) : Option Fl := match o, p with
  | some i, some m => kAu2 f a b fe env (ixInt m i)
  | _, _ => none
@[simp] theorem kAu1_0 {f : Int → Int → Int} {a b : Av} {fe : FE} {env : E} {i : Int} {m : M} : kAu1 f a b fe env (some i) (some m) = kAu2 f a b fe env (ixInt m i) := (rfl)
def kAub (f : Int → Int → Int) (a : Av) (fe : FE) (o : Option (Out Av)) : Option Fl := match o with
  | some (.ok b env1) => kAu1 f a b fe env1 (intA b env1) (resA env1 a)
  | some (.ex x env1) => some (.ex x env1)
  | _ => none
@[simp] theorem kAub_0 {f : Int → Int → Int} {a : Av} {fe : FE} {b : Av} {env1 : E} : kAub f a fe (some (.ok b env1)) = kAu1 f a b fe env1 (intA b env1) (resA env1 a) := (rfl)
@[simp] theorem kAub_1 {f : Int → Int → Int} {a : Av} {fe : FE} {x : Xc} {env1 : E} : kAub f a fe (some (.ex x env1)) = some (.ex x env1) := (rfl)
def kAu (f : Int → Int → Int) (fi : FE) (fe : FE) (o : Option (Out Av)) : Option Fl := match o with
  | some (.ok a env1) => kAub f a fe (fi env1)
  | some (.ex x env1) => some (.ex x env1)
  | _ => none
@[simp] theorem kAu_0 {f : Int → Int → Int} {fi : FE} {fe : FE} {a : Av} {env1 : E} : kAu f fi fe (some (.ok a env1)) = kAub f a fe (fi env1) := (rfl)
@[simp] theorem kAu_1 {f : Int → Int → Int} {fi : FE} {fe : FE} {x : Xc} {env1 : E} : kAu f fi fe (some (.ex x env1)) = some (.ex x env1) := (rfl)
@[simp] theorem ev_augIx {env : E} {f : Int → Int → Int} {fo fi fe : FE} : augIx f fo fi fe env = kAu f fi fe (fo env) := by
  unfold augIx kAu bindS
  cases fo env with
  | none => rfl
  | some o => cases o with
    | ok a e => simp only []; unfold kAub; cases fi e with
      | none => rfl
      | some o => cases o with
        | ok b e2 =>
          simp only []
          unfold kAu1
          cases intA b e2 with
          | none => rfl
          | some i => cases resA e2 a with
            | none => rfl
            | some m =>
              simp only []
              unfold kAu2
              cases ixInt m i with
              | none => rfl
              | some x => simp only []; unfold kAu3; cases fe e2 with
                | none => rfl
                | some o => cases o with
                  | ok c e3 => simp only []; unfold kAu4; cases intA c e3 with
                    | none => rfl
                    | some y => simp only []; unfold kExp; cases runP setG [.tm (.fz (.int (f x y))), a, b] e3 with
                      | none => rfl
                      | some o => cases o <;> rfl
                  | ex x e3 => rfl
        | ex x e2 => rfl
    | ex x e => rfl
def kNm2 (i : Nat) (o : Option (Out Av)) : Option Fl := match o with
  | some (.ok (.tm m) env1) => some (.nx (env1.set i (some m)))
  | some (.ex x env1) => some (.ex x env1)
  | _ => none
@[simp] theorem kNm2_0 {i : Nat} {m : M} {env1 : E} : kNm2 i (some (.ok (.tm m) env1)) = some (.nx (env1.set i (some m))) := (rfl)
@[simp] theorem kNm2_1 {i : Nat} {x : Xc} {env1 : E} : kNm2 i (some (.ex x env1)) = some (.ex x env1) := (rfl)
def kNm1 (i : Nat) (g : FP) (o : Option (Out Av)) : Option Fl := match o with
  | some (.ok a env1) => kNm2 i (runP g [.sl i, a] env1)
  | some (.ex x env1) => some (.ex x env1)
  | _ => none
@[simp] theorem kNm1_0 {i : Nat} {g : FP} {a : Av} {env1 : E} : kNm1 i g (some (.ok a env1)) = kNm2 i (runP g [.sl i, a] env1) := (rfl)
@[simp] theorem kNm1_1 {i : Nat} {g : FP} {x : Xc} {env1 : E} : kNm1 i g (some (.ex x env1)) = some (.ex x env1) := (rfl)
theorem kNm1_eq {i : Nat} {g : FP} {o : Option (Out Av)} : (bindS o fun a env1 => bindS (runP g [.sl i, a] env1) fun r env2 => match r with
    | .tm m => some (.nx (env2.set i (some m)))
    | .sl _ => none) = kNm1 i g o := by
  unfold kNm1 bindS
  cases o with
  | none => rfl
  | some o => cases o with
    | ok a e => simp only []; unfold kNm2; cases runP g [.sl i, a] e with
      | none => rfl
      | some o => cases o with
        | ok b e2 => cases b <;> rfl
        | ex x e2 => rfl
    | ex x e => rfl
@[simp] theorem ev_augNm {env : E} {i : Nat} {g : FP} {fe : FE} : augNm i g fe env = match env[i]? with
  | some (some _) => kNm1 i g (fe env)
  | _ => none := by
  unfold augNm
  cases env[i]? with
  | none => rfl
  | some o => cases o with
    | none => rfl
    | some m => exact kNm1_eq
def kPa1 (i j : Nat) (env : E) (o : Option (List M)) : Option Fl := match o with
  | some [m, n] => some (.nx ((env.set i (some m)).set j (some n)))
  | _ => none
@[simp] theorem kPa1_0 {i j : Nat} {env : E} {m n : M} : kPa1 i j env (some [m, n]) = some (.nx ((env.set i (some m)).set j (some n))) := (rfl)
def kPa (i : Nat) (j : Nat) (o : Option (Out (List Av))) : Option Fl := match o with
  | some (.ok as env1) => kPa1 i j env1 (tms as)
  | some (.ex x env1) => some (.ex x env1)
  | _ => none
@[simp] theorem kPa_0 {i : Nat} {j : Nat} {as : List Av} {env1 : E} : kPa i j (some (.ok as env1)) = kPa1 i j env1 (tms as) := (rfl)
@[simp] theorem kPa_1 {i : Nat} {j : Nat} {x : Xc} {env1 : E} : kPa i j (some (.ex x env1)) = some (.ex x env1) := (rfl)
@[simp] theorem ev_parS {env : E} {i j : Nat} {fa : FA} : parS i j fa env = kPa i j (fa env) := by
  unfold parS kPa bindS
  cases fa env with
  | none => rfl
  | some o => cases o <;> rfl
def kSl3 (a : Av) (i : Int) (env : E) (o : Option Int) : Option (Out Av) := match o with
  | some j => runP (g1 fun m => sliceM m (some i) (some j)) [a] env
  | none => none
@[simp] theorem kSl3_0 {a : Av} {i j : Int} {env : E} : kSl3 a i env (some j) = runP (g1 fun m => sliceM m (some i) (some j)) [a] env := (rfl)
def kSl2b (a : Av) (i : Int) (o : Option (Out Av)) : Option (Out Av) := match o with
  | some (.ok c env1) => kSl3 a i env1 (intA c env1)
  | some (.ex x env1) => some (.ex x env1)
  | _ => none
@[simp] theorem kSl2b_0 {a : Av} {i : Int} {c : Av} {env1 : E} : kSl2b a i (some (.ok c env1)) = kSl3 a i env1 (intA c env1) := (rfl)
@[simp] theorem kSl2b_1 {a : Av} {i : Int} {x : Xc} {env1 : E} : kSl2b a i (some (.ex x env1)) = some (.ex x env1) := (rfl)
def kSl2 (a : Av) (fu : FE) (env : E) (o : Option Int) : Option (Out Av) := match o with
  | some i => kSl2b a i (fu env)
  | none => none
@[simp] theorem kSl2_0 {a : Av} {fu : FE} {env : E} {i : Int} : kSl2 a fu env (some i) = kSl2b a i (fu env) := (rfl)
def kSl1 (a : Av) (fu : FE) (o : Option (Out Av)) : Option (Out Av) := match o with
  | some (.ok b env1) => kSl2 a fu env1 (intA b env1)
  | some (.ex x env1) => some (.ex x env1)
  | _ => none
@[simp] theorem kSl1_0 {a : Av} {fu : FE} {b : Av} {env1 : E} : kSl1 a fu (some (.ok b env1)) = kSl2 a fu env1 (intA b env1) := (rfl)
@[simp] theorem kSl1_1 {a : Av} {fu : FE} {x : Xc} {env1 : E} : kSl1 a fu (some (.ex x env1)) = some (.ex x env1) := (rfl)
def kSl (fl : FE) (fu : FE) (o : Option (Out Av)) : Option (Out Av) := match o with
  | some (.ok a env1) => kSl1 a fu (fl env1)
  | some (.ex x env1) => some (.ex x env1)
  | _ => none
@[simp] theorem kSl_0 {fl : FE} {fu : FE} {a : Av} {env1 : E} : kSl fl fu (some (.ok a env1)) = kSl1 a fu (fl env1) := (rfl)
@[simp] theorem kSl_1 {fl : FE} {fu : FE} {x : Xc} {env1 : E} : kSl fl fu (some (.ex x env1)) = some (.ex x env1) := (rfl)
@[simp] theorem ev_slice11 {env : E} {fe fl fu : FE} : slice11E fe fl fu env = kSl fl fu (fe env) := by
  unfold slice11E kSl bindO
  cases fe env with
  | none => rfl
  | some o => cases o with
    | ok a e => simp only []; unfold kSl1; cases fl e with
      | none => rfl
      | some o => cases o with
        | ok b e2 => simp only []; unfold kSl2; cases intA b e2 with
          | none => rfl
          | some i => simp only []; unfold kSl2b; cases fu e2 with
            | none => rfl
            | some o => cases o with
              | ok c e3 => simp only []; unfold kSl3; cases intA c e3 <;> rfl
              | ex x e3 => rfl
        | ex x e2 => rfl
    | ex x e => rfl
def kDd1 (env : E) (o : Option (List Str)) : Option (Out Av) := match o with
    | some xs => if xs.length ≤ 4000 then some (.ok (.tm (.fz (.int (ddS xs).length))) env) else none
    | none => none
@[simp] theorem kDd1_0 {env : E} {xs : List Str} : kDd1 env (some xs) = if xs.length ≤ 4000 then some (.ok (.tm (.fz (.int (ddS xs).length))) env) else none := (rfl)
def kDd2 (env : E) (o : Option M) : Option (Out Av) := match o with
  | some (.fz (.tup ds)) => kDd1 env (strsD ds)
  | _ => none
@[simp] theorem kDd2_0 {env : E} {ds : List D} : kDd2 env (some (.fz (.tup ds))) = kDd1 env (strsD ds) := (rfl)
def kDd  (o : Option (Out Av)) : Option (Out Av) := match o with
  | some (.ok a env1) => kDd2 env1 (resA env1 a)
  | some (.ex x env1) => some (.ex x env1)
  | _ => none
@[simp] theorem kDd_0  {a : Av} {env1 : E} : kDd  (some (.ok a env1)) = kDd2 env1 (resA env1 a) := (rfl)
@[simp] theorem kDd_1  {x : Xc} {env1 : E} : kDd  (some (.ex x env1)) = some (.ex x env1) := (rfl)
@[simp] theorem ev_lenSet {env : E} {f : FE} : lenSetE f env = kDd (f env) := by
  unfold lenSetE kDd bindO
  cases f env with
  | none => rfl
  | some o => cases o with
    | ok a e => simp only []; unfold kDd2 kDd1; rfl
    | ex x e => rfl
def kFn (asg : List Nat) (ms : List M) (o : Option Fl) : Option OutP := match o with
    | some (.nx env') => some (.ok (.fz .non) (outA asg 0 ms env'))
    | some (.rt m env') => some (.ok m (outA asg 0 ms env'))
    | some (.ex x env') => some (.ex x (outA asg 0 ms env'))
    | _ => none
@[simp] theorem kFn_0 {asg : List Nat} {ms : List M} {env1 : E} : kFn asg ms (some (.nx env1)) = some (.ok (.fz .non) (outA asg 0 ms env1)) := (rfl)
@[simp] theorem kFn_1 {asg : List Nat} {ms : List M} {m : M} {env1 : E} : kFn asg ms (some (.rt m env1)) = some (.ok m (outA asg 0 ms env1)) := (rfl)
@[simp] theorem kFn_2 {asg : List Nat} {ms : List M} {x : Xc} {env1 : E} : kFn asg ms (some (.ex x env1)) = some (.ex x (outA asg 0 ms env1)) := (rfl)
@[simp] theorem ev_fnM {np nl : Nat} {asg : List Nat} {body : FS} {ms : List M} : fnM np nl asg body ms = if ms.length = np then kFn asg ms (body (argE ms ++ List.replicate nl none)) else none := (rfl)
@[simp] theorem divC_eq {i j : Int} : divC i j = (decide (0 < j) && decide (j < 1208925819614629174706176)) := (rfl)
@[simp] theorem modC_eq {i j : Int} : modC i j = decide (0 < j) := (rfl)
@[simp] theorem powC_eq {i j : Int} : powC i j = (decide (0 ≤ j) && (decide (j ≤ 1000000) && decide (i.natAbs < 2 ^ 64))) := (rfl)
@[simp] theorem fits_eq {i : Int} : fits i = (decide (-(2 ^ 62) ≤ i) && decide (i < 2 ^ 62)) := (rfl)
@[simp] theorem sizeLine_eq : sizeLine = 16777216 := (rfl)
@[simp] theorem ev_out0 {asg : List Nat} {i : Nat} {env : E} : outA asg i [] env = [] := by unfold outA; rfl
@[simp] theorem ev_out1 {asg : List Nat} {i : Nat} {m : M} {ms : List M} {o : Option M} {env : E} : outA asg i (m :: ms) (o :: env) = (if asg.contains i then fzOnly m else o) :: outA asg (i + 1) ms env := (rfl)
@[simp] theorem ev_fzo {d : D} : fzOnly (.fz d) = some (.fz d) := (rfl)
@[simp] theorem ev_frz1 {d : D} : frz (.fz d) = some d := by unfold frz; rfl
@[simp] theorem ev_frz2 {ms : List M} : frz (.lst ms) = match frzs ms with
  | some ds => some (.lst ds)
  | none => none := by first | (rw [frz]; cases frzs ms <;> rfl) | rw [frz]
@[simp] theorem ev_frzs0 : frzs [] = some [] := by unfold frzs; rfl
@[simp] theorem ev_frzs1 {m : M} {ms : List M} : frzs (m :: ms) = match frz m with
  | some d => match frzs ms with
    | some ds => some (d :: ds)
    | none => none
  | none => none := by
  first | (rw [frzs]; cases frz m <;> cases frzs ms <;> rfl) | rw [frzs]
@[simp] theorem ev_frzm {ds : List D} : frzs (ds.map M.fz) = some ds := by
  induction ds with
  | nil => simp
  | cons d ds ih => simp [ih]
@[simp] theorem ev_unfz0 : unfz [] = some [] := (rfl)
@[simp] theorem ev_unfzl {xs r : List M} : unfz (.lst xs :: r) = none := (rfl)
@[simp] theorem ev_unfzt {xs r : List M} : unfz (.tup xs :: r) = none := (rfl)
@[simp] theorem ev_unfzk {xs} {r : List M} : unfz (.dK xs :: r) = none := (rfl)
@[simp] theorem ev_unfzT {xs} {r : List M} : unfz (.dT xs :: r) = none := (rfl)
@[simp] theorem ev_unfzi {C fs} {r : List M} : unfz (.ins C fs :: r) = none := (rfl)
@[simp] theorem ev_unfz1 {d : D} {r : List M} : unfz (.fz d :: r) = match unfz r with
    | some ds => some (d :: ds)
    | none => none := (rfl)
@[simp] theorem ev_unfzm {ds : List D} : unfz (ds.map M.fz) = some ds := unfz_map ds
@[simp] theorem ev_lstD1 {ds : List D} : lstD (.fz (.lst ds)) = some ds := (rfl)
@[simp] theorem ev_lstD2 {ms : List M} : lstD (.lst ms) = unfz ms := (rfl)
@[simp] theorem ev_seqD1 {ds : List D} : seqD (.fz (.lst ds)) = some ds := (rfl)
@[simp] theorem ev_seqD2 {ms : List M} : seqD (.lst ms) = unfz ms := (rfl)
@[simp] theorem ev_seqD3 {ds : List D} : seqD (.fz (.tup ds)) = some ds := (rfl)
@[simp] theorem ev_len1 {s : Str} : lenM (.fz (.str s)) = if s.length ≤ sizeLine then some (.fz (.int s.length)) else none := (rfl)
@[simp] theorem ev_len2 {ms : List M} : lenM (.lst ms) = some (.fz (.int ms.length)) := (rfl)
@[simp] theorem ev_len3 {ds : List D} : lenM (.fz (.lst ds)) = some (.fz (.int ds.length)) := (rfl)
@[simp] theorem ev_len4 {ds : List D} : lenM (.fz (.tup ds)) = some (.fz (.int ds.length)) := (rfl)
@[simp] theorem ev_abs {i : Int} : absM (.fz (.int i)) = some (.fz (.int (if i < 0 then -i else i))) := (rfl)
@[simp] theorem ev_neg {i : Int} : negM (.fz (.int i)) = some (.fz (.int (-i))) := (rfl)
@[simp] theorem ev_add1 {i j : Int} : addM (.fz (.int i)) (.fz (.int j)) = some (.fz (.int (i + j))) := (rfl)
@[simp] theorem ev_add2 {s t : Str} : addM (.fz (.str s)) (.fz (.str t)) = if s.length + t.length ≤ sizeLine then some (.fz (.str (s ++ t))) else none := (rfl)
@[simp] theorem ev_add3 {s t : List D} : addM (.fz (.tup s)) (.fz (.tup t)) = if s.length + t.length ≤ sizeLine then some (.fz (.tup (s ++ t))) else none := (rfl)
@[simp] theorem ev_add4 {s t : List M} : addM (.lst s) (.lst t) = match unfz s with
    | some s => match unfz t with
      | some t => if s.length + t.length ≤ sizeLine then some (.lst ((s ++ t).map .fz)) else none
      | none => none
    | none => none := (rfl)
@[simp] theorem ev_add5 {s : List M} {t : List D} : addM (.lst s) (.fz (.lst t)) = match unfz s with
    | some s => if s.length + t.length ≤ sizeLine then some (.lst ((s ++ t).map .fz)) else none
    | none => none := (rfl)
@[simp] theorem ev_add6 {s : List D} {t : List M} : addM (.fz (.lst s)) (.lst t) = match unfz t with
    | some t => if s.length + t.length ≤ sizeLine then some (.lst ((s ++ t).map .fz)) else none
    | none => none := (rfl)
@[simp] theorem ev_add7 {s t : List D} : addM (.fz (.lst s)) (.fz (.lst t)) = if s.length + t.length ≤ sizeLine then some (.lst ((s ++ t).map .fz)) else none := (rfl)
@[simp] theorem ev_mul1 {i j : Int} : mulM (.fz (.int i)) (.fz (.int j)) = match mulC i j with
    | true => some (.fz (.int (i * j)))
    | false => none := (rfl)
@[simp] theorem ev_mul2 {z : Str} {n : Int} : mulM (.fz (.str z)) (.fz (.int n)) = if 0 ≤ n ∧ n ≤ 1000 ∧ z.length ≤ 1000 then some (.fz (.str (repS z n.toNat))) else none := (rfl)
@[simp] theorem ev_mul3 {ds : List D} {k : Int} : mulM (.fz (.tup ds)) (.fz (.int k)) = if ds = [] ∨ k = 1 then (if -1000 ≤ k ∧ k ≤ 1000 then some (.fz (.tup ds)) else none) else if 2 ≤ k ∧ k ≤ 1000 ∧ ds.length ≤ 1000 then some (.fz (.tup (repL k.toNat ds))) else none := (rfl)
@[simp] theorem ev_max {i j : Int} : maxM (.fz (.int i)) (.fz (.int j)) = some (.fz (.int (if i < j then j else i))) := (rfl)
@[simp] theorem ev_int1 {i : Int} : intM1 (.fz (.int i)) = some (.fz (.int i)) := (rfl)
@[simp] theorem ev_int2 {b : Bool} : intM1 (.fz (.bl b)) = some (.fz (.int (if b then 1 else 0))) := (rfl)
@[simp] theorem ev_list {m : M} : listM m = match seqD m with
  | some ds => some (.lst (ds.map .fz))
  | none => none := (rfl)
@[simp] theorem ev_tuple1 {ds : List D} : tupleM (.fz (.tup ds)) = some (.fz (.tup ds)) := (rfl)
@[simp] theorem ev_tuple2 {ds : List D} : tupleM (.fz (.lst ds)) = some (.fz (.tup ds)) := (rfl)
@[simp] theorem ev_tuple3 {ms : List M} : tupleM (.lst ms) = match unfz ms with
    | some ds => some (.fz (.tup ds))
    | none => none := (rfl)
@[simp] theorem ev_isN {m : M} : isNM m (.fz .non) = some (.fz (.bl (isNon m))) := (rfl)
@[simp] theorem ev_notN {m : M} : notNM m (.fz .non) = some (.fz (.bl (!isNon m))) := (rfl)
@[simp] theorem ev_ix {ms : List M} {i : Int} : ixM (.lst ms) (.fz (.int i)) = match unfz ms with
    | some ds => match atI ds i with
      | some d => some (.fz d)
      | none => none
    | none => none := (rfl)
@[simp] theorem ev_ix2 {ds : List D} {i : Int} : ixM (.fz (.lst ds)) (.fz (.int i)) = match atI ds i with
      | some d => some (.fz d)
      | none => none := (rfl)
@[simp] theorem ev_ix3 {ds : List D} {i : Int} : ixM (.fz (.tup ds)) (.fz (.int i)) = match atI ds i with
      | some d => some (.fz d)
      | none => none := (rfl)
@[simp] theorem ev_ix4 {s : Str} {i : Int} : ixM (.fz (.str s)) (.fz (.int i)) = if s.length ≤ sizeLine then match atI s.cps.toList i with
      | some c => some (.fz (.str ⟨#[c]⟩))
      | none => none
    else none := (rfl)
@[simp] theorem ev_ixInt {ms : List M} {i : Int} : ixInt (.lst ms) i = match atI ms i with
    | some (.fz (.int x)) => some x
    | _ => none := (rfl)
@[simp] theorem ev_eq1 {i j : Int} : eqM (.fz (.int i)) (.fz (.int j)) = some (.fz (.bl (decide (i = j)))) := (rfl)
@[simp] theorem ev_eq2 {i j : Str} : eqM (.fz (.str i)) (.fz (.str j)) = some (.fz (.bl (decide (i = j)))) := (rfl)
@[simp] theorem ev_eq3 {i j : Bool} : eqM (.fz (.bl i)) (.fz (.bl j)) = some (.fz (.bl (decide (i = j)))) := (rfl)
@[simp] theorem ev_ne1 {i j : Int} : neM (.fz (.int i)) (.fz (.int j)) = some (.fz (.bl (!decide (i = j)))) := (rfl)
@[simp] theorem ev_ne2 {i j : Str} : neM (.fz (.str i)) (.fz (.str j)) = some (.fz (.bl (!decide (i = j)))) := (rfl)
@[simp] theorem ev_ne3 {i j : Bool} : neM (.fz (.bl i)) (.fz (.bl j)) = some (.fz (.bl (!decide (i = j)))) := (rfl)
@[simp] theorem ixN_nat {n k : Nat} : ixN n (k : Int) = if k < n then some k else none := by
  unfold ixN
  by_cases h : k < n
  · simp [h]
  · simp [h]
@[simp] theorem ixN_0 {n : Nat} : ixN n 0 = if 0 < n then some 0 else none := ixN_nat (k := 0)
@[simp] theorem ixN_1 {n : Nat} : ixN n 1 = if 1 < n then some 1 else none := ixN_nat (k := 1)
@[simp] theorem ixN_lit {n k : Nat} : ixN n (no_index (OfNat.ofNat k : Int)) = if (OfNat.ofNat k : Nat) < n then some (OfNat.ofNat k : Nat) else none := ixN_nat (k := k)
@[simp] theorem atI_nat {α : Type} {xs : List α} {k : Nat} : atI xs (k : Int) = xs[k]? := by
  unfold atI
  rw [ixN_nat]
  by_cases h : k < xs.length
  · simp [h]
  · simp [h]
@[simp] theorem atI_0 {α : Type} {xs : List α} : atI xs 0 = xs[0]? := atI_nat (k := 0)
@[simp] theorem atI_1 {α : Type} {xs : List α} : atI xs 1 = xs[1]? := atI_nat (k := 1)
@[simp] theorem atI_lit {α : Type} {xs : List α} {k : Nat} : atI xs (no_index (OfNat.ofNat k : Int)) = xs[(OfNat.ofNat k : Nat)]? := atI_nat (k := k)
def sel {α : Type} (b : Bool) (x y : α) : α := match b with
  | true => x
  | false => y
@[simp] theorem sel_t {α : Type} {x y : α} : sel true x y = x := (rfl)
@[simp] theorem sel_f {α : Type} {x y : α} : sel false x y = y := (rfl)
@[simp] theorem kNotT_b {b : Bool} {env : E} : kNotT (some (.ok b env)) = some (.ok (!b) env) := by cases b <;> rfl
@[simp] theorem kAndT_b {g : FT} {b : Bool} {env : E} : kAndT g (some (.ok b env)) = sel b (g env) (some (.ok false env)) := by cases b <;> rfl
@[simp] theorem kOrT_b {g : FT} {b : Bool} {env : E} : kOrT g (some (.ok b env)) = sel b (some (.ok true env)) (g env) := by cases b <;> rfl
@[simp] theorem kAnd1_b {g : FE} {b : Bool} {env : E} : kAnd1 g env (some b) = sel b (g env) (some (.ok (.tm (.fz (.bl false))) env)) := by cases b <;> rfl
@[simp] theorem kOr1_b {g : FE} {b : Bool} {env : E} : kOr1 g env (some b) = sel b (some (.ok (.tm (.fz (.bl true))) env)) (g env) := by cases b <;> rfl
@[simp] theorem kCh2_c {q : Int → Int → Bool} {j k : Int} {env : E} {b : Bool} : kCh2 q j (cE (.int k)) env b = some (.ok (.tm (.fz (.bl (b && q j k)))) env) := by cases b <;> rfl
def kCh2z (q : Int → Int → Bool) (j : Int) (fc : FE) (env : E) (b : Bool) : Option (Out Av) := kCh2 q j fc env b
@[simp] theorem kCh2_v {q : Int → Int → Bool} {j : Int} {i : Nat} {env : E} {b : Bool} : kCh2 q j (vE i) env b = match env[i]? with
    | some (some (.fz (.int k))) => some (.ok (.tm (.fz (.bl (b && q j k)))) env)
    | _ => kCh2z q j (vE i) env b := by
  split
  · rename_i k e
    cases b
    · rfl
    · simp [e]
  · rfl
@[simp] theorem ite_ok1 {b c : Bool} {env : E} : (sel b (some (Out.ok c env)) (some (Out.ok false env)) = some (Out.ok (b && c) env)) := by cases b <;> rfl
@[simp] theorem ite_ok2 {b c : Bool} {env : E} : (sel b (some (Out.ok true env)) (some (Out.ok c env)) = some (Out.ok (b || c) env)) := by cases b <;> rfl
@[simp] theorem ite_ok3 {b c : Bool} {env : E} : (sel b (some (Out.ok (Av.tm (.fz (.bl c))) env)) (some (Out.ok (Av.tm (.fz (.bl false))) env)) = some (Out.ok (Av.tm (.fz (.bl (b && c)))) env)) := by cases b <;> rfl
@[simp] theorem ite_ok4 {b c : Bool} {env : E} : (sel b (some (Out.ok (Av.tm (.fz (.bl true))) env)) (some (Out.ok (Av.tm (.fz (.bl c))) env)) = some (Out.ok (Av.tm (.fz (.bl (b || c)))) env)) := by cases b <;> rfl
@[simp] theorem ev_sl01 {m : M} {i : Int} : sl01 [m, .fz (.int i)] = kG [some m, some (.fz (.int i))] (sliceM m none (some i)) := (rfl)
@[simp] theorem ev_sl10 {m : M} {i : Int} : sl10 [m, .fz (.int i)] = kG [some m, some (.fz (.int i))] (sliceM m (some i) none) := (rfl)
@[simp] theorem ev_sl00 {m : M} : sl00 [m] = kG [some m] (sliceM m none none) := (rfl)
@[simp] theorem ev_slS {s : Str} {lo hi : Option Int} : sliceM (.fz (.str s)) lo hi = if s.length ≤ sizeLine then some (.fz (.str (cutS s lo hi))) else none := (rfl)
@[simp] theorem ev_slT {ds : List D} {lo hi : Option Int} : sliceM (.fz (.tup ds)) lo hi = some (.fz (.tup (cutL ds lo hi))) := (rfl)
@[simp] theorem ev_slZ {ns : List Int} {lo hi : Option Int} : sliceM (.fz (.scr ns)) lo hi = some (.lst ((cutL ns lo hi).map fun n => .fz (.int n))) := (rfl)
@[simp] theorem ev_slL {ds : List D} {lo hi : Option Int} : sliceM (.fz (.lst ds)) lo hi = some (.lst ((cutL ds lo hi).map .fz)) := (rfl)
@[simp] theorem ev_slM {ms : List M} {lo hi : Option Int} : sliceM (.lst ms) lo hi = match unfz ms with
    | some ds => some (.lst ((cutL ds lo hi).map .fz))
    | none => none := (rfl)
theorem cutL_to {α : Type} {xs : List α} {i : Int} (h : 0 ≤ i) : cutL xs none (some i) = xs.take i.toNat := by
  have e : ¬ i < 0 := by omega
  simp only [cutL, HT.sIx, e, if_false, List.drop_zero, Nat.sub_zero]
  rw [Nat.min_comm, ← List.take_take]
  exact List.take_of_length_le (by simp; omega)
theorem cutL_from {α : Type} {xs : List α} {i : Int} (h : 0 ≤ i) : cutL xs (some i) none = xs.drop i.toNat := by
  have e : ¬ i < 0 := by omega
  simp only [cutL, HT.sIx, e, if_false]
  by_cases hl : i.toNat ≤ xs.length
  · rw [Nat.min_eq_left hl, List.take_of_length_le (by simp)]
  · rw [Nat.min_eq_right (by omega), List.drop_of_length_le (Nat.le_refl _), List.drop_of_length_le (by omega)]
    simp
/-- an index within -/
theorem atI_at {α : Type} {xs : List α} {i : Int} (h0 : 0 ≤ i) (h : i < xs.length) : ∃ x, xs[i.toNat]? = some x ∧ atI xs i = some x := by
  have hl : i.toNat < xs.length := by omega
  refine ⟨xs[i.toNat], by simp [hl], ?_⟩
  simp [atI, ixN, h0, h, hl]
theorem atI_mem {α : Type} {xs : List α} {i : Int} (h0 : 0 ≤ i) (h : i < xs.length) : ∃ x, x ∈ xs ∧ atI xs i = some x := by
  obtain ⟨x, e, e2⟩ := atI_at h0 h
  exact ⟨x, List.mem_of_getElem? e, e2⟩
theorem bools_map (f : D → Bool) : ∀ (ds : List D), bools (ds.map fun d => .bl (f d)) = some (ds.map f)
  | [] => rfl
  | d :: ds => by simp only [List.map_cons, bools, bools_map f ds]
theorem all_map (f : D → Bool) (ds : List D) : allM true (.lst (ds.map fun d => .fz (.bl (f d)))) = some (.fz (.bl (ds.all f))) := by
  have e : (ds.map fun d => M.fz (.bl (f d))) = (ds.map fun d => D.bl (f d)).map M.fz := by rw [List.map_map]; rfl
  unfold allM
  rw [e]
  simp only [lstD, unfz_map, bools_map, if_true]
  rw [List.all_map]
  rfl
theorem comp_list {α : Type} {g : FG} {ft : FT} {fe : FE} {own : List Nat} (enc : α → D) (f : α → M) (env : E) : ∀ (xs : List α), (∀ x ∈ xs, ∃ env1 env2, g (.fz (enc x)) env = some env1 ∧ ft env1 = some (.ok true env1) ∧ fe env1 = some (.ok (.tm (f x)) env2) ∧ wipeE env2 own = env) →
    compD g ft fe own (xs.map enc) env = some (xs.map f, env)
  | [], _ => rfl
  | x :: xs, h => by
    obtain ⟨env1, env2, e1, e2, e3, e4⟩ := h x (List.mem_cons_self ..)
    rw [List.map_cons, compD, e1]
    simp only [e2, e3, e4, comp_list enc f env xs fun d hd => h d (List.mem_cons_of_mem _ hd), List.map_cons]
theorem bools_list {α : Type} (f : α → Bool) : ∀ (xs : List α), bools (xs.map fun x => .bl (f x)) = some (xs.map f)
  | [] => rfl
  | d :: ds => by simp only [List.map_cons, bools, bools_list f ds]
@[simp] theorem all_list {α : Type} (f : α → Bool) (xs : List α) : allM true (.lst (xs.map fun x => .fz (.bl (f x)))) = some (.fz (.bl (xs.all f))) := by
  have e : (xs.map fun x => M.fz (.bl (f x))) = (xs.map fun x => D.bl (f x)).map M.fz := by rw [List.map_map]; rfl
  unfold allM
  rw [e]
  simp only [lstD, unfz_map, bools_list, if_true]
  rw [List.all_map]
  rfl
def Nx (P : E → Prop) (o : Option Fl) : Prop := match o with
  | some (.nx env) => P env
  | some (.ct env) => P env
  | _ => False
@[simp] theorem Nx_nx {P : E → Prop} {env : E} : Nx P (some (.nx env)) = P env := (rfl)
@[simp] theorem Nx_ct {P : E → Prop} {env : E} : Nx P (some (.ct env)) = P env := (rfl)
def Stp (fb : FS) (P : E → Prop) (o : Option E) : Prop := match o with
  | some env => Nx P (fb env)
  | none => False
@[simp] theorem Stp_some {fb : FS} {P : E → Prop} {env : E} : Stp fb P (some env) = Nx P (fb env) := (rfl)
theorem loop_list {α : Type} {g : FG} {fb : FS} (enc : α → D) (I : Nat → E → Prop) : ∀ (xs : List α) (k : Nat) (env : E), (∀ (j : Nat) (x : α) (env : E), xs[j]? = some x → I (k + j) env → Stp fb (I (k + j + 1)) (g (.fz (enc x)) env)) → I k env →
    ∃ env', loopD g fb (xs.map enc) env = some (.nx env') ∧ I (k + xs.length) env'
  | [], k, env, _, h => ⟨env, rfl, h⟩
  | d :: ds, k, env, hs, h => by
    have q := hs 0 d env rfl h
    rw [List.map_cons, loopD]
    cases e1 : g (.fz (enc d)) env with
    | none => rw [e1] at q; exact q.elim
    | some env1 =>
      rw [e1, Stp_some] at q
      simp only []
      have ih : ∀ env2, I (k + 1) env2 → ∃ env', loopD g fb (ds.map enc) env2 = some (.nx env') ∧ I (k + (d :: ds).length) env' := fun env2 h2 => by
        obtain ⟨env', e, h'⟩ := loop_list enc I ds (k + 1) env2 (fun j x env hx hI => by
          have z := hs (j + 1) x env (by simpa using hx) (by rw [show k + (j + 1) = k + 1 + j by omega]; exact hI)
          rw [show k + 1 + j + 1 = k + (j + 1) + 1 by omega]; exact z) h2
        exact ⟨env', e, by rw [List.length_cons, show k + (ds.length + 1) = k + 1 + ds.length by omega]; exact h'⟩
      cases e2 : fb env1 with
      | none => rw [e2] at q; exact q.elim
      | some fl =>
        rw [e2] at q
        cases fl with
        | nx env2 => exact ih env2 q
        | ct env2 => exact ih env2 q
        | bk env2 => exact q.elim
        | rt m env2 => exact q.elim
        | ex x env2 => exact q.elim
/-- over range(n) -/
theorem loop_range {g : FG} {fb : FS} (I : Nat → E → Prop) (n : Nat) (env : E) (hs : ∀ (j : Nat) (env : E), j < n → I j env → Stp fb (I (j + 1)) (g (.fz (.int (j : Nat))) env)) (h : I 0 env) :
    ∃ env', loopD g fb (rangeD 0 (n : Int)) env = some (.nx env') ∧ I n env' := by
  have e : rangeD 0 (n : Int) = (List.range n).map fun j => D.int (j : Nat) := by
    unfold rangeD
    simp
  rw [e]
  obtain ⟨env', e1, h1⟩ := loop_list (fun j : Nat => D.int (j : Nat)) I (List.range n) 0 env (fun j x env hx hI => by
    rw [Nat.zero_add] at hI ⊢
    obtain ⟨hj, ex⟩ := List.getElem?_eq_some_iff.mp hx
    simp at hj ex
    subst ex
    exact hs j env hj hI) h
  exact ⟨env', e1, by simpa using h1⟩
def kApp {α : Type} (o p : Option (List α)) : Option (List α) := match o, p with
  | some a, some b => some (a ++ b)
  | _, _ => none
@[simp] theorem kApp_0 {α : Type} {a b : List α} : kApp (some a) (some b) = some (a ++ b) := (rfl)
@[simp] theorem unfz_app {ns : List M} : ∀ {ms : List M}, unfz (ms ++ ns) = kApp (unfz ms) (unfz ns)
  | [] => by cases e : unfz ns <;> simp [e, kApp]
  | m :: ms => by
    cases m with
    | fz d =>
      rw [List.cons_append, ev_unfz1, ev_unfz1, unfz_app (ms := ms)]
      cases unfz ms <;> cases unfz ns <;> rfl
    | lst xs => cases e : unfz ns <;> rfl
    | tup xs => cases e : unfz ns <;> rfl
    | dK xs => cases e : unfz ns <;> rfl
    | dT xs => cases e : unfz ns <;> rfl
    | ins C fs => cases e : unfz ns <;> rfl
@[simp] theorem frzs_app {ns : List M} : ∀ {ms : List M}, frzs (ms ++ ns) = kApp (frzs ms) (frzs ns)
  | [] => by cases e : frzs ns <;> simp [e, kApp]
  | m :: ms => by
    rw [List.cons_append, ev_frzs1, ev_frzs1, frzs_app (ms := ms)]
    cases frz m <;> cases frzs ms <;> cases frzs ns <;> rfl
@[simp] theorem frzs_mapf {α : Type} (f : α → D) (xs : List α) : frzs (xs.map fun x => M.fz (f x)) = some (xs.map f) := by
  have e : (xs.map fun x => M.fz (f x)) = (xs.map f).map M.fz := by rw [List.map_map]; rfl
  rw [e, ev_frzm]
@[simp] theorem unfz_mapf {α : Type} (f : α → D) (xs : List α) : unfz (xs.map fun x => M.fz (f x)) = some (xs.map f) := by
  have e : (xs.map fun x => M.fz (f x)) = (xs.map f).map M.fz := by rw [List.map_map]; rfl
  rw [e, ev_unfzm]
@[simp] theorem frzs_mapc {α : Type} (f : α → D) (xs : List α) : frzs (xs.map (M.fz ∘ f)) = some (xs.map f) := frzs_mapf f xs
@[simp] theorem unfz_mapc {α : Type} (f : α → D) (xs : List α) : unfz (xs.map (M.fz ∘ f)) = some (xs.map f) := unfz_mapf f xs
@[simp] theorem itemsA_lst {ms : List M} : itemsA (.lst ms) = frzs ms := by
  unfold itemsA
  rw [ev_frz2]
  cases frzs ms <;> rfl
@[simp] theorem itemsA_str {x : Str} : itemsA (.fz (.str x)) = some (x.cps.toList.map fun c => .str ⟨#[c]⟩) := by simp [itemsA]
@[simp] theorem itemsA_tup {ds : List D} : itemsA (.fz (.tup ds)) = some ds := by simp [itemsA]
@[simp] theorem itemsE_tup {ds : List D} : itemsE 0 (.fz (.tup ds)) = some (enumD 0 ds) := by simp [itemsE]
end Ink
set_option Elab.async false
set_option linter.all false
set_option maxRecDepth 100000
namespace Ink
open PySem L2
def keyM : M → Option Key
  | .fz (.int i) => some (.inl i)
  | .fz (.str x) => some (.inr x)
  | _ => none
def valK {α : Type} (kvs : List (Key × α)) (k : Key) : Option α := (kvs.find? fun kv => decide (kv.1 = k)).map (·.2)
def dctM : M → Option (List (Key × M))
  | .dK kvs => some kvs
  | .fz (.dK kvs) => some (kvs.map fun kv => (kv.1, .fz kv.2))
  | _ => none
theorem keyM_rep {K : PySem.W.Frag} {F H : Hp} {m : M} {v : V} {fp : List Addr} {k : Key} (r : RepM K F H m v fp) (h : keyM m = some k) : v = kV k := by
  unfold keyM at h
  split at h
  · cases h
    exact rep_int (repm_fz r)
  · cases h
    exact rep_str (repm_fz r)
  · cases h
theorem RepMs.ofReps {K : PySem.W.Frag} {F H : Hp} : ∀ {vs : List V} {ds : List D}, Reps K F vs ds → RepMs K F H (ds.map M.fz) vs []
  | _, _, .nil => .nil
  | _, _, .cons a b => .cons (fp := []) (fq := []) (RepM.fz a) (RepMs.ofReps b) fun b hb => by cases hb
theorem dct_rep {K : PySem.W.Frag} {F H : Hp} {m : M} {v : V} {fp : List Addr} {ms : List (Key × M)} (s : Sub F H) (r : RepM K F H m v fp) (h : dctM m = some ms) :
    ∃ a kvs fp', v = .ref a ∧ H a = some (.dK kvs) ∧ kvs.map (·.1) = ms.map (·.1) ∧ RepMs K F H (ms.map (·.2)) (kvs.map (·.2)) fp' := by
  unfold dctM at h
  split at h
  · cases h
    cases r with
    | dK a b c d e => exact ⟨_, _, _, rfl, a, c, d⟩
  · cases h
    cases repm_fz r with
    | dK a b c =>
      refine ⟨_, _, [], rfl, s _ _ a, by rw [b, List.map_map]; rfl, ?_⟩
      have q := RepMs.ofReps (H := H) c
      rw [List.map_map] at q ⊢
      exact q
  · cases h
theorem val_rep {K : PySem.W.Frag} {F H : Hp} {k : Key} : ∀ {ms : List (Key × M)} {kvs : List (Key × V)} {fp : List Addr}, kvs.map (·.1) = ms.map (·.1) → RepMs K F H (ms.map (·.2)) (kvs.map (·.2)) fp →
    (valK ms k = none ∧ valV kvs k = none) ∨ ∃ m v fq, valK ms k = some m ∧ valV kvs k = some v ∧ RepM K F H m v fq ∧ ∀ b ∈ fq, b ∈ fp
  | [], [], _, _, _ => .inl ⟨rfl, rfl⟩
  | [], _ :: _, _, h, _ => by simp at h
  | _ :: _, [], _, h, _ => by simp at h
  | (k1, m) :: ms, (k2, v) :: kvs, fp, h, r => by
    simp only [List.map_cons, List.cons.injEq] at h r
    obtain ⟨rfl, h⟩ := h
    cases r with
    | cons a b c =>
      by_cases e : k2 = k
      · refine .inr ⟨m, v, _, by simp [valK, e], valV_pos e, a, fun b hb => List.mem_append_left _ hb⟩
      · have e1 : valK ((k2, m) :: ms) k = valK ms k := by simp [valK, e]
        rw [e1, valV_neg e]
        rcases val_rep h b with q | ⟨m1, v1, fq, q1, q2, q3, q4⟩
        · exact .inl q
        · exact .inr ⟨m1, v1, fq, q1, q2, q3, fun b hb => List.mem_append_right _ (q4 b hb)⟩
def inA (neg : Bool) (a b : M) : Option M := match dctM b with
  | some ms => match keyM a with
    | some k => some (.fz (.bl (if neg then !(valK ms k).isSome else (valK ms k).isSome)))
    | none => none
  | none => inM neg a b
section
variable {X : Cx}
theorem op_inD (hu : X.A.units + 64 < cLine) : OpR X (compareOp .In) (fun x y H Q => ∃ a o, y = .ref a ∧ DGet H a x o ∧ Q (.bl o.isSome) H) := by
  intro pins s σ H x y v u Q I rx ry h
  obtain ⟨a, o, rfl, g, q⟩ := h
  obtain rfl : u = Value.ref a := ry
  exact d_in (by omega) I g rx fun s3 I3 => ⟨.bl o.isSome, H, I3, rfl, q⟩
theorem op_ninD (hu : X.A.units + 64 < cLine) : OpR X (compareOp .NotIn) (fun x y H Q => ∃ a o, y = .ref a ∧ DGet H a x o ∧ Q (.bl (!o.isSome)) H) := by
  intro pins s σ H x y v u Q I rx ry h
  obtain ⟨a, o, rfl, g, q⟩ := h
  obtain rfl : u = Value.ref a := ry
  exact d_notIn (by omega) I g rx fun s3 I3 => ⟨.bl (!o.isSome), H, I3, rfl, q⟩
theorem ix_dict (hu : X.A.units + 64 < cLine) : IxR X (fun x y H Q => ∃ a v, x = .ref a ∧ DGet H a y (some v) ∧ Q v H) := by
  intro value slice pins s σ H x y v u Q I rx ry h hs
  obtain ⟨a, w, rfl, g, q⟩ := h
  obtain rfl : v = Value.ref a := rx
  exact PyProof.Rows.tail_any (dict_typeIs I g) PySem.F.slot_dict_getitem.lookup (d_getItem (by omega) I g ry fun w' s3 I3 rw' => ⟨w, H, I3, rw', q⟩) hs
end
theorem op2_inA {X : Cx} {rs rq : R2} (K : PySem.W.Frag) (hs : ∀ c z H Q, Q (.bl (decide (c ∈ (z : Str).cps.toList))) H → rs (.str ⟨#[c]⟩) (.str z) H Q) (hq : ∀ x p xs H Q, (SqL K H p xs ∨ SqT K H p xs) → flatV x = true → xs.all flatV = true → Q (.bl (inV x xs)) H → rq x (.ref p) H Q) :
    Op2 K (g2 (inA false)) (fun x y H Q => (rs x y H Q ∨ rq x y H Q) ∨ ∃ a o, y = .ref a ∧ DGet H a x o ∧ Q (.bl (o.isSome)) H) := fun x y H Q Ex p => by
  obtain ⟨F, a, b, m, fps, R, r1, r2, e, p⟩ := g2_at p
  unfold inA at e
  split at e
  · rename_i ms hd
    split at e
    · rename_i k hk
      cases e
      obtain ⟨ad, kvs, fp', rfl, hH, hk2, rs2⟩ := dct_rep R.fr r2 hd
      refine .inr ⟨ad, valV kvs k, rfl, .inl ⟨kvs, k, .inl hH, keyM_rep r1 hk, rfl⟩, ?_⟩
      have q := sp_flat R (Rep.bl _) p
      rcases val_rep (k := k) hk2 rs2 with ⟨q1, q2⟩ | ⟨m1, v1, fq, q1, q2, _, _⟩
      · rw [q1] at q; rw [q2]; exact q
      · rw [q1] at q; rw [q2]; exact q
    · cases e
  · unfold inM at e
    cases ek : inB a b with
    | none => rw [ek] at e; cases e
    | some k =>
      rw [ek] at e; cases e
      have q := sp_flat R (Rep.bl _) p
      rcases inB_at R.fr r1 r2 ek with ⟨c, z, rfl, rfl, rfl⟩ | ⟨pp, xs, rfl, h2, h3, h4, rfl⟩
      · exact .inl (.inl (hs c z H Q q))
      · exact .inl (.inr (hq x pp xs H Q h2 h3 h4 q))
theorem op2_ninA {X : Cx} {rs rq : R2} (K : PySem.W.Frag) (hs : ∀ c z H Q, Q (.bl (!decide (c ∈ (z : Str).cps.toList))) H → rs (.str ⟨#[c]⟩) (.str z) H Q) (hq : ∀ x p xs H Q, (SqL K H p xs ∨ SqT K H p xs) → flatV x = true → xs.all flatV = true → Q (.bl (!inV x xs)) H → rq x (.ref p) H Q) :
    Op2 K (g2 (inA true)) (fun x y H Q => (rs x y H Q ∨ rq x y H Q) ∨ ∃ a o, y = .ref a ∧ DGet H a x o ∧ Q (.bl (!o.isSome)) H) := fun x y H Q Ex p => by
  obtain ⟨F, a, b, m, fps, R, r1, r2, e, p⟩ := g2_at p
  unfold inA at e
  split at e
  · rename_i ms hd
    split at e
    · rename_i k hk
      cases e
      obtain ⟨ad, kvs, fp', rfl, hH, hk2, rs2⟩ := dct_rep R.fr r2 hd
      refine .inr ⟨ad, valV kvs k, rfl, .inl ⟨kvs, k, .inl hH, keyM_rep r1 hk, rfl⟩, ?_⟩
      have q := sp_flat R (Rep.bl _) p
      rcases val_rep (k := k) hk2 rs2 with ⟨q1, q2⟩ | ⟨m1, v1, fq, q1, q2, _, _⟩
      · rw [q1] at q; rw [q2]; exact q
      · rw [q1] at q; rw [q2]; exact q
    · cases e
  · unfold inM at e
    cases ek : inB a b with
    | none => rw [ek] at e; cases e
    | some k =>
      rw [ek] at e; cases e
      have q := sp_flat R (Rep.bl _) p
      rcases inB_at R.fr r1 r2 ek with ⟨c, z, rfl, rfl, rfl⟩ | ⟨pp, xs, rfl, h2, h3, h4, rfl⟩
      · exact .inl (.inl (hs c z H Q q))
      · exact .inl (.inr (hq x pp xs H Q h2 h3 h4 q))
def ixA (a b : M) : Option M := match dctM a with
  | some ms => match keyM b with
    | some k => match valK ms k with
      | some (.fz d) => some (.fz d)
      | _ => none
    | none => none
  | none => ixM a b
theorem op2_ixA {K : PySem.W.Frag} : Op2 K (g2 ixA) (fun x y H Q => rIx K x y H Q ∨ ∃ a v, x = .ref a ∧ DGet H a y (some v) ∧ Q v H) := fun x y H Q Ex p => by
  obtain ⟨F, a, b, m, fps, R, r1, r2, e, p⟩ := g2_at p
  unfold ixA at e
  split at e
  · rename_i ms hd
    split at e
    · rename_i k hk
      split at e
      · rename_i d hv
        cases e
        obtain ⟨ad, kvs, fp', rfl, hH, hk2, rs2⟩ := dct_rep R.fr r1 hd
        rcases val_rep (k := k) hk2 rs2 with ⟨q1, q2⟩ | ⟨m1, v1, fq, q1, q2, rr, _⟩
        · rw [hv] at q1; cases q1
        · rw [hv] at q1; cases q1
          exact .inr ⟨ad, v1, rfl, .inl ⟨kvs, k, .inl hH, keyM_rep r2 hk, q2.symm⟩, sp_flat R (repm_fz rr) p⟩
      · cases e
    · cases e
  · refine .inl (op2_ix x y H Q Ex ⟨F, [a, b], fps, R, ?_⟩)
    rw [show ixG [a, b] = some (.ok m [some a, some b]) by show g2 ixM [a, b] = _; simp only [g2, e]]
    exact p
end Ink
set_option Elab.async false
set_option linter.all false
set_option maxRecDepth 100000
namespace Ink
open PySem L2
section
variable {κ : Type} [DecidableEq κ]
def hasK {α : Type} (kvs : List (κ × α)) (k : κ) : Bool := kvs.any fun kv => decide (kv.1 = k)
def putM (kvs : List (κ × M)) (k : κ) (m : M) : List (κ × M) := if hasK kvs k then kvs.map (fun kv => if kv.1 = k then (kv.1, m) else kv) else kvs ++ [(k, m)]
theorem hasK_keys {α β : Type} {k : κ} : ∀ {xs : List (κ × α)} {ys : List (κ × β)}, xs.map (·.1) = ys.map (·.1) → hasK xs k = hasK ys k
  | [], [], _ => rfl
  | [], _ :: _, h => by simp at h
  | _ :: _, [], h => by simp at h
  | x :: xs, y :: ys, h => by
    simp only [List.map_cons, List.cons.injEq] at h
    have ih := hasK_keys (k := k) h.2
    unfold hasK at ih ⊢
    simp only [List.any_cons, h.1, ih]
/-- a key that stands there gets a plain thing -/
theorem put_old {K : PySem.W.Frag} {F H : Hp} {k : κ} {d : D} {v : V} (rd : Rep K F v d) : ∀ {ms : List (κ × M)} {kvs : List (κ × V)} {fp : List Addr}, kvs.map (·.1) = ms.map (·.1) → RepMs K F H (ms.map (·.2)) (kvs.map (·.2)) fp →
    ∃ fq, (∀ b ∈ fq, b ∈ fp) ∧ (kvs.map fun kv => if kv.1 = k then (kv.1, v) else kv).map (·.1) = (ms.map fun kv => if kv.1 = k then (kv.1, M.fz d) else kv).map (·.1) ∧ RepMs K F H ((ms.map fun kv => if kv.1 = k then (kv.1, M.fz d) else kv).map (·.2)) ((kvs.map fun kv => if kv.1 = k then (kv.1, v) else kv).map (·.2)) fq
  | [], [], fp, _, r => ⟨fp, fun _ h => h, rfl, r⟩
  | [], _ :: _, _, h, _ => by simp at h
  | _ :: _, [], _, h, _ => by simp at h
  | (k1, m) :: ms, (k2, w) :: kvs, fp, h, r => by
    simp only [List.map_cons, List.cons.injEq] at h r
    obtain ⟨rfl, h⟩ := h
    cases r with
    | cons a b c =>
      obtain ⟨fq, s, e, r2⟩ := put_old rd (k := k) h b
      by_cases q : k2 = k
      · refine ⟨[] ++ fq, fun b hb => List.mem_append_right _ (s b hb), ?_, ?_⟩
        · simp only [List.map_cons, q, if_true, e]
        · simp only [List.map_cons, q, if_true]
          exact .cons (RepM.fz rd) r2 fun b hb => by cases hb
      · rename_i f1 f2
        refine ⟨f1 ++ fq, fun b hb => ?_, ?_, ?_⟩
        · rcases List.mem_append.mp hb with z | z
          · exact List.mem_append_left _ z
          · exact List.mem_append_right _ (s b z)
        · simp only [List.map_cons, if_neg q, e]
        · simp only [List.map_cons, if_neg q]
          exact .cons a r2 fun b hb z => c b hb (s b z)
/-- a key that does not stand there: anything that is owned apart -/
theorem put_new {K : PySem.W.Frag} {F H : Hp} {k : κ} {m : M} {v : V} {fm : List Addr} {ms : List (κ × M)} {kvs : List (κ × V)} {fp : List Addr} (h : kvs.map (·.1) = ms.map (·.1)) (r : RepMs K F H (ms.map (·.2)) (kvs.map (·.2)) fp) (rm : RepM K F H m v fm) (d : ∀ b ∈ fp, b ∉ fm) :
    (kvs ++ [(k, v)]).map (·.1) = (ms ++ [(k, m)]).map (·.1) ∧ RepMs K F H ((ms ++ [(k, m)]).map (·.2)) ((kvs ++ [(k, v)]).map (·.2)) (fp ++ fm) := by
  refine ⟨by simp [h], ?_⟩
  rw [List.map_append, List.map_append]
  have q : RepMs K F H [m] [v] (fm ++ []) := .cons rm .nil fun b _ z => by cases z
  rw [List.append_nil] at q
  exact r.append q d
def okPut (kvs : List (κ × M)) (k : κ) (v : M) : Bool := decide (kvs.length < sizeLine) && (!hasK kvs k || isFz v)
/-- the dict behind d[k] = v -/
theorem put_rep {K : PySem.W.Frag} {F H : Hp} {k : κ} {m : M} {v : V} {fm : List Addr} {ms : List (κ × M)} {kvs : List (κ × V)} {fp : List Addr} (h : kvs.map (·.1) = ms.map (·.1)) (r : RepMs K F H (ms.map (·.2)) (kvs.map (·.2)) fp) (rm : RepM K F H m v fm) (d : ∀ b ∈ fp, b ∉ fm) (ok : okPut ms k m = true) :
    ∃ fq, (∀ b ∈ fq, b ∈ fp ∨ b ∈ fm) ∧ (putK kvs k v).map (·.1) = (putM ms k m).map (·.1) ∧ RepMs K F H ((putM ms k m).map (·.2)) ((putK kvs k v).map (·.2)) fq := by
  have hh : hasK kvs k = hasK ms k := hasK_keys h
  unfold putK putM
  have e1 : (kvs.any fun kv => decide (kv.1 = k)) = hasK ms k := hh
  rw [e1]
  cases hk : hasK ms k with
  | false =>
    obtain ⟨a, b⟩ := put_new (k := k) h r rm d
    exact ⟨fp ++ fm, fun b hb => List.mem_append.mp hb, by simpa using a, by simpa using b⟩
  | true =>
    unfold okPut at ok
    rw [hk] at ok
    simp at ok
    cases m with
    | fz dd =>
      obtain ⟨fq, s, a, b⟩ := put_old (repm_fz rm) (k := k) h r
      exact ⟨fq, fun b hb => .inl (s b hb), by simpa using a, by simpa using b⟩
    | lst _ => simp [isFz] at ok
    | tup _ => simp [isFz] at ok
    | dK _ => simp [isFz] at ok
    | dT _ => simp [isFz] at ok
    | ins _ _ => simp [isFz] at ok
end
end Ink
set_option Elab.async false
set_option linter.all false
set_option maxRecDepth 100000
namespace Ink
open PySem L2
mutual
/-- no owned tuple within -/
def noT : M → Bool
  | .fz _ => true
  | .lst ms => noTs ms
  | .tup _ => false
  | .dK kvs => noTK kvs
  | .dT kvs => noTT kvs
  | .ins _ fs => noTF fs
def noTs : List M → Bool
  | [] => true
  | m :: ms => noT m && noTs ms
def noTK : List (Key × M) → Bool
  | [] => true
  | (_, m) :: ms => noT m && noTK ms
def noTT : List (List Key × M) → Bool
  | [] => true
  | (_, m) :: ms => noT m && noTT ms
def noTF : List (Str × M) → Bool
  | [] => true
  | (_, m) :: ms => noT m && noTF ms
end
theorem noTK_vals : ∀ kvs : List (Key × M), noTK kvs = noTs (kvs.map (·.2))
  | [] => by simp [noTK, noTs]
  | (k, m) :: r => by simp [noTK, noTs, noTK_vals r]
theorem noTT_vals : ∀ kvs : List (List Key × M), noTT kvs = noTs (kvs.map (·.2))
  | [] => by simp [noTT, noTs]
  | (k, m) :: r => by simp [noTT, noTs, noTT_vals r]
theorem noTF_vals : ∀ kvs : List (Str × M), noTF kvs = noTs (kvs.map (·.2))
  | [] => by simp [noTF, noTs]
  | (k, m) :: r => by simp [noTF, noTs, noTF_vals r]
mutual
/-- tuples, numbers, texts alone -/
def noL : D → Bool
  | .non => true
  | .bl _ => true
  | .int _ => true
  | .str _ => true
  | .tup ds => noLs ds
  | .lst _ => false
  | .dK _ => false
  | .dT _ => false
  | .scr _ => false
  | .ins _ _ => false
  | .lam _ => false
  | .dLK _ => false
  | .dLT _ => false
  | .nst _ _ => false
  | .emp => true
  | .exc _ _ => true
def noLs : List D → Bool
  | [] => true
  | d :: ds => noL d && noLs ds
end
mutual
def noLM : M → Bool
  | .fz d => noL d
  | .lst ms => noLMs ms
  | .tup ms => noLMs ms
  | .dK kvs => noLMK kvs
  | .dT kvs => noLMT kvs
  | .ins _ fs => noLMF fs
def noLMs : List M → Bool
  | [] => true
  | m :: ms => noLM m && noLMs ms
def noLMK : List (Key × M) → Bool
  | [] => true
  | (_, m) :: ms => noLM m && noLMK ms
def noLMT : List (List Key × M) → Bool
  | [] => true
  | (_, m) :: ms => noLM m && noLMT ms
def noLMF : List (Str × M) → Bool
  | [] => true
  | (_, m) :: ms => noLM m && noLMF ms
end
theorem noLMK_vals : ∀ kvs : List (Key × M), noLMK kvs = noLMs (kvs.map (·.2))
  | [] => by simp [noLMK, noLMs]
  | (k, m) :: r => by simp [noLMK, noLMs, noLMK_vals r]
theorem noLMT_vals : ∀ kvs : List (List Key × M), noLMT kvs = noLMs (kvs.map (·.2))
  | [] => by simp [noLMT, noLMs]
  | (k, m) :: r => by simp [noLMT, noLMs, noLMT_vals r]
theorem noLMF_vals : ∀ kvs : List (Str × M), noLMF kvs = noLMs (kvs.map (·.2))
  | [] => by simp [noLMF, noLMs]
  | (k, m) :: r => by simp [noLMF, noLMs, noLMF_vals r]
/-- not read as a tuple -/
def notTup (o : HO) : Prop := ∀ xs, o ≠ .tup xs ∧ ∀ q, o ≠ .frz q (.tup xs)
theorem RepM.kinds {K : PySem.W.Frag} {F H : Hp} {m : M} {v : V} {fp : List Addr} (h : RepM K F H m v fp) (ht : noT m = true) : ∀ b ∈ fp, ∃ o, H b = some o ∧ notTup o := by
  refine RepM.rec (K := K) (F := F) (H := H) (motive_1 := fun m v fp _ => noT m = true → ∀ b ∈ fp, ∃ o, H b = some o ∧ notTup o) (motive_2 := fun ms vs fp _ => noTs ms = true → ∀ b ∈ fp, ∃ o, H b = some o ∧ notTup o)
    ?_ ?_ ?_ ?_ ?_ ?_ ?_ ?_ h ht
  · exact fun _ _ b hb => by cases hb
  · exact fun a f _ n ih ht b hb => by
      rcases List.mem_cons.mp hb with rfl | hb
      · exact ⟨_, a, fun xs => ⟨by simp, by simp⟩⟩
      · exact ih (by simpa [noT] using ht) b hb
  · exact fun a _ ih ht b hb => by simp [noT] at ht
  · exact fun a f _ _ n ih ht b hb => by
      rcases List.mem_cons.mp hb with rfl | hb
      · exact ⟨_, a, fun xs => ⟨by simp, by simp⟩⟩
      · exact ih (by simpa [noT, noTK_vals] using ht) b hb
  · exact fun a f _ _ n ih ht b hb => by
      rcases List.mem_cons.mp hb with rfl | hb
      · exact ⟨_, a, fun xs => ⟨by simp, by simp⟩⟩
      · exact ih (by simpa [noT, noTT_vals] using ht) b hb
  · exact fun a f _ _ n ih ht b hb => by
      rcases List.mem_cons.mp hb with rfl | hb
      · exact ⟨_, a, fun xs => ⟨by simp, by simp⟩⟩
      · exact ih (by simpa [noT, noTF_vals] using ht) b hb
  · exact fun _ b hb => by cases hb
  · exact fun _ _ dj i1 i2 ht b hb => by
      rw [noTs] at ht
      simp only [Bool.and_eq_true] at ht
      rcases List.mem_append.mp hb with hb | hb
      · exact i1 ht.1 b hb
      · exact i2 ht.2 b hb
open Classical in
noncomputable def cutF (F : Hp) (B : Addr → Prop) : Hp := fun b => if B b then none else F b
theorem cutF_in {F : Hp} {B : Addr → Prop} {b : Addr} (h : B b) : cutF F B b = none := by unfold cutF; rw [if_pos h]
theorem cutF_out {F : Hp} {B : Addr → Prop} {b : Addr} (h : ¬ B b) : cutF F B b = F b := by unfold cutF; rw [if_neg h]
theorem cutF_some {F : Hp} {B : Addr → Prop} {b : Addr} {o : HO} (h : cutF F B b = some o) : ¬ B b ∧ F b = some o := by
  by_cases q : B b
  · rw [cutF_in q] at h; cases h
  · rw [cutF_out q] at h; exact ⟨q, h⟩
section
variable {K : PySem.W.Frag} {F H : Hp} {B : Addr → Prop}
theorem sqt_cut {p : Addr} {vs : List V} (hB : ∀ b, B b → ∃ o, F b = some o ∧ notTup o) (h : SqT K F p vs) : SqT K (cutF F B) p vs := by
  have nb : ∀ {u : HO}, F p = some u → (¬ notTup u) → ¬ B p := fun e n q => by
    obtain ⟨o, h1, h2⟩ := hB p q
    rw [e] at h1; cases h1
    exact n h2
  rcases h with (h | ⟨o, h⟩) | h
  · exact .inl (.inl (by rw [cutF_out (nb h fun z => (z vs).1 rfl)]; exact h))
  · exact .inl (.inr ⟨o, by rw [cutF_out (nb h fun z => (z vs).2 o rfl)]; exact h⟩)
  · exact .inr h
theorem tup_cut {p : Addr} {vs : List V} (hB : ∀ b, B b → ∃ o, F b = some o ∧ notTup o) (h : F p = some (.tup vs)) : cutF F B p = some (.tup vs) := by
  rw [cutF_out fun q => ?_]; exact h
  obtain ⟨o, h1, h2⟩ := hB p q
  rw [h] at h1; cases h1
  exact (h2 vs).1 rfl
theorem Rep.restr (hB : ∀ b, B b → ∃ o, F b = some o ∧ notTup o) {v : V} {d : D} (h : Rep K F v d) : noL d = true → Rep K (cutF F B) v d :=
  Rep.rec (K := K) (F := F) (motive_1 := fun v d _ => noL d = true → Rep K (cutF F B) v d) (motive_2 := fun vs ds _ => noLs ds = true → Reps K (cutF F B) vs ds)
    (fun _ => .non) (fun b _ => .bl b) (fun i _ => .int i) (fun x _ => .str x) (fun _ _ _ n => by simp [noL] at n) (fun a _ ih n => .tupR (a.imp (tup_cut hB) fun z => ⟨sqt_cut hB z.1, z.2⟩) (ih (by simpa [noL] using n)))
    (fun _ _ _ _ n => by simp [noL] at n) (fun _ _ _ _ n => by simp [noL] at n) (fun _ n => by simp [noL] at n) (fun _ _ _ _ n => by simp [noL] at n) (fun _ _ n => by simp [noL] at n) (fun _ _ _ _ n => by simp [noL] at n) (fun _ _ _ _ n => by simp [noL] at n) (fun _ _ _ _ n => by simp [noL] at n) (fun a _ => .emp (sqt_cut hB a)) (fun _ => .exc)
    (fun _ => .nil) (fun _ _ i1 i2 n => by
      rw [noLs] at n
      simp only [Bool.and_eq_true] at n
      exact .cons (i1 n.1) (i2 n.2)) h
theorem Reps.restr (hB : ∀ b, B b → ∃ o, F b = some o ∧ notTup o) : ∀ {vs : List V} {ds : List D}, Reps K F vs ds → noLs ds = true → Reps K (cutF F B) vs ds
  | _, _, .nil, _ => .nil
  | _, _, .cons a b, n => by
    rw [noLs] at n
    simp only [Bool.and_eq_true] at n
    exact .cons (a.restr hB n.1) (Reps.restr hB b n.2)
theorem cut_none {p : Addr} (h : F p = none) : cutF F B p = none := by
  by_cases q : B p
  · exact cutF_in q
  · rw [cutF_out q]; exact h
theorem RepM.restr (hB : ∀ b, B b → ∃ o, F b = some o ∧ notTup o) {m : M} {v : V} {fp : List Addr} (h : RepM K F H m v fp) : noLM m = true → RepM K (cutF F B) H m v fp :=
  RepM.rec (K := K) (F := F) (H := H) (motive_1 := fun m v fp _ => noLM m = true → RepM K (cutF F B) H m v fp) (motive_2 := fun ms vs fp _ => noLMs ms = true → RepMs K (cutF F B) H ms vs fp)
    (fun r n => .fz (r.restr hB (by simpa [noLM] using n))) (fun a f _ n ih k => .lst a (cut_none f) (ih (by simpa [noLM] using k)) n) (fun {p vs ms fp} a _ ih k => .tup (by
      rw [cutF_out fun q => ?_]
      · exact a
      · obtain ⟨o, h1, h2⟩ := hB p q
        rw [a] at h1; exact (h2 vs).1 (Option.some.inj h1).symm) (ih (by simpa [noLM] using k)))
    (fun a f c _ n ih k => .dK a (cut_none f) c (ih (by simpa [noLM, noLMK_vals] using k)) n) (fun a f c _ n ih k => .dT a (cut_none f) c (ih (by simpa [noLM, noLMT_vals] using k)) n) (fun a f c _ n ih k => .ins a (cut_none f) c (ih (by simpa [noLM, noLMF_vals] using k)) n)
    (fun _ => .nil) (fun _ _ dj i1 i2 n => by
      rw [noLMs] at n
      simp only [Bool.and_eq_true] at n
      exact .cons (i1 n.1) (i2 n.2) dj) h
end
/-- a thing as it is lent -/
def borM (m : M) : Option M := match noT m with
  | true => match frz m with
    | some d => some (.fz d)
    | none => none
  | false => none
def borO : Option M → Option M
  | some m => borM m
  | none => none
def borE (env : E) : E := env.map borO
theorem borM_at {m m' : M} (h : borM m = some m') : ∃ d, m' = .fz d ∧ noT m = true ∧ frz m = some d := by
  unfold borM at h
  split at h
  · rename_i e
    split at h
    · rename_i d ed
      cases h
      exact ⟨d, rfl, e, ed⟩
    · cases h
  · cases h
theorem borE_at {env : E} {i : Nat} {m' : M} (h : (borE env)[i]? = some (some m')) : ∃ m d, env[i]? = some (some m) ∧ m' = .fz d ∧ noT m = true ∧ frz m = some d := by
  unfold borE at h
  rw [List.getElem?_map] at h
  cases e : env[i]? with
  | none => rw [e] at h; cases h
  | some o =>
    rw [e] at h
    cases o with
    | none => simp [borO] at h
    | some m =>
      simp only [Option.map_some, Option.some.injEq, borO] at h
      obtain ⟨d, a, b, c⟩ := borM_at h
      exact ⟨m, d, rfl, a, b, c⟩
def Bor (env : E) (fps : Nat → List Addr) (b : Addr) : Prop := ∃ i m d, b ∈ fps i ∧ env[i]? = some (some m) ∧ noT m = true ∧ frz m = some d
open Classical in
noncomputable def borF (F H : Hp) (env : E) (fps : Nat → List Addr) : Hp := fun b => if Bor env fps b then H b else F b
section
variable {K : PySem.W.Frag} {F H : Hp} {σ : St} {env : E} {fps : Nat → List Addr}
theorem borF_in {b : Addr} (h : Bor env fps b) : borF F H env fps b = H b := by unfold borF; rw [if_pos h]
theorem borF_out {b : Addr} (h : ¬ Bor env fps b) : borF F H env fps b = F b := by unfold borF; rw [if_neg h]
theorem Bor.own {b : Addr} (h : Bor env fps b) : Own fps b := let ⟨i, _, _, hb, _⟩ := h; ⟨i, hb⟩
theorem borF_sub (R : REnv K F H σ env fps) : Sub F (borF F H env fps) := fun b o h => by
  have n : ¬ Bor env fps b := fun q => by
    rw [(R.live q.own).2] at h; cases h
  rw [borF_out n]; exact h
theorem borF_H (R : REnv K F H σ env fps) : Sub (borF F H env fps) H := fun b o h => by
  by_cases q : Bor env fps b
  · rw [borF_in q] at h; exact h
  · rw [borF_out q] at h; exact R.fr b o h
theorem borF_nt (R : REnv K F H σ env fps) : ∀ b ps, borF F H env fps b ≠ some (.tbl ps) := fun b ps e => by
  by_cases q : Bor env fps b
  · rw [borF_in q] at e
    obtain ⟨o, ho, k⟩ := R.kin q.own
    rw [e] at ho; cases ho
    exact k.nt ps rfl
  · rw [borF_out q] at e
    exact R.tt.nt b ps e
theorem pure_env (R : REnv K F H σ env fps) : REnv K (borF F H env fps) H σ (borE env) (fun _ => []) := by
  refine ⟨borF_H R, by unfold borE; rw [List.length_map]; exact R.len, fun i m' h => ?_, fun _ _ => rfl, (fun _ _ _ b hb => by cases hb), R.tt.sub (borF_sub R) (borF_nt R)⟩
  obtain ⟨m, d, e, rfl, ht, hd⟩ := borE_at h
  obtain ⟨v, hv, r⟩ := R.got i m e
  exact ⟨v, hv, .fz (r.frozen (borF_sub R) (fun b hb => borF_in ⟨i, m, d, hb, e, ht, hd⟩) hd)⟩
theorem pure_back {F2 H2 : Hp} {A2 : Addr → Prop} (R : REnv K F H σ env fps) (fr : Sub F2 H2) (e : Ext K (borF F H env fps) H (Own fun _ => []) F2 H2 A2) :
    REnv K (cutF F2 (Bor env fps)) H2 σ env fps ∧ Ext K F H (fun _ => False) (cutF F2 (Bor env fps)) H2 A2 ∧ (∀ b, Bor env fps b → ∃ o, F2 b = some o ∧ notTup o) := by
  have no : ∀ b, ¬ Own (fun _ => ([] : List Addr)) b := fun b ⟨i, h⟩ => by cases h
  have keep : ∀ b o, H b = some o → NT o → H2 b = some o := fun b o h => e.keep b o h (no b)
  have tt2 : TOk K F2 H2 := e.tt.ok (R.tt.sub (borF_sub R) (borF_nt R))
  have nt2 : ∀ b ps, cutF F2 (Bor env fps) b ≠ some (.tbl ps) := fun b ps z => tt2.nt b ps (cutF_some z).2
  have cd2 : ∀ p ∈ TL K, ∀ ps, H2 p.1 = some (.tbl ps) → ∀ (pos : Pos) (cv : Value), codeAmong pos ps.toList = some cv → ∃ c, cv = .ref c ∧ cutF F2 (Bor env fps) c = some (LamX.CodeO c p.2) := fun p hp ps h pos cv hc => by
    obtain ⟨c, e1, e2⟩ := tt2.cd p hp ps h pos cv hc
    refine ⟨c, e1, ?_⟩
    rw [cutF_out fun q => ?_]
    · exact e2
    obtain ⟨o, ho, hk⟩ := R.kin q.own
    have h2 := keep c o ho hk.nt
    rw [fr _ _ e2] at h2
    exact hk.nc c p.2 (Option.some.inj h2).symm
  have tp2 : ∀ b vs, H2 b = some (.tup vs) → cutF F2 (Bor env fps) b = some (.tup vs) := fun b vs h => by
    rw [cutF_out fun q => ?_]
    · exact tt2.tp b vs h
    obtain ⟨o, ho, hk⟩ := R.kin q.own
    have h2 := keep b o ho hk.nt
    rw [h] at h2
    exact hk.ntp vs (Option.some.inj h2).symm
  have s1 : Sub F (cutF F2 (Bor env fps)) := fun b o h => by
    have n : ¬ Bor env fps b := fun q => by
      rw [(R.live q.own).2] at h; cases h
    rw [cutF_out n]
    exact e.ff b o (borF_sub R b o h)
  have hn : ∀ b, Own fps b → cutF F2 (Bor env fps) b = none := fun b hb => by
    by_cases q : Bor env fps b
    · exact cutF_in q
    · rw [cutF_out q]
      obtain ⟨⟨o, ho⟩, hf⟩ := R.live hb
      cases z : F2 b with
      | none => rfl
      | some u =>
        rcases e.fz b u z with y | y | y
        · rw [borF_out q, hf] at y; cases y
        · exact (no b y).elim
        · rw [ho] at y; cases y
  refine ⟨⟨fun b o h => fr b o (cutF_some h).2, R.len, fun i m h => ?_, R.nil, R.dj, ⟨nt2, tt2.tb, tt2.ot, cd2, tp2⟩⟩, ⟨s1, fun b o h _ => keep b o h, fun b h => (e.own b h).imp (fun z => no b z) id, fun b o h => ?_, ⟨e.tt.tbl, fun _ => ⟨nt2, tt2.tb, tt2.ot, cd2, tp2⟩⟩⟩, fun b h => ?_⟩
  · obtain ⟨v, hv, r⟩ := R.got i m h
    refine ⟨v, hv, r.frame s1 (fun b hb => ?_) fun b hb => hn b ⟨i, hb⟩⟩
    obtain ⟨⟨o, ho⟩, _⟩ := r.live b hb
    rw [keep b o ho (r.nt hb ho), ho]
  · obtain ⟨n, h⟩ := cutF_some h
    rcases e.fz b o h with y | y | y
    · rw [borF_out n] at y; exact .inl y
    · exact (no b y).elim
    · exact .inr (.inr y)
  · obtain ⟨i, m, d, hb, em, ht, hd⟩ := h
    obtain ⟨v, hv, r⟩ := R.got i m em
    obtain ⟨o, ho, hk⟩ := r.kinds ht b hb
    refine ⟨o, e.ff b o ?_, hk⟩
    rw [borF_in ⟨i, m, d, hb, em, ht, hd⟩]; exact ho
end
def noLX (x : Xc) : Bool := match x.fs with
  | none => true
  | some fs => noLs (fs.map (·.2))
def pureK (env : E) (o : Option (Out Av)) : Option (Out Av) := match o with
  | some (.ok (.tm r) _) => if noLM r then some (.ok (.tm r) env) else none
  | some (.ex x _) => if noLX x then some (.ex x env) else none
  | _ => none
def pureE (f : FE) : FE := fun env => pureK env (f (borE env))
theorem pure_rep {K : PySem.W.Frag} {F H : Hp} {B : Addr → Prop} {x : Xc} {cls : Value} {d : Option Addr} (hB : ∀ b, B b → ∃ o, F b = some o ∧ notTup o) (h : RepX K F H x cls d) (n : noLX x = true) : RepX K (cutF F B) H x cls d := by
  unfold RepX at h ⊢
  unfold noLX at n
  refine ⟨h.1, ?_⟩
  have h2 := h.2
  revert h2 n
  cases x.fs with
  | none => cases d <;> exact fun _ h => h
  | some fs =>
    cases d with
    | none => exact fun _ h => h
    | some p => exact fun n ⟨vs, a, b, c⟩ => ⟨vs, a, b, c.restr hB n⟩
theorem e_pure {X : Cx} {W : WX} {e : Expr} {f : FE} (h : PE X e (rE X.K W f)) : PE X e (rE X.K W (pureE f)) := PE_mono h fun σ H Q ⟨F, env, fps, R, p⟩ => by
  refine ⟨borF F H env fps, borE env, fun _ => [], pure_env R, ?_⟩
  unfold pureE at p
  cases ef : f (borE env) with
  | none => rw [ef] at p; exact p
  | some o =>
    rw [ef] at p
    cases o with
    | ex x env1 =>
      unfold pureK at p
      simp only at p
      split at p
      · rename_i hn
        intro cls d F2 H2 fps2 R2 r e2
        obtain ⟨R3, e3, hB⟩ := pure_back R R2.fr e2
        exact p cls d _ H2 fps R3 (pure_rep hB r hn) ⟨e3.ff, fun b o h _ => e3.keep b o h id, fun b h => .inl h, fun b o h => (e3.fz b o h).imp id fun z => .inr (z.elim False.elim id), e3.tt⟩
      · exact p.elim
    | ok a env1 =>
      cases a with
      | sl i => exact p.elim
      | tm r =>
        unfold pureK at p
        simp only at p
        split at p
        · rename_i hn
          intro v F2 H2 fps2 fp R2 rr d e2
          have rr : RepM X.K F2 H2 r v fp := rr
          obtain ⟨R3, e3, hB⟩ := pure_back R R2.fr e2
          refine p v _ H2 fps fp R3 (show RepM _ _ _ _ _ _ from rr.restr hB hn) (fun b hb q => ?_) ⟨e3.ff, fun b o h _ => e3.keep b o h id, fun b h => h.elim .inl fun z => .inr ((e3.own b (.inr z)).elim False.elim id), fun b o h => (e3.fz b o h).imp id fun z => .inr (z.elim False.elim id), e3.tt⟩
          rcases e3.own b (.inr hb) with z | z
          · exact z
          · obtain ⟨⟨o, ho⟩, _⟩ := R.live q
            rw [ho] at z; cases z
        · exact p.elim
/-- arguments, looked at -/
theorem rA_pure {K : PySem.W.Frag} {W : WX} {F H : Hp} {σ : St} {env env1 : E} {fps : Nat → List Addr} {f : FA} {as : List Av} {ms : List M} {Q : List V → Hp → Prop} (R : REnv K F H σ env fps) (hok : f (borE env) = some (.ok as env1)) (ht : tms as = some ms) (hn : noLMs ms = true)
    (k : ∀ vs F3 H3 fpA, REnv K F3 H3 σ env fps → RepAs K F3 H3 σ as vs fpA → (∀ b, Own fpA b → ¬ Own fps b) → Ext K F H (fun _ => False) F3 H3 (Own fpA) → Q vs H3) : rA K W f σ H Q := by
  refine ⟨borF F H env fps, borE env, fun _ => [], pure_env R, ?_⟩
  rw [hok]
  intro vs F2 H2 fps2 fpA R2 rs d e2
  obtain ⟨R3, e3, hB⟩ := pure_back R R2.fr e2
  have all : ∀ {as : List Av} {ms : List M}, tms as = some ms → noLMs ms = true → ∀ (j : Nat) (a : Av), as[j]? = some a → ∃ m, a = .tm m ∧ noLM m = true := by
    intro as
    induction as with
    | nil => intro ms _ _ j a h; simp at h
    | cons a as ih =>
      intro ms h n j c hc
      cases a with
      | sl i => rw [tms] at h; cases h
      | tm m =>
        rw [tms] at h
        cases e : tms as with
        | none => rw [e] at h; cases h
        | some ns =>
          rw [e] at h; cases h
          rw [noLMs] at n
          simp only [Bool.and_eq_true] at n
          cases j with
          | zero => simp at hc; exact ⟨m, hc.symm, n.1⟩
          | succ j => exact ih e n.2 j c (by simpa using hc)
  refine k vs _ H2 fpA R3 ⟨rs.len, fun j a ha => ?_, rs.nil, rs.dj⟩ (fun b hb q => ?_) (e3.weak fun b h => .inr h)
  · obtain ⟨v, hv, r⟩ := rs.got j a ha
    obtain ⟨m, rfl, n⟩ := all ht hn j a ha
    have r : RepM K F2 H2 m v (fpA j) := r
    exact ⟨v, hv, show RepM _ _ _ _ _ _ from r.restr hB n⟩
  · rcases e3.own b (.inr hb) with z | z
    · exact z
    · obtain ⟨⟨o, ho⟩, _⟩ := R.live q
      rw [ho] at z; cases z
end Ink
set_option Elab.async false
set_option linter.all false
set_option maxRecDepth 100000
namespace Ink
open PySem L2
def mvE (i : Nat) : FE := fun env => match env[i]? with
  | some (some m) => some (.ok (.tm m) (env.set i none))
  | _ => none
theorem e_mv (i : Nat) {X : Cx} {W : WX} {x : Str} {pos : Pos} (hN : X.N[i]? = some x := by rfl) (hv : Vis X.env.scope x := by first | exact Or.inl rfl | exact Or.inr (Or.inl rfl) | exact Or.inr (Or.inr rfl)) (hd : (x == ("__debug__" : Str)) = false := by decide)
    (hcd : (x == ("__classdict__" : Str)) = false := by decide) : PE X (.Name x pos) (rE X.K W (mvE i)) := PE_mono (pe_var hN hv hd hcd) fun σ H Q ⟨F, env, fps, R, p⟩ => by
  unfold mvE at p
  split at p
  · rename_i m e
    obtain ⟨v, hv, r⟩ := R.got i m e
    refine ⟨v, hv, p v F H _ (fps i) (R.drop i) r (fun b hb ⟨j, hj⟩ => ?_) (Ext.refl fun b h => ?_)⟩
    · by_cases ej : j = i
      · simp only [if_pos ej] at hj; cases hj
      · simp only [if_neg ej] at hj; exact R.dj i j (fun q => ej q.symm) b hb hj
    · rcases h with ⟨j, hj⟩ | h
      · by_cases ej : j = i
        · simp only [if_pos ej] at hj; cases hj
        · simp only [if_neg ej] at hj; exact ⟨j, hj⟩
      · exact ⟨i, h⟩
  · exact p.elim
theorem RepMs.focus {K : PySem.W.Frag} {F H : Hp} : ∀ {ms : List M} {vs : List V} {fp : List Addr} {j : Nat} {m : M}, RepMs K F H ms vs fp → ms[j]? = some m →
    ∃ (v : V) (f1 fr : List Addr), vs[j]? = some v ∧ RepM K F H m v f1 ∧ (∀ b, b ∈ fp ↔ b ∈ f1 ∨ b ∈ fr) ∧ (∀ b ∈ f1, b ∉ fr) ∧
      ∀ (F' H' : Hp) (m' : M) (f' : List Addr), Sub F F' → (∀ b ∈ fr, H' b = H b ∧ F' b = none) → RepM K F' H' m' v f' → (∀ b ∈ f', b ∉ fr) → ∃ (fp' : List Addr), RepMs K F' H' (ms.set j m') vs fp' ∧ ∀ b, b ∈ fp' ↔ b ∈ f' ∨ b ∈ fr
  | [], _, _, j, m, .nil, e => by simp at e
  | n :: ms, _, _, 0, m, .cons (fp := f1) (fq := f2) (v := v) (vs := vs) a b d, e => by
    simp at e
    subst e
    refine ⟨v, f1, f2, rfl, a, fun b => List.mem_append, d, fun F' H' m' f' s h r dj => ?_⟩
    exact ⟨f' ++ f2, .cons r (b.frame s (fun b hb => (h b hb).1) fun b hb => (h b hb).2) dj, fun b => List.mem_append⟩
  | n :: ms, _, _, j + 1, m, .cons (fp := f1) (fq := f2) (v := v) (vs := vs) a b d, e => by
    simp at e
    obtain ⟨v1, g1, gr, h1, h2, h3, h4, h5⟩ := RepMs.focus b e
    refine ⟨v1, g1, f1 ++ gr, by simpa using h1, h2, fun b => ?_, fun b hb q => ?_, fun F' H' m' f' s h r dj => ?_⟩
    · rw [List.mem_append, List.mem_append, h3 b]
      constructor
      · rintro (q | q | q)
        · exact .inr (.inl q)
        · exact .inl q
        · exact .inr (.inr q)
      · rintro (q | q | q)
        · exact .inr (.inl q)
        · exact .inl q
        · exact .inr (.inr q)
    · rcases List.mem_append.mp q with q | q
      · exact d b q ((h3 b).mpr (.inl hb))
      · exact h4 b hb q
    · obtain ⟨fp', r2, m2⟩ := h5 F' H' m' f' s (fun b hb => h b (List.mem_append_right _ hb)) r fun b hb q => dj b hb (List.mem_append_right _ q)
      refine ⟨f1 ++ fp', .cons (a.frame s (fun b hb => (h b (List.mem_append_left _ hb)).1) fun b hb => (h b (List.mem_append_left _ hb)).2) r2 fun b hb q => ?_, fun b => ?_⟩
      · rcases (m2 b).mp q with q | q
        · exact dj b q (List.mem_append_left _ hb)
        · exact d b hb ((h3 b).mpr (.inr q))
      · rw [List.mem_append, m2 b, List.mem_append]
        constructor
        · rintro (q | q | q)
          · exact .inr (.inl q)
          · exact .inl q
          · exact .inr (.inr q)
        · rintro (q | q | q)
          · exact .inr (.inl q)
          · exact .inl q
          · exact .inr (.inr q)
def ixB : FP := fun ms => match ms with
  | [.tup xs, .fz (.int i)] => match atI xs i with
    | some (.fz d) => some (.ok (.fz d) [some (.tup xs), some (.fz (.int i))])
    | some m => some (.ok m [none, some (.fz (.int i))])
    | none => none
  | ms => g2 ixA ms
theorem atI_rms {K : PySem.W.Frag} {F H : Hp} {vs : List V} {ms : List M} {fp : List Addr} {i : Int} {m : M} (r : RepMs K F H ms vs fp) (h : atI ms i = some m) : ∃ (v : V) (f1 fr : List Addr), atI vs i = some v ∧ RepM K F H m v f1 ∧ (∀ b, b ∈ fp ↔ b ∈ f1 ∨ b ∈ fr) ∧ (∀ b ∈ f1, b ∉ fr) := by
  unfold atI at h ⊢
  rw [r.length]
  cases e : ixN ms.length i with
  | none => rw [e] at h; cases h
  | some j =>
    rw [e] at h
    obtain ⟨v, f1, fr, h1, h2, h3, h4, _⟩ := r.focus (j := j) h
    exact ⟨v, f1, fr, h1, h2, h3, h4⟩
theorem op2_ixB {K : PySem.W.Frag} : Op2 K ixB (fun x y H Q => rIx K x y H Q ∨ ∃ a v, x = .ref a ∧ DGet H a y (some v) ∧ Q v H) := fun x y H Q Ex p => by
  obtain ⟨F, ms, fps, R, p⟩ := p
  unfold ixB at p
  split at p
  · rename_i xs i
    obtain ⟨v0, h0, r0⟩ := R.got 0 _ rfl
    cases h0
    obtain ⟨v1, h1, r1⟩ := R.got 1 _ rfl
    cases h1
    obtain rfl := rep_int (repm_fz r1)
    have hz := r1.fz_nil
    generalize hf : fps 0 = f0 at r0
    cases r0 with
    | @tup pa ws _ fq a rs =>
      split at p
      · rename_i d ed
        obtain ⟨v, f1, fr, e1, r2, _, _⟩ := atI_rms rs ed
        exact .inl (.inr (.inl ⟨pa, ws, i, v, rfl, rfl, SqT.of (R.fr _ _ a), e1, p v F H fps [] R (.fz (repm_fz r2)) Own.not_nil (Ext.refl fun b h => h.elim id fun q => by cases q)⟩))
      · rename_i m hnf ed
        obtain ⟨v, f1, fr, e1, r2, s1, s2⟩ := atI_rms rs ed
        refine .inl (.inr (.inl ⟨pa, ws, i, v, rfl, rfl, SqT.of (R.fr _ _ a), e1, p v F H _ f1 (R.drop 0) r2 (fun b hb ⟨j, hj⟩ => ?_) (Ext.refl fun b h => ?_)⟩))
        · by_cases ej : j = 0
          · simp only [if_pos ej] at hj; cases hj
          · simp only [if_neg ej] at hj
            exact R.dj 0 j (fun q => ej q.symm) b (by rw [hf]; exact (s1 b).mpr (.inl hb)) hj
        · rcases h with ⟨j, hj⟩ | h
          · by_cases ej : j = 0
            · simp only [if_pos ej] at hj; cases hj
            · simp only [if_neg ej] at hj; exact ⟨j, hj⟩
          · exact ⟨0, by rw [hf]; exact (s1 b).mpr (.inl h)⟩
      · exact p.elim
  · exact op2_ixA x y H Q Ex ⟨F, ms, fps, R, p⟩
end Ink
set_option Elab.async false
set_option linter.all false
set_option maxRecDepth 100000
namespace Ink
open PySem L2
section
variable {κ α : Type} [DecidableEq κ]
def valG (kvs : List (κ × α)) (k : κ) : Option α := (kvs.find? fun kv => decide (kv.1 = k)).map (·.2)
def chgG : List (κ × α) → κ → α → List (κ × α)
  | [], _, _ => []
  | (k1, m1) :: r, k, m => if k1 = k then (k1, m) :: r else (k1, m1) :: chgG r k m
theorem valG_pos {k : κ} {m : α} {r : List (κ × α)} : valG ((k, m) :: r) k = some m := by simp [valG]
theorem valG_neg {k k1 : κ} {m : α} {r : List (κ × α)} (h : ¬ k1 = k) : valG ((k1, m) :: r) k = valG r k := by simp [valG, h]
theorem valG_at {k : κ} : ∀ {kvs : List (κ × α)} {m : α}, valG kvs k = some m → ∃ j : Nat, (kvs.map (·.2))[j]? = some m ∧ (∀ m', (chgG kvs k m').map (·.2) = (kvs.map (·.2)).set j m' ∧ (chgG kvs k m').map (·.1) = kvs.map (·.1)) ∧
    ∀ {β : Type} (zs : List (κ × β)), zs.map (·.1) = kvs.map (·.1) → valG zs k = (zs.map (·.2))[j]?
  | [], m, h => by simp [valG] at h
  | (k1, m1) :: r, m, h => by
    by_cases e : k1 = k
    · subst e
      rw [valG_pos] at h; cases h
      refine ⟨0, rfl, fun m' => by simp [chgG], fun zs hz => ?_⟩
      match zs, hz with
      | (k2, z) :: zs, hz =>
        simp only [List.map_cons, List.cons.injEq] at hz
        obtain ⟨rfl, _⟩ := hz
        rw [valG_pos]; rfl
    · rw [valG_neg e] at h
      obtain ⟨j, h1, h2, h3⟩ := valG_at h
      refine ⟨j + 1, by simpa using h1, fun m' => ?_, fun zs hz => ?_⟩
      · obtain ⟨a, b⟩ := h2 m'
        constructor
        · simp only [chgG, if_neg e, List.map_cons, a, List.set_cons_succ]
        · simp only [chgG, if_neg e, List.map_cons, b]
      · match zs, hz with
        | (k2, z) :: zs, hz =>
          simp only [List.map_cons, List.cons.injEq] at hz
          obtain ⟨hk2, hz⟩ := hz
          rw [hk2, valG_neg e, h3 zs hz]; rfl
theorem valG_look [BEq κ] [LawfulBEq κ] (fs : List (κ × α)) (x : κ) : fs.lookup x = valG fs x := by
  induction fs with
  | nil => rfl
  | cons p r ih =>
    obtain ⟨k, m⟩ := p
    by_cases e : k = x
    · subst e
      rw [valG_pos, List.lookup_cons_self]
    · rw [valG_neg e, List.lookup_cons, ← ih]
      have : (x == k) = false := by simp; exact fun q => e q.symm
      rw [this]
end
inductive Way where
  | ix (i : Int) | ky (k : Key) | kt (k : List Key) | fl (x : Str)
def getC : M → Way → Option M
  | .lst ms, .ix i => atI ms i
  | .dK kvs, .ky k => valG kvs k
  | .dT kvs, .kt k => valG kvs k
  | .ins _ fs, .fl x => valG fs x
  | _, _ => none
def putC : M → Way → M → Option M
  | .lst ms, .ix i, m => match ixN ms.length i with
    | some j => some (.lst (ms.set j m))
    | none => none
  | .dK kvs, .ky k, m => some (.dK (chgG kvs k m))
  | .dT kvs, .kt k, m => some (.dT (chgG kvs k m))
  | .ins C fs, .fl x, m => some (.ins C (chgG fs x m))
  | _, _, _ => none
def chO : HO → Way → Option V
  | .lst vs, .ix i => atI vs i
  | .dK kvs, .ky k => valG kvs k
  | .dT kvs, .kt k => valG kvs k
  | .ins _ _ fs, .fl x => valG fs x
  | _, _ => none
theorem mem_cons_split {b p : Addr} {fq f1 fr : List Addr} (h : ∀ b, b ∈ fq ↔ b ∈ f1 ∨ b ∈ fr) : b ∈ p :: fq ↔ b ∈ f1 ∨ b ∈ p :: fr := by
  rw [List.mem_cons, h b, List.mem_cons]
  constructor
  · rintro (q | q | q)
    · exact .inr (.inl q)
    · exact .inl q
    · exact .inr (.inr q)
  · rintro (q | q | q)
    · exact .inr (.inl q)
    · exact .inl q
    · exact .inr (.inr q)
theorem RepM.focus {K : PySem.W.Frag} {F H : Hp} {m : M} {v : V} {fp : List Addr} {s : Way} {m1 : M} (h : RepM K F H m v fp) (e : getC m s = some m1) :
    ∃ (p : Addr) (o : HO) (v1 : V) (f1 fr : List Addr), v = .ref p ∧ H p = some o ∧ F p = none ∧ chO o s = some v1 ∧ RepM K F H m1 v1 f1 ∧ p ∈ fr ∧ (∀ b, b ∈ fp ↔ b ∈ f1 ∨ b ∈ fr) ∧ (∀ b ∈ f1, b ∉ fr) ∧
      ∀ (F' H' : Hp) (m' : M) (f' : List Addr), Sub F F' → (∀ b ∈ fr, H' b = H b ∧ F' b = none) → RepM K F' H' m' v1 f' → (∀ b ∈ f', b ∉ fr) → ∃ (mm : M) (fp' : List Addr), putC m s m' = some mm ∧ RepM K F' H' mm v fp' ∧ ∀ b, b ∈ fp' ↔ b ∈ f' ∨ b ∈ fr := by
  have split : ∀ {p : Addr} {fq f1 fr : List Addr}, p ∉ fq → (∀ b, b ∈ fq ↔ b ∈ f1 ∨ b ∈ fr) → (∀ b ∈ f1, b ∉ fr) → ∀ b ∈ f1, b ∉ p :: fr := fun n hs d b hb q => by
    rcases List.mem_cons.mp q with rfl | q
    · exact n ((hs b).mpr (.inl hb))
    · exact d b hb q
  have np : ∀ {p : Addr} {fq f1 fr f' fp' : List Addr}, (∀ b, b ∈ fp' ↔ b ∈ f' ∨ b ∈ fr) → p ∉ fq → (∀ b, b ∈ fq ↔ b ∈ f1 ∨ b ∈ fr) → (∀ b ∈ f', b ∉ p :: fr) → p ∉ fp' := fun m2 n hs dj q => by
    rcases (m2 _).mp q with q | q
    · exact dj _ q (List.mem_cons_self ..)
    · exact n ((hs _).mpr (.inr q))
  cases h with
  | fz _ => cases s <;> simp [getC] at e
  | tup _ _ => cases s <;> simp [getC] at e
  | @lst p vs ms fq a f rs n =>
    cases s with
    | ix i =>
      simp only [getC, atI] at e
      cases ej : ixN ms.length i with
      | none => rw [ej] at e; cases e
      | some j =>
        rw [ej] at e
        obtain ⟨v1, f1, fr, h1, h2, h3, h4, h5⟩ := rs.focus (j := j) e
        refine ⟨p, _, v1, f1, p :: fr, rfl, a, f, ?_, h2, List.mem_cons_self .., fun b => mem_cons_split h3, split n h3 h4, fun F' H' m' f' s hk r dj => ?_⟩
        · simp only [chO, atI, rs.length, ej]; exact h1
        · obtain ⟨fp', r2, m2⟩ := h5 F' H' m' f' s (fun b hb => hk b (List.mem_cons_of_mem _ hb)) r fun b hb q => dj b hb (List.mem_cons_of_mem _ q)
          refine ⟨.lst (ms.set j m'), p :: fp', by simp only [putC, ej], .lst (by rw [(hk p (List.mem_cons_self ..)).1]; exact a) (hk p (List.mem_cons_self ..)).2 r2 (np m2 n h3 dj), fun b => mem_cons_split m2⟩
    | _ => simp [getC] at e
  | @dK p kvs ms fq a f hk rs n =>
    cases s with
    | ky k =>
      obtain ⟨j, e1, e2, e3⟩ := valG_at (show valG ms k = some m1 from e)
      obtain ⟨v1, f1, fr, h1, h2, h3, h4, h5⟩ := rs.focus (j := j) e1
      refine ⟨p, _, v1, f1, p :: fr, rfl, a, f, ?_, h2, List.mem_cons_self .., fun b => mem_cons_split h3, split n h3 h4, fun F' H' m' f' s hh r dj => ?_⟩
      · show valG kvs k = some v1
        rw [e3 kvs hk]; exact h1
      · obtain ⟨fp', r2, m2⟩ := h5 F' H' m' f' s (fun b hb => hh b (List.mem_cons_of_mem _ hb)) r fun b hb q => dj b hb (List.mem_cons_of_mem _ q)
        refine ⟨.dK (chgG ms k m'), p :: fp', rfl, .dK (by rw [(hh p (List.mem_cons_self ..)).1]; exact a) (hh p (List.mem_cons_self ..)).2 (by rw [hk, (e2 m').2]) (by rw [(e2 m').1]; exact r2) (np m2 n h3 dj), fun b => mem_cons_split m2⟩
    | _ => simp [getC] at e
  | @dT p kvs ms fq a f hk rs n =>
    cases s with
    | kt k =>
      obtain ⟨j, e1, e2, e3⟩ := valG_at (show valG ms k = some m1 from e)
      obtain ⟨v1, f1, fr, h1, h2, h3, h4, h5⟩ := rs.focus (j := j) e1
      refine ⟨p, _, v1, f1, p :: fr, rfl, a, f, ?_, h2, List.mem_cons_self .., fun b => mem_cons_split h3, split n h3 h4, fun F' H' m' f' s hh r dj => ?_⟩
      · show valG kvs k = some v1
        rw [e3 kvs hk]; exact h1
      · obtain ⟨fp', r2, m2⟩ := h5 F' H' m' f' s (fun b hb => hh b (List.mem_cons_of_mem _ hb)) r fun b hb q => dj b hb (List.mem_cons_of_mem _ q)
        refine ⟨.dT (chgG ms k m'), p :: fp', rfl, .dT (by rw [(hh p (List.mem_cons_self ..)).1]; exact a) (hh p (List.mem_cons_self ..)).2 (by rw [hk, (e2 m').2]) (by rw [(e2 m').1]; exact r2) (np m2 n h3 dj), fun b => mem_cons_split m2⟩
    | _ => simp [getC] at e
  | @ins p C dx kvs ms fq a f hk rs n =>
    cases s with
    | fl k =>
      obtain ⟨j, e1, e2, e3⟩ := valG_at (show valG ms k = some m1 from e)
      obtain ⟨v1, f1, fr, h1, h2, h3, h4, h5⟩ := rs.focus (j := j) e1
      refine ⟨p, _, v1, f1, p :: fr, rfl, a, f, ?_, h2, List.mem_cons_self .., fun b => mem_cons_split h3, split n h3 h4, fun F' H' m' f' s hh r dj => ?_⟩
      · show valG kvs k = some v1
        rw [e3 kvs hk]; exact h1
      · obtain ⟨fp', r2, m2⟩ := h5 F' H' m' f' s (fun b hb => hh b (List.mem_cons_of_mem _ hb)) r fun b hb q => dj b hb (List.mem_cons_of_mem _ q)
        refine ⟨.ins C (chgG ms k m'), p :: fp', rfl, .ins (by rw [(hh p (List.mem_cons_self ..)).1]; exact a) (hh p (List.mem_cons_self ..)).2 (by rw [hk, (e2 m').2]) (by rw [(e2 m').1]; exact r2) (np m2 n h3 dj), fun b => mem_cons_split m2⟩
    | _ => simp [getC] at e
def kSub4 (env : E) (i : Nat) (r : M) (o : Option M) : Option (Out Av) := match o with
  | some m' => some (.ok (.tm r) (env.set i (some m')))
  | none => none
def kSub3 (env : E) (i : Nat) (s : Way) (m : M) (o : Option OutP) : Option (Out Av) := match o with
  | some (.ok r (some m1' :: _)) => kSub4 env i r (putC m s m1')
  | _ => none
def kSub2 (env : E) (i : Nat) (s : Way) (g : FP) (ms : List M) (m : M) (o : Option M) : Option (Out Av) := match o with
  | some m1 => kSub3 env i s m (g (m1 :: ms))
  | none => none
def partG (env : E) (i : Nat) (s : Way) (g : FP) (ms : List M) : Option (Out Av) := match env[i]? with
  | some (some m) => kSub2 env i s g ms m (getC m s)
  | _ => none
theorem tms_get : ∀ {as : List Av} {ms : List M}, tms as = some ms → ms.length = as.length ∧ ∀ (j : Nat) (m : M), ms[j]? = some m → as[j]? = some (.tm m)
  | [], ms, h => by rw [tms] at h; cases h; exact ⟨rfl, fun j m q => by simp at q⟩
  | .sl _ :: _, ms, h => by rw [tms] at h; cases h
  | .tm n :: as, ms, h => by
    rw [tms] at h
    cases e : tms as with
    | none => rw [e] at h; cases h
    | some ns =>
      rw [e] at h; cases h
      obtain ⟨l, g⟩ := tms_get e
      refine ⟨by simp [l], fun j m q => ?_⟩
      cases j with
      | zero => simp at q; subst q; rfl
      | succ j => simp at q; simpa using g j m q
theorem sub_sound {K : PySem.W.Frag} {W : WX} {F H : Hp} {σ : St} {env : E} {fps fpA : Nat → List Addr} {i : Nat} {s : Way} {g : FP} {as : List Av} {ms : List M} {vs : List V} {p : Addr} {o : HO} {v1 : V} {Q : VK} (R : REnv K F H σ env fps) (hv : σ[i]? = some (some (.ref p))) (ho : H p = some o) (hc : chO o s = some v1)
    (hA : RepAs K F H σ as vs fpA) (ht : tms as = some ms) (hd : ∀ b, Own fpA b → ¬ Own fps b) (post : poE K W σ F H (fun b => Own fps b ∨ Own fpA b) (partG env i s g ms) Q) : spOf K g (v1 :: vs) H Q (fun c d H' => W c d σ H') := by
  unfold partG at post
  split at post
  · rename_i m em
    cases eg : getC m s with
    | none => rw [eg] at post; exact post.elim
    | some m1 =>
      rw [eg] at post
      simp only [kSub2] at post
      obtain ⟨v, hv', r⟩ := R.got i m em
      rw [hv] at hv'; cases hv'
      obtain ⟨p', o', v1', f1, fr, e1, h2, h3, h4, h5, h6, h7, h8, h9⟩ := r.focus eg
      cases e1
      rw [ho] at h2; cases h2
      rw [hc] at h4; cases h4
      obtain ⟨tl, tg⟩ := tms_get ht
      have sF : ∀ b, Own (fcons f1 fpA) b → Own fps b ∨ Own fpA b := fun b h => (own_fcons.mp h).imp (fun z => ⟨i, (h7 b).mpr (.inl z)⟩) id
      have RA : REnv K F H (argS (v1 :: vs)) (argE (m1 :: ms)) (fcons f1 fpA) := by
        refine ⟨R.fr, by simp [tl, hA.len], fun j m' h => ?_, fun j h => ?_, fun a c hac b hb q => ?_, R.tt⟩
        · have hm := argE_get.mp h
          cases j with
          | zero => simp at hm; subst hm; exact ⟨v1, rfl, h5⟩
          | succ j =>
            simp at hm
            obtain ⟨w, hw, rw'⟩ := hA.got j _ (tg j m' hm)
            exact ⟨w, argS_get.mpr (by simpa using hw), rw'⟩
        · cases j with
          | zero => exact absurd rfl (h m1)
          | succ j =>
            refine hA.nil j ?_
            rcases Nat.lt_or_ge j as.length with hl | hl
            · have hl2 : j < ms.length := by rw [tl]; exact hl
              exact absurd (argE_get.mpr (show (m1 :: ms)[j + 1]? = some ms[j] from List.getElem?_eq_getElem hl2)) (h _)
            · exact hl
        · cases a with
          | zero =>
            cases c with
            | zero => exact hac rfl
            | succ c => exact hd b ⟨c, q⟩ ⟨i, (h7 b).mpr (.inl hb)⟩
          | succ a =>
            cases c with
            | zero => exact hd b ⟨a, hb⟩ ⟨i, (h7 b).mpr (.inl q)⟩
            | succ c => exact hA.dj a c (fun z => hac (by rw [z])) b hb q
      refine ⟨F, m1 :: ms, fcons f1 fpA, RA, ?_⟩
      cases egr : g (m1 :: ms) with
      | none => rw [egr] at post; exact post.elim
      | some oo =>
        rw [egr] at post
        cases oo with
        | ex x ms' => exact post.elim
        | ok rr ms' =>
          cases ms' with
          | nil => exact post.elim
          | cons m0 rest =>
            cases m0 with
            | none => exact post.elim
            | some m1' =>
              simp only [kSub3] at post
              intro v F' H' fps' fp R' r2 dd ex
              obtain ⟨w, hw, rc⟩ := R'.got 0 m1' rfl
              cases hw
              -- the rest of the tree
              have nfr : ∀ b ∈ fr, ¬ Own (fcons f1 fpA) b := fun b hb h => by
                rcases own_fcons.mp h with h | h
                · exact h8 b h hb
                · exact hd b h ⟨i, (h7 b).mpr (.inr hb)⟩
              have live : ∀ b ∈ fr, (∃ o, H b = some o) ∧ F b = none := fun b hb => R.live ⟨i, (h7 b).mpr (.inr hb)⟩
              have kfr : ∀ b ∈ fr, H' b = H b ∧ F' b = none := fun b hb => by
                obtain ⟨⟨o, ho⟩, hf⟩ := live b hb
                obtain ⟨u0, hu0, hk0⟩ := R.kin ⟨i, (h7 b).mpr (.inr hb)⟩
                rw [ho] at hu0; cases hu0
                refine ⟨by rw [ex.keep b o ho (nfr b hb) hk0.nt, ho], ?_⟩
                cases z : F' b with
                | none => rfl
                | some u =>
                  rcases ex.fz b u z with y | y | y
                  · rw [hf] at y; cases y
                  · exact (nfr b hb y).elim
                  · rw [ho] at y; cases y
              have dfr : ∀ b ∈ fps' 0, b ∉ fr := fun b hb q => by
                rcases ex.own b (.inl ⟨0, hb⟩) with y | y
                · exact nfr b q y
                · obtain ⟨⟨o, ho⟩, _⟩ := live b q
                  rw [ho] at y; cases y
              obtain ⟨mm, fp', e1, r3, m3⟩ := h9 F' H' m1' (fps' 0) ex.ff kfr rc dfr
              rw [e1] at post
              simp only [kSub4] at post
              obtain ⟨R1, n1⟩ := (R.drop i).frame (B := Own (fcons f1 fpA)) (fun b ⟨j, hj⟩ h => by
                by_cases ej : j = i
                · simp only [if_pos ej] at hj; cases hj
                · simp only [if_neg ej] at hj
                  rcases own_fcons.mp h with h | h
                  · exact R.dj j i ej b hj ((h7 b).mpr (.inl h))
                  · exact hd b h ⟨j, hj⟩) ex R'.fr
              have R2 := R1.put (m := mm) hv r3 (fun b hb j hj q => by
                simp only [if_neg hj] at q
                rcases (m3 b).mp hb with z | z
                · exact n1 b ⟨j, by simp only [if_neg hj]; exact q⟩ (.inl ⟨0, z⟩)
                · exact R.dj i j (fun y => hj y.symm) b ((h7 b).mpr (.inr z)) q)
              rw [List.set_set] at R2
              refine post v F' H' _ fp R2 r2 (fun b hb ⟨j, hj⟩ => ?_) ⟨ex.ff, fun b o h n => ex.keep b o h fun a => n (sF b a), fun b h => ?_, fun b o h => (ex.fz b o h).imp id fun z => z.imp (sF b) id, ex.tt⟩
              · by_cases ej : j = i
                · simp only [if_pos ej] at hj
                  rcases (m3 b).mp hj with z | z
                  · exact dd b hb ⟨0, z⟩
                  · rcases ex.own b (.inr hb) with y | y
                    · exact nfr b z y
                    · obtain ⟨⟨o, ho⟩, _⟩ := live b z
                      rw [ho] at y; cases y
                · simp only [if_neg ej] at hj
                  exact n1 b ⟨j, by simp only [if_neg ej]; exact hj⟩ (.inr hb)
              · rcases h with ⟨j, hj⟩ | h
                · by_cases ej : j = i
                  · simp only [if_pos ej] at hj
                    rcases (m3 b).mp hj with z | z
                    · exact (ex.own b (.inl ⟨0, z⟩)).imp (sF b) id
                    · exact .inl (.inl ⟨i, (h7 b).mpr (.inr z)⟩)
                  · simp only [if_neg ej] at hj
                    exact .inl (.inl ⟨j, hj⟩)
                · exact (ex.own b (.inr h)).imp (sF b) id
  · exact post.elim
end Ink
set_option Elab.async false
set_option linter.all false
set_option maxRecDepth 100000
namespace Ink
open PySem L2
/-- an expression that tells a part of what slot i holds -/
abbrev FC := E → Option (E × Way)
theorem chO_nt {o : HO} {s : Way} {v : V} (h : chO o s = some v) : NT o := fun ps e => by
  subst e
  cases s <;> simp [chO] at h
def rC (K : PySem.W.Frag) (i : Nat) (f : FC) : TE := fun σ H Q => ∃ F env fps, REnv K F H σ env fps ∧ match f env with
  | some (env', s) => ∀ v1 p o F' H' fps', REnv K F' H' σ env' fps' → σ[i]? = some (some (.ref p)) → H' p = some o → chO o s = some v1 → Ext K F H (Own fps) F' H' (Own fps') → Q v1 H'
  | none => False
def kPart2 (i : Nat) (s : Way) (g : FP) (env : E) (o : Option (List M)) : Option (Out Av) := match o with
  | some ms => if noLMs ms then partG env i s g ms else none
  | none => none
def kPart1 (i : Nat) (s : Way) (g : FP) (env : E) (o : Option (Out (List Av))) : Option (Out Av) := match o with
  | some (.ok as _) => kPart2 i s g env (tms as)
  | _ => none
def kPart0 (T : Kd) (i : Nat) (s : Way) (g : FP) (fa : FA) (env : E) (o : Option M) : Option (Out Av) := match o with
  | some m1 => match tyM T m1 with
    | true => kPart1 i s g env (fa (borE env))
    | false => none
  | none => none
def kPartC (T : Kd) (i : Nat) (g : FP) (fa : FA) (o : Option (E × Way)) : Option (Out Av) := match o with
  | some (env, s) => match env[i]? with
    | some (some m) => kPart0 T i s g fa env (getC m s)
    | _ => none
  | none => none
def partE (T : Kd) (i : Nat) (fc : FC) (g : FP) (fa : FA) : FE := fun env => kPartC T i g fa (fc env)
section
variable {X : Cx} {W : WX} {o e : Expr} {es : List Expr} {fc : FC} {fa : FA} {g : FP} {name : Str} {apos cpos : Pos} {id : String} {r : V → List V → Hp → VK → Prop} {T : Kd} {i : Nat}
theorem r_part {K : PySem.W.Frag} (hp : OpMt K g r) : ∀ σ H Q, rE K W (partE T i fc g fa) σ H Q → tBM K (kdName T) r (rC K i fc) (rA K W fa) σ H Q := fun σ H Q ⟨F, env, fps, R, po⟩ => by
  refine ⟨F, env, fps, R, ?_⟩
  unfold partE at po
  cases ef : fc env with
  | none => rw [ef] at po; exact po
  | some z =>
    obtain ⟨env', s⟩ := z
    rw [ef] at po
    simp only [kPartC] at po
    intro v1 p o F1 H1 fps1 R1 hv ho hc e1
    split at po
    · rename_i m em
      cases eg : getC m s with
      | none => rw [eg] at po; exact po.elim
      | some m1 =>
        rw [eg] at po
        simp only [kPart0] at po
        cases et : tyM T m1 with
        | false => rw [et] at po; exact po.elim
        | true =>
          simp only [et] at po
          obtain ⟨v, hv', rm⟩ := R1.got i m em
          rw [hv] at hv'; cases hv'
          obtain ⟨p', o', v1', f1, fr, q1, h2, h3, h4, h5, _⟩ := rm.focus eg
          cases q1
          rw [ho] at h2; cases h2
          rw [hc] at h4; cases h4
          refine ⟨tyM_rep R1.fr h5 et, ?_⟩
          cases ea : fa (borE env') with
          | none => rw [ea] at po; exact po.elim
          | some z =>
            rw [ea] at po
            cases z with
            | ex x env2 => exact po.elim
            | ok as env2 =>
              simp only [kPart1] at po
              cases et2 : tms as with
              | none => rw [et2] at po; exact po.elim
              | some ms =>
                simp only [et2, kPart2] at po
                split at po
                · rename_i hn
                  refine rA_pure R1 ea et2 hn fun vs F3 H3 fpA R3 rs d3 e3 => ?_
                  have ho3 : H3 p = some o := e3.keep p o ho id (chO_nt hc)
                  refine hp v1 vs H3 Q _ (sub_sound (W := W) R3 hv ho3 hc rs et2 d3 (poE.wide po (B := fun b => Own fps1 b ∨ Own fpA b) (A1 := fun b => Own fps1 b ∨ Own fpA b) ?_ fun _ h => h))
                  refine e1.trans (A2 := fun b => Own fps1 b ∨ Own fpA b) (B := Own fps1) ⟨e3.ff, fun b o h _ => e3.keep b o h id, fun b h => h.elim .inl fun z => .inr ((e3.own b z).elim False.elim id), fun b o h => (e3.fz b o h).imp id fun z => .inr (z.elim False.elim id), e3.tt⟩ (fun _ h => h) fun b h => .inl h
                · exact po.elim
    · exact po.elim
theorem e_part (pa : PlainAttrs (kdName T)) (slot : Slot (kdName T) name id) (hty : typeOf (.builtin id) = pure (.type "method_descriptor")) (hm : MtR X id r) (hp : OpMt X.K g r) (ho : PE X o (rC X.K i fc)) (ha : PA X (e :: es) (rA X.K W fa))
    (hbase : attributeBase o name X.env (eval o X.env) = eval o X.env := by rfl)
    (hfew : ((backTo cpos (starEach (e :: es) X.env)).all (fun x => !x.1) && (backToKw cpos (keywordEach [] X.env)).all (fun x => x.1.isSome)
      && decide ((e :: es).length + ([] : List Keyword).length + (if ([] : List Keyword).isEmpty then 0 else 1) < 30)) = true := by rfl)
    (hline : (apos.endLine == cpos.line) = true := by rfl) (hs : starEach (e :: es) X.env = (false, eval e X.env) :: starEach es X.env := by rfl) (hplain : (backTo cpos (starEach es X.env)).any (·.1) = false := by rfl) :
    PE X (.Call (.Attribute o name apos) (e :: es) [] cpos) (rE X.K W (partE T i fc g fa)) := PE_mono (pe_bm pa slot hty hm ho ha hbase hfew hline hs hplain) (r_part hp)
def keyE (env : E) (f : FE) : Option Key := match f (borE env) with
  | some (.ok a env1) => match resA env1 a with
    | some m => keyM m
    | none => none
  | _ => none
/-- NAME[e] -/
def ixC (i : Nat) (f : FE) : FC := fun env => match keyE env f with
  | some (.inl n) => match env[i]? with
    | some (some (.lst ms)) => if (atI ms n).isSome then some (env, .ix n) else none
    | _ => none
  | _ => none
variable {x : Str} {px pos : Pos} {f fd : FE}
/-- NAME.setdefault(k, []) -/
def sdC (i : Nat) (f : FE) : FC := fun env => match keyE env f with
  | some k => match env[i]? with
    | some (some (.dK kvs)) => if kvs.length < sizeLine then (match valG kvs k with
      | some _ => some (env, .ky k)
      | none => some (env.set i (some (.dK (kvs ++ [(k, .lst [])]))), .ky k)) else none
    | _ => none
  | none => none
theorem valG_keys {κ α β : Type} [DecidableEq κ] {k : κ} : ∀ {xs : List (κ × α)} {ys : List (κ × β)}, xs.map (·.1) = ys.map (·.1) → (valG xs k = none ↔ valG ys k = none)
  | [], [], _ => ⟨fun _ => rfl, fun _ => rfl⟩
  | [], _ :: _, h => by simp at h
  | _ :: _, [], h => by simp at h
  | (a, b) :: xs, (c, d) :: ys, h => by
    simp only [List.map_cons, List.cons.injEq] at h
    obtain ⟨rfl, h⟩ := h
    by_cases e : a = k
    · subst e
      rw [valG_pos, valG_pos]
      exact ⟨(fun q => nomatch q), (fun q => nomatch q)⟩
    · rw [valG_neg e, valG_neg e]
      exact valG_keys h
end
end Ink
set_option Elab.async false
set_option linter.all false
set_option maxRecDepth 100000
namespace Ink
open PySem L2
def keysD : List D → Option (List Key)
  | [] => some []
  | .int i :: r => match keysD r with
    | some ks => some (.inl i :: ks)
    | none => none
  | .str x :: r => match keysD r with
    | some ks => some (.inr x :: ks)
    | none => none
  | _ :: _ => none
def keyT : M → Option (List Key)
  | .fz (.tup ds) => keysD ds
  | _ => none
theorem keysD_reps {K : PySem.W.Frag} {F : Hp} : ∀ {vs : List V} {ds : List D} {ks : List Key}, Reps K F vs ds → keysD ds = some ks → vs = ks.map kV
  | _, [], ks, .nil, e => by rw [keysD] at e; cases e; rfl
  | _, .int i :: r, ks, .cons a t, e => by
    rw [keysD] at e
    cases e2 : keysD r with
    | none => rw [e2] at e; cases e
    | some cs => rw [e2] at e; cases e; rw [rep_int a, keysD_reps t e2]; rfl
  | _, .str i :: r, ks, .cons a t, e => by
    rw [keysD] at e
    cases e2 : keysD r with
    | none => rw [e2] at e; cases e
    | some cs => rw [e2] at e; cases e; rw [rep_str a, keysD_reps t e2]; rfl
  | _, .non :: _, _, _, e => by simp [keysD] at e
  | _, .bl _ :: _, _, _, e => by simp [keysD] at e
  | _, .lst _ :: _, _, _, e => by simp [keysD] at e
  | _, .tup _ :: _, _, _, e => by simp [keysD] at e
  | _, .dK _ :: _, _, _, e => by simp [keysD] at e
  | _, .dT _ :: _, _, _, e => by simp [keysD] at e
  | _, .scr _ :: _, _, _, e => by simp [keysD] at e
  | _, .ins _ _ :: _, _, _, e => by simp [keysD] at e
  | _, .lam _ :: _, _, _, e => by simp [keysD] at e
  | _, .dLK _ :: _, _, _, e => by simp [keysD] at e
  | _, .dLT _ :: _, _, _, e => by simp [keysD] at e
  | _, .nst _ _ :: _, _, _, e => by simp [keysD] at e
  | _, .emp :: _, _, _, e => by simp [keysD] at e
  | _, .exc _ _ :: _, _, _, e => by simp [keysD] at e
theorem keysD_kfree : ∀ {ds : List D} {ks : List Key}, keysD ds = some ks → kfree ds = false
  | [], _, _ => rfl
  | .int i :: r, ks, e => by
    rw [keysD] at e
    cases e2 : keysD r with
    | none => rw [e2] at e; cases e
    | some cs =>
      have ih := keysD_kfree (ds := r) e2
      unfold kfree at ih ⊢
      rw [List.any_cons, ih]
      rfl
  | .str i :: r, ks, e => by
    rw [keysD] at e
    cases e2 : keysD r with
    | none => rw [e2] at e; cases e
    | some cs =>
      have ih := keysD_kfree (ds := r) e2
      unfold kfree at ih ⊢
      rw [List.any_cons, ih]
      rfl
  | .non :: _, _, e => by simp [keysD] at e
  | .bl _ :: _, _, e => by simp [keysD] at e
  | .lst _ :: _, _, e => by simp [keysD] at e
  | .tup _ :: _, _, e => by simp [keysD] at e
  | .dK _ :: _, _, e => by simp [keysD] at e
  | .dT _ :: _, _, e => by simp [keysD] at e
  | .scr _ :: _, _, e => by simp [keysD] at e
  | .ins _ _ :: _, _, e => by simp [keysD] at e
  | .lam _ :: _, _, e => by simp [keysD] at e
  | .dLK _ :: _, _, e => by simp [keysD] at e
  | .dLT _ :: _, _, e => by simp [keysD] at e
  | .nst _ _ :: _, _, e => by simp [keysD] at e
  | .emp :: _, _, e => by simp [keysD] at e
  | .exc _ _ :: _, _, e => by simp [keysD] at e
theorem TupR.key {K : PySem.W.Frag} {F : Hp} {p : Addr} {vs : List V} {ds : List D} {k : List Key} (h : TupR K F p vs ds) (e : keysD ds = some k) : F p = some (.tup vs) := by
  rcases h with h | h
  · exact h
  · have := keysD_kfree e
    rw [h.2] at this
    cases this
theorem keyT_rep {K : PySem.W.Frag} {F H : Hp} {m : M} {v : V} {fp : List Addr} {k : List Key} (s : Sub F H) (r : RepM K F H m v fp) (h : keyT m = some k) : ∃ b, v = .ref b ∧ H b = some (.tup (k.map kV)) := by
  unfold keyT at h
  split at h
  · cases repm_fz r with
    | tupR a b =>
      rcases a with a | a
      · exact ⟨_, rfl, by rw [s _ _ a, keysD_reps b h]⟩
      · have := keysD_kfree h
        rw [a.2] at this
        cases this
  · cases h
theorem PSet.or {X : Cx} {t t' : TSet} (h : PSet X t) (h' : PSet X t') : PSet X (fun o i v H Q => t o i v H Q ∨ t' o i v H Q) := fun pins s σ H o i v ov iv u Q I a b c q => q.elim (h pins s σ H o i v ov iv u Q I a b c) (h' pins s σ H o i v ov iv u Q I a b c)
theorem RepM.ntp {K : PySem.W.Frag} {F H : Hp} {m : M} {v : V} {fp : List Addr} (h : RepM K F H m v fp) {b : Addr} {o : HO} (hb : b ∈ fp) (ho : H b = some o) : ∀ vs, o ≠ .tup vs := by
  obtain ⟨u, hu, k⟩ := h.kin b hb
  rw [ho] at hu; cases hu
  exact k.ntp
def setA : FP := fun ms => match ms with
  | [v, .dK kvs, k] => match keyM k with
    | some kk => if okPut kvs kk v then some (.ok (.fz .non) [none, some (.dK (putM kvs kk v)), some k]) else none
    | none => none
  | [v, .dT kvs, k] => match keyT k with
    | some kk => if okPut kvs kk v then some (.ok (.fz .non) [none, some (.dT (putM kvs kk v)), some k]) else none
    | none => none
  | ms => setG ms
section
variable {K : PySem.W.Frag}
theorem op_setA {v o i : V} {H : Hp} {Q : Hp → Prop} {Ex : XK} (p : spOf K setA [v, o, i] H (fun _ H1 => Q H1) Ex) : rSetL o i v H Q ∨ rSetD o i v H Q := by
  obtain ⟨F, ms, fps, R, p⟩ := p
  unfold setA at p
  have fin : ∀ {q : Addr} {fq fr : List Addr} {mm m2 : M} {ob : HO}, fps 1 = q :: fq → o = .ref q → F q = none → ms = [ms.getD 0 mm, ms.getD 1 mm, ms.getD 2 mm] → (∀ b ∈ fr, b ∈ fq ∨ b ∈ fps 0) → RepM K F (upd H q ob) m2 (.ref q) (q :: fr) →
      poP K F H (Own fps) [v, o, i] (some (.ok (.fz .non) [none, some m2, some (ms.getD 2 mm)])) (fun _ H1 => Q H1) Ex → Q (upd H q ob) := by
    intro q fq fr mm m2 ob hfp eo hF hms hfr rM p
    subst eo
    have R1 := R.drop 0
    have R2 := args_upd (i := 1) (m := m2) (fp := q :: fr) R1 rfl (by simp [hfp]) hF rM (fun b hb a ha z => by
      by_cases e1 : a = 0
      · simp only [if_pos e1] at z; cases z
      · simp only [if_neg e1] at z
        rcases List.mem_cons.mp hb with rfl | hb
        · exact R.dj 1 a (fun q => ha q.symm) b (by rw [hfp]; exact List.mem_cons_self ..) z
        · rcases hfr b hb with hb | hb
          · exact R.dj 1 a (fun q => ha q.symm) b (by rw [hfp]; exact List.mem_cons_of_mem _ hb) z
          · exact R.dj 0 a (fun q => e1 q.symm) b hb z) (rM.nt (List.mem_cons_self ..) upd_same) (rM.ntp (List.mem_cons_self ..) upd_same)
    rw [hms] at R2
    refine p .non F _ _ [] R2 (.fz .non) Own.not_nil ?_
    refine (Ext.putO R ⟨1, by rw [hfp]; exact List.mem_cons_self ..⟩ (rM.nt (List.mem_cons_self ..) upd_same) (rM.ntp (List.mem_cons_self ..) upd_same)).weak fun b h => ?_
    rcases h with ⟨a, ha⟩ | h
    · by_cases e0 : a = 1
      · simp only [if_pos e0] at ha
        rcases List.mem_cons.mp ha with rfl | z
        · exact ⟨1, by rw [hfp]; exact List.mem_cons_self ..⟩
        · rcases hfr b z with z | z
          · exact ⟨1, by rw [hfp]; exact List.mem_cons_of_mem _ z⟩
          · exact ⟨0, z⟩
      · simp only [if_neg e0] at ha
        by_cases e1 : a = 0
        · simp only [if_pos e1] at ha; cases ha
        · simp only [if_neg e1] at ha; exact ⟨a, ha⟩
    · cases h
  split at p
  · rename_i y kvs k
    cases ek : keyM k with
    | none => rw [ek] at p; exact p.elim
    | some kk =>
      simp only [ek] at p
      split at p
      · rename_i hok
        obtain ⟨v0, h0, r0⟩ := R.got 0 _ rfl
        cases h0
        obtain ⟨v1, h1, r1⟩ := R.got 1 _ rfl
        cases h1
        obtain ⟨v2, h2, r2⟩ := R.got 2 _ rfl
        cases h2
        have ekv := keyM_rep r2 ek
        have dj : ∀ b ∈ fps 0, b ∉ fps 1 := R.dj 0 1 (by omega)
        have hl : kvs.length < sizeLine := by
          simp only [okPut, Bool.and_eq_true, decide_eq_true_eq] at hok
          exact hok.1
        generalize hfp : fps 1 = f1 at r1
        cases r1 with
        | @dK q ws _ fq a f hk rs n =>
          obtain ⟨fr, s1, k1, r3⟩ := put_rep (k := kk) hk rs r0 (fun b hb z => dj b z (by rw [hfp]; exact List.mem_cons_of_mem _ hb)) hok
          have hnq : ∀ b ∈ fr, b ≠ q := fun b hb e => by
            subst e
            rcases s1 b hb with z | z
            · exact n z
            · exact dj b z (by rw [hfp]; exact List.mem_cons_self ..)
          have hlw : ws.length = kvs.length := by have := congrArg List.length hk; simpa using this
          refine .inr ⟨q, _, rfl, .inl ⟨ws, kk, a, ekv, by omega, rfl⟩, ?_⟩
          exact fin (mm := y) hfp rfl f rfl s1 (.dK upd_same f k1 (r3.frame (Sub.refl _) (fun b hb => upd_ne (hnq b hb)) fun b hb => (r3.live b hb).2) fun z => hnq q z rfl) p
      · exact p.elim
  · rename_i y kvs k
    cases ek : keyT k with
    | none => rw [ek] at p; exact p.elim
    | some kk =>
      simp only [ek] at p
      split at p
      · rename_i hok
        obtain ⟨v0, h0, r0⟩ := R.got 0 _ rfl
        cases h0
        obtain ⟨v1, h1, r1⟩ := R.got 1 _ rfl
        cases h1
        obtain ⟨v2, h2, r2⟩ := R.got 2 _ rfl
        cases h2
        obtain ⟨kb, ekv, hkb⟩ := keyT_rep R.fr r2 ek
        have dj : ∀ b ∈ fps 0, b ∉ fps 1 := R.dj 0 1 (by omega)
        have hl : kvs.length < sizeLine := by
          simp only [okPut, Bool.and_eq_true, decide_eq_true_eq] at hok
          exact hok.1
        generalize hfp : fps 1 = f1 at r1
        cases r1 with
        | @dT q ws _ fq a f hk rs n =>
          obtain ⟨fr, s1, k1, r3⟩ := put_rep (k := kk) hk rs r0 (fun b hb z => dj b z (by rw [hfp]; exact List.mem_cons_of_mem _ hb)) hok
          have hnq : ∀ b ∈ fr, b ≠ q := fun b hb e => by
            subst e
            rcases s1 b hb with z | z
            · exact n z
            · exact dj b z (by rw [hfp]; exact List.mem_cons_self ..)
          have hlw : ws.length = kvs.length := by have := congrArg List.length hk; simpa using this
          refine .inr ⟨q, _, rfl, .inr ⟨ws, kk, kb, a, ekv, hkb, by omega, rfl⟩, ?_⟩
          exact fin (mm := y) hfp rfl f rfl s1 (.dT upd_same f k1 (r3.frame (Sub.refl _) (fun b hb => upd_ne (hnq b hb)) fun b hb => (r3.live b hb).2) fun z => hnq q z rfl) p
      · exact p.elim
  · exact .inl (op_set ⟨F, _, fps, R, p⟩)
end
def setSA (fe fo fi : FE) : FS := fun env => bindS (callE setA (arg3 fe fo fi) env) fun _ env1 => some (.nx env1)
section
variable {X : Cx} {W : WX} {P : List Nat} {e o i : Expr} {fe fo fi : FE} {pos spos : Pos}
theorem s_setitemA (hu : X.A.units + 64 < cLine) (he : PE X e (rE X.K W fe)) (ho : PE X o (rE X.K W fo)) (hi : PE X i (rE X.K W fi)) (ha : ∀ v, assign (.Subscript o i spos) X.env v = (do
      let ov ← holding [v] (eval o X.env)
      let iv ← holding [v, ov] (eval i X.env)
      standAt spos
      holding [v, ov, iv] (setItem ov iv v)
      release [v, ov, iv] []) := by intro _; rfl)
    (hs : swapsWithSole [.Subscript o i spos] e pos.line X.env = pure false := by rfl) (hw : swappedStores [.Subscript o i spos] e X.env = pure none := by rfl)
    (h1 : (assignEach [.Subscript o i spos] X.env).map (·.2) = [assign (.Subscript o i spos) X.env] := by rfl) : PS X (.Assign [.Subscript o i spos] e pos) (rS X.K W P (setSA (tk fe) fo fi)) := PS_mono (ps_asg (e_tk he) (pg_sub ho hi (PSet.or set_list (set_dict (by omega))) ha) hs hw h1) fun D σ H ⟨F, env, fps, R, p⟩ => by
  have q : rE X.K W (callE setA (arg3 (tk fe) fo fi)) σ H (fun _ H1 => D.nx σ H1) := by
    refine ⟨F, env, fps, R, ?_⟩
    unfold setSA at p
    cases ef : callE setA (arg3 (tk fe) fo fi) env with
    | none => rw [ef] at p; exact p
    | some z =>
      rw [ef] at p
      cases z with
      | ex x env1 => exact PXS.px p
      | ok a env1 => exact fun v F' H' fps' fp R' r d e' => p σ F' H' fps' R' .refl (e'.weak fun _ h => .inl h)
  exact rE_imp (fun x H1 p1 => rE_imp (fun y H2 p2 => rE_imp (fun z H3 p3 => op_setA (ra_nil p3)) (ra_cons p2)) (ra_cons p1)) (ra_cons (r_call q))
def newE (m : M) : FE := fun env => some (.ok (.tm m) env)
end
end Ink
set_option Elab.async false
set_option linter.all false
set_option maxRecDepth 100000
namespace Ink
open PySem L2
def disp1 (fk fv : FE) : FE := fun env => bindO (fk env) fun a env1 => match resA env1 a with
  | some mk => match keyM mk with
    | some k => bindO (fv env1) fun b env2 => match b with
      | .tm m => some (.ok (.tm (.dK [(k, m)])) env2)
      | .sl _ => none
    | none => none
  | none => none
section
variable {X : Cx} {W : WX} {e o ek ev : Expr} {es : List Expr} {fe fo fk fv : FE} {pos apos cpos : Pos}
def getK2 (m k z : M) (o : Option M) : Option OutP := match o with
  | some (.fz d) => some (.ok (.fz d) [some m, some k, some z])
  | some _ => none
  | none => some (.ok z [some m, some k, none])
def getV (m k : M) : Option (Option M) := match m with
  | .dK kvs => (keyM k).map (valG kvs)
  | .fz (.dK kvs) => (keyM k).map fun kk => (valG kvs kk).map M.fz
  | .dT kvs => (keyT k).map (valG kvs)
  | .fz (.dT kvs) => (keyT k).map fun kk => (valG kvs kk).map M.fz
  | .fz (.dLK kvs) => (keyM k).map fun kk => (valG kvs kk).map M.fz
  | .fz (.dLT kvs) => (keyT k).map fun kk => (valG kvs kk).map M.fz
  | _ => none
def getG : FP := fun ms => match ms with
  | [m, k, z] => match getV m k with
    | some o => getK2 m k z o
    | none => none
  | _ => none
theorem valG_rms {K : PySem.W.Frag} {F H : Hp} {κ : Type} [DecidableEq κ] {kvs : List (κ × V)} {ms : List (κ × M)} {fp : List Addr} {k : κ} (hk : kvs.map (·.1) = ms.map (·.1)) (r : RepMs K F H (ms.map (·.2)) (kvs.map (·.2)) fp) :
    (valG ms k = none ∧ valG kvs k = none) ∨ ∃ m v fq, valG ms k = some m ∧ valG kvs k = some v ∧ RepM K F H m v fq := by
  cases e : valG ms k with
  | none => exact .inl ⟨rfl, (valG_keys hk).mpr e⟩
  | some m =>
    obtain ⟨j, e1, _, e3⟩ := valG_at e
    obtain ⟨v, f1, fr, h1, h2, _⟩ := r.focus e1
    exact .inr ⟨m, v, f1, rfl, by rw [e3 kvs hk]; exact h1, h2⟩
theorem valG_reps {K : PySem.W.Frag} {F : Hp} {κ : Type} [DecidableEq κ] {kvs : List (κ × V)} {ds : List (κ × D)} {k : κ} (hk : kvs.map (·.1) = ds.map (·.1)) (r : Reps K F (kvs.map (·.2)) (ds.map (·.2))) :
    (valG ds k = none ∧ valG kvs k = none) ∨ ∃ d v, valG ds k = some d ∧ valG kvs k = some v ∧ Rep K F v d := by
  cases e : valG ds k with
  | none => exact .inl ⟨rfl, (valG_keys hk).mpr e⟩
  | some m =>
    obtain ⟨j, e1, _, e3⟩ := valG_at e
    obtain ⟨v, h1, h2⟩ := r.get e1
    exact .inr ⟨m, v, rfl, by rw [e3 kvs hk]; exact h1, h2⟩
theorem getV_rep {K : PySem.W.Frag} {F H : Hp} {m k : M} {x y : V} {f1 f2 : List Addr} {o : Option M} (s : Sub F H) (r1 : RepM K F H m x f1) (r2 : RepM K F H k y f2) (h : getV m k = some o) :
    ∃ a, x = .ref a ∧ ((o = none ∧ DGet H a y none) ∨ ∃ n v fq, o = some n ∧ DGet H a y (some v) ∧ RepM K F H n v fq) := by
  unfold getV at h
  split at h
  · rename_i kvs
    cases ek : keyM k with
    | none => rw [ek] at h; cases h
    | some kk =>
      rw [ek] at h
      have ey := keyM_rep r2 ek
      subst ey
      cases r1 with
      | @dK p ws _ fq a f hk rs n =>
        cases h
        refine ⟨p, rfl, ?_⟩
        rcases valG_rms (k := kk) hk rs with ⟨z1, z2⟩ | ⟨m, v, fq, z1, z2, z3⟩
        · exact .inl ⟨z1, .inl ⟨ws, kk, .inl a, rfl, z2.symm⟩⟩
        · exact .inr ⟨m, v, fq, z1, .inl ⟨ws, kk, .inl a, rfl, z2.symm⟩, z3⟩
  · rename_i kvs
    cases ek : keyM k with
    | none => rw [ek] at h; cases h
    | some kk =>
      rw [ek] at h
      have ey := keyM_rep r2 ek
      subst ey
      cases repm_fz r1 with
      | @dK p ws _ a hk rs =>
        cases h
        refine ⟨p, rfl, ?_⟩
        rcases valG_reps (k := kk) hk rs with ⟨z1, z2⟩ | ⟨m, v, z1, z2, z3⟩
        · exact .inl ⟨by show Option.map M.fz (valG kvs kk) = _; rw [z1]; rfl, .inl ⟨ws, kk, .inl (s _ _ a), rfl, z2.symm⟩⟩
        · exact .inr ⟨.fz m, v, [], by show Option.map M.fz (valG kvs kk) = _; rw [z1]; rfl, .inl ⟨ws, kk, .inl (s _ _ a), rfl, z2.symm⟩, .fz z3⟩
  · rename_i kvs
    cases ek : keyT k with
    | none => rw [ek] at h; cases h
    | some kk =>
      rw [ek] at h
      obtain ⟨b, rfl, hb⟩ := keyT_rep s r2 ek
      cases r1 with
      | @dT p ws _ fq a f hk rs n =>
        cases h
        refine ⟨p, rfl, ?_⟩
        rcases valG_rms (k := kk) hk rs with ⟨z1, z2⟩ | ⟨m, v, fq, z1, z2, z3⟩
        · exact .inl ⟨z1, .inr ⟨ws, kk, b, .inl a, rfl, hb, z2.symm⟩⟩
        · exact .inr ⟨m, v, fq, z1, .inr ⟨ws, kk, b, .inl a, rfl, hb, z2.symm⟩, z3⟩
  · rename_i kvs
    cases ek : keyT k with
    | none => rw [ek] at h; cases h
    | some kk =>
      rw [ek] at h
      obtain ⟨b, rfl, hb⟩ := keyT_rep s r2 ek
      cases repm_fz r1 with
      | @dT p ws _ a hk rs =>
        cases h
        refine ⟨p, rfl, ?_⟩
        rcases valG_reps (k := kk) hk rs with ⟨z1, z2⟩ | ⟨m, v, z1, z2, z3⟩
        · exact .inl ⟨by show Option.map M.fz (valG kvs kk) = _; rw [z1]; rfl, .inr ⟨ws, kk, b, .inl (s _ _ a), rfl, hb, z2.symm⟩⟩
        · exact .inr ⟨.fz m, v, [], by show Option.map M.fz (valG kvs kk) = _; rw [z1]; rfl, .inr ⟨ws, kk, b, .inl (s _ _ a), rfl, hb, z2.symm⟩, .fz z3⟩
  · rename_i kvs
    cases ek : keyM k with
    | none => rw [ek] at h; cases h
    | some kk =>
      rw [ek] at h
      have ey := keyM_rep r2 ek
      subst ey
      cases repm_fz r1 with
      | @dLK p oo ws _ a hk rs =>
        cases h
        refine ⟨p, rfl, ?_⟩
        rcases valG_reps (k := kk) hk rs with ⟨z1, z2⟩ | ⟨m, v, z1, z2, z3⟩
        · exact .inl ⟨by show Option.map M.fz (valG kvs kk) = _; rw [z1]; rfl, .inl ⟨ws, kk, .inr ⟨oo, s _ _ a⟩, rfl, z2.symm⟩⟩
        · exact .inr ⟨.fz m, v, [], by show Option.map M.fz (valG kvs kk) = _; rw [z1]; rfl, .inl ⟨ws, kk, .inr ⟨oo, s _ _ a⟩, rfl, z2.symm⟩, .fz z3⟩
  · rename_i kvs
    cases ek : keyT k with
    | none => rw [ek] at h; cases h
    | some kk =>
      rw [ek] at h
      obtain ⟨b, rfl, hb⟩ := keyT_rep s r2 ek
      cases repm_fz r1 with
      | @dLT p oo ws _ a hk rs =>
        cases h
        refine ⟨p, rfl, ?_⟩
        rcases valG_reps (k := kk) hk rs with ⟨z1, z2⟩ | ⟨m, v, z1, z2, z3⟩
        · exact .inl ⟨by show Option.map M.fz (valG kvs kk) = _; rw [z1]; rfl, .inr ⟨ws, kk, b, .inr ⟨oo, s _ _ a⟩, rfl, hb, z2.symm⟩⟩
        · exact .inr ⟨.fz m, v, [], by show Option.map M.fz (valG kvs kk) = _; rw [z1]; rfl, .inr ⟨ws, kk, b, .inr ⟨oo, s _ _ a⟩, rfl, hb, z2.symm⟩, .fz z3⟩
  · cases h
def kIxF (m k : M) (o : Option M) : Option OutP := match o with
  | some (.fz d) => some (.ok (.fz d) [some m, some k])
  | _ => none
def ixF : FP := fun ms => match ms with
  | [m, k] => match getV m k with
    | some o => kIxF m k o
    | none => ixB [m, k]
  | _ => none
theorem op2_ixF {K : PySem.W.Frag} : Op2 K ixF (fun x y H Q => rIx K x y H Q ∨ ∃ a v, x = .ref a ∧ DGet H a y (some v) ∧ Q v H) := fun x y H Q Ex p => by
  obtain ⟨F, ms, fps, R, p⟩ := p
  unfold ixF at p
  split at p
  · rename_i m k
    cases eg : getV m k with
    | none => rw [eg] at p; exact op2_ixB x y H Q Ex ⟨F, _, fps, R, p⟩
    | some oo =>
      simp only [eg] at p
      obtain ⟨v0, h0, r0⟩ := R.got 0 _ rfl
      cases h0
      obtain ⟨v1, h1, r1⟩ := R.got 1 _ rfl
      cases h1
      obtain ⟨a, rfl, ⟨rfl, g⟩ | ⟨n, v, fq, rfl, g, rn⟩⟩ := getV_rep R.fr r0 r1 eg
      · exact p.elim
      · cases n with
        | fz d => exact .inr ⟨a, v, rfl, g, p v F H fps [] R (.fz (repm_fz rn)) Own.not_nil (Ext.refl fun b h => h.elim id fun q => by cases q)⟩
        | _ => exact p.elim
  · exact p.elim
def inF (neg : Bool) (a b : M) : Option M := match getV b a with
  | some o => some (.fz (.bl (Bool.xor o.isSome neg)))
  | none => inA neg a b
variable {a b : Expr} {fa fb : FE}
theorem e_itemF (hu : X.A.units + 64 < cLine) (ha : PE X a (rE X.K W fa)) (hb : PE X b (rE X.K W fb)) (hs : PlainIx b := by exact fun _ _ => rfl) : PE X (.Subscript a b pos) (rE X.K W (callE ixF (arg2 fa fb))) := e_ix (ix_seq.or (ix_dict hu)) op2_ixF ha hb hs
theorem op2_inF {r : R2} (h : Op2 X.K (g2 (inA false)) (fun x y H Q => r x y H Q ∨ ∃ a o, y = .ref a ∧ DGet H a x o ∧ Q (.bl (o.isSome)) H)) : Op2 X.K (g2 (inF false)) (fun x y H Q => r x y H Q ∨ ∃ a o, y = .ref a ∧ DGet H a x o ∧ Q (.bl (o.isSome)) H) := fun x y H Q Ex p => by
  obtain ⟨F, a, b, m, fps, R, r1, r2, e, p⟩ := g2_at p
  unfold inF at e
  cases eg : getV b a with
  | none => rw [eg] at e; exact h x y H Q Ex ⟨F, [a, b], fps, R, by rw [show g2 (inA false) [a, b] = some (.ok m [some a, some b]) by simp only [g2, e]]; exact p⟩
  | some oo =>
    rw [eg] at e
    cases e
    obtain ⟨ad, rfl, ⟨rfl, g⟩ | ⟨n, v, fq, rfl, g, rn⟩⟩ := getV_rep R.fr r2 r1 eg
    · exact .inr ⟨ad, none, rfl, g, sp_flat R (Rep.bl _) p⟩
    · exact .inr ⟨ad, some v, rfl, g, sp_flat R (Rep.bl _) p⟩
theorem op2_ninF {r : R2} (h : Op2 X.K (g2 (inA true)) (fun x y H Q => r x y H Q ∨ ∃ a o, y = .ref a ∧ DGet H a x o ∧ Q (.bl (!o.isSome)) H)) : Op2 X.K (g2 (inF true)) (fun x y H Q => r x y H Q ∨ ∃ a o, y = .ref a ∧ DGet H a x o ∧ Q (.bl (!o.isSome)) H) := fun x y H Q Ex p => by
  obtain ⟨F, a, b, m, fps, R, r1, r2, e, p⟩ := g2_at p
  unfold inF at e
  cases eg : getV b a with
  | none => rw [eg] at e; exact h x y H Q Ex ⟨F, [a, b], fps, R, by rw [show g2 (inA true) [a, b] = some (.ok m [some a, some b]) by simp only [g2, e]]; exact p⟩
  | some oo =>
    rw [eg] at e
    cases e
    obtain ⟨ad, rfl, ⟨rfl, g⟩ | ⟨n, v, fq, rfl, g, rn⟩⟩ := getV_rep R.fr r2 r1 eg
    · exact .inr ⟨ad, none, rfl, g, sp_flat R (Rep.bl _) p⟩
    · exact .inr ⟨ad, some v, rfl, g, sp_flat R (Rep.bl _) p⟩
theorem e_inF (hu : X.A.units + 64 < cLine) (ha : PE X a (rE X.K W fa)) (hb : PE X b (rE X.K W fb)) (hm : behindInMarks .In b = false := by rfl) : PE X (.Compare a [.In] [b] pos) (rE X.K W (callE (g2 (inF false)) (arg2 fa fb))) :=
  e_cmp ((op_in_sign.or op_in_seq).or (op_inD hu)) (op2_inF (op2_inA (X := X) X.K (fun c z H Q q => ⟨c, z, rfl, rfl, q⟩) fun x p xs H Q h2 h3 h4 q => ⟨p, xs, rfl, h2, h3, h4, q⟩)) ha hb hm
theorem t_inF (hu : X.A.units + 64 < cLine) (ha : PE X a (rE X.K W fa)) (hb : PE X b (rE X.K W fb)) (hm : behindInMarks .In b = false := by rfl) : PT X (.Compare a [.In] [b] pos) (rT X.K W (tst (callE (g2 (inF false)) (arg2 fa fb)))) :=
  t_cmp ((op_in_sign.or op_in_seq).or (op_inD hu)) (op2_inF (op2_inA (X := X) X.K (fun c z H Q q => ⟨c, z, rfl, rfl, q⟩) fun x p xs H Q h2 h3 h4 q => ⟨p, xs, rfl, h2, h3, h4, q⟩)) ha hb hm
theorem t_notinF (hu : X.A.units + 64 < cLine) (ha : PE X a (rE X.K W fa)) (hb : PE X b (rE X.K W fb)) (hm : behindInMarks .NotIn b = false := by rfl) : PT X (.Compare a [.NotIn] [b] pos) (rT X.K W (tst (callE (g2 (inF true)) (arg2 fa fb)))) :=
  t_cmp ((op_notIn_sign.or op_notIn_seq).or (op_ninD hu)) (op2_ninF (op2_ninA (X := X) X.K (fun c z H Q q => ⟨c, z, rfl, rfl, q⟩) fun x p xs H Q h2 h3 h4 q => ⟨p, xs, rfl, h2, h3, h4, q⟩)) ha hb hm
def revM (m : M) : Option M := match lstD m with
  | some ds => some (.lst (ds.reverse.map .fz))
  | none => none
def rvsG : FP := fun ms => match ms with
  | [.lst xs] => match unfz xs with
    | some ds => some (.ok (.fz .non) [some (.lst (ds.reverse.map .fz))])
    | none => none
  | _ => none
theorem e_papp {i : Nat} {fc : FC} (ho : PE X o (rC X.K i fc)) (he : PE X e (rE X.K W fe)) (hbase : attributeBase o "append" X.env (eval o X.env) = eval o X.env := by rfl)
    (hfew : ((backTo cpos (starEach [e] X.env)).all (fun x => !x.1) && (backToKw cpos (keywordEach [] X.env)).all (fun x => x.1.isSome)
      && decide (([e]).length + ([] : List Keyword).length + (if ([] : List Keyword).isEmpty then 0 else 1) < 30)) = true := by rfl)
    (hline : (apos.endLine == cpos.line) = true := by rfl) (hs : starEach [e] X.env = (false, eval e X.env) :: starEach [] X.env := by rfl) (hplain : (backTo cpos (starEach [] X.env)).any (·.1) = false := by rfl) :
    PE X (.Call (.Attribute o "append" apos) [e] [] cpos) (rE X.K W (partE .lst i fc appG (arg1 (tk fe)))) := e_part (T := .lst) PySem.F.plainAttrs_list PySem.F.slot_list_append PySem.F.type_list_append mt_append opm_append ho (a_cons (e_tk he) a_nil hs) hbase hfew hline hs hplain
def frE (f : FE) : FE := fun env => bindO (f env) fun a env1 => match a with
  | .tm m => match frz m with
    | some d => some (.ok (.tm (.fz d)) env1)
    | none => none
  | .sl _ => none
theorem e_fr (he : PE X e (rE X.K W fe)) : PE X e (rE X.K W (frE fe)) := PE_mono he fun σ H Q ⟨F, env, fps, R, p⟩ => ⟨F, env, fps, R, by
  unfold frE at p
  cases ef : fe env with
  | none => rw [ef] at p; exact p
  | some o =>
    cases o with
    | ex x env1 => rw [ef] at p; exact p
    | ok a env1 =>
      rw [ef] at p
      simp only [bindO_ok] at p
      cases a with
      | sl i => exact p.elim
      | tm m =>
        simp only at p
        cases ez : frz m with
        | none => rw [ez] at p; exact p.elim
        | some d =>
          rw [ez] at p
          intro v F' H' fps' fp R1 r dj e1
          obtain ⟨F2, s2, r2, R2, e2⟩ := freeze_at R1 r dj ez
          exact p v F2 H' fps' [] R2 (show RepM _ _ _ _ _ _ from .fz r2) Own.not_nil ((e1.trans e2 (fun _ h => h) (C := Own fps') fun _ h => .inl h).weak fun b h => h.elim id fun q => by cases q)⟩
end
end Ink
set_option Elab.async false
set_option linter.all false
set_option maxRecDepth 100000
namespace Ink
open PySem L2
@[simp] theorem ev_mvE {env : E} {i : Nat} : mvE i env = match env[i]? with
  | some (some m) => some (.ok (.tm m) (env.set i none))
  | _ => none := (rfl)
@[simp] theorem ev_newE {env : E} {m : M} : newE m env = some (.ok (.tm m) env) := (rfl)
@[simp] theorem isFz_dK {kvs} : isFz (.dK kvs) = false := (rfl)
@[simp] theorem isFz_dT {kvs} : isFz (.dT kvs) = false := (rfl)
@[simp] theorem isFz_tup {ms} : isFz (.tup ms) = false := (rfl)
@[simp] theorem isFz_ins {C fs} : isFz (.ins C fs) = false := (rfl)
@[simp] theorem ev_pureE {env : E} {f : FE} : pureE f env = pureK env (f (borE env)) := (rfl)
@[simp] theorem pureK_0 {env env1 : E} {r : M} : pureK env (some (.ok (.tm r) env1)) = if noLM r then some (.ok (.tm r) env) else none := (rfl)
@[simp] theorem pureK_1 {env env1 : E} {x : Xc} : pureK env (some (.ex x env1)) = if noLX x then some (.ex x env) else none := (rfl)
@[simp] theorem borE_nil : borE [] = [] := (rfl)
@[simp] theorem borE_cons {o : Option M} {env : E} : borE (o :: env) = borO o :: borE env := (rfl)
@[simp] theorem borO_none : borO none = none := (rfl)
@[simp] theorem borO_fz {d : D} : borO (some (.fz d)) = some (.fz d) := by simp [borO, borM, noT]
def kBor (o : Option D) (b : Bool) : Option M := match b with
  | true => match o with
    | some d => some (.fz d)
    | none => none
  | false => none
@[simp] theorem kBor_0 {d : D} : kBor (some d) true = some (.fz d) := (rfl)
theorem borO_m {m : M} : borO (some m) = kBor (frz m) (noT m) := by
  show borM m = _
  unfold borM kBor
  cases noT m <;> cases frz m <;> rfl
@[simp] theorem borO_l {ms : List M} : borO (some (.lst ms)) = kBor (frz (.lst ms)) (noT (.lst ms)) := borO_m
@[simp] theorem borO_k {ms} : borO (some (.dK ms)) = kBor (frz (.dK ms)) (noT (.dK ms)) := borO_m
@[simp] theorem borO_kt {ms} : borO (some (.dT ms)) = kBor (frz (.dT ms)) (noT (.dT ms)) := borO_m
@[simp] theorem borO_t {ms} : borO (some (.tup ms)) = none := by simp [borO, borM, noT]
@[simp] theorem noT_fz {d : D} : noT (.fz d) = true := by simp [noT]
@[simp] theorem noT_l {ms : List M} : noT (.lst ms) = ms.all noT := by
  have : ∀ ms : List M, noTs ms = ms.all noT := fun ms => by
    induction ms with
    | nil => simp [noTs]
    | cons m ms ih => simp [noTs, ih]
  rw [noT, this]
@[simp] theorem noT_k {ms : List (Key × M)} : noT (.dK ms) = ms.all fun kv => noT kv.2 := by
  have : ∀ ms : List (Key × M), noTK ms = ms.all fun kv => noT kv.2 := fun ms => by
    induction ms with
    | nil => simp [noTK]
    | cons m ms ih => obtain ⟨k, m⟩ := m; simp [noTK, ih]
  rw [noT, this]
@[simp] theorem noT_kt {ms : List (List Key × M)} : noT (.dT ms) = ms.all fun kv => noT kv.2 := by
  have : ∀ ms : List (List Key × M), noTT ms = ms.all fun kv => noT kv.2 := fun ms => by
    induction ms with
    | nil => simp [noTT]
    | cons m ms ih => obtain ⟨k, m⟩ := m; simp [noTT, ih]
  rw [noT, this]
@[simp] theorem noL_non : noL .non = true := by simp [noL]
@[simp] theorem noL_bl {b} : noL (.bl b) = true := by simp [noL]
@[simp] theorem noL_int {b} : noL (.int b) = true := by simp [noL]
@[simp] theorem noL_str {b} : noL (.str b) = true := by simp [noL]
@[simp] theorem noL_tup {ds : List D} : noL (.tup ds) = ds.all noL := by
  have : ∀ ds : List D, noLs ds = ds.all noL := fun ds => by
    induction ds with
    | nil => simp [noLs]
    | cons m ms ih => simp [noLs, ih]
  rw [noL, this]
theorem noLMs_all : ∀ ds : List M, noLMs ds = ds.all noLM := fun ds => by
    induction ds with
    | nil => simp [noLMs]
    | cons m ms ih => simp [noLMs, ih]
@[simp] theorem noLMs_eq {ds : List M} : noLMs ds = ds.all noLM := noLMs_all ds
@[simp] theorem noLM_fz {d : D} : noLM (.fz d) = noL d := by simp [noLM]
@[simp] theorem noLM_l {ds : List M} : noLM (.lst ds) = ds.all noLM := by rw [noLM, noLMs_all]
@[simp] theorem noLM_t {ds : List M} : noLM (.tup ds) = ds.all noLM := by rw [noLM, noLMs_all]
@[simp] theorem noLM_k {ms : List (Key × M)} : noLM (.dK ms) = ms.all fun kv => noLM kv.2 := by
  rw [noLM, noLMK_vals, noLMs_all, List.all_map]; rfl
@[simp] theorem noLM_kt {ms : List (List Key × M)} : noLM (.dT ms) = ms.all fun kv => noLM kv.2 := by
  rw [noLM, noLMT_vals, noLMs_all, List.all_map]; rfl
@[simp] theorem noLX_none {c : Str} : noLX ⟨c, none⟩ = true := (rfl)
@[simp] theorem frz_tup {ms : List M} : frz (.tup ms) = match frzs ms with
    | some ds => some (.tup ds)
    | none => none := by rw [frz] <;> cases frzs ms <;> rfl
def kFK (o : Option (List (Key × D))) : Option D := match o with
    | some ds => some (.dK ds)
    | none => none
@[simp] theorem kFK_0 {ds} : kFK (some ds) = some (.dK ds) := (rfl)
@[simp] theorem frz_dK {ms} : frz (.dK ms) = kFK (frzK ms) := by rw [frz] <;> unfold kFK <;> cases frzK ms <;> rfl
def kFT (o : Option (List (List Key × D))) : Option D := match o with
    | some ds => some (.dT ds)
    | none => none
@[simp] theorem kFT_0 {ds} : kFT (some ds) = some (.dT ds) := (rfl)
@[simp] theorem frz_dT {ms} : frz (.dT ms) = kFT (frzT ms) := by rw [frz] <;> unfold kFT <;> cases frzT ms <;> rfl
theorem frzK_map {α : Type} {k : α → Key} {f : α → M} {g : α → D} : ∀ {xs : List α}, (∀ x ∈ xs, frz (f x) = some (g x)) → frzK (xs.map fun x => (k x, f x)) = some (xs.map fun x => (k x, g x))
  | [], _ => by simp [frzK]
  | x :: xs, h => by
    have ih := frzK_map (k := k) (f := f) (g := g) (xs := xs) fun y hy => h y (List.mem_cons_of_mem _ hy)
    simp [frzK, h x (List.mem_cons_self ..), ih]
theorem frzT_map {α : Type} {k : α → List Key} {f : α → M} {g : α → D} : ∀ {xs : List α}, (∀ x ∈ xs, frz (f x) = some (g x)) → frzT (xs.map fun x => (k x, f x)) = some (xs.map fun x => (k x, g x))
  | [], _ => by simp [frzT]
  | x :: xs, h => by
    have ih := frzT_map (k := k) (f := f) (g := g) (xs := xs) fun y hy => h y (List.mem_cons_of_mem _ hy)
    simp [frzT, h x (List.mem_cons_self ..), ih]
@[simp] theorem frzK_fz {α : Type} {k : α → Key} {g : α → D} {xs : List α} : frzK (xs.map fun x => (k x, M.fz (g x))) = some (xs.map fun x => (k x, g x)) := frzK_map (f := fun x => M.fz (g x)) fun x _ => ev_frz1
@[simp] theorem frzT_fz {α : Type} {k : α → List Key} {g : α → D} {xs : List α} : frzT (xs.map fun x => (k x, M.fz (g x))) = some (xs.map fun x => (k x, g x)) := frzT_map (f := fun x => M.fz (g x)) fun x _ => ev_frz1
@[simp] theorem frzK_nil : frzK [] = some [] := by simp [frzK]
@[simp] theorem frzT_nil : frzT [] = some [] := by simp [frzT]
@[simp] theorem keyM_int {i : Int} : keyM (.fz (.int i)) = some (.inl i) := (rfl)
@[simp] theorem keyM_str {i : Str} : keyM (.fz (.str i)) = some (.inr i) := (rfl)
@[simp] theorem keyT_t {ds : List D} : keyT (.fz (.tup ds)) = keysD ds := (rfl)
@[simp] theorem keysD_nil : keysD [] = some [] := by simp [keysD]
@[simp] theorem keysD_int {i : Int} {r : List D} : keysD (.int i :: r) = match keysD r with
    | some ks => some (.inl i :: ks)
    | none => none := by rw [keysD] <;> cases keysD r <;> rfl
@[simp] theorem keysD_str {i : Str} {r : List D} : keysD (.str i :: r) = match keysD r with
    | some ks => some (.inr i :: ks)
    | none => none := by rw [keysD] <;> cases keysD r <;> rfl
@[simp] theorem getV_k {kvs : List (Key × M)} {k : M} : getV (.dK kvs) k = (keyM k).map (valG kvs) := (rfl)
@[simp] theorem getV_fk {kvs : List (Key × D)} {k : M} : getV (.fz (.dK kvs)) k = (keyM k).map fun kk => (valG kvs kk).map M.fz := (rfl)
@[simp] theorem getV_t {kvs : List (List Key × M)} {k : M} : getV (.dT kvs) k = (keyT k).map (valG kvs) := (rfl)
@[simp] theorem getV_ft {kvs : List (List Key × D)} {k : M} : getV (.fz (.dT kvs)) k = (keyT k).map fun kk => (valG kvs kk).map M.fz := (rfl)
@[simp] theorem getV_flk {kvs : List (Key × D)} {k : M} : getV (.fz (.dLK kvs)) k = (keyM k).map fun kk => (valG kvs kk).map M.fz := (rfl)
@[simp] theorem getV_flt {kvs : List (List Key × D)} {k : M} : getV (.fz (.dLT kvs)) k = (keyT k).map fun kk => (valG kvs kk).map M.fz := (rfl)
@[simp] theorem getV_1 {ds : List D} {k : M} : getV (.fz (.tup ds)) k = none := (rfl)
@[simp] theorem getV_2 {ds : List D} {k : M} : getV (.fz (.lst ds)) k = none := (rfl)
@[simp] theorem getV_3 {ds : List M} {k : M} : getV (.lst ds) k = none := (rfl)
@[simp] theorem getV_4 {ds : Str} {k : M} : getV (.fz (.str ds)) k = none := (rfl)
@[simp] theorem getV_5 {ds : List M} {k : M} : getV (.tup ds) k = none := (rfl)
@[simp] theorem getK2_0 {m k z : M} {d : D} : getK2 m k z (some (.fz d)) = some (.ok (.fz d) [some m, some k, some z]) := (rfl)
@[simp] theorem getK2_1 {m k z : M} : getK2 m k z none = some (.ok z [some m, some k, none]) := (rfl)
@[simp] theorem getK2_2 {m k z : M} {o : Option D} : getK2 m k z (o.map M.fz) = match o with
  | some d => some (.ok (.fz d) [some m, some k, some z])
  | none => some (.ok z [some m, some k, none]) := by cases o <;> rfl
def kGetG (m k z : M) (o : Option (Option M)) : Option OutP := match o with
    | some o => getK2 m k z o
    | none => none
@[simp] theorem kGetG_0 {m k z : M} {o : Option M} : kGetG m k z (some o) = getK2 m k z o := (rfl)
@[simp] theorem ev_getG {m k z : M} : getG [m, k, z] = kGetG m k z (getV m k) := by
  unfold getG kGetG
  simp only [] <;> cases getV m k <;> rfl
@[simp] theorem kIxF_0 {m k : M} {d : D} : kIxF m k (some (.fz d)) = some (.ok (.fz d) [some m, some k]) := (rfl)
@[simp] theorem kIxF_1 {m k : M} {o : Option D} : kIxF m k (o.map M.fz) = match o with
  | some d => some (.ok (.fz d) [some m, some k])
  | none => none := by cases o <;> rfl
def kIxG (m k : M) (o : Option (Option M)) : Option OutP := match o with
    | some o => kIxF m k o
    | none => ixB [m, k]
@[simp] theorem kIxG_0 {m k : M} {o : Option M} : kIxG m k (some o) = kIxF m k o := (rfl)
@[simp] theorem kIxG_1 {m k : M} : kIxG m k none = ixB [m, k] := (rfl)
@[simp] theorem ev_ixF {m k : M} : ixF [m, k] = kIxG m k (getV m k) := by
  unfold ixF kIxG
  simp only [] <;> cases getV m k <;> rfl
@[simp] theorem ixB_1 {ds : List D} {k : M} : ixB [.fz (.tup ds), k] = kG [some (.fz (.tup ds)), some k] (ixM (.fz (.tup ds)) k) := (rfl)
@[simp] theorem ixB_2 {ds : List D} {k : M} : ixB [.fz (.lst ds), k] = kG [some (.fz (.lst ds)), some k] (ixM (.fz (.lst ds)) k) := (rfl)
@[simp] theorem ixB_3 {ds : List M} {k : M} : ixB [.lst ds, k] = kG [some (.lst ds), some k] (ixM (.lst ds) k) := (rfl)
@[simp] theorem ixB_4 {ds : Str} {k : M} : ixB [.fz (.str ds), k] = kG [some (.fz (.str ds)), some k] (ixM (.fz (.str ds)) k) := (rfl)
def kIxT (xs : List M) (i : Int) (o : Option M) : Option OutP := match o with
    | some (.fz d) => some (.ok (.fz d) [some (.tup xs), some (.fz (.int i))])
    | some m => some (.ok m [none, some (.fz (.int i))])
    | none => none
@[simp] theorem kIxT_0 {xs i d} : kIxT xs i (some (.fz d)) = some (.ok (.fz d) [some (.tup xs), some (.fz (.int i))]) := (rfl)
@[simp] theorem kIxT_1 {xs i d} : kIxT xs i (some (.lst d)) = some (.ok (.lst d) [none, some (.fz (.int i))]) := (rfl)
@[simp] theorem kIxT_2 {xs i d} : kIxT xs i (some (.tup d)) = some (.ok (.tup d) [none, some (.fz (.int i))]) := (rfl)
@[simp] theorem kIxT_3 {xs i d} : kIxT xs i (some (.dK d)) = some (.ok (.dK d) [none, some (.fz (.int i))]) := (rfl)
@[simp] theorem kIxT_4 {xs i d} : kIxT xs i (some (.dT d)) = some (.ok (.dT d) [none, some (.fz (.int i))]) := (rfl)
@[simp] theorem kIxT_5 {xs i C d} : kIxT xs i (some (.ins C d)) = some (.ok (.ins C d) [none, some (.fz (.int i))]) := (rfl)
@[simp] theorem ixB_5 {xs : List M} {i : Int} : ixB [.tup xs, .fz (.int i)] = kIxT xs i (atI xs i) := by
  unfold ixB kIxT
  simp only [] <;> (cases atI xs i with
  | none => rfl
  | some m => cases m <;> rfl)
def kInF (neg : Bool) (a b : M) (o : Option (Option M)) : Option M := match o with
  | some o => some (.fz (.bl (Bool.xor o.isSome neg)))
  | none => inA neg a b
@[simp] theorem kInF_0 {neg a b o} : kInF neg a b (some o) = some (.fz (.bl (Bool.xor o.isSome neg))) := (rfl)
@[simp] theorem kInF_1 {neg a b} : kInF neg a b none = inA neg a b := (rfl)
@[simp] theorem ev_inF {neg a b} : inF neg a b = kInF neg a b (getV b a) := by
  unfold inF kInF; cases getV b a <;> rfl
@[simp] theorem inA_1 {neg a} {ds : List D} : inA neg a (.fz (.tup ds)) = inM neg a (.fz (.tup ds)) := (rfl)
@[simp] theorem inA_2 {neg a} {ds : List D} : inA neg a (.fz (.lst ds)) = inM neg a (.fz (.lst ds)) := (rfl)
@[simp] theorem inA_3 {neg a} {ds : List M} : inA neg a (.lst ds) = inM neg a (.lst ds) := (rfl)
@[simp] theorem inA_4 {neg a} {ds : Str} : inA neg a (.fz (.str ds)) = inM neg a (.fz (.str ds)) := (rfl)
@[simp] theorem ev_setSA {env : E} {fe fo fi : FE} : setSA fe fo fi env = kExp (callE setA (arg3 fe fo fi) env) := by
  unfold setSA kExp bindS
  cases callE setA (arg3 fe fo fi) env with
  | none => rfl
  | some o => cases o <;> rfl
def kPut (v k : M) (kvs : List (Key × M)) (o : Option Key) : Option OutP := match o with
    | some kk => if okPut kvs kk v then some (.ok (.fz .non) [none, some (.dK (putM kvs kk v)), some k]) else none
    | none => none
@[simp] theorem kPut_0 {v k kvs kk} : kPut v k kvs (some kk) = if okPut kvs kk v then some (.ok (.fz .non) [none, some (.dK (putM kvs kk v)), some k]) else none := (rfl)
@[simp] theorem setA_k {v k : M} {kvs : List (Key × M)} : setA [v, .dK kvs, k] = kPut v k kvs (keyM k) := by
  unfold setA kPut
  simp only [] <;> cases keyM k <;> rfl
def kPutT (v k : M) (kvs : List (List Key × M)) (o : Option (List Key)) : Option OutP := match o with
    | some kk => if okPut kvs kk v then some (.ok (.fz .non) [none, some (.dT (putM kvs kk v)), some k]) else none
    | none => none
@[simp] theorem kPutT_0 {v k kvs kk} : kPutT v k kvs (some kk) = if okPut kvs kk v then some (.ok (.fz .non) [none, some (.dT (putM kvs kk v)), some k]) else none := (rfl)
@[simp] theorem setA_t {v k : M} {kvs : List (List Key × M)} : setA [v, .dT kvs, k] = kPutT v k kvs (keyT k) := by
  unfold setA kPutT
  simp only [] <;> cases keyT k <;> rfl
@[simp] theorem setA_l {v k : M} {xs : List M} : setA [v, .lst xs, k] = setG [v, .lst xs, k] := (rfl)
def kDp3 (k : Key) (o : Option (Out Av)) : Option (Out Av) := match o with
  | some (.ok (.tm m) env2) => some (.ok (.tm (.dK [(k, m)])) env2)
  | some (.ex x env2) => some (.ex x env2)
  | _ => none
@[simp] theorem kDp3_0 {k m env2} : kDp3 k (some (.ok (.tm m) env2)) = some (.ok (.tm (.dK [(k, m)])) env2) := (rfl)
def kDp2 (fv : FE) (env1 : E) (o : Option Key) : Option (Out Av) := match o with
  | some k => kDp3 k (fv env1)
  | none => none
@[simp] theorem kDp2_0 {fv env1 k} : kDp2 fv env1 (some k) = kDp3 k (fv env1) := (rfl)
def kDp1 (fv : FE) (env1 : E) (o : Option M) : Option (Out Av) := match o with
  | some mk => kDp2 fv env1 (keyM mk)
  | none => none
@[simp] theorem kDp1_0 {fv env1 m} : kDp1 fv env1 (some m) = kDp2 fv env1 (keyM m) := (rfl)
def kDp0 (fv : FE) (o : Option (Out Av)) : Option (Out Av) := match o with
  | some (.ok a env1) => kDp1 fv env1 (resA env1 a)
  | some (.ex x env2) => some (.ex x env2)
  | none => none
@[simp] theorem kDp0_0 {fv a env1} : kDp0 fv (some (.ok a env1)) = kDp1 fv env1 (resA env1 a) := (rfl)
@[simp] theorem ev_disp1 {env : E} {fk fv : FE} : disp1 fk fv env = kDp0 fv (fk env) := by
  unfold disp1 kDp0 bindO
  cases fk env with
  | none => rfl
  | some o =>
    cases o with
    | ex x e => rfl
    | ok a e =>
      simp only []
      unfold kDp1
      cases resA e a with
      | none => rfl
      | some m =>
        simp only []
        unfold kDp2
        cases keyM m with
        | none => rfl
        | some k =>
          simp only []
          unfold kDp3
          cases fv e with
          | none => rfl
          | some o => cases o with
            | ex x e => rfl
            | ok b e => cases b <;> rfl
@[simp] theorem ev_partE {env : E} {T : Kd} {i : Nat} {fc : FC} {g : FP} {fa : FA} : partE T i fc g fa env = kPartC T i g fa (fc env) := (rfl)
@[simp] theorem kPartC_0 {T i g fa env s} : kPartC T i g fa (some (env, s)) = match env[i]? with
    | some (some m) => kPart0 T i s g fa env (getC m s)
    | _ => none := (rfl)
def kPart00 (i : Nat) (s : Way) (g : FP) (fa : FA) (env : E) (b : Bool) : Option (Out Av) := match b with
  | true => kPart1 i s g env (fa (borE env))
  | false => none
@[simp] theorem kPart00_0 {i s g fa env} : kPart00 i s g fa env true = kPart1 i s g env (fa (borE env)) := (rfl)
@[simp] theorem kPart0_0 {T i s g fa env m} : kPart0 T i s g fa env (some m) = kPart00 i s g fa env (tyM T m) := by
  unfold kPart0 kPart00
  simp only [] <;> cases tyM T m <;> rfl
@[simp] theorem kPart1_0 {i s g env as env1} : kPart1 i s g env (some (.ok as env1)) = kPart2 i s g env (tms as) := (rfl)
@[simp] theorem kPart2_0 {i s g env ms} : kPart2 i s g env (some ms) = if noLMs ms then partG env i s g ms else none := (rfl)
@[simp] theorem ev_partG {env i s g ms} : partG env i s g ms = match env[i]? with
  | some (some m) => kSub2 env i s g ms m (getC m s)
  | _ => none := (rfl)
@[simp] theorem kSub2_0 {env i s g ms m m1} : kSub2 env i s g ms m (some m1) = kSub3 env i s m (g (m1 :: ms)) := (rfl)
@[simp] theorem kSub3_0 {env i s m r m1 ms} : kSub3 env i s m (some (.ok r (some m1 :: ms))) = kSub4 env i r (putC m s m1) := (rfl)
@[simp] theorem kSub4_0 {env i r m} : kSub4 env i r (some m) = some (.ok (.tm r) (env.set i (some m))) := (rfl)
@[simp] theorem getC_l {ms i} : getC (.lst ms) (.ix i) = atI ms i := (rfl)
@[simp] theorem getC_k {ms i} : getC (.dK ms) (.ky i) = valG ms i := (rfl)
@[simp] theorem getC_t {ms i} : getC (.dT ms) (.kt i) = valG ms i := (rfl)
@[simp] theorem getC_f {C ms i} : getC (.ins C ms) (.fl i) = valG ms i := (rfl)
def kPc (ms : List M) (m : M) (o : Option Nat) : Option M := match o with
  | some j => some (.lst (ms.set j m))
  | none => none
@[simp] theorem kPc_0 {ms m j} : kPc ms m (some j) = some (.lst (ms.set j m)) := (rfl)
@[simp] theorem putC_l {ms i m} : putC (.lst ms) (.ix i) m = kPc ms m (ixN ms.length i) := by
  unfold putC kPc <;> simp only [] <;> cases ixN ms.length i <;> rfl
@[simp] theorem putC_k {ms i m} : putC (.dK ms) (.ky i) m = some (.dK (chgG ms i m)) := (rfl)
@[simp] theorem putC_t {ms i m} : putC (.dT ms) (.kt i) m = some (.dT (chgG ms i m)) := (rfl)
@[simp] theorem putC_f {C ms i m} : putC (.ins C ms) (.fl i) m = some (.ins C (chgG ms i m)) := (rfl)
def kKe1 (o : Option M) : Option Key := match o with
    | some m => keyM m
    | none => none
@[simp] theorem kKe1_0 {m} : kKe1 (some m) = keyM m := (rfl)
def kKe (o : Option (Out Av)) : Option Key := match o with
  | some (.ok a env1) => kKe1 (resA env1 a)
  | _ => none
@[simp] theorem kKe_0 {a env1} : kKe (some (.ok a env1)) = kKe1 (resA env1 a) := (rfl)
@[simp] theorem ev_keyE {env f} : keyE env f = kKe (f (borE env)) := by
  unfold keyE kKe kKe1
  cases f (borE env) with
  | none => rfl
  | some o => cases o with
    | ok a e => simp only [] <;> cases resA e a <;> rfl
    | ex x e => rfl
def kIc (i : Nat) (env : E) (o : Option Key) : Option (E × Way) := match o with
  | some (.inl n) => match env[i]? with
    | some (some (.lst ms)) => if (atI ms n).isSome then some (env, .ix n) else none
    | _ => none
  | _ => none
@[simp] theorem kIc_0 {i env n} : kIc i env (some (.inl n)) = match env[i]? with
    | some (some (.lst ms)) => if (atI ms n).isSome then some (env, .ix n) else none
    | _ => none := (rfl)
@[simp] theorem ev_ixC {env i f} : ixC i f env = kIc i env (keyE env f) := by
  unfold ixC kIc
  cases keyE env f with
  | none => rfl
  | some k => cases k <;> rfl
def kSd1 (i : Nat) (env : E) (k : Key) (kvs : List (Key × M)) (o : Option M) : Option (E × Way) := match o with
      | some _ => some (env, .ky k)
      | none => some (env.set i (some (.dK (kvs ++ [(k, .lst [])]))), .ky k)
@[simp] theorem kSd1_0 {i env k kvs m} : kSd1 i env k kvs (some m) = some (env, .ky k) := (rfl)
@[simp] theorem kSd1_1 {i env k kvs} : kSd1 i env k kvs none = some (env.set i (some (.dK (kvs ++ [(k, .lst [])]))), .ky k) := (rfl)
def kSd (i : Nat) (env : E) (o : Option Key) : Option (E × Way) := match o with
  | some k => match env[i]? with
    | some (some (.dK kvs)) => if kvs.length < sizeLine then kSd1 i env k kvs (valG kvs k) else none
    | _ => none
  | none => none
@[simp] theorem kSd_0 {i env k} : kSd i env (some k) = match env[i]? with
    | some (some (.dK kvs)) => if kvs.length < sizeLine then kSd1 i env k kvs (valG kvs k) else none
    | _ => none := (rfl)
@[simp] theorem ev_sdC {env i f} : sdC i f env = kSd i env (keyE env f) := by
  unfold sdC kSd
  generalize keyE env f = ok
  generalize env[i]? = oi
  cases ok with
  | none => rfl
  | some k =>
    cases oi with
    | none => rfl
    | some o =>
      cases o with
      | none => rfl
      | some m =>
        cases m with
        | dK kvs =>
          by_cases h : kvs.length < sizeLine
          · simp only [if_pos h, kSd1] <;> (generalize valG kvs k = ov; cases ov <;> rfl)
          · simp only [if_neg h]
        | _ => rfl
def kRv (o : Option (List D)) : Option M := match o with
  | some ds => some (.lst (ds.reverse.map .fz))
  | none => none
@[simp] theorem kRv_0 {ds} : kRv (some ds) = some (.lst (ds.reverse.map .fz)) := (rfl)
@[simp] theorem ev_revM {m} : revM m = kRv (lstD m) := by unfold revM kRv; cases lstD m <;> rfl
def kRvs (o : Option (List D)) : Option OutP := match o with
    | some ds => some (.ok (.fz .non) [some (.lst (ds.reverse.map .fz))])
    | none => none
@[simp] theorem kRvs_0 {ds} : kRvs (some ds) = some (.ok (.fz .non) [some (.lst (ds.reverse.map .fz))]) := (rfl)
@[simp] theorem ev_rvsG {xs : List M} : rvsG [.lst xs] = kRvs (unfz xs) := by unfold rvsG kRvs <;> simp only [] <;> cases unfz xs <;> rfl
@[simp] theorem tyM_l {ms} : tyM .lst (.lst ms) = true := (rfl)
@[simp] theorem tyM_fl {ms} : tyM .lst (.fz (.lst ms)) = true := (rfl)
@[simp] theorem tyM_d {ms} : tyM .dct (.dK ms) = true := (rfl)
@[simp] theorem tyM_fd {ms} : tyM .dct (.fz (.dK ms)) = true := (rfl)
@[simp] theorem tyM_dt {ms} : tyM .dct (.dT ms) = true := (rfl)
@[simp] theorem tyM_fdt {ms} : tyM .dct (.fz (.dT ms)) = true := (rfl)
@[simp] theorem ev_iadd1 {i j : Int} : iaddM (.fz (.int i)) (.fz (.int j)) = some (.fz (.int (i + j))) := (rfl)
@[simp] theorem ev_iadd2 {s t : Str} : iaddM (.fz (.str s)) (.fz (.str t)) = if s.length + t.length ≤ sizeLine then some (.fz (.str (s ++ t))) else none := (rfl)
@[simp] theorem all_noT {α : Type} {f : α → D} {xs : List α} : xs.all (noT ∘ fun x => M.fz (f x)) = true := by simp [List.all_eq_true]
@[simp] theorem all_noLM {α : Type} {f : α → D} {xs : List α} : xs.all (noLM ∘ fun x => M.fz (f x)) = xs.all fun x => noL (f x) := by
  have : (noLM ∘ fun x => M.fz (f x)) = fun x => noL (f x) := by funext x; simp
  rw [this]
@[simp] theorem all_tt {α : Type} {xs : List α} : (xs.all fun _ => true) = true := by simp
def kFr1 (env1 : E) (o : Option D) : Option (Out Av) := match o with
    | some d => some (.ok (.tm (.fz d)) env1)
    | none => none
@[simp] theorem kFr1_0 {env1 d} : kFr1 env1 (some d) = some (.ok (.tm (.fz d)) env1) := (rfl)
def kFr (o : Option (Out Av)) : Option (Out Av) := match o with
  | some (.ok (.tm m) env1) => kFr1 env1 (frz m)
  | some (.ex x env1) => some (.ex x env1)
  | _ => none
@[simp] theorem kFr_0 {m env1} : kFr (some (.ok (.tm m) env1)) = kFr1 env1 (frz m) := (rfl)
@[simp] theorem kFr_1 {x env1} : kFr (some (.ex x env1)) = some (.ex x env1) := (rfl)
@[simp] theorem ev_frE {env : E} {f : FE} : frE f env = kFr (f env) := by
  unfold frE kFr bindO
  cases f env with
  | none => rfl
  | some o => cases o with
    | ex x e => rfl
    | ok a e => cases a with
      | sl i => rfl
      | tm m => simp only [] <;> unfold kFr1 <;> cases frz m <;> rfl
@[simp] theorem itemsA_fl {ds : List D} : itemsA (.fz (.lst ds)) = some ds := by simp [itemsA]
end Ink
set_option Elab.async false
set_option linter.all false
set_option maxRecDepth 100000
namespace Ink
open PySem L2 PyProof.Rows
def mergeM (kvs more : List (Key × M)) : List (Key × M) := more.foldl (fun acc kv => putM acc kv.1 kv.2) kvs
theorem putM_len (kvs : List (Key × M)) (k : Key) (m : M) : (putM kvs k m).length ≤ kvs.length + 1 := by
  unfold putM; split <;> simp
theorem merge_rep {K : PySem.W.Frag} {F H : Hp} : ∀ {more : List (Key × D)} {mv : List (Key × V)} {ms : List (Key × M)} {kvs : List (Key × V)} {fp : List Addr}, mv.map (·.1) = more.map (·.1) → Reps K F (mv.map (·.2)) (more.map (·.2)) → kvs.map (·.1) = ms.map (·.1) → RepMs K F H (ms.map (·.2)) (kvs.map (·.2)) fp → ms.length + more.length ≤ sizeLine →
    ∃ fq, (∀ b ∈ fq, b ∈ fp) ∧ (mergeK kvs mv).map (·.1) = (mergeM ms (more.map fun kv => (kv.1, M.fz kv.2))).map (·.1) ∧ RepMs K F H ((mergeM ms (more.map fun kv => (kv.1, M.fz kv.2))).map (·.2)) ((mergeK kvs mv).map (·.2)) fq
  | [], [], ms, kvs, fp, _, _, hk, r, _ => ⟨fp, fun _ h => h, hk, r⟩
  | [], _ :: _, _, _, _, h, _, _, _, _ => by simp at h
  | _ :: _, [], _, _, _, h, _, _, _, _ => by simp at h
  | (k, d) :: more, (k2, v) :: mv, ms, kvs, fp, h, rs, hk, r, hl => by
    simp only [List.map_cons, List.cons.injEq] at h rs
    obtain ⟨rfl, h⟩ := h
    cases rs with
    | cons ra rs =>
      have ok : okPut ms k2 (.fz d) = true := by
        simp only [okPut, isFz, Bool.or_true, Bool.and_true, decide_eq_true_eq]
        simp only [List.length_cons] at hl
        omega
      obtain ⟨fq, s1, k1, r1⟩ := put_rep (k := k2) hk r (RepM.fz (H := H) ra) (fun b _ q => by cases q) ok
      obtain ⟨fr, s2, k3, r3⟩ := merge_rep h rs k1 r1 (by
        have := putM_len ms k2 (.fz d)
        simp only [List.length_cons] at hl
        omega)
      exact ⟨fr, fun b hb => (s1 b (s2 b hb)).elim id (fun z => nomatch z), k3, r3⟩
/-- only frozen dicts (or made ones of plain things) are taken in -/
def updG : FP := fun ms => match ms with
  | [.dK kvs, .fz (.dK ds)] => if kvs.length + ds.length ≤ sizeLine then some (.ok (.fz .non) [some (.dK (mergeM kvs (ds.map fun kv => (kv.1, .fz kv.2)))), some (.fz (.dK ds))]) else none
  | _ => none
def pairsD : List D → Option (List (Key × D))
  | [] => some []
  | .tup [.int k, d] :: r => match pairsD r with
    | some ps => some ((.inl k, d) :: ps)
    | none => none
  | .tup [.str k, d] :: r => match pairsD r with
    | some ps => some ((.inr k, d) :: ps)
    | none => none
  | _ :: _ => none
theorem pairsD_reps {K : PySem.W.Frag} {F H : Hp} (s : Sub F H) : ∀ {ds : List D} {vs : List V} {ps : List (Key × D)}, Reps K F vs ds → pairsD ds = some ps → ∃ (as : List Addr) (kvs : List (Key × V)), vs = as.map V.ref ∧ Paired (fun p kv => SqT K H p [kV kv.1, kv.2]) as kvs ∧ kvs.map (·.1) = ps.map (·.1) ∧ Reps K F (kvs.map (·.2)) (ps.map (·.2)) := by
  intro ds
  induction ds with
  | nil => intro vs ps r e; cases r; rw [pairsD] at e; cases e; exact ⟨[], [], rfl, .nil, rfl, .nil⟩
  | cons d ds ih =>
    intro vs ps r e
    cases r with
    | cons ra rs =>
      unfold pairsD at e
      split at e
      · rename_i eq; cases eq
      · rename_i k d' r' eq
        cases eq
        cases ep : pairsD ds with
        | none => rw [ep] at e; cases e
        | some qs =>
          rw [ep] at e; cases e
          obtain ⟨as, kvs, rfl, hp, hk, hr⟩ := ih rs ep
          cases ra with
          | @tupR q ws _ a rw' =>
            cases rw' with
            | cons r1 r2 => cases r2 with
              | cons r2 r3 =>
                cases r3
                have a := a.sqt s
                rw [rep_int r1] at a
                exact ⟨q :: as, (.inl k, _) :: kvs, rfl, .cons a hp, by simp [hk], .cons r2 hr⟩
      · rename_i k d' r' eq
        cases eq
        cases ep : pairsD ds with
        | none => rw [ep] at e; cases e
        | some qs =>
          rw [ep] at e; cases e
          obtain ⟨as, kvs, rfl, hp, hk, hr⟩ := ih rs ep
          cases ra with
          | @tupR q ws _ a rw' =>
            cases rw' with
            | cons r1 r2 => cases r2 with
              | cons r2 r3 =>
                cases r3
                have a := a.sqt s
                rw [rep_str r1] at a
                exact ⟨q :: as, (.inr k, _) :: kvs, rfl, .cons a hp, by simp [hk], .cons r2 hr⟩
      · cases e
def dictM (m : M) : Option M := match lstD m with
  | some ds => match pairsD ds with
    | some ps => if ps.length ≤ sizeLine then some (.dK (mergeM [] (ps.map fun kv => (kv.1, .fz kv.2)))) else none
    | none => none
  | none => none
section
variable {X : Cx} {W : WX} {e o : Expr} {fe fo : FE} {p pos apos cpos : Pos}
theorem e_dict (hc : X.calm = true) (hg : Gl X "dict") (hm : X.mg "dict" = none) (ha : PE X e (rE X.K W fe)) (hs : starEach [e] X.env = (false, eval e X.env) :: starEach [] X.env := by rfl) : PE X (.Call (.Name "dict" p) [e] [] pos) (rE X.K W (callE (g1 dictM) (arg1 fe))) :=
  e_callTy (call_dictP hc) (fun vs H Q Ex p => by
    obtain ⟨x, F, a, m, fps, rfl, R, r, h, p⟩ := g1_at p
    unfold dictM at h
    cases e1 : lstD a with
    | none => rw [e1] at h; cases h
    | some ds =>
      simp only [e1] at h
      cases e2 : pairsD ds with
      | none => rw [e2] at h; cases h
      | some ps =>
        simp only [e2] at h
        split at h
        · rename_i hl
          cases h
          obtain ⟨q, ws, rfl, hq, rs⟩ := lstD_rep R.fr r e1
          obtain ⟨as, kvs, rfl, hp, hk, hr⟩ := pairsD_reps R.fr rs e2
          refine ⟨q, as, kvs, rfl, SqL.of hq, hp, fun t ht => ?_⟩
          obtain ⟨fr, s1, k1, r3⟩ := merge_rep (ms := []) (kvs := []) (fp := []) (H := H) hk hr rfl .nil (by simpa using hl)
          have efr : fr = [] := List.eq_nil_iff_forall_not_mem.mpr fun b hb => by cases s1 b hb
          subst efr
          have en : Ext X.K F H (fun _ => False) F (upd H t (.dK (mergeK [] kvs))) (fun b => False ∨ b = t) := Ext.new ht
          obtain ⟨R2, n2⟩ := R.frame (fun b _ h => h) en (sub_new R.fr ht)
          refine p (.ref t) F _ fps [t] R2 (.dK upd_same (sub_none R.fr ht) k1 (r3.frame (Sub.refl _) (fun b hb => by cases hb) fun b hb => by cases hb) fun h => by cases h) (fun b hb z => n2 b z (.inr (by simpa using hb))) ?_
          exact (Ext.new (A := Own fps) ht).weak fun b h => h.imp id fun z => by simpa using z
        · cases h) hg hm rfl (a_cons ha a_nil hs) (he := hs)
end
end Ink
set_option Elab.async false
set_option linter.all false
set_option maxRecDepth 100000
namespace Ink
open PySem L2
def kDc2 (o : Option (List (Key × D))) : Option M := match o with
    | some ps => if ps.length ≤ sizeLine then some (.dK (mergeM [] (ps.map fun kv => (kv.1, .fz kv.2)))) else none
    | none => none
@[simp] theorem kDc2_0 {ps} : kDc2 (some ps) = if ps.length ≤ sizeLine then some (.dK (mergeM [] (ps.map fun kv => (kv.1, .fz kv.2)))) else none := (rfl)
def kDc1 (o : Option (List D)) : Option M := match o with
  | some ds => kDc2 (pairsD ds)
  | none => none
@[simp] theorem kDc1_0 {ds} : kDc1 (some ds) = kDc2 (pairsD ds) := (rfl)
@[simp] theorem ev_dictM {m : M} : dictM m = kDc1 (lstD m) := by
  unfold dictM kDc1 kDc2
  cases lstD m with
  | none => rfl
  | some ds => simp only [] <;> cases pairsD ds <;> rfl
theorem pairsD_str {α : Type} {k : α → Str} {f : α → D} : ∀ {xs : List α}, pairsD (xs.map fun x => D.tup [.str (k x), f x]) = some (xs.map fun x => ((Sum.inr (k x) : Key), f x))
  | [] => by simp [pairsD]
  | x :: xs => by simp [pairsD, pairsD_str]
@[simp] theorem ev_updG {kvs : List (Key × M)} {ds : List (Key × D)} : updG [.dK kvs, .fz (.dK ds)] = if kvs.length + ds.length ≤ sizeLine then some (.ok (.fz .non) [some (.dK (mergeM kvs (ds.map fun kv => (kv.1, .fz kv.2)))), some (.fz (.dK ds))]) else none := (rfl)
theorem comp_filter {α : Type} {g : FG} {ft : FT} {fe : FE} {own : List Nat} (enc : α → D) (p : α → Bool) (f : α → M) (env : E) : ∀ (xs : List α), (∀ x ∈ xs, ∃ env1 env2, g (.fz (enc x)) env = some env1 ∧ ft env1 = some (.ok (p x) env2) ∧ (p x = true → ∃ env3, fe env2 = some (.ok (.tm (f x)) env3) ∧ wipeE env3 own = env) ∧ (p x = false → wipeE env2 own = env)) →
    compD g ft fe own (xs.map enc) env = some ((xs.filter p).map f, env)
  | [], _ => rfl
  | x :: xs, h => by
    have ih := comp_filter enc p f env xs fun d hd => h d (List.mem_cons_of_mem _ hd)
    obtain ⟨env1, env2, e1, e2, e3, e4⟩ := h x (List.mem_cons_self ..)
    cases hp : p x with
    | true =>
      obtain ⟨env3, e5, e6⟩ := e3 hp
      rw [hp] at e2
      rw [List.map_cons, compD, e1]
      simp only [e2, e5, e6, ih, List.filter_cons, hp, if_true, List.map_cons]
    | false =>
      rw [hp] at e2
      rw [List.map_cons, compD, e1]
      simp only [e2, e4 hp, ih, List.filter_cons, hp]
      rfl
end Ink
set_option Elab.async false
set_option linter.all false
set_option maxRecDepth 100000
set_option maxHeartbeats 0
namespace Ink
open PySem L2 PyProof.Rows
end Ink
set_option Elab.async false
set_option linter.all false
set_option maxRecDepth 100000
set_option maxHeartbeats 0
namespace Ink
open PySem L2 PyProof.Rows
def numsD : List D → Option (List Int)
  | [] => some []
  | .int i :: r => match numsD r with
    | some ns => some (i :: ns)
    | none => none
  | _ :: _ => none
theorem numsD_map (ns : List Int) : numsD (ns.map D.int) = some ns := by
  induction ns with
  | nil => rfl
  | cons n ns ih => rw [List.map_cons, numsD, ih]
def numsM (m : M) : Option (List Int) := match lstD m with
  | some ds => numsD ds
  | none => none
end Ink
set_option Elab.async false
set_option linter.all false
set_option maxRecDepth 100000
set_option maxHeartbeats 0
namespace Ink
open PySem L2 PyProof.Rows
def lrgE (f : FE) : FE := fun env => bindO (f env) fun a env1 => match intA a env1 with
  | some n => if decide (-(2 ^ 62) ≤ n) && decide (n ≤ 16777216) then some (.ok (.tm (.lst ((rangeD 0 n).map M.fz))) env1) else none
  | none => none
section
variable {X : Cx} {W : WX} {e : Expr} {f : FE} {p p2 pos pos2 : Pos}
def keyD : Key → D
  | .inl i => .int i
  | .inr x => .str x
theorem keyD_rep {K : PySem.W.Frag} {F : Hp} (k : Key) : Rep K F (kV k) (keyD k) := by
  cases k with
  | inl i => exact .int i
  | inr x => exact .str x
theorem keys_reps {K : PySem.W.Frag} {F : Hp} : ∀ ks : List Key, Reps K F (ks.map kV) (ks.map keyD)
  | [] => .nil
  | k :: ks => .cons (keyD_rep k) (keys_reps ks)
/-- a key that is a tuple -/
def keyTD (k : List Key) : D := .tup (k.map keyD)
theorem paired_at {α β : Type} {R : α → β → Prop} : ∀ {xs : List α} {ys : List β}, Paired R xs ys → ys.length = xs.length ∧ ∀ (i : Nat) x y, xs[i]? = some x → ys[i]? = some y → R x y
  | [], _, h => by cases h; exact ⟨rfl, fun i x y e => by simp at e⟩
  | _ :: _, _, h => by
    cases h with
    | cons a b =>
      obtain ⟨l, f⟩ := paired_at b
      refine ⟨by simp [l], fun i x y e1 e2 => ?_⟩
      cases i with
      | zero => simp at e1 e2; subst e1; subst e2; exact a
      | succ i => exact f i x y (by simpa using e1) (by simpa using e2)
theorem keysT_reps {K : PySem.W.Frag} {F H : Hp} {kvs : List (List Key × V)} {bs : List Addr} (t : TOk K F H) (h : IsKeys H kvs bs) : Reps K F (bs.map V.ref) ((kvs.map (·.1)).map keyTD) := by
  obtain ⟨l, f⟩ := paired_at h
  refine Reps.of (by simp [l]) fun i v d e1 e2 => ?_
  rw [List.getElem?_map] at e1
  rw [List.getElem?_map, List.getElem?_map] at e2
  cases eb : bs[i]? with
  | none => rw [eb] at e1; cases e1
  | some b =>
    cases ek : kvs[i]? with
    | none => rw [ek] at e2; cases e2
    | some kv =>
      rw [eb] at e1; rw [ek] at e2
      cases e1; cases e2
      exact .tup (t.tp _ _ (f i kv b ek eb)) (keys_reps _)
def listDM (m : M) : Option M := match m with
  | .dK kvs => some (.lst ((kvs.map fun kv => keyD kv.1).map M.fz))
  | .fz (.dK kvs) => some (.lst ((kvs.map fun kv => keyD kv.1).map M.fz))
  | .dT kvs => some (.lst ((kvs.map fun kv => keyTD kv.1).map M.fz))
  | .fz (.dT kvs) => some (.lst ((kvs.map fun kv => keyTD kv.1).map M.fz))
  | m => listM m
theorem e_listD (hc : X.calm = true) (hg : Gl X "list") (hm : X.mg "list" = none) (ha : PE X e (rE X.K W f)) (hs : starEach [e] X.env = (false, eval e X.env) :: starEach [] X.env := by rfl) : PE X (.Call (.Name "list" p) [e] [] pos) (rE X.K W (callE (g1 listDM) (arg1 f))) :=
  e_callTy (CallR.or (call_list_dT hc) (CallR.or (call_list_dK hc) call_list_of)) (fun vs H Q Ex p => by
    obtain ⟨x, F, a, m, fps, rfl, R, r, h, p⟩ := g1_at p
    unfold listDM at h
    split at h
    · rename_i kvs
      cases h
      right
      left
      generalize fps 0 = f0 at r
      cases r with
      | @dK q ws _ fq hq hf hk rs n =>
        refine ⟨q, ws, rfl, hq, ?_⟩
        have e1 : (ws.map fun kv => kV kv.1) = (kvs.map (·.1)).map kV := by rw [← hk, List.map_map]; rfl
        have e2 : (kvs.map fun kv => keyD kv.1) = (kvs.map (·.1)).map keyD := by rw [List.map_map]; rfl
        rw [e1]
        rw [e2] at p
        exact sp_lst R (keys_reps _) p
    · rename_i kvs
      cases h
      right
      left
      cases repm_fz r with
      | @dK q ws _ hq hk rs =>
        refine ⟨q, ws, rfl, R.fr _ _ hq, ?_⟩
        have e1 : (ws.map fun kv => kV kv.1) = (kvs.map (·.1)).map kV := by rw [← hk, List.map_map]; rfl
        have e2 : (kvs.map fun kv => keyD kv.1) = (kvs.map (·.1)).map keyD := by rw [List.map_map]; rfl
        rw [e1]
        rw [e2] at p
        exact sp_lst R (keys_reps _) p
    · rename_i kvs
      cases h
      left
      generalize fps 0 = f0 at r
      cases r with
      | @dT q ws _ fq hq hf hk rs n =>
        refine ⟨q, ws, rfl, .of hq, fun pp bs hp ks => ?_⟩
        have e2 : (kvs.map fun kv => keyTD kv.1) = (ws.map (·.1)).map keyTD := by rw [hk, List.map_map]; rfl
        rw [e2] at p
        exact sp_lst R (keysT_reps R.tt ks) p pp hp
    · rename_i kvs
      cases h
      left
      cases repm_fz r with
      | @dT q ws _ hq hk rs =>
        refine ⟨q, ws, rfl, .of (R.fr _ _ hq), fun pp bs hp ks => ?_⟩
        have e2 : (kvs.map fun kv => keyTD kv.1) = (ws.map (·.1)).map keyTD := by rw [hk, List.map_map]; rfl
        rw [e2] at p
        exact sp_lst R (keysT_reps R.tt ks) p pp hp
    · right
      right
      unfold listM at h
      cases e1 : seqD a with
      | none => rw [e1] at h; cases h
      | some ds =>
        simp only [e1] at h
        cases h
        obtain ⟨q, vs, rfl, hq, rs⟩ := seqD_rep R.fr r e1
        exact ⟨q, vs, rfl, hq, sp_lst R rs p⟩) hg hm (by decide +kernel) (a_cons ha a_nil hs) (he := hs)
def kLr1 (env1 : E) (o : Option Int) : Option (Out Av) := match o with
  | some n => if decide (-(2 ^ 62) ≤ n) && decide (n ≤ 16777216) then some (.ok (.tm (.lst ((rangeD 0 n).map M.fz))) env1) else none
  | none => none
@[simp] theorem kLr1_0 {env1 n} : kLr1 env1 (some n) = if decide (-(2 ^ 62) ≤ n) && decide (n ≤ 16777216) then some (.ok (.tm (.lst ((rangeD 0 n).map M.fz))) env1) else none := (rfl)
def kLr (o : Option (Out Av)) : Option (Out Av) := match o with
  | some (.ok a env1) => kLr1 env1 (intA a env1)
  | some (.ex x env1) => some (.ex x env1)
  | none => none
@[simp] theorem kLr_0 {a env1} : kLr (some (.ok a env1)) = kLr1 env1 (intA a env1) := (rfl)
@[simp] theorem ev_lrgE {env : E} {f : FE} : lrgE f env = kLr (f env) := by
  unfold lrgE kLr bindO
  cases f env with
  | none => rfl
  | some o => cases o with
    | ok a e => simp only [] <;> unfold kLr1 <;> cases intA a e <;> rfl
    | ex x e => rfl
@[simp] theorem listDM_l {ms : List M} : listDM (.lst ms) = listM (.lst ms) := (rfl)
@[simp] theorem listDM_fl {ms : List D} : listDM (.fz (.lst ms)) = listM (.fz (.lst ms)) := (rfl)
@[simp] theorem listDM_ft {ms : List D} : listDM (.fz (.tup ms)) = listM (.fz (.tup ms)) := (rfl)
@[simp] theorem listDM_t {kvs : List (List Key × M)} : listDM (.dT kvs) = some (.lst ((kvs.map fun kv => keyTD kv.1).map M.fz)) := (rfl)
@[simp] theorem listDM_ft2 {kvs : List (List Key × D)} : listDM (.fz (.dT kvs)) = some (.lst ((kvs.map fun kv => keyTD kv.1).map M.fz)) := (rfl)
@[simp] theorem listDM_k {kvs : List (Key × M)} : listDM (.dK kvs) = some (.lst ((kvs.map fun kv => keyD kv.1).map M.fz)) := (rfl)
def kNm (o : Option (List D)) : Option (List Int) := match o with
  | some ds => numsD ds
  | none => none
@[simp] theorem kNm_0 {ds} : kNm (some ds) = numsD ds := (rfl)
@[simp] theorem ev_numsM {m : M} : numsM m = kNm (lstD m) := by unfold numsM kNm; cases lstD m <;> rfl
@[simp] theorem numsD_ints {ns : List Int} : numsD (ns.map D.int) = some ns := numsD_map ns
end
end Ink
set_option Elab.async false
set_option linter.all false
set_option maxRecDepth 100000
namespace Ink
open PySem L2
def unlG (gs : List FG) : FG := fun m env => match lstD m with
  | some ds => eachG gs (ds.map M.fz) env
  | none => none
@[simp] theorem ev_unlG {gs : List FG} {ms : List M} {env : E} : unlG gs (.lst ms) env = match unfz ms with
  | some ds => eachG gs (ds.map M.fz) env
  | none => none := (rfl)
end Ink
set_option Elab.async false
set_option linter.all false
set_option maxRecDepth 100000
namespace Ink
open PySem L2
end Ink
set_option Elab.async false
set_option linter.all false
set_option maxRecDepth 100000
namespace Ink
open PySem L2
def inTB (a b : M) : Option Bool := match toPM a with
  | some p => match toPM b with
    | some (.list qs) => if SeqAt.shaped p && SeqAt.shaped (.list qs) then some (qs.any fun z => PyData.eqv z p) else none
    | _ => none
  | none => none
def inT (neg : Bool) (a b : M) : Option M := match inTB a b with
  | some k => some (.fz (.bl (if neg then !k else k)))
  | none => none
end Ink
set_option Elab.async false
set_option linter.all false
set_option maxRecDepth 100000
namespace Ink
open PySem L2
end Ink
set_option Elab.async false
set_option linter.all false
set_option maxRecDepth 100000
set_option maxHeartbeats 1000000
namespace ZS
open PySem
open PySem.Sem (wp)
end ZS
namespace ZS
open PySem
open PySem.Sem (wp)
end ZS
set_option Elab.async false
set_option linter.all false
set_option maxRecDepth 100000
set_option maxHeartbeats 1000000
namespace ZS
open PySem PySem.Spec L2
end ZS
set_option Elab.async false
set_option linter.all false
set_option maxRecDepth 100000
namespace Ink
open PySem L2
def zipD (xs ys : List D) : List D := List.zipWith (fun a b => D.tup [a, b]) xs ys
def itemsZ (strict : Bool) : List Av → Option (List D)
  | [.tm (.fz (.lst xs)), .tm (.fz (.lst ys))] => if strict && !decide (xs.length = ys.length) then none else some (zipD xs ys)
  | _ => none
def overZ (strict : Bool) (fa : FA) : FI := fun env => bindO (fa env) fun as env1 => match itemsZ strict as with
  | some ds => some (.ok ds env1)
  | none => none
end Ink
namespace Ink
open PySem L2
def kZ1 (env1 : E) (o : Option (List D)) : Option (Out (List D)) := match o with
  | some ds => some (.ok ds env1)
  | none => none
@[simp] theorem kZ1_0 {env1 : E} {ds : List D} : kZ1 env1 (some ds) = some (.ok ds env1) := (rfl)
def kZ (strict : Bool) (o : Option (Out (List Av))) : Option (Out (List D)) := match o with
  | some (.ok as env1) => kZ1 env1 (itemsZ strict as)
  | some (.ex x env1) => some (.ex x env1)
  | none => none
@[simp] theorem kZ_0 {strict : Bool} {as : List Av} {env1 : E} : kZ strict (some (.ok as env1)) = kZ1 env1 (itemsZ strict as) := (rfl)
@[simp] theorem ev_overZ {strict : Bool} {env : E} {fa : FA} : overZ strict fa env = kZ strict (fa env) := by
  unfold overZ kZ bindO
  cases fa env with
  | none => rfl
  | some o => cases o <;> rfl
@[simp] theorem itemsZ_0 {xs ys : List D} : itemsZ false [.tm (.fz (.lst xs)), .tm (.fz (.lst ys))] = some (zipD xs ys) := (rfl)
end Ink
set_option Elab.async false
set_option linter.all false
set_option maxRecDepth 100000
namespace Ink
open PySem L2
end Ink
set_option Elab.async false
set_option linter.all false
set_option maxRecDepth 100000
namespace Ink
open PySem L2
def clrG : FP := fun ms => match ms with
  | [.lst xs] => match unfz xs with
    | some ds => some (.ok (.fz .non) [some (.lst [])])
    | none => none
  | _ => none
@[simp] theorem ev_clr {xs : List M} {ds : List D} (h : unfz xs = some ds) : clrG [.lst xs] = some (.ok (.fz .non) [some (.lst [])]) := by
  unfold clrG
  simp only [h]
end Ink
set_option Elab.async false
set_option linter.all false
set_option maxRecDepth 100000
namespace Ink
open PySem L2
theorem Reps.erase {K : PySem.W.Frag} {F : Hp} : ∀ {vs : List V} {ds : List D}, Reps K F vs ds → ∀ k, Reps K F (vs.eraseIdx k) (ds.eraseIdx k)
  | _, _, .nil, k => .nil
  | _, _, .cons a t, 0 => t
  | _, _, .cons a t, k + 1 => .cons a (Reps.erase t k)
section
variable {X : Cx} {W : WX} {o e e2 e3 : Expr} {fo fe f2 f3 : FE} {apos cpos : Pos}
def max3M : M → M → M → Option M
  | .fz (.int i), .fz (.int j), .fz (.int k) => some (.fz (.int (if (if i < j then j else i) < k then k else (if i < j then j else i))))
  | _, _, _ => none
@[simp] theorem ev_max3 {i j k : Int} : g3 max3M [.fz (.int i), .fz (.int j), .fz (.int k)] = some (.ok (.fz (.int (if (if i < j then j else i) < k then k else (if i < j then j else i)))) [some (.fz (.int i)), some (.fz (.int j)), some (.fz (.int k))]) := (rfl)
end
end Ink
set_option Elab.async false
set_option linter.all false
set_option maxRecDepth 100000
namespace Ink
open PySem L2 LamX
def raiseS (x : Str) : FS := fun env => some (.ex ⟨x, none⟩ env)
def ExcK (K : PySem.W.Frag) (x : Str) : Prop := PySem.W.excIn K (He.ga K x) He.veBase "ValueError.__new__" = true ∧ PySem.W.keepIn K (.ref (He.ga K x)) = true ∧ PySem.W.subIn K (.ref (He.ga K x)) (.type "BaseException") = some true ∧ PySem.W.typeIn K (.ref (He.ga K x)) = some (.type "type")
theorem s_raise {X : Cx} {W : WX} {P : List Nat} {x m : Str} {j : Nat} {p p2 pos rpos : Pos} (hc : X.calm = true) (tk : Takes X W) (hm : X.mg x = some (.ref (He.ga X.K x))) (hx : ExcK X.K x) (hg : Gl X x) (hdb : (x == ("__debug__" : Str)) = false := by decide) :
    PS X (.Raise (some (.Call (.Name x p) [.Constant (.str m) j p2] [] pos)) none rpos) (rS X.K W P (raiseS x)) :=
  PS_mono (L2N.ps_raise hc tk (L2N.pmk_own PySem.F.excBase_ValueError hx.1 hm hx.2.1 (raises_own hx.2.2.1 hx.2.2.2) hg hdb)) fun D σ H ⟨F, env, fps, R, p⟩ => p (.ref (He.ga X.K x)) none σ F H fps R ⟨rfl, trivial⟩ .refl (Ext.refl fun _ h => h)
theorem Takes.len {X : Cx} {W : WX} (t : L2.Takes X W) : L2.Takes X (fun c d σ H => σ.length = X.N.length → W c d σ H) := fun u s' ⟨a, B, sI, pins, σ, H, cls, d, e, I, nb, up, sky, na, os, ag, w⟩ =>
  t u s' ⟨a, B, sI, pins, σ, H, cls, d, e, I, nb, up, sky, na, os, ag, w I.len⟩
end Ink
set_option Elab.async false
set_option linter.all false
set_option maxRecDepth 100000
set_option maxHeartbeats 2000000
namespace Ink
open PySem PySem.Spec PyProof.Rows L2 LamX
end Ink
set_option Elab.async false
set_option linter.all false
set_option maxRecDepth 100000
namespace Ink
open PySem L2 LamX
def wordE (told : Str) (wf : Str → Option Str) (f : FE) : FE := fun env => match f env with
  | some (.ok _ env1) => some (.ok (.tm (.fz (.str told))) env1)
  | some (.ex x env1) => match wf x.cls with
    | some z => some (.ok (.tm (.fz (.str z))) env1)
    | none => none
  | none => none
def kWord (told : Str) (wf : Str → Option Str) (o : Option (Out Av)) : Option (Out Av) := match o with
  | some (.ok _ env1) => some (.ok (.tm (.fz (.str told))) env1)
  | some (.ex x env1) => match wf x.cls with
    | some z => some (.ok (.tm (.fz (.str z))) env1)
    | none => none
  | none => none
@[simp] theorem ev_wordE {told : Str} {wf : Str → Option Str} {f : FE} {env : E} : wordE told wf f env = kWord told wf (f env) := (rfl)
@[simp] theorem kWord_ok {told : Str} {wf : Str → Option Str} {a : Av} {env1 : E} : kWord told wf (some (.ok a env1)) = some (.ok (.tm (.fz (.str told))) env1) := (rfl)
@[simp] theorem kWord_ex {told : Str} {wf : Str → Option Str} {c : Str} {fs} {env1 : E} : kWord told wf (some (.ex ⟨c, fs⟩ env1)) = match wf c with
    | some z => some (.ok (.tm (.fz (.str z))) env1)
    | none => none := (rfl)
@[simp] theorem ev_raiseS {x : Str} {env : E} : raiseS x env = some (.ex ⟨x, none⟩ env) := (rfl)
end Ink
set_option Elab.async false
set_option linter.all false
set_option maxRecDepth 100000
namespace Ink
open PySem L2
end Ink
set_option Elab.async false
set_option linter.all false
set_option maxRecDepth 100000
namespace Ink
open PySem PySem.Spec PyProof.Rows L2
end Ink
set_option Elab.async false
set_option linter.all false
set_option maxRecDepth 100000
namespace Ink
open PySem PySem.Spec PyProof.Rows L2
end Ink
set_option Elab.async false
set_option linter.all false
set_option maxRecDepth 100000
namespace Ink
open PySem L2
end Ink
set_option Elab.async false
set_option linter.all false
set_option maxRecDepth 100000
namespace Ink
open PySem L2 PySem.Spec PyProof.Rows
end Ink
set_option Elab.async false
set_option linter.all false
set_option maxRecDepth 100000
set_option maxHeartbeats 4000000
namespace Ink
section
open PySem L2 PySem.Spec PyProof.Rows
variable {X : Cx} {W : WX} {e : Expr} {fe : FE} {pos : Pos}
def rev1M (m : M) : Option M := match m with
  | .fz (.tup (a :: b :: _)) => some (.fz (.tup [b, a]))
  | _ => none
@[simp] theorem ev_rev1 {a b : D} {ds : List D} : rev1M (.fz (.tup (a :: b :: ds))) = some (.fz (.tup [b, a])) := (rfl)
end
end Ink
set_option Elab.async false
set_option linter.all false
set_option maxRecDepth 100000
namespace Ink
open PySem L2
end Ink
set_option Elab.async false
set_option linter.all false
set_option maxRecDepth 100000
namespace Ink
open PySem L2
end Ink
set_option Elab.async false
set_option linter.all false
set_option maxRecDepth 100000
namespace Ink
open PySem L2
def loopM (g : FG) (fb : FS) : List M → E → Option Fl
  | [], env => some (.nx env)
  | m :: ms, env => match g m env with
    | none => none
    | some env1 => match fb env1 with
      | some (.nx env2) => loopM g fb ms env2
      | some (.ct env2) => loopM g fb ms env2
      | some (.bk env2) => some (.nx env2)
      | o => o
def lstA : Av → Option (List M)
  | .tm (.lst ms) => some ms
  | _ => none
def forM (f : FE) (g : FG) (fb : FS) : FS := fun env => bindS (tk f env) fun a env1 => match lstA a with
  | some ms => loopM g fb ms env1
  | none => none
def ixO : FP := fun ms => match ms with
  | [.lst xs, .fz (.int i)] => match atI xs i with
    | some m => some (.ok m [none, some (.fz (.int i))])
    | none => none
  | _ => none
@[simp] theorem ev_ixO {xs : List M} {i : Int} : ixO [.lst xs, .fz (.int i)] = match atI xs i with
    | some m => some (.ok m [none, some (.fz (.int i))])
    | none => none := (rfl)
theorem REnv.change {K : PySem.W.Frag} {F H : Hp} {σ σ' : St} {env : E} {fps : Nat → List Addr} (R : REnv K F H σ env fps) (hl : σ'.length = σ.length) (h : ∀ (i : Nat) (m : M), env[i]? = some (some m) → σ'[i]? = σ[i]?) : REnv K F H σ' env fps :=
  ⟨R.fr, by rw [R.len, hl], fun i m e => let ⟨v, hv, r⟩ := R.got i m e; ⟨v, by rw [h i m e]; exact hv, r⟩, R.nil, R.dj, R.tt⟩
def kForM (g : FG) (fb : FS) (o : Option (Out Av)) : Option Fl := match o with
  | some (.ok a env1) => match lstA a with
    | some ms => loopM g fb ms env1
    | none => none
  | some (.ex x env1) => some (.ex x env1)
  | none => none
@[simp] theorem ev_forM {f : FE} {g : FG} {fb : FS} {env : E} : forM f g fb env = kForM g fb (tk f env) := by
  unfold forM kForM bindS
  cases tk f env with
  | none => rfl
  | some o => cases o <;> rfl
@[simp] theorem kForM_0 {g : FG} {fb : FS} {ms : List M} {env : E} : kForM g fb (some (.ok (.tm (.lst ms)) env)) = loopM g fb ms env := (rfl)
end Ink
set_option Elab.async false
set_option linter.all false
set_option maxRecDepth 100000
set_option maxHeartbeats 4000000
namespace Ink
open PySem PySem.Spec PyProof.Rows L2
end Ink
set_option Elab.async false
set_option linter.all false
set_option maxRecDepth 100000
set_option maxHeartbeats 1000000
namespace Ink
open PySem L2
def itemsZM : List Av → Option (List D)
  | [.tm (.fz (.lst xs)), .tm (.fz (.tup ys))] => some (zipD xs ys)
  | _ => none
def overZM (fa : FA) : FI := fun env => bindO (fa env) fun as env1 => match itemsZM as with
  | some ds => some (.ok ds env1)
  | none => none
def kZM (o : Option (Out (List Av))) : Option (Out (List D)) := match o with
  | some (.ok as env1) => kZ1 env1 (itemsZM as)
  | some (.ex x env1) => some (.ex x env1)
  | none => none
@[simp] theorem kZM_0 {as : List Av} {env1 : E} : kZM (some (.ok as env1)) = kZ1 env1 (itemsZM as) := (rfl)
@[simp] theorem ev_overZM {env : E} {fa : FA} : overZM fa env = kZM (fa env) := by
  unfold overZM kZM bindO
  cases fa env with
  | none => rfl
  | some o => cases o <;> rfl
@[simp] theorem itemsZM_0 {xs ys : List D} : itemsZM [.tm (.fz (.lst xs)), .tm (.fz (.tup ys))] = some (zipD xs ys) := (rfl)
end Ink
set_option Elab.async false
set_option linter.all false
set_option maxRecDepth 100000
set_option maxHeartbeats 2000000
namespace Ink
open PySem PySem.Spec PyProof.Rows L2 LamX
section
variable {X : Cx} {e : Expr} {es : List Expr} {ta : TA} {p1 p2 pos : Pos}
/-- b.__init__(self, ..), b an own class over ValueError -/
theorem pe_binit {b : Str} {pl : Sem Bool} (hg : Gl X b) (hm : X.mg b = some (.ref (He.ga X.K b))) (B : BaseC X.K b) (ha : PA X (e :: es) ta) (hdb : (b == ("__debug__" : Str)) = false)
    (hc : eval (.Call (.Attribute (.Name b p1) "__init__" p2) (e :: es) [] pos) X.env = (do
      let ov ← eval (.Name b p1) X.env
      standAt p2.atName
      let (f, first) ← holding [ov] (getMethod ov "__init__" pl)
      callWith pos f first (backTo pos (starEach (e :: es) X.env)) (backToKw pos (keywordEach [] X.env))) := by rfl)
    (he : starEach (e :: es) X.env = (false, eval e X.env) :: starEach es X.env := by rfl) (hpl : (backTo pos (starEach es X.env)).any (·.1) = false := by rfl) :
    PE X (.Call (.Attribute (.Name b p1) "__init__" p2) (e :: es) [] pos) (tVeI X.K ta) := by
  refine ⟨fun pins s σ H Q I h => ?_⟩
  refine PySem.W.methodCall_KW (ld_glob I hg hm ?_ hdb) hc
  obtain ⟨m, fr⟩ := I.fr
  refine PySem.W.method_of_cls fr I.ok.mod.kin B.bg (PySem.W.cls_val fr I.ok.mod.kin B.bt B.br B.bi (by decide +kernel) ?_)
  show wpAny _ _ (callWith pos (Value.builtin "ValueError.__init__") [] (backTo pos (starEach (e :: es) X.env)) []) _ _ _
  refine PyProof.Rows.callWith_method1 (thn (ha.run pos pins _ σ H _ (I.tok _) h) fun us s1 ⟨vs, H1, I1, r1, a, C, ws, ev, hl, T, ea, q⟩ => ?_) he hpl
  subst ev
  cases r1 with
  | @cons _ u0 _ ur ra rw' =>
    obtain rfl : u0 = Value.ref a := ra
    have hlen : ur.length ≤ sizeLine := by
      rw [← Paired.length rw', sizeLine_eq]
      omega
    exact oinit_ok T I1 ea hlen fun s' J => ⟨.non, H1, J, rfl, q⟩
end
/-- self at a, an exception in the making; its field gets y -/
def spI (C : Addr) (f : Str) : Sp := fun vs H Q Ex => ∃ a y, vs = [.ref a, y] ∧ H a = some (exo a C none) ∧ ∀ dx, H dx = none → dx ≠ a → Q .non (upd (upd H dx (exd dx [(f, y)])) a (exo a C (some dx)))
structure InitF (P : Program) (w : World) (K : PySem.W.Frag) (mg : Str → Option Value) (base : Heap) (x b f : Str) : Prop where
  c : InitC K x b f
  mx : mg x = some (.ref (He.ga K x))
  ex : ∃ fd, FnOk P w K mg base (L2N.CX P w) 1 (iAd K x) fd [("self" : Str), f] (spI (He.ga K x) f) ∧ Binds K fd [("self" : Str), f] []
theorem init_mk {P : Program} {w : World} {K : PySem.W.Frag} {mg : Str → Option Value} {base : Heap} {x b f qual m : Str} {params : Arguments} {body : List Stmt} {scope : Scope} {fd : FuncData} {p1 p2 p3 p4 p5 p6 p7 p8 p9 p10 : Pos} {j : Nat}
    (c : InitC K x b f) (mx : mg x = some (.ref (He.ga K x))) (mb : mg b = some (.ref (He.ga K b))) (F : FunD K "__init__" qual params body scope [] [] (iAd K x) fd) (S : FnScope ["self", f] [("self" : Str), f] scope)
    (hbody : body = [.Expr (.Call (.Attribute (.Name b p1) "__init__" p2) [.Name "self" p3, .Constant (.str m) j p4] [] p5) p6, .Assign [.Attribute (.Name "self" p7) f p8] (.Name f p9) p10])
    (hgb : List.lookup b scope.names = some .globalImplicit) (hl0 : List.lookup ("self" : Str) scope.names = some .local) (hl1 : List.lookup f scope.names = some .local) (hdb : (b == ("__debug__" : Str)) = false) (hdf : (f == ("__debug__" : Str)) = false) (hcf : (f == ("__classdict__" : Str)) = false)
    (hc : ∀ (L g : Addr) (cdv : Value), ∃ pl : Sem Bool, eval (.Call (.Attribute (.Name b p1) "__init__" p2) [.Name "self" p3, .Constant (.str m) j p4] [] p5) (PyProof.Rows.envOfC qual scope L g cdv) = (do
      let ov ← eval (.Name b p1) (PyProof.Rows.envOfC qual scope L g cdv)
      standAt p2.atName
      let (f, first) ← holding [ov] (getMethod ov "__init__" pl)
      callWith p5 f first (backTo p5 (starEach [.Name "self" p3, .Constant (.str m) j p4] (PyProof.Rows.envOfC qual scope L g cdv))) (backToKw p5 (keywordEach [] (PyProof.Rows.envOfC qual scope L g cdv)))))
    (hbd : ∀ (kV doc pm : Value) (an : Option Addr) (cdv ct : Value) (us : List Value), us.length = [("self" : Str), f].length → bindArgs (PySem.W.fnOf "__init__" qual params body scope .none kV doc pm an cdv ct) ⟨us, []⟩ = pure ([("self" : Str), f].zip us)) :
    InitF P w K mg base x b f := by
  refine ⟨c, mx, fd, F.ok (k := 0) S (fun vs H Q E h => by obtain ⟨a, y, rfl, _⟩ := h; rfl) (fun cdv A outer s H vs Q E hr h => ?_), F.bindsN hbd⟩
  obtain ⟨a, y, rfl, ha, hq⟩ := h
  subst hbody
  let Y := cxOf (L2N.CX P w) P w K mg base [("self" : Str), f] qual scope (iAd K x) cdv A outer s H E
  have v0 : ∀ p : Pos, PE Y (.Name "self" p) (tVar 0) := fun p => pe_var (X := Y) (i := 0) rfl (.inl hl0) (by decide) (by decide)
  have v1 : ∀ p : Pos, PE Y (.Name f p) (tVar 1) := fun p => pe_var (X := Y) (i := 1) rfl (.inl hl1) hdf hcf
  obtain ⟨pl, hcc⟩ := hc s.heap.objs.size (iAd K x) cdv
  have s1 : PS Y (.Expr (.Call (.Attribute (.Name b p1) "__init__" p2) [.Name "self" p3, .Constant (.str m) j p4] [] p5) p6) _ := ps_expr (pe_binit (X := Y) hgb mb c.B (pa_cons (v0 p3) (pa_cons pe_str pa_nil)) hdb hcc)
  have s2 : PS Y (.Assign [.Attribute (.Name "self" p7) f p8] (.Name f p9) p10) _ := ps_ost (X := Y) (v0 p7) (v1 p9)
  refine ⟨_, pss_cons s1 (pss_one s2), ?_⟩
  exact ⟨.ref a, rfl, a, He.ga K x, [.str m], rfl, by simp, c.T, ha, y, rfl, .ref a, rfl, a, He.ga K x, rfl, c.T, c.no, .inl ⟨ha, hq⟩⟩
theorem passLN {X : Cx} : Passes (L2N.CX X.prog X.w) X (fun _ _ _ => False) := fun _ _ _ _ _ _ _ h => by
  obtain ⟨_, _, _, _, _, _, _, _, _, _, _, _, z⟩ := h
  exact z.elim
def fzA : Av → Option D
  | .tm m => frz m
  | .sl _ => none
def raiseF (x f : Str) (fe : FE) : FS := fun env => bindS (tk fe env) fun a env1 => match fzA a with
  | some d => some (.ex ⟨x, some [(f, d)]⟩ env1)
  | none => none
def lkF : List (Str × D) → Str → Option D
  | [], _ => none
  | (k, d) :: r, f => if f = k then some d else lkF r f
def caughtE (x f : Str) (fe : FE) : FE := fun env => match fe env with
  | some (.ok _ env1) => some (.ok (.tm (.fz .non)) env1)
  | some (.ex y env1) => if y.cls = x then match y.fs with
    | some fs => match lkF fs f with
      | some d => some (.ok (.tm (.fz d)) env1)
      | none => none
    | none => none
    else none
  | none => none
def kRaF (x f : Str) (o : Option (Out Av)) : Option Fl := match o with
  | some (.ok a env1) => match fzA a with
    | some d => some (.ex ⟨x, some [(f, d)]⟩ env1)
    | none => none
  | some (.ex y env1) => some (.ex y env1)
  | none => none
@[simp] theorem ev_raiseF {x f : Str} {fe : FE} {env : E} : raiseF x f fe env = kRaF x f (tk fe env) := by
  unfold raiseF kRaF bindS
  cases tk fe env with
  | none => rfl
  | some o => cases o <;> rfl
@[simp] theorem kRaF_0 {x f : Str} {m : M} {env1 : E} : kRaF x f (some (.ok (.tm m) env1)) = match frz m with
    | some d => some (.ex ⟨x, some [(f, d)]⟩ env1)
    | none => none := (rfl)
def kCau (x f : Str) (o : Option (Out Av)) : Option (Out Av) := match o with
  | some (.ok _ env1) => some (.ok (.tm (.fz .non)) env1)
  | some (.ex y env1) => if y.cls = x then match y.fs with
    | some fs => match lkF fs f with
      | some d => some (.ok (.tm (.fz d)) env1)
      | none => none
    | none => none
    else none
  | none => none
@[simp] theorem ev_caughtE {x f : Str} {fe : FE} {env : E} : caughtE x f fe env = kCau x f (fe env) := (rfl)
@[simp] theorem kCau_ok {x f : Str} {a : Av} {env1 : E} : kCau x f (some (.ok a env1)) = some (.ok (.tm (.fz .non)) env1) := (rfl)
@[simp] theorem kCau_ex {x f : Str} {d : D} {env1 : E} : kCau x f (some (.ex ⟨x, some [(f, d)]⟩ env1)) = some (.ok (.tm (.fz d)) env1) := by
  unfold kCau lkF
  simp
end Ink
set_option Elab.async false
set_option linter.all false
set_option maxRecDepth 100000
namespace Ink
open PySem PySem.Spec PyProof.Rows L2
end Ink
set_option Elab.async false
set_option linter.all false
set_option maxRecDepth 100000
set_option maxHeartbeats 2000000
namespace Ink
open PySem PySem.Spec PyProof.Rows L2 LamX
def lamE (l : LamD) : FE := fun env => some (.ok (.tm (.fz (.lam l))) env)
@[simp] theorem ev_lamE {l : LamD} {env : E} : lamE l env = some (.ok (.tm (.fz (.lam l))) env) := (rfl)
open Classical in
noncomputable def pickL : List (LamD × FE) → LamD → Option FE
  | [], _ => none
  | (l0, fe) :: r, l => if l = l0 then some fe else pickL r l
def lamA (env : E) (a : Av) : Option LamD := match resA env a with
  | some (.fz (.lam l)) => some l
  | _ => none
noncomputable def catchV (y f : Str) (fv : FE) (Ls : List (LamD × FE)) : FE := fun env => bindO (fv env) fun a env1 => match lamA env1 a with
  | some l => match pickL Ls l with
    | some fe => caughtE y f fe env1
    | none => none
  | none => none
noncomputable def kCatV (y f : Str) (Ls : List (LamD × FE)) (o : Option (Out Av)) : Option (Out Av) := match o with
  | some (.ok a env1) => match lamA env1 a with
    | some l => match pickL Ls l with
      | some fe => kCau y f (fe env1)
      | none => none
    | none => none
  | some (.ex z env1) => some (.ex z env1)
  | none => none
@[simp] theorem ev_catchV {y f : Str} {fv : FE} {Ls : List (LamD × FE)} {env : E} : catchV y f fv Ls env = kCatV y f Ls (fv env) := by
  unfold catchV kCatV bindO
  cases fv env with
  | none => rfl
  | some o =>
    cases o with
    | ex z env1 => rfl
    | ok a env1 =>
      simp only
      cases lamA env1 a with
      | none => rfl
      | some l => simp only; cases pickL Ls l <;> rfl
end Ink
set_option Elab.async false
set_option linter.all false
set_option maxRecDepth 100000
set_option maxHeartbeats 4000000
namespace Ink
open PySem PySem.Spec PyProof.Rows L2 LamX
def bigT : M → M → Option (List D × Int)
  | .fz (.tup ds), .fz (.int k) => if ds ≠ [] ∧ 2 ≤ k ∧ k ≤ 1000 ∧ ds.length * k.toNat ≤ 1000000 then some (ds, k) else none
  | _, _ => none
def mulLM (a b : M) : Option M := match bigT a b with
  | some (ds, k) => some (.fz (.tup (repL k.toNat ds)))
  | none => mulM a b
noncomputable def wordV (told : Str) (wf : Str → Option Str) (fv : FE) (Ls : List (LamD × FE)) : FE := fun env => bindO (fv env) fun a env1 => match lamA env1 a with
  | some l => match pickL Ls l with
    | some fe => wordE told wf fe env1
    | none => none
  | none => none
noncomputable def kWordV (told : Str) (wf : Str → Option Str) (Ls : List (LamD × FE)) (o : Option (Out Av)) : Option (Out Av) := match o with
  | some (.ok a env1) => match lamA env1 a with
    | some l => match pickL Ls l with
      | some fe => kWord told wf (fe env1)
      | none => none
    | none => none
  | some (.ex z env1) => some (.ex z env1)
  | none => none
@[simp] theorem ev_wordV {told : Str} {wf : Str → Option Str} {fv : FE} {Ls : List (LamD × FE)} {env : E} : wordV told wf fv Ls env = kWordV told wf Ls (fv env) := by
  unfold wordV kWordV bindO
  cases fv env with
  | none => rfl
  | some o =>
    cases o with
    | ex z env1 => rfl
    | ok a env1 =>
      simp only
      cases lamA env1 a with
      | none => rfl
      | some l => simp only; cases pickL Ls l <;> rfl
@[simp] theorem ev_mulLt {ds : List D} {k : Int} : mulLM (.fz (.tup ds)) (.fz (.int k)) = if ds ≠ [] ∧ 2 ≤ k ∧ k ≤ 1000 ∧ ds.length * k.toNat ≤ 1000000 then some (.fz (.tup (repL k.toNat ds))) else mulM (.fz (.tup ds)) (.fz (.int k)) := by
  have e : bigT (.fz (.tup ds)) (.fz (.int k)) = if ds ≠ [] ∧ 2 ≤ k ∧ k ≤ 1000 ∧ ds.length * k.toNat ≤ 1000000 then some (ds, k) else none := rfl
  unfold mulLM
  rw [e]
  by_cases h : ds ≠ [] ∧ 2 ≤ k ∧ k ≤ 1000 ∧ ds.length * k.toNat ≤ 1000000
  · rw [if_pos h, if_pos h]
  · rw [if_neg h, if_neg h]
@[simp] theorem ev_mulLi {i j : Int} : mulLM (.fz (.int i)) (.fz (.int j)) = mulM (.fz (.int i)) (.fz (.int j)) := (rfl)
end Ink
set_option Elab.async false
set_option linter.all false
set_option maxRecDepth 100000
set_option maxHeartbeats 2000000
namespace Ink
open PySem PySem.Spec PyProof.Rows L2
end Ink
set_option Elab.async false
set_option linter.all false
set_option maxRecDepth 100000
namespace Ink
open PySem L2
end Ink
set_option Elab.async false
set_option linter.all false
set_option maxRecDepth 100000
set_option maxHeartbeats 2000000
namespace Ink
open PySem L2
end Ink
set_option Elab.async false
set_option linter.all false
set_option maxRecDepth 100000
set_option maxHeartbeats 2000000
namespace Ink
open PySem PySem.Spec PyProof.Rows L2
end Ink
set_option Elab.async false
set_option linter.all false
set_option maxRecDepth 100000
set_option maxHeartbeats 2000000
namespace Ink
open PySem PySem.Spec PyProof.Rows L2
end Ink
set_option Elab.async false
set_option linter.all false
set_option maxRecDepth 100000
set_option maxHeartbeats 2000000
namespace Ink
open PySem PySem.Spec PyProof.Rows L2
/-- a tuple that begins with these two numbers -/
def TupPre (h : Heap) (v : Value) (ns : List Int) : Prop := ∃ a xs n m t u r, v = .ref a ∧ IsTup h a xs ∧ xs.toList = .int n t :: .int m u :: r ∧ ns = [n, m]
theorem TupPre.keeps {h h' : Heap} {v : Value} {ns : List Int} (x : TupPre h v ns) (k : ∀ b o, h.get? b = some o → o.cls = .type "tuple" → h'.get? b = some o) : TupPre h' v ns := by
  obtain ⟨a, xs, n, m, t, u, r, e, ⟨o, ho, hc, hd⟩, i⟩ := x
  exact ⟨a, xs, n, m, t, u, r, e, ⟨o, k _ _ ho hc, hc, hd⟩, i⟩
def kD : D → List Int
  | .tup (.int n :: .int m :: _) => [n, m]
  | _ => []
def preD : D → Bool
  | .tup (.int _ :: .int _ :: _) => true
  | _ => false
def insP (x : D) : List D → List D
  | [] => [x]
  | y :: r => if HT.lexLt (kD y) (kD x) then y :: insP x r else x :: y :: r
def sortP (xs : List D) : List D := xs.foldr insP []
def sortPM (a : M) : Option M := match lstD a with
  | some ds => if ds.all preD = true ∧ (ds.map kD).Nodup then some (.lst ((sortP ds).map .fz)) else none
  | none => none
@[simp] theorem ev_sortPM {ms : List M} : sortPM (.lst ms) = match unfz ms with
  | some ds => if ds.all preD = true ∧ (ds.map kD).Nodup then some (.lst ((sortP ds).map .fz)) else none
  | none => none := (rfl)
end Ink
set_option Elab.async false
set_option linter.all false
set_option maxRecDepth 100000
set_option maxHeartbeats 2000000
namespace Ink
open PySem PySem.Spec PyProof.Rows L2
mutual
def nestD : D → Option NestedKey
  | .int i => some (.num i)
  | .str x => some (.text x)
  | .tup ds => match nestDs ds with
    | some ks => some (.tup ks)
    | none => none
  | _ => none
def nestDs : List D → Option (List NestedKey)
  | [] => some []
  | d :: ds => match nestD d with
    | some k => match nestDs ds with
      | some ks => some (k :: ks)
      | none => none
    | none => none
end
def notIn0M (a b : M) : Option M := match a with
  | .fz (.tup ds) => match nestD (.tup ds) with
    | some k => match decide (k.depth ≤ 8), b with
      | true, .fz (.dK []) => some (.fz (.bl true))
      | _, _ => none
    | none => none
  | _ => none
end Ink
set_option Elab.async false
set_option linter.all false
set_option maxRecDepth 100000
set_option maxHeartbeats 2000000
namespace Ink
open PySem PySem.Spec PyProof.Rows L2
def hT (ks : List Key) : Int := reduceHash (Builtin.Tuple.tupleHashOf (ks.map fun k => match k with
  | .inl i => hashInt i
  | .inr _ => 0))
end Ink
set_option Elab.async false
set_option linter.all false
set_option maxRecDepth 100000
set_option maxHeartbeats 2000000
namespace Ink
open PySem PySem.Spec PyProof.Rows L2
def truM : M → Option Bool
  | .fz .non => some false
  | .fz (.bl b) => some b
  | .fz (.int i) => some (i != 0)
  | .fz (.str x) => if x.length ≤ sizeLine then some ((x.length : Int) != 0) else none
  | .fz (.lst ds) => some (!ds.isEmpty)
  | .fz (.tup ds) => some (!ds.isEmpty)
  | .fz .emp => some false
  | .fz (.dK ds) => some (!ds.isEmpty)
  | .lst ms => some (!ms.isEmpty)
  | .tup ms => some (!ms.isEmpty)
  | .dK ms => some (!ms.isEmpty)
  | _ => none
def truA (a : Av) (env : E) : Option Bool := match a with
  | .tm m => truM m
  | .sl i => match env[i]? with
    | some (some m) => truM m
    | _ => none
def orTE (fa fb : FE) : FE := fun env => bindO (fa env) fun a env1 => match truA a env1 with
  | some true => some (.ok a env1)
  | some false => fb env1
  | none => none
def tstT (f : FE) : FT := fun env => bindO (f env) fun a env1 => match truA a env1 with
  | some b => some (.ok b env1)
  | none => none
def kTru1 (env1 : E) (a : Av) (fb : FE) (o : Option Bool) : Option (Out Av) := match o with
  | some true => some (.ok a env1)
  | some false => fb env1
  | none => none
@[simp] theorem kTru1_0 {fb : FE} {a : Av} {env1 : E} : kTru1 env1 a fb (some true) = some (.ok a env1) := (rfl)
@[simp] theorem kTru1_1 {fb : FE} {a : Av} {env1 : E} : kTru1 env1 a fb (some false) = fb env1 := (rfl)
def kOrTE (fb : FE) (o : Option (Out Av)) : Option (Out Av) := match o with
  | some (.ok a env1) => kTru1 env1 a fb (truA a env1)
  | some (.ex x env1) => some (.ex x env1)
  | none => none
@[simp] theorem kOrTE_0 {fb : FE} {a : Av} {env1 : E} : kOrTE fb (some (.ok a env1)) = kTru1 env1 a fb (truA a env1) := (rfl)
@[simp] theorem ev_orTE {env : E} {fa fb : FE} : orTE fa fb env = kOrTE fb (fa env) := by
  unfold orTE kOrTE bindO
  cases fa env with
  | none => rfl
  | some o => cases o with
    | ok a e => simp only []; unfold kTru1; rfl
    | ex x e => rfl
def kTstT1 (env1 : E) (o : Option Bool) : Option (Out Bool) := match o with
  | some b => some (.ok b env1)
  | none => none
@[simp] theorem kTstT1_0 {b : Bool} {env1 : E} : kTstT1 env1 (some b) = some (.ok b env1) := (rfl)
def kTstT (o : Option (Out Av)) : Option (Out Bool) := match o with
  | some (.ok a env1) => kTstT1 env1 (truA a env1)
  | some (.ex x env1) => some (.ex x env1)
  | none => none
@[simp] theorem kTstT_0 {a : Av} {env1 : E} : kTstT (some (.ok a env1)) = kTstT1 env1 (truA a env1) := (rfl)
@[simp] theorem ev_tstT {env : E} {f : FE} : tstT f env = kTstT (f env) := by
  unfold tstT kTstT bindO
  cases f env with
  | none => rfl
  | some o => cases o with
    | ok a e => simp only []; unfold kTstT1; rfl
    | ex x e => rfl
@[simp] theorem truA_tm {m : M} {env : E} : truA (.tm m) env = truM m := (rfl)
def kTruA (o : Option (Option M)) : Option Bool := match o with
  | some (some m) => truM m
  | _ => none
@[simp] theorem kTruA_0 {m : M} : kTruA (some (some m)) = truM m := (rfl)
@[simp] theorem truA_sl {i : Nat} {env : E} : truA (.sl i) env = kTruA env[i]? := by
  unfold truA kTruA
  rfl
@[simp] theorem truM_non : truM (.fz .non) = some false := (rfl)
@[simp] theorem truM_bl {b : Bool} : truM (.fz (.bl b)) = some b := (rfl)
@[simp] theorem truM_int {i : Int} : truM (.fz (.int i)) = some (i != 0) := (rfl)
@[simp] theorem truM_fl {ds : List D} : truM (.fz (.lst ds)) = some (!ds.isEmpty) := (rfl)
@[simp] theorem truM_ft {ds : List D} : truM (.fz (.tup ds)) = some (!ds.isEmpty) := (rfl)
@[simp] theorem truM_l {ms : List M} : truM (.lst ms) = some (!ms.isEmpty) := (rfl)
@[simp] theorem truM_t {ms : List M} : truM (.tup ms) = some (!ms.isEmpty) := (rfl)
end Ink
set_option Elab.async false
set_option linter.all false
set_option maxRecDepth 100000
set_option maxHeartbeats 2000000
namespace Ink
open PySem PySem.Spec PyProof.Rows L2
def eqE0M (a b : M) : Option M := match a, b with
  | .fz (.dK ks), .dK [] => some (.fz (.bl ks.isEmpty))
  | .dK ks, .dK [] => some (.fz (.bl ks.isEmpty))
  | _, _ => none
@[simp] theorem eqE0_0 {ks : List (Key × D)} : eqE0M (.fz (.dK ks)) (.dK []) = some (.fz (.bl ks.isEmpty)) := (rfl)
@[simp] theorem eqE0_1 {ks : List (Key × M)} : eqE0M (.dK ks) (.dK []) = some (.fz (.bl ks.isEmpty)) := (rfl)
end Ink
set_option Elab.async false
set_option linter.all false
set_option maxRecDepth 100000
set_option maxHeartbeats 2000000
namespace Ink
open PySem PySem.Spec PyProof.Rows L2
end Ink
set_option Elab.async false
set_option linter.all false
set_option maxRecDepth 100000
set_option maxHeartbeats 2000000
namespace Ink
open PySem L2
def lkD : M → Option D
  | .dK kvs => match unfz (kvs.map (·.2)) with
    | some ds => some (.dLK ((kvs.map (·.1)).zip ds))
    | none => none
  | .dT kvs => match unfz (kvs.map (·.2)) with
    | some ds => some (.dLT ((kvs.map (·.1)).zip ds))
    | none => none
  | _ => none
def Is (p : Addr) : Addr → Prop := fun b => b = p
def lkK (env : E) (o : Option (Out Av)) : Option (Out Av) := match o with
  | some (.ok (.tm r) _) => if noLM r then some (.ok (.tm r) env) else none
  | _ => none
def lockE (i : Nat) (f : FE) : FE := fun env => match env[i]? with
  | some (some m) => match lkD m with
    | some d => lkK env (f ((borE (env.set i none)).set i (some (.fz d))))
    | none => none
  | _ => none
end Ink
set_option Elab.async false
set_option linter.all false
set_option maxRecDepth 100000
set_option maxHeartbeats 2000000
namespace Ink
open PySem L2
def keysI (i : Nat) : FI := fun env => match env[i]? with
  | some (some (.fz (.dLT kvs))) => some (.ok (kvs.map fun kv => keyTD kv.1) env)
  | some (some (.fz (.dLK kvs))) => some (.ok (kvs.map fun kv => keyD kv.1) env)
  | _ => none
def kLo2 (i : Nat) (f : FE) (env : E) (o : Option D) : Option (Out Av) := match o with
  | some d => lkK env (f ((borE (env.set i none)).set i (some (.fz d))))
  | none => none
@[simp] theorem kLo2_0 {i f env d} : kLo2 i f env (some d) = lkK env (f ((borE (env.set i none)).set i (some (.fz d)))) := (rfl)
def kLo (i : Nat) (f : FE) (env : E) (o : Option (Option M)) : Option (Out Av) := match o with
  | some (some m) => kLo2 i f env (lkD m)
  | _ => none
@[simp] theorem kLo_0 {i f env m} : kLo i f env (some (some m)) = kLo2 i f env (lkD m) := (rfl)
@[simp] theorem ev_lockE {i : Nat} {f : FE} {env : E} : lockE i f env = kLo i f env env[i]? := by
  unfold lockE kLo
  cases env[i]? with
  | none => rfl
  | some o => cases o <;> rfl
@[simp] theorem lkK_0 {env env1 : E} {r : M} : lkK env (some (.ok (.tm r) env1)) = if noLM r then some (.ok (.tm r) env) else none := (rfl)
def kKy (env : E) (o : Option (Option M)) : Option (Out (List D)) := match o with
  | some (some (.fz (.dLT kvs))) => some (.ok (kvs.map fun kv => keyTD kv.1) env)
  | some (some (.fz (.dLK kvs))) => some (.ok (kvs.map fun kv => keyD kv.1) env)
  | _ => none
@[simp] theorem kKy_0 {env kvs} : kKy env (some (some (.fz (.dLT kvs)))) = some (.ok (kvs.map fun kv => keyTD kv.1) env) := (rfl)
@[simp] theorem kKy_1 {env kvs} : kKy env (some (some (.fz (.dLK kvs)))) = some (.ok (kvs.map fun kv => keyD kv.1) env) := (rfl)
@[simp] theorem ev_keysI {i : Nat} {env : E} : keysI i env = kKy env env[i]? := (rfl)
end Ink
set_option Elab.async false
set_option linter.all false
set_option maxRecDepth 100000
set_option maxHeartbeats 2000000
namespace Ink
open PySem L2
def lenDM (m : M) : Option M := match m with
  | .dT kvs => some (.fz (.int kvs.length))
  | .dK kvs => some (.fz (.int kvs.length))
  | .fz (.dT kvs) => some (.fz (.int kvs.length))
  | .fz (.dK kvs) => some (.fz (.int kvs.length))
  | m => lenM m
@[simp] theorem lenDM_t {kvs : List (List Key × M)} : lenDM (.dT kvs) = some (.fz (.int kvs.length)) := (rfl)
@[simp] theorem lenDM_k {kvs : List (Key × M)} : lenDM (.dK kvs) = some (.fz (.int kvs.length)) := (rfl)
@[simp] theorem lenDM_ft {kvs : List (List Key × D)} : lenDM (.fz (.dT kvs)) = some (.fz (.int kvs.length)) := (rfl)
@[simp] theorem lenDM_fk {kvs : List (Key × D)} : lenDM (.fz (.dK kvs)) = some (.fz (.int kvs.length)) := (rfl)
end Ink
set_option Elab.async false
set_option linter.all false
set_option maxRecDepth 100000
set_option maxHeartbeats 2000000
namespace Ink
open PySem PySem.Spec PyProof.Rows L2 LamX
/-- its parameter p; captured names and globals -/
structure LamP (sc scope : Scope) (p : Str) : Prop where
  kind : scope.kind = .function
  co : scope.isCoroutine = false
  gen : scope.isGenerator = false
  par : scope.names.lookup p = some .local
  ncell : ∀ y ∈ scope.names, y.2 ≠ .cell
  loc : ∀ y ∈ scope.names, y.2 = .local → y.1 = p
  free : ∀ y ∈ scope.names, y.2 = .free → sc.names.lookup y.1 = some .cell ∨ sc.names.lookup y.1 = some .free
theorem LamP.has {X : Cx} {scope : Scope} {p : Str} (L : LamP X.env.scope scope p) (ok : X.Ok) : ∀ y ∈ scope.names, y.2 = .free → ∃ c, X.env.cells.lookup y.1 = some c := fun y hy e => by
  rcases L.free y hy e with k | k
  · exact ok.has _ (.inl k)
  · exact ok.has _ (.inr k)
end Ink
set_option Elab.async false
set_option linter.all false
set_option maxRecDepth 100000
set_option maxHeartbeats 2000000
namespace Ink
open PySem PySem.W PySem.Spec PyProof.Rows L2 LamX PySem.Calls
end Ink
set_option Elab.async false
set_option linter.all false
set_option maxRecDepth 100000
set_option maxHeartbeats 2000000
namespace Ink
open PySem PySem.W PySem.Spec PyProof.Rows L2 LamX PySem.Calls
end Ink
set_option Elab.async false
set_option linter.all false
set_option maxRecDepth 100000
set_option maxHeartbeats 2000000
namespace Ink
open PySem PySem.W PySem.Spec PyProof.Rows L2 LamX PySem.Calls
end Ink
set_option Elab.async false
set_option linter.all false
set_option maxRecDepth 100000
set_option maxHeartbeats 2000000
namespace L2
open PySem PySem.W PySem.Spec PyProof.Rows
end L2
namespace Ink
open PySem L2
/-- list(x.values()), x a name of the frame: its values are moved out -/
def valsE (i : Nat) : FE := fun env => match env[i]? with
  | some (some (.dT kvs)) => some (.ok (.tm (.lst (kvs.map (·.2)))) (env.set i none))
  | _ => none
@[simp] theorem ev_valsE {i : Nat} {env : E} : valsE i env = match env[i]? with
  | some (some (.dT kvs)) => some (.ok (.tm (.lst (kvs.map (·.2)))) (env.set i none))
  | _ => none := (rfl)
end Ink
set_option Elab.async false
set_option linter.all false
set_option maxRecDepth 100000
namespace Ink
open PySem L2
end Ink
set_option Elab.async false
set_option linter.all false
set_option maxRecDepth 100000
set_option maxHeartbeats 2000000
namespace Ink
open PySem L2
end Ink
set_option Elab.async false
set_option linter.all false
set_option maxRecDepth 100000
namespace Ink
open PySem PySem.Spec PyProof.Rows L2
end Ink
set_option Elab.async false
set_option linter.all false
set_option maxRecDepth 100000
namespace Ink
open PySem L2
end Ink
set_option Elab.async false
set_option linter.all false
set_option maxRecDepth 100000
namespace Ink
open PySem PySem.Spec PyProof.Rows L2
end Ink
set_option Elab.async false
set_option linter.all false
set_option maxRecDepth 100000
set_option maxHeartbeats 2000000
namespace Ink
open PySem PySem.Spec PyProof.Rows L2
section ops
variable {K : PySem.W.Frag}
/-- the two data of a method's call -/
theorem two_at {F H : Hp} {vs : List V} {a b : M} {fps : Nat → List Addr} {x : V} (R : REnv K F H (argS (x :: vs)) (argE [a, b]) fps) : ∃ y, vs = [y] ∧ RepM K F H a x (fps 0) ∧ RepM K F H b y (fps 1) := by
  have l := R.len
  simp at l
  match vs, l with
  | [y], _ =>
    obtain ⟨v0, h0, r0⟩ := R.got 0 _ rfl
    cases h0
    obtain ⟨v1, h1, r1⟩ := R.got 1 _ rfl
    cases h1
    exact ⟨y, rfl, r0, r1⟩
/-- texts of a list or a tuple -/
def strsOf (m : M) : Option (List Str) := match m with
  | .fz (.tup ds) => strsD ds
  | m => match lstD m with
    | some ds => strsD ds
    | none => none
theorem strsOf_rep {F H : Hp} {m : M} {v : V} {fp : List Addr} {ys : List Str} (s : Sub F H) (r : RepM K F H m v fp) (h : strsOf m = some ys) : ∃ p, v = .ref p ∧ (SqL K H p (ys.map V.str) ∨ SqT K H p (ys.map V.str)) := by
  unfold strsOf at h
  split at h
  · rename_i ds
    cases repm_fz r with
    | @tupR q vs _ a b =>
      have hv : vs = ys.map V.str := strsD_reps b h
      subst hv
      exact ⟨q, rfl, .inr (a.sqt s)⟩
  · cases e : lstD m with
    | none => rw [e] at h; cases h
    | some ds =>
      rw [e] at h
      simp only at h
      obtain ⟨p, vs, rfl, hp, rd⟩ := lstD_rep s r e
      have hv : vs = ys.map V.str := strsD_reps rd h
      subst hv
      exact ⟨p, rfl, .inl (SqL.of hp)⟩
def joinG : FP := fun ms => match ms with
  | [.fz (.str a), b] => match strsOf b with
    | some ys => if (ys.map (·.length)).sum + ys.length * a.length ≤ 16777216 then some (.ok (.fz (.str (Txt.join a ys))) [some (.fz (.str a)), some b]) else none
    | none => none
  | _ => none
def rJoin (K : PySem.W.Frag) : V → List V → Hp → VK → Prop := fun x xs H Q => ∃ a p, ∃ ys : List Str, x = .str a ∧ xs = [.ref p] ∧ (SqL K H p (ys.map V.str) ∨ SqT K H p (ys.map V.str)) ∧ (ys.map (·.length)).sum + ys.length * a.length ≤ 16777216 ∧ Q (.str (Txt.join a ys)) H
theorem opm_join : OpMt K joinG (rJoin K) := fun x vs H Q Ex p => by
  obtain ⟨F, ms, fps, R, p⟩ := p
  unfold joinG at p
  split at p
  · rename_i a b
    obtain ⟨y, rfl, r0, r1⟩ := two_at R
    obtain rfl := rep_str (repm_fz r0)
    cases e : strsOf b with
    | none => rw [e] at p; exact p.elim
    | some ys =>
      simp only [e] at p
      split at p
      · rename_i hz
        obtain ⟨q, rfl, hq⟩ := strsOf_rep R.fr r1 e
        exact ⟨a, q, ys, rfl, rfl, hq, hz, sp_flat R (.str _) p⟩
      · exact p.elim
  · exact p.elim
end ops
section
variable {X : Cx} {W : WX} {o e e2 : Expr} {fo fe f2 : FE} {apos cpos : Pos}
theorem e_join (ho : PE X o (rE X.K W fo)) (he : PE X e (rE X.K W fe)) (hbase : attributeBase o "join" X.env (eval o X.env) = eval o X.env := by rfl)
    (hfew : ((backTo cpos (starEach [e] X.env)).all (fun x => !x.1) && (backToKw cpos (keywordEach [] X.env)).all (fun x => x.1.isSome) && decide (([e]).length + ([] : List Keyword).length + (if ([] : List Keyword).isEmpty then 0 else 1) < 30)) = true := by rfl)
    (hline : (apos.endLine == cpos.line) = true := by rfl) (hs : starEach [e] X.env = (false, eval e X.env) :: starEach [] X.env := by rfl) (hplain : (backTo cpos (starEach [] X.env)).any (·.1) = false := by rfl) :
    PE X (.Call (.Attribute o "join" apos) [e] [] cpos) (rE X.K W (bmE .str joinG fo (arg1 fe))) := e_bm (T := .str) PySem.F.plainAttrs_str PySem.F.slot_str_join PySem.F.type_str_join L2.mt_join opm_join ho (a_cons he a_nil hs) hbase hfew hline hs hplain
end
end Ink
set_option Elab.async false
set_option linter.all false
set_option maxRecDepth 100000
set_option maxHeartbeats 2000000
namespace Ink
open PySem PySem.Spec PyProof.Rows L2
def notInNM (a b : M) : Option M := match a, b with
  | .fz (.tup ds), .fz (.nst ks kds) => match nestD (.tup ds) with
    | some k => if k.depth ≤ 8 ∧ (∀ k ∈ ks, k.depth ≤ 8) ∧ nestDs kds = some ks then some (.fz (.bl (!decide (k ∈ ks)))) else none
    | none => none
  | _, _ => none
def eqN0M (a b : M) : Option M := match a, b with
  | .fz (.nst ks kds), .dK [] => if (∀ k ∈ ks, k.depth ≤ 8) ∧ nestDs kds = some ks then some (.fz (.bl ks.isEmpty)) else none
  | a, b => eqE0M a b
section
variable {X : Cx} {W : WX} {e a b : Expr} {fe fa fb : FE} {p pos : Pos}
def notInAM (a b : M) : Option M := match b with
  | .fz (.nst ks kds) => notInNM a (.fz (.nst ks kds))
  | b => notIn0M a b
end
@[simp] theorem notInAM_0 {a : M} {kvs : List (Key × D)} : notInAM a (.fz (.dK kvs)) = notIn0M a (.fz (.dK kvs)) := (rfl)
@[simp] theorem eqN0M_0 {ks : List (Key × D)} : eqN0M (.fz (.dK ks)) (.dK []) = some (.fz (.bl ks.isEmpty)) := (rfl)
@[simp] theorem eqN0M_1 {ks : List (Key × M)} : eqN0M (.dK ks) (.dK []) = some (.fz (.bl ks.isEmpty)) := (rfl)
end Ink
set_option Elab.async false
set_option linter.all false
set_option maxRecDepth 100000
set_option maxHeartbeats 2000000
namespace Ink
open PySem PySem.Spec PyProof.Rows L2
def intAM : M → Option M
  | .fz (.str a) => match PySem.intText? a with
    | some n => if a.length ≤ 640 then some (.fz (.int n)) else none
    | none => none
  | m => intM1 m
section
variable {X : Cx} {W : WX} {e : Expr} {fe : FE} {p pos : Pos}
@[simp] theorem intAM_i {i : Int} : intAM (.fz (.int i)) = some (.fz (.int i)) := rfl
@[simp] theorem intAM_b {b : Bool} : intAM (.fz (.bl b)) = some (.fz (.int (if b then 1 else 0))) := rfl
@[simp] theorem intAM_s {a : Str} : intAM (.fz (.str a)) = match PySem.intText? a with
  | some n => if a.length ≤ 640 then some (.fz (.int n)) else none
  | none => none := rfl
def dispC (kvs : List (Key × D)) : FE := newE (.dK (kvs.map fun kv => (kv.1, .fz kv.2)))
end
end Ink
set_option Elab.async false
set_option linter.all false
set_option maxRecDepth 100000
set_option maxHeartbeats 2000000
namespace Ink
open PySem PySem.Spec PyProof.Rows L2
abbrev ksG (kvs : List (Str × He.Dv)) : List Str := kvs.map fun q => q.1
structure GD (K : PySem.W.Frag) (w : World) (mg : Str → Option Value) (x : Str) (kvs : List (Str × He.Dv)) : Prop where
  g : mg x = some (.ref (He.ga K x))
  d : ∃ es n, KDict K w (He.ga K x) es n
  vals : ∀ q ∈ kvs, ∃ u, PySem.W.nsIn K (He.ga K x) q.1 = some (some u) ∧ RelV (q.2.v K) u
  out : ∀ z, z ∉ ksG kvs → PySem.W.nsIn K (He.ga K x) z = some none
theorem find_key {P : Params} {z : Str} : ∀ {l : List DictEntry} {ks : List Str}, l.map He.keyOf = He.keysIn P ks → z ∉ ks → l.find? (·.key.isStr z) = none ∧ l.any (·.refKey) = false
  | [], ks, _, _ => ⟨rfl, rfl⟩
  | e :: r, [], h, _ => by cases h
  | e :: r, k :: ks, h, hz => by
    have h1 : He.keyOf e :: r.map He.keyOf = some (k, PyData.keyHash P k) :: He.keysIn P ks := h
    injection h1 with h2 h3
    obtain ⟨i1, i2⟩ := find_key (z := z) h3 (fun q => hz (List.mem_cons_of_mem _ q))
    unfold He.keyOf at h2
    split at h2
    · rename_i x t q
      have h4 := Option.some.inj h2
      obtain ⟨h5, h6⟩ := Prod.mk.inj h4
      subst h5
      have nz : ¬ x = z := fun y => hz (by rw [← y]; exact List.mem_cons_self)
      have b1 : e.key.isStr z = false := by
        rw [q]
        show (x == z) = false
        simpa using nz
      have b2 : e.refKey = false := by
        unfold DictEntry.refKey
        rw [q]
      rw [List.find?_cons, b1, List.any_cons, b2, i1, i2]
      exact ⟨rfl, rfl⟩
    · cases h2
theorem gd_of {fa : List He.Fa} {fn : List He.DefD} {ts : List He.Tab} {w : World} {K : PySem.W.Frag} {mg : Str → Option Value} {x : Str} {kvs : List (Str × He.Dv)} (c : He.SaysT fa fn ts w K) (i : Nat) (h : ts[i]? = some (fun K => He.ga K x, ksG kvs)) (hg : mg x = some (.ref (He.ga K x))) (hv : He.valsB K (He.ga K x) kvs = true) : GD K w mg x kvs := by
  have e : ts.map (fun t => He.dicW K (t.1 K)) = ts.map fun t => some (He.keysIn w.params t.2) := congrArg (fun z : He.AlT => z.2) c
  have e2 : (ts.map fun t => He.dicW K (t.1 K))[i]? = (ts.map fun t => some (He.keysIn w.params t.2))[i]? := by rw [e]
  rw [List.getElem?_map, List.getElem?_map, h] at e2
  have e3 := Option.some.inj e2
  simp only at e3
  refine ⟨hg, He.dicW_ok e3, fun q hq => He.valsB_ok hv hq, fun z hz => ?_⟩
  unfold He.dicW at e3
  split at e3
  · rename_i cn es n sl hl
    split at e3
    · obtain ⟨f1, f2⟩ := find_key (z := z) (Option.some.inj e3) hz
      unfold PySem.W.nsIn
      rw [hl]
      simp only
      rw [f1, f2]
      rfl
    · cases e3
  · cases e3
def inGM (ks : List Str) (neg : Bool) : M → Option M
  | .fz (.str z) => some (.fz (.bl (Bool.xor (decide (z ∈ ks)) neg)))
  | _ => none
def dvD : He.Dv → Option D
  | .str x => some (.str x)
  | .int i => some (.int i)
  | .bl b => some (.bl b)
  | .non => some .non
  | _ => none
def itGM (kvs : List (Str × He.Dv)) : M → Option M
  | .fz (.str z) => match kvs.find? fun q => decide (q.1 = z) with
    | some q => match dvD q.2 with
      | some d => some (.fz d)
      | none => none
    | none => none
  | _ => none
theorem dvD_rep {K : PySem.W.Frag} {F : Hp} {v : He.Dv} {d : D} (h : dvD v = some d) : Rep K F (v.v K) d := by
  cases v <;> first | (cases h; first | (exact .str _) | (exact .int _) | (exact .bl _) | (exact .non)) | cases h
section
variable {X : Cx} {W : WX} {a : Expr} {fa : FE} {p pos : Pos} {x : Str} {kvs : List (Str × He.Dv)}
theorem op_ninGD (T : GD X.K X.w X.mg x kvs) : OpR X (compareOp .NotIn) (fun u y H Q => ∃ z, u = .str z ∧ y = .ref (He.ga X.K x) ∧ Q (.bl (!decide (z ∈ ksG kvs))) H) := by
  obtain ⟨es, n, D⟩ := T.d
  intro pins s σ H u y v w Q I ru ry h
  obtain ⟨z, rfl, rfl, q⟩ := h
  by_cases hz : z ∈ ksG kvs
  · obtain ⟨r, hr, rfl⟩ := List.mem_map.mp hz
    obtain ⟨o, h1, _⟩ := T.vals r hr
    rw [decide_eq_true hz] at q
    exact op_notIn_kd D pins s σ H _ _ v w Q I ru ry ⟨_, _, rfl, rfl, h1, q⟩
  · rw [decide_eq_false hz] at q
    exact op_notIn_kd D pins s σ H _ _ v w Q I ru ry ⟨_, _, rfl, rfl, T.out z hz, q⟩
theorem ix_GD (T : GD X.K X.w X.mg x kvs) : IxR X (fun u y H Q => ∃ z q, u = .ref (He.ga X.K x) ∧ y = .str z ∧ (kvs.find? fun q => decide (q.1 = z)) = some q ∧ Q (q.2.v X.K) H) := by
  obtain ⟨es, n, D⟩ := T.d
  intro value slice pins s σ H u y v w Q I ru ry h hs
  obtain ⟨z, q, rfl, rfl, hf, hq⟩ := h
  have hm := List.mem_of_find?_eq_some hf
  have hk : q.1 = z := by simpa using List.find?_some hf
  obtain ⟨o, h1, h2⟩ := T.vals q hm
  obtain rfl : v = Value.ref _ := ru
  exact PyProof.Rows.tail_any (kd_type D I) PySem.F.slot_dict_getitem.lookup (op_item_kd D pins s σ H _ _ _ w Q I (show RelV (.ref (He.ga X.K x)) (Value.ref (He.ga X.K x)) from rfl) ry ⟨z, o, _, rfl, rfl, by rw [← hk]; exact h1, h2, hq⟩) hs
theorem op1_in (neg : Bool) {ks : List Str} {r : V → Hp → VK → Prop} (h : ∀ z H Q, Q (.bl (Bool.xor (decide (z ∈ ks)) neg)) H → r (.str z) H Q) : Op1 X.K (g1 (inGM ks neg)) r := fun u H Q Ex p => by
  obtain ⟨x', F, a, m, fps, ex, R, r1, e, p⟩ := g1_at p
  cases ex
  unfold inGM at e
  split at e
  · cases e
    obtain rfl := rep_str (repm_fz r1)
    exact h _ _ _ (sp_flat R (.bl _) p)
  · cases e
theorem t_ninGD (T : GD X.K X.w X.mg x kvs) (hg : Gl X x) (ha : PE X a (rE X.K W fa)) (hm : behindInMarks .NotIn (.Name x p) = false := by rfl) (hd : (x == ("__debug__" : Str)) = false := by decide) : PT X (.Compare a [.NotIn] [.Name x p] pos) (rT X.K W (tst (callE (g1 (inGM (ksG kvs) true)) (arg1 fa)))) :=
  PT_mono (pt_cmpR (op_ninGD T) ha (pe_glob (v := .ref (He.ga X.K x)) hg T.g rfl hd) hm) fun σ H Q q => r_one (r := fun u H Q => ∃ z, u = .str z ∧ V.ref (He.ga X.K x) = .ref (He.ga X.K x) ∧ Q (.bl (!decide (z ∈ ksG kvs))) H) (op1_in true fun z H Q q => ⟨z, rfl, rfl, by rw [Bool.xor_true] at q; exact q⟩) σ H _ (r_tst σ H Q q)
theorem e_itGD (T : GD X.K X.w X.mg x kvs) (hg : Gl X x) (ha : PE X a (rE X.K W fa)) (hs : PlainIx a := by exact fun _ _ => rfl) (hd : (x == ("__debug__" : Str)) = false := by decide) : PE X (.Subscript (.Name x p) a pos) (rE X.K W (callE (g1 (itGM kvs)) (arg1 fa))) :=
  PE_mono (pe_ix (ix_GD T) (pe_glob (v := .ref (He.ga X.K x)) hg T.g rfl hd) ha hs) fun σ H Q q => r_one (r := fun y H Q => ∃ z q, V.ref (He.ga X.K x) = .ref (He.ga X.K x) ∧ y = .str z ∧ (kvs.find? fun q => decide (q.1 = z)) = some q ∧ Q (q.2.v X.K) H) (fun u H Q Ex p => by
    obtain ⟨x', F, a, m, fps, ex, R, r1, e, p⟩ := g1_at p
    cases ex
    unfold itGM at e
    split at e
    · rename_i z
      obtain rfl := rep_str (repm_fz r1)
      split at e
      · rename_i q hq
        split at e
        · rename_i d hd
          cases e
          exact ⟨z, q, rfl, rfl, hq, sp_flat R (dvD_rep hd) p⟩
        · cases e
      · cases e
    · cases e) σ H Q q
@[simp] theorem inGM_s {ks : List Str} {neg : Bool} {z : Str} : inGM ks neg (.fz (.str z)) = some (.fz (.bl (Bool.xor (decide (z ∈ ks)) neg))) := rfl
end
end Ink
set_option Elab.async false
set_option linter.all false
set_option maxRecDepth 100000
set_option maxHeartbeats 2000000
namespace Ink
open PySem PySem.Spec PyProof.Rows L2 LamX
def raiseN (x f : Str) (fe : FE) : FS := fun env => bindS (tk fe env) fun a env1 => match fzA a with
  | some (.int i) => if i.natAbs.log2 < 1920 then some (.ex ⟨x, some [(f, .int i)]⟩ env1) else none
  | _ => none
end Ink
set_option Elab.async false
set_option linter.all false
set_option maxRecDepth 100000
set_option maxHeartbeats 2000000
namespace Ink
open PySem PySem.Spec PyProof.Rows L2 LamX
def tryTS (fb : FS) (y f : Str) (i j : Nat) (m : Str) : FS := fun env => match fb env with
  | some (.ex z env1) => if z.cls = y ∧ i < env1.length ∧ j < env1.length then match z.fs with
    | some fs => match lkF fs f with
      | some d => some (.nx ((env1.set j none).set i (some (.fz (.tup [.str m, d])))))
      | none => none
    | none => none
    else none
  | o => o
end Ink
set_option Elab.async false
set_option linter.all false
set_option maxRecDepth 100000
set_option maxHeartbeats 1000000
namespace ZT
open PySem
open PySem.Sem (wp)
section
variable {prog : Program} {w : World} {A : Around} {E : Value → Shared → Prop} {s : Shared}
theorem IsStrIter.at {h g : Heap} {a : Addr} {ty : String} {x : Str} {t : Tok} {i : Nat} (y : h.IsStrIter a ty x t i) (k : ∀ o, h.get? a = some o → g.get? a = some o) : g.IsStrIter a ty x t i :=
  let ⟨o, ho, r⟩ := y; ⟨o, k o ho, r⟩
end
end ZT
namespace ZT
open PySem PySem.Spec PyProof.Rows L2
end ZT
namespace Ink
open PySem L2
section
variable {K : PySem.W.Frag} {F : Hp}
def chD (b : Str) : List D := b.cps.toList.map fun c => .str ⟨#[c]⟩
end
def itemsZX : List Av → Option (List D)
  | [.tm (.fz (.lst xs)), .tm (.fz (.str b))] => some (zipD xs (chD b))
  | _ => none
def overZX (fa : FA) : FI := fun env => bindO (fa env) fun as env1 => match itemsZX as with
  | some ds => some (.ok ds env1)
  | none => none
end Ink
set_option Elab.async false
set_option linter.all false
set_option maxRecDepth 100000
set_option maxHeartbeats 1000000
namespace Ink
open PySem L2
def itemsZU : List Av → Option (List D)
  | [.tm (.fz (.lst xs)), .tm (.fz (.str b))] => if xs.length = b.length then some (zipD xs (chD b)) else none
  | _ => none
def overZU (fa : FA) : FI := fun env => bindO (fa env) fun as env1 => match itemsZU as with
  | some ds => some (.ok ds env1)
  | none => none
end Ink
set_option Elab.async false
set_option linter.all false
set_option maxRecDepth 100000
set_option maxHeartbeats 2000000
namespace Ink
open PySem L2
def kZX (o : Option (Out (List Av))) : Option (Out (List D)) := match o with
  | some (.ok as env1) => kZ1 env1 (itemsZX as)
  | some (.ex x env1) => some (.ex x env1)
  | none => none
@[simp] theorem kZX_0 {as : List Av} {env1 : E} : kZX (some (.ok as env1)) = kZ1 env1 (itemsZX as) := (rfl)
@[simp] theorem ev_overZX {env : E} {fa : FA} : overZX fa env = kZX (fa env) := by
  unfold overZX kZX bindO
  cases fa env with
  | none => rfl
  | some o => cases o <;> rfl
@[simp] theorem itemsZX_0 {xs : List D} {b : Str} : itemsZX [.tm (.fz (.lst xs)), .tm (.fz (.str b))] = some (zipD xs (chD b)) := (rfl)
def kZU (o : Option (Out (List Av))) : Option (Out (List D)) := match o with
  | some (.ok as env1) => kZ1 env1 (itemsZU as)
  | some (.ex x env1) => some (.ex x env1)
  | none => none
@[simp] theorem kZU_0 {as : List Av} {env1 : E} : kZU (some (.ok as env1)) = kZ1 env1 (itemsZU as) := (rfl)
@[simp] theorem ev_overZU {env : E} {fa : FA} : overZU fa env = kZU (fa env) := by
  unfold overZU kZU bindO
  cases fa env with
  | none => rfl
  | some o => cases o <;> rfl
@[simp] theorem itemsZU_0 {xs : List D} {b : Str} : itemsZU [.tm (.fz (.lst xs)), .tm (.fz (.str b))] = if xs.length = b.length then some (zipD xs (chD b)) else none := (rfl)
def kRaN1 (x f : Str) (env1 : E) (o : Option D) : Option Fl := match o with
  | some (.int i) => if i.natAbs.log2 < 1920 then some (.ex ⟨x, some [(f, .int i)]⟩ env1) else none
  | _ => none
@[simp] theorem kRaN1_0 {x f : Str} {env1 : E} {i : Int} : kRaN1 x f env1 (some (.int i)) = if i.natAbs.log2 < 1920 then some (.ex ⟨x, some [(f, .int i)]⟩ env1) else none := (rfl)
def kRaN (x f : Str) (o : Option (Out Av)) : Option Fl := match o with
  | some (.ok a env1) => kRaN1 x f env1 (fzA a)
  | some (.ex y env1) => some (.ex y env1)
  | none => none
@[simp] theorem kRaN_0 {x f : Str} {a : Av} {env1 : E} : kRaN x f (some (.ok a env1)) = kRaN1 x f env1 (fzA a) := (rfl)
@[simp] theorem ev_raiseN {x f : Str} {fe : FE} {env : E} : raiseN x f fe env = kRaN x f (tk fe env) := by
  unfold raiseN kRaN bindS
  cases tk fe env with
  | none => rfl
  | some o => cases o with
    | ex y e => rfl
    | ok a e => simp only []; unfold kRaN1; rfl
def kTryT (y f : Str) (i j : Nat) (m : Str) (o : Option Fl) : Option Fl := match o with
  | some (.ex z env1) => if z.cls = y ∧ i < env1.length ∧ j < env1.length then match z.fs with
    | some fs => match lkF fs f with
      | some d => some (.nx ((env1.set j none).set i (some (.fz (.tup [.str m, d])))))
      | none => none
    | none => none
    else none
  | o => o
@[simp] theorem kTryT_nx {y f : Str} {i j : Nat} {m : Str} {env1 : E} : kTryT y f i j m (some (.nx env1)) = some (.nx env1) := (rfl)
@[simp] theorem ev_tryTS' {fb : FS} {y f : Str} {i j : Nat} {m : Str} {env : E} : tryTS fb y f i j m env = kTryT y f i j m (fb env) := (rfl)
@[simp] theorem ev_dispC {kvs : List (Key × D)} {env : E} : dispC kvs env = some (.ok (.tm (.dK (kvs.map fun kv => (kv.1, .fz kv.2)))) env) := (rfl)
end Ink
set_option Elab.async false
set_option linter.all false
set_option maxRecDepth 100000
set_option maxHeartbeats 2000000
namespace Ink
open PySem PySem.Spec PyProof.Rows L2
/-- a class, a field's name that no class of it has -/
structure FdI (K : PySem.W.Frag) (C x : Str) : Prop where
  c : Cls K (He.ga K C)
  n : NoAttr K (He.ga K C) x
/-- a frozen field -/
def insD (C x : Str) : M → Option D
  | .ins C' fs => if C' = C then (match valG fs x with
    | some (.fz d) => some d
    | _ => none) else none
  | .fz (.ins C' ds) => if C' = C then valG ds x else none
  | _ => none
theorem insD_rep {K : PySem.W.Frag} {F H : Hp} {m : M} {v : V} {fp : List Addr} {C x : Str} {d : D} (s : Sub F H) (r : RepM K F H m v fp) (h : insD C x m = some d) :
    ∃ p dx fs w, v = .ref p ∧ H p = some (.ins (He.ga K C) dx fs) ∧ fs.lookup x = some w ∧ Rep K F w d := by
  cases m with
  | ins C' ms =>
    simp only [insD] at h
    split at h
    · rename_i e
      subst e
      cases ev : valG ms x with
      | none => simp only [ev] at h; cases h
      | some m1 =>
        cases m1 with
        | fz d1 =>
          simp only [ev] at h
          cases h
          cases r with
          | @ins p _ dx fs _ fq a f hk rs n =>
            obtain ⟨j, e1, _, e3⟩ := valG_at ev
            obtain ⟨w, f1, fr, h1, h2, _⟩ := rs.focus (j := j) e1
            refine ⟨p, dx, fs, w, rfl, a, ?_, repm_fz h2⟩
            rw [valG_look, e3 fs hk]
            exact h1
        | _ => simp only [ev] at h <;> cases h
    · cases h
  | fz dd =>
    cases dd with
    | ins C' ds =>
      simp only [insD] at h
      split at h
      · rename_i e
        subst e
        have rd := repm_fz r
        cases rd with
        | @ins p _ dx fs _ a hk rs =>
          obtain ⟨j, e1, _, e3⟩ := valG_at (show valG ds x = some d from h)
          obtain ⟨w, h1, h2⟩ := rs.get (i := j) e1
          refine ⟨p, dx, fs, w, rfl, s _ _ a, ?_, h2⟩
          rw [valG_look, e3 fs hk]
          exact h1
      · cases h
    | _ => cases h
  | _ => cases h
def fldE (C x : Str) (fo : FE) : FE := fun env => bindO (fo env) fun a env1 => match resA env1 a with
  | some m => match insD C x m with
    | some d => some (.ok (.tm (.fz d)) env1)
    | none => none
  | none => none
section
variable {X : Cx} {W : WX} {o e : Expr} {fo fe : FE} {pos pos' apos cpos : Pos} {C x : Str} {P : List Nat}
theorem e_fld (I : FdI X.K C x) (ho : PE X o (rE X.K W fo)) (hb : attributeBase o x X.env (eval o X.env) = eval o X.env := by rfl) : PE X (.Attribute o x pos) (rE X.K W (fldE C x fo)) := PE_mono (pe_fld ho hb) fun σ H Q ⟨F, env, fps, R, p⟩ => by
  refine ⟨F, env, fps, R, ?_⟩
  unfold fldE at p
  cases ef : fo env with
  | none => rw [ef] at p; exact p
  | some z =>
    rw [ef] at p
    cases z with
    | ex y env1 => exact p
    | ok a env1 =>
      simp only [bindO_ok] at p
      intro v F1 H1 fps1 fp R1 r d e1
      cases er : resA env1 a with
      | none => rw [er] at p; exact p.elim
      | some m =>
        simp only [er] at p
        cases ed : insD C x m with
        | none => rw [ed] at p; exact p.elim
        | some dd =>
          simp only [ed] at p
          obtain ⟨fq, rm⟩ := resA_rep R1 r er
          obtain ⟨q, dx, fs, w, rfl, hp, hl, rd⟩ := insD_rep R1.fr rm ed
          exact ⟨q, _, dx, fs, w, rfl, hp, I.c, I.n, hl, p w F1 H1 fps1 [] R1 (.fz rd) Own.not_nil (e1.weak fun b h => h.elim .inl fun z => by cases z)⟩
/-- a part: NAME.x -/
def flC (C x : Str) (i : Nat) : FC := fun env => match env[i]? with
  | some (some (.ins C' fs)) => if C' = C ∧ (valG fs x).isSome = true then some (env, .fl x) else none
  | _ => none
theorem c_fl {y : Str} {px : Pos} {i : Nat} (I : FdI X.K C x) (hN : X.N[i]? = some y := by rfl) (hv : Vis X.env.scope y := by first | exact Or.inl rfl | exact Or.inr (Or.inl rfl) | exact Or.inr (Or.inr rfl)) (hd : (y == ("__debug__" : Str)) = false := by decide)
    (hcd : (y == ("__classdict__" : Str)) = false := by decide) (hb : attributeBase (.Name y px) x X.env (eval (.Name y px) X.env) = eval (.Name y px) X.env := by rfl) : PE X (.Attribute (.Name y px) x pos) (rC X.K i (flC C x i)) := PE_mono (pe_fld (pe_var hN hv hd hcd) hb) fun σ H Q ⟨F, env, fps, R, po⟩ => by
  unfold flC at po
  cases ei : env[i]? with
  | none => simp only [ei] at po
  | some z =>
    cases z with
    | none => simp only [ei] at po
    | some m =>
      cases m with
      | ins C' ms =>
        simp only [ei] at po
        split at po
        · rename_i env' s' eq
          split at eq
          · rename_i hc
            obtain ⟨rfl, his⟩ := hc
            cases eq
            obtain ⟨m1, hm1⟩ := Option.isSome_iff_exists.mp his
            obtain ⟨v, hv, r⟩ := R.got i _ ei
            generalize hff : fps i = ff at r
            cases r with
            | @ins p _ dx fs _ fq a f hk rs n =>
              obtain ⟨j, e1, _, e3⟩ := valG_at hm1
              obtain ⟨w, f1, fr, h1, h2, _⟩ := rs.focus (j := j) e1
              have hl : valG fs x = some w := by rw [e3 fs hk]; exact h1
              exact ⟨.ref p, hv, p, _, dx, fs, w, rfl, a, I.c, I.n, by rw [valG_look]; exact hl, po w p _ F H fps R hv a hl (Ext.refl fun _ h => h)⟩
          · cases eq
        · exact po.elim
      | _ => simp only [ei] at po
def putFM (x : Str) (m : M) : List (Str × M) → List (Str × M)
  | [] => [(x, m)]
  | (g, y) :: r => if g = x then (g, m) :: r else (g, y) :: putFM x m r
theorem putF_rep {K : PySem.W.Frag} {F H : Hp} {x : Str} {m : M} {v : V} {fm : List Addr} (rm : RepM K F H m v fm) : ∀ {ms : List (Str × M)} {fs : List (Str × V)} {fp : List Addr}, fs.map (·.1) = ms.map (·.1) → RepMs K F H (ms.map (·.2)) (fs.map (·.2)) fp → (∀ b ∈ fp, b ∉ fm) →
    ∃ fr, (∀ b ∈ fr, b ∈ fp ∨ b ∈ fm) ∧ (putF x v fs).map (·.1) = (putFM x m ms).map (·.1) ∧ RepMs K F H ((putFM x m ms).map (·.2)) ((putF x v fs).map (·.2)) fr
  | [], [], fp, _, r, _ => ⟨fm ++ [], fun b hb => .inr (by simpa using hb), rfl, .cons rm .nil fun b _ z => by cases z⟩
  | [], _ :: _, _, h, _, _ => by simp at h
  | _ :: _, [], _, h, _, _ => by simp at h
  | (g, y) :: ms, (g2, w) :: fs, fp, h, r, d => by
    simp only [List.map_cons, List.cons.injEq] at h
    obtain ⟨rfl, h⟩ := h
    simp only [List.map_cons] at r
    cases r with
    | @cons _ _ _ _ f1 f2 a b c =>
      by_cases e : g2 = x
      · subst e
        refine ⟨fm ++ f2, fun b hb => ?_, ?_, ?_⟩
        · rcases List.mem_append.mp hb with z | z
          · exact .inr z
          · exact .inl (List.mem_append_right _ z)
        · simp [putF, putFM, h]
        · simp only [putF, putFM, if_true, List.map_cons]
          exact .cons rm b fun b hb z => d b (List.mem_append_right _ z) hb
      · obtain ⟨fr, s, k, r2⟩ := putF_rep rm h b fun b hb => d b (List.mem_append_right _ hb)
        refine ⟨f1 ++ fr, fun b hb => ?_, ?_, ?_⟩
        · rcases List.mem_append.mp hb with z | z
          · exact .inl (List.mem_append_left _ z)
          · exact (s b z).imp (fun z => List.mem_append_right _ z) id
        · simp only [putF, putFM, if_neg e, List.map_cons]
          exact congrArg (g2 :: ·) k
        · simp only [putF, putFM, if_neg e, List.map_cons]
          exact .cons a r2 fun b hb z => (s b z).elim (c b hb) (d b (List.mem_append_left _ hb))
def setFG (C x : Str) : FP := fun ms => match ms with
  | [v, .ins C' fs] => if C' = C ∧ fs.length < 999 then some (.ok (.fz .non) [none, some (.ins C' (putFM x v fs))]) else none
  | _ => none
theorem op_setF {K : PySem.W.Frag} {C x : Str} {v o : V} {H : Hp} {Q : Hp → Prop} {Ex : XK} (p : spOf K (setFG C x) [v, o] H (fun _ H1 => Q H1) Ex) : ∃ a dx fs, o = .ref a ∧ H a = some (.ins (He.ga K C) dx fs) ∧ fs.length < 1000 ∧ Q (upd H a (.ins (He.ga K C) dx (putF x v fs))) := by
  obtain ⟨F, ms, fps, R, p⟩ := p
  unfold setFG at p
  split at p
  · rename_i y C' fs
    split at p
    · rename_i hc
      obtain ⟨rfl, hl⟩ := hc
      obtain ⟨v0, h0, r0⟩ := R.got 0 _ rfl
      cases h0
      obtain ⟨v1, h1, r1⟩ := R.got 1 _ rfl
      cases h1
      have dj : ∀ b ∈ fps 0, b ∉ fps 1 := R.dj 0 1 (by omega)
      generalize hfp : fps 1 = f1 at r1
      cases r1 with
      | @ins q _ dx ws _ fq a f hk rs n =>
        obtain ⟨fr, s1, k1, r3⟩ := putF_rep (x := x) r0 hk rs (fun b hb z => dj b z (by rw [hfp]; exact List.mem_cons_of_mem _ hb))
        have hnq : ∀ b ∈ fr, b ≠ q := fun b hb e => by
          subst e
          rcases s1 b hb with z | z
          · exact n z
          · exact dj b z (by rw [hfp]; exact List.mem_cons_self ..)
        have hlw : ws.length = fs.length := by have := congrArg List.length hk; simpa using this
        refine ⟨q, dx, ws, rfl, a, by omega, ?_⟩
        have rM : RepM K F (upd H q (.ins (He.ga K C') dx (putF x v ws))) (.ins C' (putFM x y fs)) (.ref q) (q :: fr) := .ins upd_same f k1 (r3.frame (Sub.refl _) (fun b hb => upd_ne (hnq b hb)) fun b hb => (r3.live b hb).2) fun z => hnq q z rfl
        have R1 := R.drop 0
        have R2 := args_upd (i := 1) (fp := q :: fr) R1 rfl (by simp [hfp]) f rM (fun b hb j ha z => by
          by_cases e1 : j = 0
          · simp only [if_pos e1] at z; cases z
          · simp only [if_neg e1] at z
            rcases List.mem_cons.mp hb with rfl | hb
            · exact R.dj 1 j (fun q => ha q.symm) b (by rw [hfp]; exact List.mem_cons_self ..) z
            · rcases s1 b hb with hb | hb
              · exact R.dj 1 j (fun q => ha q.symm) b (by rw [hfp]; exact List.mem_cons_of_mem _ hb) z
              · exact R.dj 0 j (fun q => e1 q.symm) b hb z) (rM.nt (List.mem_cons_self ..) upd_same) (rM.ntp (List.mem_cons_self ..) upd_same)
        refine p .non F _ _ [] R2 (.fz .non) Own.not_nil ?_
        refine (Ext.putO R ⟨1, by rw [hfp]; exact List.mem_cons_self ..⟩ (rM.nt (List.mem_cons_self ..) upd_same) (rM.ntp (List.mem_cons_self ..) upd_same)).weak fun b h => ?_
        rcases h with ⟨a, ha⟩ | h
        · by_cases e0 : a = 1
          · simp only [if_pos e0] at ha
            rcases List.mem_cons.mp ha with rfl | z
            · exact ⟨1, by rw [hfp]; exact List.mem_cons_self ..⟩
            · rcases s1 b z with z | z
              · exact ⟨1, by rw [hfp]; exact List.mem_cons_of_mem _ z⟩
              · exact ⟨0, z⟩
          · simp only [if_neg e0] at ha
            by_cases e1 : a = 0
            · simp only [if_pos e1] at ha; cases ha
            · simp only [if_neg e1] at ha; exact ⟨a, ha⟩
        · cases h
    · exact p.elim
  · exact p.elim
def setFS (C x : Str) (fe fo : FE) : FS := fun env => bindS (callE (setFG C x) (consA fe (consA fo nilA)) env) fun _ env1 => some (.nx env1)
theorem s_fld (I : FdI X.K C x) (ho : PE X o (rE X.K W fo)) (he : PE X e (rE X.K W fe)) (hs : swapsWith e (some (.Attribute o x pos')) pos.line X.env = pure false := by rfl) : PS X (.Assign [.Attribute o x pos'] e pos) (rS X.K W P (setFS C x (tk fe) fo)) := PS_mono (ps_fld ho (e_tk he) hs) fun D σ H ⟨F, env, fps, R, p⟩ => by
  have q : rE X.K W (callE (setFG C x) (consA (tk fe) (consA fo nilA))) σ H (fun _ H1 => D.nx σ H1) := by
    refine ⟨F, env, fps, R, ?_⟩
    unfold setFS at p
    cases ef : callE (setFG C x) (consA (tk fe) (consA fo nilA)) env with
    | none => rw [ef] at p; exact p
    | some z =>
      rw [ef] at p
      cases z with
      | ex x env1 => exact PXS.px p
      | ok a env1 => exact fun v F' H' fps' fp R' r d e' => p σ F' H' fps' R' .refl (e'.weak fun _ h => .inl h)
  refine rE_imp (fun y H1 p1 => rE_imp (fun z H2 p2 => ?_) (ra_cons p1)) (ra_cons (r_call q))
  obtain ⟨a, dx, fs, rfl, ha, hl, hq⟩ := op_setF (ra_nil p2)
  exact ⟨a, _, dx, fs, rfl, ha, I.c, I.n, hl, hq⟩
/-- NAME.x op= e, whole numbers -/
def augFS (C x : Str) (i : Nat) (f : Int → Int → Int) (fe : FE) : FS := fun env => match env[i]? with
  | some (some m) => match insD C x m with
    | some (.int a) => bindS (fe env) fun c env1 => match intA c env1 with
      | some b => bindS (runP (setFG C x) [.tm (.fz (.int (f a b))), .sl i] env1) fun _ env2 => some (.nx env2)
      | none => none
    | _ => none
  | _ => none
end
end Ink
set_option Elab.async false
set_option linter.all false
set_option maxRecDepth 100000
set_option maxHeartbeats 2000000
namespace Ink
open PySem PySem.Spec PyProof.Rows L2
def isFzO : Option (Option M) → Bool
  | some (some (.fz _)) => true
  | _ => false
theorem isFzO_at {o : Option (Option M)} (h : isFzO o = true) : ∃ d, o = some (some (.fz d)) := by
  unfold isFzO at h
  split at h
  · exact ⟨_, rfl⟩
  · cases h
def dflI (n : Int) (g : FP) : FP := fun ms => match g (ms ++ [.fz (.int n)]) with
  | some (.ok r outs) => if isFzO outs[ms.length]? then some (.ok r (outs.take ms.length)) else none
  | some (.ex x outs) => if isFzO outs[ms.length]? then some (.ex x (outs.take ms.length)) else none
  | none => none
theorem renv_moreI {K : PySem.W.Frag} {F H : Hp} {vs : List V} {ms : List M} {fps : Nat → List Addr} {n : Int} (R : REnv K F H (argS vs) (argE ms) fps) : REnv K F H (argS (vs ++ [.int n])) (argE (ms ++ [.fz (.int n)])) fps := by
  have hl : ms.length = vs.length := by have := R.len; simpa [argE, argS] using this
  have hn : fps ms.length = [] := R.nil _ fun m h => by simp [argE] at h
  refine ⟨R.fr, by simp [argE, argS, hl], fun i m h => ?_, fun i h => ?_, R.dj, R.tt⟩
  · by_cases q : i < ms.length
    · obtain ⟨v, h1, h2⟩ := R.got i m (by
        simp only [argE, List.map_append] at h
        rwa [List.getElem?_append_left (by simpa using q)] at h)
      exact ⟨v, by
        have q2 : i < vs.length := by omega
        simp only [argS, List.map_append]
        rw [List.getElem?_append_left (by simpa using q2)]
        exact h1, h2⟩
    · have e : i = ms.length := by
        have := (List.getElem?_eq_some_iff.mp h).1
        simp [argE] at this
        omega
      subst e
      have em : m = .fz (.int n) := by
        have := h
        simp [argE] at this
        exact this.symm
      subst em
      rw [hn]
      exact ⟨.int n, by simp [argS, hl], RepM.fz (.int n)⟩
  · by_cases q : i < ms.length
    · refine R.nil i fun m hm => h m ?_
      simp only [argE, List.map_append]
      rw [List.getElem?_append_left (by simpa using q)]
      exact hm
    · refine R.nil i fun m hm => ?_
      have := (List.getElem?_eq_some_iff.mp hm).1
      simp [argE] at this
      omega
theorem renv_lessI {K : PySem.W.Frag} {F H : Hp} {vs : List V} {outs : E} {fps : Nat → List Addr} {n : Int} {d : D} (R : REnv K F H (argS (vs ++ [.int n])) outs fps) (h : outs[vs.length]? = some (some (.fz d))) : REnv K F H (argS vs) (outs.take vs.length) fps := by
  have hl : outs.length = vs.length + 1 := by have := R.len; simpa [argS] using this
  have hn : fps vs.length = [] := by
    obtain ⟨v, _, r⟩ := R.got _ _ h
    exact r.fz_nil
  refine ⟨R.fr, by simp [argS, hl], fun i m hm => ?_, fun i hi => ?_, R.dj, R.tt⟩
  · have q : i < vs.length := by
      have := (List.getElem?_eq_some_iff.mp hm).1
      simp at this
      omega
    rw [List.getElem?_take_of_lt q] at hm
    obtain ⟨v, h1, h2⟩ := R.got i m hm
    exact ⟨v, by
      simp only [argS, List.map_append] at h1
      rwa [List.getElem?_append_left (by simpa using q)] at h1, h2⟩
  · by_cases q : i < vs.length
    · exact R.nil i fun m hm => hi m (by rw [List.getElem?_take_of_lt q]; exact hm)
    · by_cases e : i = vs.length
      · rw [e]; exact hn
      · refine R.nil i fun m hm => ?_
        have := (List.getElem?_eq_some_iff.mp hm).1
        omega
theorem sp_dflI {K : PySem.W.Frag} {g : FP} {vs : List V} {H : Hp} {Q : VK} {Ex : XK} {n : Int} (h : spOf K (dflI n g) vs H Q Ex) : spOf K g (vs ++ [.int n]) H Q Ex := by
  obtain ⟨F, ms, fps, R, p⟩ := h
  have hl : ms.length = vs.length := by have := R.len; simpa [argE, argS] using this
  refine ⟨F, ms ++ [.fz (.int n)], fps, renv_moreI R, ?_⟩
  unfold dflI at p
  cases e : g (ms ++ [.fz (.int n)]) with
  | none => rw [e] at p; exact p
  | some o =>
    rw [e] at p
    cases o with
    | ex x outs =>
      simp only at p
      by_cases q : isFzO outs[ms.length]? = true
      · rw [if_pos q] at p
        obtain ⟨d0, hq⟩ := isFzO_at q
        rw [hl] at hq p
        intro cls d F' H' fps' R' rx e'
        exact p cls d F' H' fps' (renv_lessI R' hq) rx e'
      · rw [if_neg q] at p
        exact p.elim
    | ok r outs =>
      simp only at p
      by_cases q : isFzO outs[ms.length]? = true
      · rw [if_pos q] at p
        obtain ⟨d0, hq⟩ := isFzO_at q
        rw [hl] at hq p
        intro v F' H' fps' fp R' r' d' e'
        exact p v F' H' fps' fp (renv_lessI R' hq) r' d' e'
      · rw [if_neg q] at p
        exact p.elim
end Ink
set_option Elab.async false
set_option linter.all false
set_option maxRecDepth 100000
set_option maxHeartbeats 2000000
namespace Ink
open PySem PySem.Spec PyProof.Rows L2
/-- o.m(..); what it lets out is wished for at the slots as they stand -/
def tMtS (C : Addr) (m : Str) (sp : Sp) (dvs : List V) (E : L2.St → XK) (ta : TE) (t : TA) : TE := fun σ H Q => ta σ H fun x H1 => ∃ a dx fs, x = .ref a ∧ H1 a = some (.ins C dx fs) ∧ fs.lookup m = none ∧ t σ H1 fun vs H2 => sp (x :: (vs ++ dvs)) H2 Q (E σ)
section
variable {X : Cx} {CX : CXT} {k : Nat} {f C : Addr} {fd : FuncData} {ps : List Str} {sp : Sp} {dvs : List V} {ds : List Value} {E : L2.St → XK} {m x : Str} {p pos apos : Pos} {e o : Expr} {es : List Expr} {ta : TE} {t : TA} {pl : Sem Bool}
theorem pe_mtS (he : PE X o ta) (c : Cls X.K C) (hm : Meth X.K C m f) (F : FnOk X.prog X.w X.K X.mg X.base CX k f fd ps sp) (hr : Room k X.A) (hb : Binds X.K fd ps ds) (hd : Vals dvs ds) (hx : ∀ σ, PassesAt CX X σ (E σ)) (ha : PA X (e :: es) t)
    (hst : starEach (e :: es) X.env = (false, eval e X.env) :: starEach es X.env) (hpl : (backTo pos (starEach es X.env)).any (·.1) = false)
    (ht : eval (.Call (.Attribute o m apos) (e :: es) [] pos) X.env = (do
      let ov ← eval o X.env
      standAt apos.atName
      let (f, first) ← holding [ov] (getMethod ov m pl)
      callWith pos f first (backTo pos (starEach (e :: es) X.env)) (backToKw pos (keywordEach [] X.env)))) :
    PE X (.Call (.Attribute o m apos) (e :: es) [] pos) (tMtS C m sp dvs E ta t) := by
  refine ⟨fun pins s σ H Q I h => ?_⟩
  refine PySem.W.methodCall_KW (pl := pl) (thn (he.run pins s σ H _ I h) fun u s1 ⟨x, H1, I1, rx, a, dx, fs, ex, ea, l, q⟩ => ?_) ht
  subst ex
  obtain rfl : u = Value.ref a := rx
  refine getmeth_ok I1 ea c hm l ?_
  refine PySem.W.callWith_K (first := [.ref a]) (h₀ := X.base) I.ok.mod.kin hm.kp (thn (ha.run pos pins s1 σ H1 _ I1 q) fun us s2 ⟨vs, H2, I2, r, q2⟩ => ⟨I2.kIn, ?_⟩) hst hpl
  exact run_fnSD (us := .ref a :: us) (vs := .ref a :: vs) F hr hb hd (hx σ) I2 (.cons rfl r) q2
theorem pe_mtS0 (he : PE X o ta) (c : Cls X.K C) (hm : Meth X.K C m f) (F : FnOk X.prog X.w X.K X.mg X.base CX k f fd ps sp) (hr : Room k X.A) (hb : Binds X.K fd ps ds) (hd : Vals dvs ds) (hx : ∀ σ, PassesAt CX X σ (E σ))
    (ht : eval (.Call (.Attribute o m apos) [] [] pos) X.env = (do
      let ov ← eval o X.env
      standAt apos.atName
      let (f, first) ← holding [ov] (getMethod ov m pl)
      callWith pos f first (backTo pos (starEach [] X.env)) (backToKw pos (keywordEach [] X.env)))) :
    PE X (.Call (.Attribute o m apos) [] [] pos) (tMtS C m sp dvs E ta tNil) := by
  refine ⟨fun pins s σ H Q I h => ?_⟩
  refine PySem.W.methodCall_KW (pl := pl) (thn (he.run pins s σ H _ I h) fun u s1 ⟨x, H1, I1, rx, a, dx, fs, ex, ea, l, q⟩ => ?_) ht
  subst ex
  obtain rfl : u = Value.ref a := rx
  refine getmeth_ok I1 ea c hm l ?_
  exact PySem.W.callWith_K0 (first := [.ref a]) I1.kIn hm.kp (run_fnSD (us := [.ref a]) (vs := [.ref a]) F hr hb hd (hx σ) I1 (.cons rfl .nil) q)
/-- C(..) -/
def tMkS (C : Addr) (sp : Sp) (E : L2.St → XK) (t : TA) : TE := fun σ H Q => t σ H fun vs H1 => ∀ x dx, H1 x = none → H1 dx = none → dx ≠ x →
  sp (.ref x :: vs) (upd (upd H1 dx (.own x)) x (.ins C dx [])) (fun v H2 => v = .non ∧ Q (.ref x) H2) (E σ)
theorem run_mkS {pins : List (Addr × Obj)} {σ : L2.St} {H : Hp} {s : Shared} {Q : VK} {us : List Value} {vs : List V} (M : Mk X.K C f) (F : FnOk X.prog X.w X.K X.mg X.base CX k f fd ps sp) (hr : Room (k + 1) X.A) (hb : Binds X.K fd ps [])
    (hx : PassesAt CX X σ (E σ)) (I : Inv X pins σ H s) (r : Vals vs us)
    (h : ∀ x dx, H x = none → H dx = none → dx ≠ x → sp (.ref x :: vs) (upd (upd H dx (.own x)) x (.ins C dx [])) (fun v H2 => v = .non ∧ Q (.ref x) H2) (E σ)) :
    wpAny (model X.prog X.w) X.A (call (.ref C) us) (EP X pins σ Q) X.xe s := by
  have hq := h (s.heap.objs.size + 1) s.heap.objs.size (I.hok.fresh (Nat.le_succ _)) (I.hok.fresh (Nat.le_refl _)) (Nat.ne_of_lt (Nat.lt_succ_self _))
  have I2 := Inv.made (C := C) I
  have r2 : Vals (V.ref (s.heap.objs.size + 1) :: vs) (Value.ref (s.heap.objs.size + 1) :: us) := .cons rfl r
  have hl : (Value.ref (s.heap.objs.size + 1) :: us).length = ps.length := by
    have e := r2.length
    rw [F.len _ _ _ _ hq] at e
    exact e.symm
  have b := hb _ (Value.ref (s.heap.objs.size + 1) :: us) I2.kIn (by rw [List.append_nil]; exact hl)
  rw [List.append_nil] at b
  refine wpAny_call (make_map (f := f) I.kIn M.makes M.init (beq_iff_eq.mp M.fn) (codeAny_mono (F.run _ X.stack _ _ ⟨Value.ref (s.heap.objs.size + 1) :: us, []⟩ (Value.ref (s.heap.objs.size + 1) :: us) _ _ (E σ) (hr.make C us [])
    (I2.env0.make C us []) b r2 hq) fun r s' hq' => ?_))
  cases r with
  | error e => exact hx pins _ _ e s' I2 hq'
  | ok fl =>
    cases fl with
    | ret u =>
      obtain ⟨v, H', I3, rv, ev, q3⟩ := I2.after hq'
      subst ev
      exact ⟨rv, ⟨V.ref (s.heap.objs.size + 1), H', I3, rfl, q3⟩⟩
    | next => exact False.elim hq'
    | brk => exact False.elim hq'
    | cont => exact False.elim hq'
theorem pe_mkS0 (M : Mk X.K C f) (F : FnOk X.prog X.w X.K X.mg X.base CX k f fd ps sp) (hr : Room (k + 1) X.A) (hg : Gl X x) (hm : X.mg x = some (.ref C)) (hb : Binds X.K fd ps []) (hx : ∀ σ, PassesAt CX X σ (E σ))
    (hdb : (x == ("__debug__" : Str)) = false) : PE X (.Call (.Name x p) [] [] pos) (tMkS C sp E tNil) := by
  refine ⟨fun pins s σ H Q I h => ?_⟩
  refine wpAny_Call_Name_kw (ld_glob I hg hm ?_ hdb)
  exact PySem.W.callWith_K0 I.kIn M.kp (run_mkS (us := []) M F hr hb (hx σ) I .nil h)
end
def dflIs : List Int → FP → FP
  | [], g => g
  | n :: ns, g => dflI n (dflIs ns g)
theorem sp_dflIs {K : PySem.W.Frag} {g : FP} {H : Hp} {Q : VK} {Ex : XK} : ∀ {ns : List Int} {vs : List V}, spOf K (dflIs ns g) vs H Q Ex → spOf K g (vs ++ ns.map V.int) H Q Ex
  | [], vs, h => by
    rw [List.map_nil, List.append_nil]
    exact h
  | n :: ns, vs, h => by
    have h2 : spOf K (dflI n (dflIs ns g)) vs H Q Ex := h
    have := sp_dflIs (sp_dflI h2)
    simpa using this
/-- a method m of the class C, by its mirror; ns: whole numbers where the last parameters lack -/
structure MtI (P : Program) (w : World) (K : PySem.W.Frag) (mg : Str → Option Value) (base : Heap) (k : Nat) (C m : Str) (ps : List Str) (ns : List Int) (g : FP) : Prop where
  c : Cls K (He.ga K C)
  ex : ∃ f fd, FnOk P w K mg base (L2N.CX P w) k f fd ps (spOf K g) ∧ Meth K (He.ga K C) m f ∧ ∀ j, j ≤ ns.length → ∃ us, Vals ((ns.drop j).map V.int) us ∧ Binds K fd ps us
/-- a class C with its __init__ -/
structure MkI (P : Program) (w : World) (K : PySem.W.Frag) (mg : Str → Option Value) (base : Heap) (k : Nat) (C : Str) (ps : List Str) (g : FP) : Prop where
  mx : mg C = some (.ref (He.ga K C))
  ex : ∃ f fd, FnOk P w K mg base (L2N.CX P w) k f fd ps (spOf K g) ∧ Mk K (He.ga K C) f ∧ Binds K fd ps []
section
variable {P : Program} {w : World} {K : PySem.W.Frag} {mg : Str → Option Value} {base : Heap} {C m qual : Str} {params : Arguments} {body : List Stmt} {scope : Scope} {f : Addr} {fd : FuncData} {N ps : List Str} {k np nl : Nat} {asg : List Nat} {fb : FS} {ns : List Int}
theorem mt_mk (c : Cls K (He.ga K C)) (hm : Meth K (He.ga K C) m f) (F : FunD K m qual params body scope [] [] f fd) (S : FnScope N ps scope) (hN : N.length = np + nl) (hp : ps.length = np)
    (hbd : ∀ (kV doc pm : Value) (an : Option Addr) (cdv ct : Value) (us : List Value), us.length = ps.length → bindArgs (PySem.W.fnOf m qual params body scope .none kV doc pm an cdv ct) ⟨us, []⟩ = pure (ps.zip us))
    (hb : ∀ (cdv : Value) (A : Around) (outer : List Env) (s : Shared) (H : Hp) (Ex : XK), Room k (A.deeper (PyProof.Rows.envOfC qual scope s.heap.objs.size f cdv)) → PSs (cxOf (L2N.CX P w) P w K mg base N qual scope f cdv A outer s H Ex) body (rS K (fun cls d _ H' => Ex cls d H') (pinsOf np asg) fb)) :
    MtI P w K mg base (k + 1) C m ps [] (fnM np nl asg fb) :=
  ⟨c, f, fd, F.ok S (fun vs H Q Ex h => by rw [(fn_body hN h).1, hp]) (fun cdv A outer s H vs Q Ex hr h => ⟨_, hb cdv A outer s H Ex hr, (fn_body hN h).2⟩), hm, fun j _ => ⟨[], by rw [List.drop_nil]; exact .nil, F.bindsN hbd⟩⟩
theorem mt_mkI (c : Cls K (He.ga K C)) (hm : Meth K (He.ga K C) m f) (F : FunD K m qual params body scope (ns.map V.int) [] f fd) (S : FnScope N ps scope) (hN : N.length = np + nl) (hp : ps.length = np) (hne : ns ≠ []) (hln : ns.length ≤ ps.length)
    (hbd : ∀ j, j ≤ ns.length → ∀ (T : Addr) (kV doc pm : Value) (an : Option Addr) (cdv ct : Value) (us its : List Value), us.length = ps.length - (ns.length - j) → its.length = (ns.map V.int).length → ∃ k, bindArgs (PySem.W.fnOf m qual params body scope (.ref T) kV doc pm an cdv ct) ⟨us, []⟩ = seqItems? (.ref T) >>= k ∧ k (some its.toArray) = pure (ps.zip (us ++ its.drop j)))
    (hb : ∀ (cdv : Value) (A : Around) (outer : List Env) (s : Shared) (H : Hp) (Ex : XK), Room k (A.deeper (PyProof.Rows.envOfC qual scope s.heap.objs.size f cdv)) → PSs (cxOf (L2N.CX P w) P w K mg base N qual scope f cdv A outer s H Ex) body (rS K (fun cls d _ H' => Ex cls d H') (pinsOf np asg) fb)) :
    MtI P w K mg base (k + 1) C m ps ns (fnM np nl asg fb) := by
  refine ⟨c, f, fd, F.ok S (fun vs H Q Ex h => by rw [(fn_body hN h).1, hp]) (fun cdv A outer s H vs Q Ex hr h => ⟨_, hb cdv A outer s H Ex hr, (fn_body hN h).2⟩), hm, fun j hj => ?_⟩
  obtain ⟨ds, v, b⟩ := F.binds1 (ps := ps) (ps.length - (ns.length - j)) j (by simpa using hne) (by simp; omega) (hbd j hj)
  exact ⟨ds, by rw [← List.map_drop] at v; exact v, b⟩
theorem mk_mk (M : Mk K (He.ga K C) f) (mx : mg C = some (.ref (He.ga K C))) (F : FunD K m qual params body scope [] [] f fd) (S : FnScope N ps scope) (hN : N.length = np + nl) (hp : ps.length = np)
    (hbd : ∀ (kV doc pm : Value) (an : Option Addr) (cdv ct : Value) (us : List Value), us.length = ps.length → bindArgs (PySem.W.fnOf m qual params body scope .none kV doc pm an cdv ct) ⟨us, []⟩ = pure (ps.zip us))
    (hb : ∀ (cdv : Value) (A : Around) (outer : List Env) (s : Shared) (H : Hp) (Ex : XK), Room k (A.deeper (PyProof.Rows.envOfC qual scope s.heap.objs.size f cdv)) → PSs (cxOf (L2N.CX P w) P w K mg base N qual scope f cdv A outer s H Ex) body (rS K (fun cls d _ H' => Ex cls d H') (pinsOf np asg) fb)) :
    MkI P w K mg base (k + 1) C ps (fnM np nl asg fb) :=
  ⟨mx, f, fd, F.ok S (fun vs H Q Ex h => by rw [(fn_body hN h).1, hp]) (fun cdv A outer s H vs Q Ex hr h => ⟨_, hb cdv A outer s H Ex hr, (fn_body hN h).2⟩), M, F.bindsN hbd⟩
end
def isInsM (C m : Str) : M → Bool
  | .ins C' fs => decide (C' = C) && (valG fs m).isNone
  | .fz (.ins C' ds) => decide (C' = C) && (valG ds m).isNone
  | _ => false
theorem isInsM_rep {K : PySem.W.Frag} {F H : Hp} {mm : M} {v : V} {fp : List Addr} {C m : Str} (s : Sub F H) (r : RepM K F H mm v fp) (h : isInsM C m mm = true) : ∃ p dx fs, v = .ref p ∧ H p = some (.ins (He.ga K C) dx fs) ∧ fs.lookup m = none := by
  unfold isInsM at h
  split at h
  · rename_i C' ms
    simp only [Bool.and_eq_true, decide_eq_true_eq, Option.isNone_iff_eq_none] at h
    obtain ⟨rfl, h⟩ := h
    cases r with
    | @ins p _ dx fs _ fq a f hk rs n => exact ⟨p, dx, fs, rfl, a, by rw [valG_look]; exact (valG_keys hk).mpr h⟩
  · rename_i C' ds
    simp only [Bool.and_eq_true, decide_eq_true_eq, Option.isNone_iff_eq_none] at h
    obtain ⟨rfl, h⟩ := h
    have rd := repm_fz r
    cases rd with
    | @ins p _ dx fs _ a hk rs => exact ⟨p, dx, fs, rfl, s _ _ a, by rw [valG_look]; exact (valG_keys hk).mpr h⟩
  · cases h
def methE (C m : Str) (g : FP) (fo : FE) (fa : FA) : FE := fun env => bindO (fo env) fun a env1 => match resA env1 a with
  | some mm => match isInsM C m mm with
    | true => bindO (fa env1) fun as env2 => runP g (a :: as) env2
    | false => none
  | none => none
theorem r_meth {K : PySem.W.Frag} {W : WX} {σ : L2.St} {H : Hp} {C m : Str} {g : FP} {fo : FE} {fa : FA} {Q : VK} (p : rE K W (methE C m g fo fa) σ H Q) :
    rE K W fo σ H fun x H1 => ∃ a dx fs, x = .ref a ∧ H1 a = some (.ins (He.ga K C) dx fs) ∧ fs.lookup m = none ∧ rA K W fa σ H1 fun vs H2 => spOf K g (x :: vs) H2 Q (fun c d H' => W c d σ H') := by
  obtain ⟨F, env, fps, R, p⟩ := p
  refine ⟨F, env, fps, R, ?_⟩
  unfold methE at p
  cases ef : fo env with
  | none => rw [ef] at p; exact p
  | some z =>
    rw [ef] at p
    cases z with
    | ex y env1 => exact p
    | ok a env1 =>
      simp only [bindO_ok] at p
      intro v F1 H1 fps1 fp R1 r d e1
      cases er : resA env1 a with
      | none => rw [er] at p; exact p.elim
      | some mm =>
        simp only [er] at p
        cases ei : isInsM C m mm with
        | false => rw [ei] at p; exact p.elim
        | true =>
          rw [ei] at p
          simp only at p
          obtain ⟨fq, rm⟩ := resA_rep R1 r er
          obtain ⟨q, dx, fs, rfl, hp, hl⟩ := isInsM_rep R1.fr rm ei
          refine ⟨q, dx, fs, rfl, hp, hl, F1, env1, fps1, R1, ?_⟩
          cases eg : fa env1 with
          | none => rw [eg] at p; exact p
          | some z2 =>
            rw [eg] at p
            cases z2 with
            | ex y env2 => exact PX.wide p e1 fun _ h => .inl h
            | ok as env2 =>
              simp only [bindO_ok] at p
              intro vs F2 H2 fps2 fpA R2 rs d2 e2
              obtain ⟨r2, dd⟩ := pendA r d e2
              refine prim_sound R2 (RepAs.cons' r2 rs fun b hb q => dd b hb (.inr q)) (fun b hb q => ?_) (poE.wide p (e1.trans e2 (fun _ h => .inl h) fun b h => h) fun b h => ?_)
              · rcases own_fcons.mp hb with hb | hb
                · exact dd b hb (.inl q)
                · exact d2 b hb q
              · rcases h with h | h
                · exact .inl (.inl h)
                · rcases own_fcons.mp h with h | h
                  · exact .inr (.inr h)
                  · exact .inl (.inr h)
def mkK (C : Str) (env : E) (o : Option OutP) : Option (Out Av) := match o with
  | some (.ok (.fz .non) (some inst :: _)) => some (.ok (.tm inst) env)
  | some (.ex x _) => some (.ex x env)
  | _ => none
def mkE (C : Str) (g : FP) (fa : FA) : FE := fun env => bindO (fa env) fun as env1 => match tms as with
  | some ms => mkK C env1 (g (.ins C [] :: ms))
  | none => none
theorem r_mk {K : PySem.W.Frag} {W : WX} {σ : L2.St} {H : Hp} {C : Str} {g : FP} {fa : FA} {Q : VK} (p : rE K W (mkE C g fa) σ H Q) : rA K W fa σ H fun vs H1 => ∀ x dx, H1 x = none → H1 dx = none → dx ≠ x →
    spOf K g (.ref x :: vs) (upd (upd H1 dx (.own x)) x (.ins (He.ga K C) dx [])) (fun v H2 => v = .non ∧ Q (.ref x) H2) (fun c d H' => W c d σ H') := by
  obtain ⟨F, env, fps, R, p⟩ := p
  refine ⟨F, env, fps, R, ?_⟩
  unfold mkE at p
  cases ef : fa env with
  | none => rw [ef] at p; exact p
  | some z =>
    rw [ef] at p
    cases z with
    | ex y env1 => exact p
    | ok as env1 =>
      simp only [bindO_ok] at p
      intro vs F1 H1 fps1 fpA R1 rs d1 e1 x dx hx hdx hne
      cases et : tms as with
      | none => rw [et] at p; exact p.elim
      | some ms =>
        simp only [et] at p
        obtain ⟨tl, tg⟩ := tms_get et
        have hx2 : (upd H1 dx (.own x)) x = none := by rw [upd_ne (Ne.symm hne)]; exact hx
        have en : ∀ A : Addr → Prop, Ext K F1 H1 A F1 (upd (upd H1 dx (.own x)) x (.ins (He.ga K C) dx [])) (fun b => A b ∨ b = x) := fun A =>
          (Ext.trans (B := A) (C := fun b => A b ∨ b = x) (Ext.new (A := A) (o := .own x) hdx) (Ext.new (A := A) (o := .ins (He.ga K C) dx []) hx2) (fun _ h => .inl h) fun b h => .inl h)
        have fr1 : Sub F1 (upd (upd H1 dx (.own x)) x (.ins (He.ga K C) dx [])) := sub_new (sub_new R1.fr hdx) hx2
        obtain ⟨R1', n1'⟩ := R1.frame (B := fun _ => False) (fun b _ h => h) (en _) fr1
        have ow1 : ∀ b, Own fps1 b → b ≠ x := fun b h e => n1' b h (.inr e)
        have owA : ∀ b, Own fpA b → b ≠ x := fun b ⟨j, hj⟩ e => by
          by_cases hl : j < as.length
          · obtain ⟨w, hw, rw'⟩ := rs.got j _ (List.getElem?_eq_getElem hl)
            have ha := tg j (ms[j]'(by rw [tl]; exact hl)) (List.getElem?_eq_getElem _)
            rw [List.getElem?_eq_getElem hl] at ha
            have hh := Option.some.inj ha
            rw [hh] at rw'
            obtain ⟨⟨o, ho⟩, _⟩ := (show RepM K F1 H1 _ w (fpA j) from rw').live b hj
            rw [e, hx] at ho; cases ho
          · rw [rs.nil j (by omega)] at hj; cases hj
        have RA : REnv K F1 (upd (upd H1 dx (.own x)) x (.ins (He.ga K C) dx [])) (argS (.ref x :: vs)) (argE (.ins C [] :: ms)) (fcons [x] fpA) := by
          refine ⟨fr1, by simp [tl]; exact rs.len.symm, fun j m' h => ?_, fun j h => ?_, fun a c hac b hb q => ?_, R1'.tt⟩
          · have hm := argE_get.mp h
            cases j with
            | zero =>
              simp at hm; subst hm
              exact ⟨.ref x, rfl, .ins upd_same (sub_none R1.fr hx) rfl .nil (fun h => by cases h)⟩
            | succ j =>
              simp at hm
              obtain ⟨w, hw, rw'⟩ := rs.got j _ (tg j m' hm)
              exact ⟨w, argS_get.mpr (by simpa using hw), (pendM (show RepM K F1 H1 m' w (fpA j) from rw') (B := fun _ => False) (fun b _ h => h) (en _)).1⟩
          · cases j with
            | zero => exact absurd rfl (h _)
            | succ j =>
              refine rs.nil j ?_
              rcases Nat.lt_or_ge j as.length with hl | hl
              · have hl2 : j < ms.length := by rw [tl]; exact hl
                exact absurd (argE_get.mpr (show (M.ins C [] :: ms)[j + 1]? = some ms[j] from List.getElem?_eq_getElem hl2)) (h _)
              · exact hl
          · cases a with
            | zero =>
              cases c with
              | zero => exact hac rfl
              | succ c =>
                simp [fcons] at hb
                exact owA b ⟨c, q⟩ hb
            | succ a =>
              cases c with
              | zero =>
                simp [fcons] at q
                exact owA b ⟨a, hb⟩ q
              | succ c => exact rs.dj a c (fun z => hac (by rw [z])) b hb q
        refine ⟨F1, .ins C [] :: ms, fcons [x] fpA, RA, ?_⟩
        have ow2 : ∀ b, Own (fcons [x] fpA) b → Own fpA b ∨ b = x := fun b h => by
          rcases own_fcons.mp h with h | h
          · exact .inr (by simpa using h)
          · exact .inl h
        have dj1 : ∀ b, Own fps1 b → ¬ Own (fcons [x] fpA) b := fun b h q => by
          rcases ow2 b q with q | q
          · exact d1 b q h
          · exact ow1 b h q
        cases eg : g (.ins C [] :: ms) with
        | none => rw [eg] at p; exact p.elim
        | some oo =>
          rw [eg] at p
          cases oo with
          | ex y ms' =>
            simp only [mkK] at p
            intro cls dd F' H' fps' R' rx ex
            obtain ⟨RN, _⟩ := R1'.frame (B := Own (fcons [x] fpA)) dj1 ex R'.fr
            refine p cls dd F' H' fps1 RN rx (e1.trans ((en (Own fpA)).trans ex (B := Own (fcons [x] fpA)) (fun b h => ow2 b h) (C := fun _ => False) fun b h => h.elim) (fun b h => .inr h) (C := Own fps1) fun b h => .inr (.inl h))
          | ok rr ms' =>
            unfold mkK at p
            split at p
            · rename_i inst rest eq
              cases eq
              intro v F' H' fps' fp R' r2 dd ex
              obtain ⟨RN, nN⟩ := R1'.frame (B := Own (fcons [x] fpA)) dj1 ex R'.fr
              obtain ⟨w, hw, rc⟩ := R'.got 0 inst rfl
              cases hw
              refine ⟨rep_non (repm_fz r2), p (.ref x) F' H' fps1 (fps' 0) RN rc (fun b hb q => nN b q (.inl ⟨0, hb⟩)) ?_⟩
              refine e1.trans ((en (Own fpA)).trans ex (B := Own (fcons [x] fpA)) (fun b h => ow2 b h) (C := fun b => b ∈ fps' 0) fun b h => .inl (.inl ⟨0, h⟩)) (fun b h => .inr h) fun b h => h.elim (fun h => .inr (.inl h)) .inl
            · rename_i eq; cases eq
            · exact p.elim
section
variable {X : Cx} {W : WX} {k : Nat} {C m : Str} {ps : List Str} {ns : List Int} {g g' : FP} {o e : Expr} {es : List Expr} {fo : FE} {fa : FA} {p pos apos : Pos} {pl : Sem Bool}
theorem e_meth (G : MtI X.prog X.w X.K X.mg X.base k C m ps ns g) (j : Nat) (hr : Room k X.A) (t : Takes X W) (ho : PE X o (rE X.K W fo)) (ha : PA X (e :: es) (rA X.K W fa)) (hj : j ≤ ns.length := by decide) (hg' : dflIs (ns.drop j) g = g' := by rfl)
    (hst : starEach (e :: es) X.env = (false, eval e X.env) :: starEach es X.env := by rfl) (hpl : (backTo pos (starEach es X.env)).any (·.1) = false := by rfl)
    (ht : eval (.Call (.Attribute o m apos) (e :: es) [] pos) X.env = (do
      let ov ← eval o X.env
      standAt apos.atName
      let (f, first) ← holding [ov] (getMethod ov m pl)
      callWith pos f first (backTo pos (starEach (e :: es) X.env)) (backToKw pos (keywordEach [] X.env))) := by rfl) : PE X (.Call (.Attribute o m apos) (e :: es) [] pos) (rE X.K W (methE C m g' fo fa)) := by
  subst hg'
  obtain ⟨f, fd, F, hm, hd⟩ := G.ex
  obtain ⟨us, v, b⟩ := hd j hj
  refine PE_mono (pe_mtS ho G.c hm F hr b v (fun σ => passAt t σ) ha hst hpl ht) fun σ H Q q => rE_imp (fun x H1 ⟨a, dx, fs, e1, e2, e3, z⟩ => ⟨a, dx, fs, e1, e2, e3, rA_imp (fun vs H2 z => ?_) z⟩) (r_meth q)
  have := sp_dflIs z
  simpa using this
theorem e_meth0 (G : MtI X.prog X.w X.K X.mg X.base k C m ps ns g) (j : Nat) (hr : Room k X.A) (t : Takes X W) (ho : PE X o (rE X.K W fo)) (hj : j ≤ ns.length := by decide) (hg' : dflIs (ns.drop j) g = g' := by rfl)
    (ht : eval (.Call (.Attribute o m apos) [] [] pos) X.env = (do
      let ov ← eval o X.env
      standAt apos.atName
      let (f, first) ← holding [ov] (getMethod ov m pl)
      callWith pos f first (backTo pos (starEach [] X.env)) (backToKw pos (keywordEach [] X.env))) := by rfl) : PE X (.Call (.Attribute o m apos) [] [] pos) (rE X.K W (methE C m g' fo nilA)) := by
  subst hg'
  obtain ⟨f, fd, F, hm, hd⟩ := G.ex
  obtain ⟨us, v, b⟩ := hd j hj
  refine PE_mono (pe_mtS0 ho G.c hm F hr b v (fun σ => passAt t σ) ht) fun σ H Q q => rE_imp (fun x H1 ⟨a, dx, fs, e1, e2, e3, z⟩ => ⟨a, dx, fs, e1, e2, e3, ?_⟩) (r_meth q)
  have := sp_dflIs (ra_nil z)
  show spOf X.K g (x :: ([] ++ _)) H1 Q _
  simpa using this
theorem e_make0 (G : MkI X.prog X.w X.K X.mg X.base k C ps g) (hr : Room (k + 1) X.A) (hg : Gl X C) (t : Takes X W) (hdb : (C == ("__debug__" : Str)) = false := by decide) : PE X (.Call (.Name C p) [] [] pos) (rE X.K W (mkE C g nilA)) := by
  obtain ⟨f, fd, F, M, b⟩ := G.ex
  exact PE_mono (pe_mkS0 M F hr hg G.mx b (fun σ => passAt t σ) hdb) fun σ H Q q => ra_nil (r_mk q)
end
end Ink
set_option Elab.async false
set_option linter.all false
set_option maxRecDepth 100000
set_option maxHeartbeats 2000000
namespace Ink
open PySem PySem.Spec PyProof.Rows L2
def fmtM : M → Option Str
  | .fz (.str y) => if y.length ≤ sizeLine then some y else none
  | .fz (.int i) => if i.natAbs.log2 < 1920 then some (toString i : Str) else none
  | _ => none
def strM1 : M → Option Str
  | .fz (.str y) => some y
  | _ => none
def fmtE (fe : FE) : FE := fun env => bindO (fe env) fun a env1 => match resA env1 a with
  | some m => match fmtM m with
    | some y => some (.ok (.tm (.fz (.str y))) env1)
    | none => none
  | none => none
/-- the texts one behind the other -/
def jsE : List FE → Str → FE
  | [], acc => fun env => some (.ok (.tm (.fz (.str acc))) env)
  | f :: fs, acc => fun env => bindO (f env) fun a env1 => match resA env1 a with
    | some m => match strM1 m with
      | some y => if (acc ++ y).length ≤ sizeLine then jsE fs (acc ++ y) env1 else none
      | none => none
    | none => none
def sdG : FP := fun ms => match ms with
  | [.dK kvs, k, .fz d] => match keyM k with
    | some kk => if kvs.length < sizeLine then (match valG kvs kk with
      | some (.fz d') => some (.ok (.fz d') [some (.dK kvs), some k, some (.fz d)])
      | some _ => none
      | none => some (.ok (.fz d) [some (.dK (kvs ++ [(kk, .fz d)])), some k, some (.fz d)])) else none
    | none => none
  | _ => none
end Ink
set_option Elab.async false
set_option linter.all false
set_option maxRecDepth 100000
set_option maxHeartbeats 2000000
namespace Ink
open PySem L2
def kFl2 (env : E) (o : Option D) : Option (Out Av) := match o with
  | some d => some (.ok (.tm (.fz d)) env)
  | none => none
@[simp] theorem kFl2_0 {env : E} {d : D} : kFl2 env (some d) = some (.ok (.tm (.fz d)) env) := (rfl)
def kFl1 (C x : Str) (env : E) (o : Option M) : Option (Out Av) := match o with
  | some m => kFl2 env (insD C x m)
  | none => none
@[simp] theorem kFl1_0 {C x : Str} {env : E} {m : M} : kFl1 C x env (some m) = kFl2 env (insD C x m) := (rfl)
def kFl (C x : Str) (o : Option (Out Av)) : Option (Out Av) := match o with
  | some (.ok a env1) => kFl1 C x env1 (resA env1 a)
  | some (.ex y env1) => some (.ex y env1)
  | none => none
@[simp] theorem kFl_0 {C x : Str} {a : Av} {env1 : E} : kFl C x (some (.ok a env1)) = kFl1 C x env1 (resA env1 a) := (rfl)
@[simp] theorem ev_fldE {C x : Str} {fo : FE} {env : E} : fldE C x fo env = kFl C x (fo env) := by
  unfold fldE kFl bindO
  cases fo env with
  | none => rfl
  | some o => cases o with
    | ex y e => rfl
    | ok a e =>
      simp only []
      unfold kFl1 kFl2
      cases resA e a with
      | none => rfl
      | some m => simp only [] <;> cases insD C x m <;> rfl
def kMt3 (g : FP) (a : Av) (o : Option (Out (List Av))) : Option (Out Av) := match o with
  | some (.ok as env2) => runP g (a :: as) env2
  | some (.ex x env2) => some (.ex x env2)
  | none => none
@[simp] theorem kMt3_0 {g : FP} {a : Av} {as : List Av} {env2 : E} : kMt3 g a (some (.ok as env2)) = runP g (a :: as) env2 := (rfl)
@[simp] theorem kMt3_1 {g : FP} {a : Av} {x : Xc} {env2 : E} : kMt3 g a (some (.ex x env2)) = some (.ex x env2) := (rfl)
def kMt2 (g : FP) (fa : FA) (a : Av) (env : E) (b : Bool) : Option (Out Av) := match b with
  | true => kMt3 g a (fa env)
  | false => none
@[simp] theorem kMt2_0 {g : FP} {fa : FA} {a : Av} {env : E} : kMt2 g fa a env true = kMt3 g a (fa env) := (rfl)
def kMt1 (C m : Str) (g : FP) (fa : FA) (a : Av) (env : E) (o : Option M) : Option (Out Av) := match o with
  | some mm => kMt2 g fa a env (isInsM C m mm)
  | none => none
@[simp] theorem kMt1_0 {C m : Str} {g : FP} {fa : FA} {a : Av} {env : E} {mm : M} : kMt1 C m g fa a env (some mm) = kMt2 g fa a env (isInsM C m mm) := (rfl)
def kMt (C m : Str) (g : FP) (fa : FA) (o : Option (Out Av)) : Option (Out Av) := match o with
  | some (.ok a env1) => kMt1 C m g fa a env1 (resA env1 a)
  | some (.ex x env1) => some (.ex x env1)
  | none => none
@[simp] theorem kMt_0 {C m : Str} {g : FP} {fa : FA} {a : Av} {env1 : E} : kMt C m g fa (some (.ok a env1)) = kMt1 C m g fa a env1 (resA env1 a) := (rfl)
@[simp] theorem kMt_1 {C m : Str} {g : FP} {fa : FA} {x : Xc} {env1 : E} : kMt C m g fa (some (.ex x env1)) = some (.ex x env1) := (rfl)
@[simp] theorem ev_methE {C m : Str} {g : FP} {fo : FE} {fa : FA} {env : E} : methE C m g fo fa env = kMt C m g fa (fo env) := by
  unfold methE kMt bindO
  cases fo env with
  | none => rfl
  | some o => cases o with
    | ex y e => rfl
    | ok a e =>
      simp only []
      unfold kMt1
      cases resA e a with
      | none => rfl
      | some mm =>
        simp only []
        unfold kMt2
        cases isInsM C m mm with
        | false => rfl
        | true =>
          simp only []
          unfold kMt3
          cases fa e with
          | none => rfl
          | some o => cases o <;> rfl
def kMk2 (C : Str) (g : FP) (env : E) (o : Option (List M)) : Option (Out Av) := match o with
  | some ms => mkK C env (g (.ins C [] :: ms))
  | none => none
@[simp] theorem kMk2_0 {C : Str} {g : FP} {env : E} {ms : List M} : kMk2 C g env (some ms) = mkK C env (g (.ins C [] :: ms)) := (rfl)
def kMk (C : Str) (g : FP) (o : Option (Out (List Av))) : Option (Out Av) := match o with
  | some (.ok as env1) => kMk2 C g env1 (tms as)
  | some (.ex x env1) => some (.ex x env1)
  | none => none
@[simp] theorem kMk_0 {C : Str} {g : FP} {as : List Av} {env1 : E} : kMk C g (some (.ok as env1)) = kMk2 C g env1 (tms as) := (rfl)
@[simp] theorem ev_mkE {C : Str} {g : FP} {fa : FA} {env : E} : mkE C g fa env = kMk C g (fa env) := by
  unfold mkE kMk bindO
  cases fa env with
  | none => rfl
  | some o => cases o with
    | ex y e => rfl
    | ok as e =>
      simp only []
      unfold kMk2
      cases tms as <;> rfl
@[simp] theorem mkK_0 {C : Str} {env : E} {inst : M} {r : E} : mkK C env (some (.ok (.fz .non) (some inst :: r))) = some (.ok (.tm inst) env) := (rfl)
def kFc (C x : Str) (env : E) (m : M) : Option (E × Way) := match m with
  | .ins C' fs => if C' = C ∧ (valG fs x).isSome = true then some (env, .fl x) else none
  | _ => none
@[simp] theorem ev_flC {C x : Str} {i : Nat} {env : E} : flC C x i env = match env[i]? with
    | some (some m) => kFc C x env m
    | _ => none := by
  unfold flC kFc
  cases env[i]? with
  | none => rfl
  | some o => cases o with
    | none => rfl
    | some m => cases m <;> rfl
@[simp] theorem ev_setFS {C x : Str} {fe fo : FE} {env : E} : setFS C x fe fo env = kExp (callE (setFG C x) (consA fe (consA fo nilA)) env) := by
  unfold setFS bindS kExp
  cases callE (setFG C x) (consA fe (consA fo nilA)) env with
  | none => rfl
  | some o => cases o <;> rfl
def kAf3 (C x : Str) (i : Nat) (f : Int → Int → Int) (a : Int) (env : E) (o : Option Int) : Option Fl := match o with
  | some b => kExp (runP (setFG C x) [.tm (.fz (.int (f a b))), .sl i] env)
  | none => none
@[simp] theorem kAf3_0 {C x : Str} {i : Nat} {f : Int → Int → Int} {a b : Int} {env : E} : kAf3 C x i f a env (some b) = kExp (runP (setFG C x) [.tm (.fz (.int (f a b))), .sl i] env) := (rfl)
def kAf2 (C x : Str) (i : Nat) (f : Int → Int → Int) (a : Int) (o : Option (Out Av)) : Option Fl := match o with
  | some (.ok c env1) => kAf3 C x i f a env1 (intA c env1)
  | some (.ex y env1) => some (.ex y env1)
  | none => none
@[simp] theorem kAf2_0 {C x : Str} {i : Nat} {f : Int → Int → Int} {a : Int} {c : Av} {env1 : E} : kAf2 C x i f a (some (.ok c env1)) = kAf3 C x i f a env1 (intA c env1) := (rfl)
def kAf1 (C x : Str) (i : Nat) (f : Int → Int → Int) (fe : FE) (env : E) (o : Option D) : Option Fl := match o with
  | some (.int a) => kAf2 C x i f a (fe env)
  | _ => none
@[simp] theorem kAf1_0 {C x : Str} {i : Nat} {f : Int → Int → Int} {fe : FE} {env : E} {a : Int} : kAf1 C x i f fe env (some (.int a)) = kAf2 C x i f a (fe env) := (rfl)
@[simp] theorem ev_augFS {C x : Str} {i : Nat} {f : Int → Int → Int} {fe : FE} {env : E} : augFS C x i f fe env = match env[i]? with
    | some (some m) => kAf1 C x i f fe env (insD C x m)
    | _ => none := by
  unfold augFS
  cases env[i]? with
  | none => rfl
  | some o => cases o with
    | none => rfl
    | some m =>
      simp only []
      unfold kAf1
      cases insD C x m with
      | none => rfl
      | some d => cases d with
        | int a =>
          simp only []
          unfold kAf2 bindS
          cases fe env with
          | none => rfl
          | some o => cases o with
            | ex y e => rfl
            | ok c e =>
              simp only []
              unfold kAf3 kExp
              cases intA c e with
              | none => rfl
              | some b => simp only [] <;> cases runP (setFG C x) [.tm (.fz (.int (f a b))), .sl i] e <;> first | rfl | (rename_i o; cases o <;> rfl)
        | _ => rfl
def kFm2 (env : E) (o : Option Str) : Option (Out Av) := match o with
  | some y => some (.ok (.tm (.fz (.str y))) env)
  | none => none
@[simp] theorem kFm2_0 {env : E} {y : Str} : kFm2 env (some y) = some (.ok (.tm (.fz (.str y))) env) := (rfl)
def kFm1 (env : E) (o : Option M) : Option (Out Av) := match o with
  | some m => kFm2 env (fmtM m)
  | none => none
@[simp] theorem kFm1_0 {env : E} {m : M} : kFm1 env (some m) = kFm2 env (fmtM m) := (rfl)
def kFm (o : Option (Out Av)) : Option (Out Av) := match o with
  | some (.ok a env1) => kFm1 env1 (resA env1 a)
  | some (.ex y env1) => some (.ex y env1)
  | none => none
@[simp] theorem kFm_0 {a : Av} {env1 : E} : kFm (some (.ok a env1)) = kFm1 env1 (resA env1 a) := (rfl)
@[simp] theorem ev_fmtE {fe : FE} {env : E} : fmtE fe env = kFm (fe env) := by
  unfold fmtE kFm bindO
  cases fe env with
  | none => rfl
  | some o => cases o with
    | ex y e => rfl
    | ok a e =>
      simp only []
      unfold kFm1 kFm2
      cases resA e a with
      | none => rfl
      | some m => simp only [] <;> cases fmtM m <;> rfl
@[simp] theorem fmtM_0 {y : Str} : fmtM (.fz (.str y)) = if y.length ≤ sizeLine then some y else none := (rfl)
@[simp] theorem fmtM_1 {i : Int} : fmtM (.fz (.int i)) = if i.natAbs.log2 < 1920 then some (toString i : Str) else none := (rfl)
@[simp] theorem strM1_0 {y : Str} : strM1 (.fz (.str y)) = some y := (rfl)
def kJs2 (fs : List FE) (acc : Str) (env : E) (o : Option Str) : Option (Out Av) := match o with
  | some y => if (acc ++ y).length ≤ sizeLine then jsE fs (acc ++ y) env else none
  | none => none
@[simp] theorem kJs2_0 {fs : List FE} {acc : Str} {env : E} {y : Str} : kJs2 fs acc env (some y) = if (acc ++ y).length ≤ sizeLine then jsE fs (acc ++ y) env else none := (rfl)
def kJs1 (fs : List FE) (acc : Str) (env : E) (o : Option M) : Option (Out Av) := match o with
  | some m => kJs2 fs acc env (strM1 m)
  | none => none
@[simp] theorem kJs1_0 {fs : List FE} {acc : Str} {env : E} {m : M} : kJs1 fs acc env (some m) = kJs2 fs acc env (strM1 m) := (rfl)
def kJs (fs : List FE) (acc : Str) (o : Option (Out Av)) : Option (Out Av) := match o with
  | some (.ok a env1) => kJs1 fs acc env1 (resA env1 a)
  | some (.ex y env1) => some (.ex y env1)
  | none => none
@[simp] theorem kJs_0 {fs : List FE} {acc : Str} {a : Av} {env1 : E} : kJs fs acc (some (.ok a env1)) = kJs1 fs acc env1 (resA env1 a) := (rfl)
@[simp] theorem ev_js0 {acc : Str} {env : E} : jsE [] acc env = some (.ok (.tm (.fz (.str acc))) env) := (rfl)
@[simp] theorem ev_js {f : FE} {fs : List FE} {acc : Str} {env : E} : jsE (f :: fs) acc env = kJs fs acc (f env) := by
  rw [show jsE (f :: fs) acc env = bindO (f env) (fun a env1 => match resA env1 a with
    | some m => match strM1 m with
      | some y => if (acc ++ y).length ≤ sizeLine then jsE fs (acc ++ y) env1 else none
      | none => none
    | none => none) from rfl]
  unfold kJs bindO
  cases f env with
  | none => rfl
  | some o => cases o with
    | ex y e => rfl
    | ok a e =>
      simp only []
      unfold kJs1 kJs2
      cases resA e a with
      | none => rfl
      | some m => simp only [] <;> cases strM1 m <;> rfl
def kSq2 (kvs : List (Key × M)) (k : M) (d : D) (kk : Key) (o : Option M) : Option OutP := match o with
  | some (.fz d') => some (.ok (.fz d') [some (.dK kvs), some k, some (.fz d)])
  | some _ => none
  | none => some (.ok (.fz d) [some (.dK (kvs ++ [(kk, .fz d)])), some k, some (.fz d)])
@[simp] theorem kSq2_0 {kvs : List (Key × M)} {k : M} {d d' : D} {kk : Key} : kSq2 kvs k d kk (some (.fz d')) = some (.ok (.fz d') [some (.dK kvs), some k, some (.fz d)]) := (rfl)
@[simp] theorem kSq2_1 {kvs : List (Key × M)} {k : M} {d : D} {kk : Key} : kSq2 kvs k d kk none = some (.ok (.fz d) [some (.dK (kvs ++ [(kk, .fz d)])), some k, some (.fz d)]) := (rfl)
def kSq1 (kvs : List (Key × M)) (k : M) (d : D) (o : Option Key) : Option OutP := match o with
  | some kk => if kvs.length < sizeLine then kSq2 kvs k d kk (valG kvs kk) else none
  | none => none
@[simp] theorem kSq1_0 {kvs : List (Key × M)} {k : M} {d : D} {kk : Key} : kSq1 kvs k d (some kk) = if kvs.length < sizeLine then kSq2 kvs k d kk (valG kvs kk) else none := (rfl)
@[simp] theorem ev_sdG {kvs : List (Key × M)} {k : M} {d : D} : sdG [.dK kvs, k, .fz d] = kSq1 kvs k d (keyM k) := by
  show (match keyM k with
    | some kk => if kvs.length < sizeLine then (match valG kvs kk with
      | some (.fz d') => some (.ok (.fz d') [some (.dK kvs), some k, some (.fz d)])
      | some _ => none
      | none => some (.ok (.fz d) [some (.dK (kvs ++ [(kk, .fz d)])), some k, some (.fz d)])) else none
    | none => none : Option OutP) = _
  unfold kSq1 kSq2
  cases keyM k <;> rfl
end Ink
set_option Elab.async false
set_option linter.all false
set_option maxRecDepth 100000
set_option maxHeartbeats 2000000
namespace Ink
open PySem PySem.Spec PyProof.Rows L2 LamX
end Ink
set_option Elab.async false
set_option linter.all false
set_option maxRecDepth 100000
set_option maxHeartbeats 2000000
namespace Ink
open PySem L2
def pureT (f : FT) : FT := fun env => match f (borE env) with
  | some (.ok b _) => some (.ok b env)
  | some (.ex x _) => if noLX x then some (.ex x env) else none
  | none => none
def kPuT (env : E) (o : Option (Out Bool)) : Option (Out Bool) := match o with
  | some (.ok b _) => some (.ok b env)
  | some (.ex x _) => if noLX x then some (.ex x env) else none
  | none => none
@[simp] theorem kPuT_0 {env e : E} {b : Bool} : kPuT env (some (.ok b e)) = some (.ok b env) := (rfl)
@[simp] theorem ev_pureT {f : FT} {env : E} : pureT f env = kPuT env (f (borE env)) := (rfl)
end Ink
set_option Elab.async false
set_option linter.all false
set_option maxRecDepth 100000
set_option maxHeartbeats 0
namespace Lw
section
open PySem L2 Ink
def b_is_name : FS := (retS (andE (chainE (fun i j => decide (i ≤ j)) (fun i j => decide (i ≤ j)) (cE (.int 1)) (callE lenG (arg1 (vE 0))) (cE (.int 6))) (callE (g1 (allM true)) (arg1 (compE (overE itemsA (vE 0)) (nmG 1) yesT (callE (g2 (inF false)) (arg2 (vE 1) (cE (.str "abcdefghijklmnopqrstuvwxyz")))) [1])))))
def m_is_name : FP := fnM 1 1 [] b_is_name
def b_is_least : FS := (retS (chainE (fun i j => decide (i ≤ j)) (fun i j => decide (i ≤ j)) (cE (.int 1)) (vE 0) (cE (.int 3))))
def m_is_least : FP := fnM 1 0 [] b_is_least
def b_is_weight : FS := (retS (chainE (fun i j => decide (i ≤ j)) (fun i j => decide (i ≤ j)) (cE (.int 1)) (vE 0) (cE (.int 9))))
def m_is_weight : FP := fnM 1 0 [] b_is_weight
def b_is_far : FS := (retS (callE leG (arg2 (callE (g1 absM) (arg1 (vE 0))) (cE (.int 9)))))
def m_is_far : FP := fnM 1 0 [] b_is_far
def b_law_bag : FS := (seqS (asgS (compE (overE itemsA (callE sl01 (arg2 (vE 0) (cE (.int 63))))) (nmG 1) yesT (callE (g1 absM) (arg1 (vE 1))) [1]) (nmG 2))
  (seqS (asgS (callE addG (arg2 (cE (.int 1)) (callE lenG (arg1 (vE 2))))) (nmG 3))
  (seqS (forS (overE itemsA (callE sl01 (arg2 (vE 0) (cE (.int 63))))) (nmG 1) (asgS (callE modG (arg2 (callE addG (arg2 (callE addG (arg2 (callE mulG (arg2 (vE 3) (cE (.int 40503)))) (callE (g1 absM) (arg1 (vE 1))))) (callE mulG (arg2 (cE (.int 2)) (callE (g1 intM1) (arg1 (callE ltG (arg2 (vE 1) (cE (.int 0)))))))))) (cE (.int 2147483629)))) (nmG 3)))
  (retS (lstE (consA (tk (vE 2)) (consA (cE (.int 0)) (consA (cE (.int 0)) (consA (tk (vE 3)) nilA)))))))))
def m_law_bag : FP := fnM 1 3 [] b_law_bag
def b_law_pull : FS := (seqS (ifS (tst (callE ltG (arg2 (callE ixF (arg2 (vE 0) (cE (.int 2)))) (cE (.int 2))))) (seqS (augIx (fun i j => i + j) (vE 0) (cE (.int 1)) (cE (.int 1)))
  (seqS (asgS (callE ixF (arg2 (vE 0) (cE (.int 1)))) (nmG 2))
  (seqS (ifS (tst (callE leG (arg2 (callE ixF (arg2 (vE 0) (cE (.int 1)))) (callE lenG (arg1 (callE ixF (arg2 (vE 0) (cE (.int 0))))))))) (seqS (asgS (callE ixF (arg2 (callE ixF (arg2 (vE 0) (cE (.int 0)))) (callE subG (arg2 (callE ixF (arg2 (vE 0) (cE (.int 1)))) (cE (.int 1)))))) (nmG 2))
  (ifS (tst (callE geG (arg2 (vE 2) (callE powG (arg2 (cE (.int 10)) (cE (.int 18))))))) (seqS (setSA (tk (callE fdivG (arg2 (vE 2) (vE 1)))) (vE 0) (cE (.int 2)))
  (retS (callE modG (arg2 (vE 2) (vE 1))))) skipS)) skipS)
  (seqS (asgS (callE modG (arg2 (callE addG (arg2 (callE addG (arg2 (vE 2) (callE mulG (arg2 (callE ixF (arg2 (vE 0) (cE (.int 3)))) (cE (.int 31)))))) (callE mulG (arg2 (callE ixF (arg2 (vE 0) (cE (.int 1)))) (cE (.int 69061)))))) (cE (.int 2147483629)))) (nmG 3))
  (seqS (asgS (callE modG (arg2 (callE addG (arg2 (callE mulG (arg2 (vE 3) (vE 3))) (cE (.int 40961)))) (cE (.int 2147483587)))) (nmG 3))
  (retS (callE modG (arg2 (callE fdivG (arg2 (callE modG (arg2 (callE addG (arg2 (callE mulG (arg2 (vE 3) (vE 3))) (callE ixF (arg2 (vE 0) (cE (.int 1)))))) (cE (.int 1073741789)))) (cE (.int 19)))) (vE 1))))))))) skipS)
  (seqS (asgS (callE modG (arg2 (callE ixF (arg2 (vE 0) (cE (.int 2)))) (vE 1))) (nmG 4))
  (seqS (setSA (tk (callE fdivG (arg2 (callE ixF (arg2 (vE 0) (cE (.int 2)))) (vE 1)))) (vE 0) (cE (.int 2)))
  (retV 4))))
def m_law_pull : FP := fnM 2 3 [] b_law_pull
def b_law_whole : FS := (retS (andE (isiE [.int] (vE 0)) (notE (isiE [.bl] (vE 0)))))
def m_law_whole : FP := fnM 1 0 [] b_law_whole
def m_law_alike : Nat → FP
  | 0 => fun _ => none
  | n + 1 => fnM 2 1 [] (seqS (ifS (tst (callE (g2 isNM) (arg2 (vE 1) (cE .non)))) (retS (callE (g2 isNM) (arg2 (vE 0) (cE .non)))) skipS)
  (seqS (ifS (tst (isiE [.bl] (vE 1))) (retS (andE (isiE [.bl] (vE 0)) (callE (g2 eqM) (arg2 (vE 0) (vE 1))))) skipS)
  (seqS (ifS (tst (isiE [.int] (vE 1))) (retS (andE (callE m_law_whole (consA (vE 0) nilA)) (callE (g2 eqM) (arg2 (vE 0) (vE 1))))) skipS)
  (seqS (ifS (tst (isiE [.str] (vE 1))) (retS (andE (isiE [.str] (vE 0)) (callE (g2 eqM) (arg2 (vE 0) (vE 1))))) skipS)
  (seqS (ifS (orT (tst (callE (g2 neM) (arg2 (isiE [.lst] (vE 1)) (isiE [.lst] (vE 0))))) (tst (callE (g2 neM) (arg2 (isiE [.tup] (vE 1)) (isiE [.tup] (vE 0)))))) (retS (cE (.bl false))) skipS)
  (seqS (ifS (orT (notT (tst (isiE [.lst, .tup] (vE 0)))) (tst (callE (g2 neM) (arg2 (callE lenG (arg1 (vE 0))) (callE lenG (arg1 (vE 1))))))) (retS (cE (.bl false))) skipS)
  (retS (callE (g1 (allM true)) (arg1 (compE (rng1 (callE lenG (arg1 (vE 1)))) (nmG 2) yesT (callE (m_law_alike n) (consA (callE ixF (arg2 (vE 0) (vE 2))) (consA (callE ixF (arg2 (vE 1) (vE 2))) nilA))) [2]))))))))))
def b_law_names : FS := (seqS (asgS (lstE nilA) (nmG 2))
  (seqS (asgS (lstE (consA (cE (.str "")) (consA (cE (.str "")) (consA (cE (.str "x")) (consA (cE (.str "box")) (consA (cE (.str "zzzzz")) (consA (cE (.str "a")) nilA))))))) (nmG 3))
  (seqS (forS (rng1 (vE 1)) (nmG 4) (seqS (asgS (callE addG (arg2 (callE ixF (arg2 (cE (.str "abcdefghijklmnopqrstuvwxyz")) (callE modG (arg2 (vE 4) (cE (.int 26)))))) (callE mulG (arg2 (cE (.str "q")) (callE fdivG (arg2 (vE 4) (cE (.int 26)))))))) (nmG 5))
  (exprS (bmE .lst appG (vE 2) (arg1 (tk (callE sl01 (arg2 (callE addG (arg2 (vE 5) (callE ixF (arg2 (vE 3) (callE m_law_pull (consA (vE 0) (consA (cE (.int 6)) nilA))))))) (cE (.int 6))))))))))
  (seqS (asgS (callE m_law_pull (consA (vE 0) (consA (callE (g2 maxM) (arg2 (cE (.int 1)) (vE 1))) nilA))) (nmG 6))
  (retS (callE (g1 tupleM) (arg1 (callE addG (arg2 (callE sl10 (arg2 (vE 2) (vE 6))) (callE sl01 (arg2 (vE 2) (vE 6))))))))))))
def m_law_names : FP := fnM 2 5 [] b_law_names
end
end Lw
set_option Elab.async false
set_option linter.all false
set_option maxRecDepth 100000
set_option maxHeartbeats 0
set_option Elab.async false
set_option linter.all false
set_option maxRecDepth 100000
set_option maxHeartbeats 0
set_option Elab.async false
set_option linter.all false
set_option maxRecDepth 100000
set_option maxHeartbeats 0
set_option Elab.async false
set_option linter.all false
set_option maxRecDepth 100000
set_option maxHeartbeats 0
set_option Elab.async false
set_option linter.all false
set_option maxRecDepth 100000
set_option maxHeartbeats 0
set_option Elab.async false
set_option linter.all false
set_option maxRecDepth 100000
set_option maxHeartbeats 0
set_option Elab.async false
set_option linter.all false
set_option maxRecDepth 100000
set_option maxHeartbeats 0
set_option Elab.async false
set_option linter.all false
set_option maxRecDepth 100000
set_option maxHeartbeats 0
set_option Elab.async false
set_option linter.all false
set_option maxRecDepth 100000
set_option maxHeartbeats 0
set_option Elab.async false
set_option linter.all false
set_option maxRecDepth 100000
set_option maxHeartbeats 0
set_option Elab.async false
set_option linter.all false
set_option maxRecDepth 100000
set_option maxHeartbeats 0
set_option Elab.async false
set_option linter.all false
set_option maxRecDepth 100000
set_option maxHeartbeats 0
set_option Elab.async false
set_option linter.all false
set_option maxRecDepth 100000
set_option maxHeartbeats 0
set_option Elab.async false
set_option linter.all false
set_option maxRecDepth 100000
set_option maxHeartbeats 0
set_option Elab.async false
set_option linter.all false
set_option maxRecDepth 100000
set_option maxHeartbeats 0
set_option Elab.async false
set_option linter.all false
set_option maxRecDepth 100000
set_option maxHeartbeats 0
set_option Elab.async false
set_option linter.all false
set_option maxRecDepth 100000
set_option maxHeartbeats 0
set_option Elab.async false
set_option linter.all false
set_option maxRecDepth 100000
set_option maxHeartbeats 0
set_option Elab.async false
set_option linter.all false
set_option maxRecDepth 100000
set_option maxHeartbeats 0
set_option Elab.async false
set_option linter.all false
set_option maxRecDepth 100000
set_option maxHeartbeats 0
set_option Elab.async false
set_option linter.all false
set_option maxRecDepth 100000
set_option maxHeartbeats 0
set_option Elab.async false
set_option linter.all false
set_option maxRecDepth 100000
set_option maxHeartbeats 0
set_option Elab.async false
set_option linter.all false
set_option maxRecDepth 100000
set_option maxHeartbeats 0
set_option Elab.async false
set_option linter.all false
set_option maxRecDepth 100000
set_option maxHeartbeats 0
set_option Elab.async false
set_option linter.all false
set_option maxRecDepth 100000
set_option maxHeartbeats 0
set_option Elab.async false
set_option linter.all false
set_option maxRecDepth 100000
set_option maxHeartbeats 0
set_option Elab.async false
set_option linter.all false
set_option maxRecDepth 100000
set_option maxHeartbeats 4000000
namespace Ink
open PySem PySem.Spec PyProof.Rows L2
/-- the test of an except clause, asked of an exception of the class cls -/
def TestOn (X : Cx) (t : Expr) (cls : Value) (b : Bool) : Prop := ∀ (a : Addr) (oe : Obj) (pn pins : List (Addr × Obj)) (σ : L2.St) (H : Hp) (s : Shared) (Q : Bool → Shared → Prop) (E : Value → Shared → Prop), Inv (X.suite a ((a, oe) :: pn)) pins σ H s → PySem.W.Looks (model X.prog X.w) s.heap (typeOf (.ref a)) cls →
  (∀ h', (∀ b o, s.heap.get? b = some o → h'.get? b = some o) → Q b { s with heap := h' }) → wpAny (model X.prog X.w) (X.A.mark (some (.ref a))) (eval t X.env) (fun c s1 => wpAny (model X.prog X.w) (X.A.mark (some (.ref a))) (excMatches (.ref a) c) Q E s1) E s
theorem name_ok {X : Cx} {x : Str} {np : Pos} {c : Value} (hc : Names X x c) {a : Addr} {oe : Obj} {pn pins : List (Addr × Obj)} {σ : L2.St} {H : Hp} {s : Shared} {Q : Value → Shared → Prop} {E : Value → Shared → Prop} (I : Inv (X.suite a ((a, oe) :: pn)) pins σ H s) (q : Q c s) :
    wpAny (model X.prog X.w) (X.A.mark (some (.ref a))) (eval (.Name x np) X.env) Q E s := by
  obtain ⟨gl, nodbg, found | ⟨miss, bt, nonm⟩⟩ := hc
  · exact ld_glob (X := X.suite a ((a, oe) :: pn)) I gl found q nodbg
  · exact ld_blt (X := X.suite a ((a, oe) :: pn)) I gl miss bt q nonm nodbg
theorem test_two {X : Cx} {x y : Str} {p1 p2 p3 : Pos} {kk : Nat} {c1 c2 cls : Value} {b : Bool} (h1 : Names X x c1) (h2 : Names X y c2) (hx : PySem.W.exmAny X.K cls [c1, c2] = some b) : TestOn X (.Tuple [.Name x p1, .Name y p2] kk p3) cls b := fun a oe pn pins σ H s Q E I L q => by
  refine wpAny_Tuple ?_
  refine wpAny_items_cons (name_ok h1 I ?_)
  refine wpAny_items_cons (name_ok h2 I ?_)
  refine wpAny_items_nil ⟨by show 2 ≤ sizeLine; rw [sizeLine_eq]; omega, ?_⟩
  have kp : ∀ q o, s.heap.get? q = some o → (s.heap.push { cls := .type "tuple", data := .seq [c1, c2].toArray }).get? q = some o := fun _ _ z => Heap.get?_push_of_some _ z
  exact (PySem.W.exm_tup2 (I.kIn.keeps kp) (L.keeps kp) (Heap.get?_push_size s.heap rfl) hx).here (q _ kp)
end Ink
set_option Elab.async false
set_option linter.all false
set_option maxRecDepth 100000
set_option maxHeartbeats 2000000
namespace Ink
open PySem PySem.W PySem.Spec PyProof.Rows L2
end Ink
namespace Ink
open PySem PySem.W PySem.Spec PyProof.Rows L2
end Ink
set_option Elab.async false
set_option linter.all false
set_option maxRecDepth 100000
set_option maxHeartbeats 0
set_option Elab.async false
set_option linter.all false
set_option maxRecDepth 100000
set_option maxHeartbeats 2000000
namespace Ink
open PySem PySem.Spec PyProof.Rows L2
/-- xs.extend(ys), ys an own list -/
def extG : FP := fun ms => match ms with
  | [.lst xs, .lst ys] => if xs.length + ys.length ≤ sizeLine then some (.ok (.fz .non) [some (.lst (xs ++ ys)), none]) else none
  | _ => none
end Ink
namespace Ink
open PySem PySem.Spec PyProof.Rows L2
@[simp] theorem ev_extG {xs ys : List M} : extG [.lst xs, .lst ys] = if xs.length + ys.length ≤ 16777216 then some (.ok (.fz .non) [some (.lst (xs ++ ys)), none]) else none := (rfl)
end Ink
set_option Elab.async false
set_option linter.all false
set_option maxRecDepth 100000
set_option maxHeartbeats 2000000
namespace Ink
open PySem PySem.Spec PyProof.Rows L2
end Ink
set_option Elab.async false
set_option linter.all false
set_option maxRecDepth 100000
set_option maxHeartbeats 2000000
namespace Ink
open PySem L2
end Ink
set_option Elab.async false
set_option linter.all false
set_option maxRecDepth 100000
set_option maxHeartbeats 2000000
namespace Ink
open PySem PySem.W PySem.Spec PyProof.Rows L2
end Ink
set_option Elab.async false
set_option linter.all false
set_option maxRecDepth 100000
set_option maxHeartbeats 4000000
namespace Ink
open PySem PySem.W PySem.Spec PyProof.Rows L2
end Ink
set_option Elab.async false
set_option linter.all false
set_option maxRecDepth 100000
set_option maxHeartbeats 2000000
namespace Ink
open PySem PySem.Spec PyProof.Rows L2
end Ink
set_option Elab.async false
set_option linter.all false
set_option maxRecDepth 100000
set_option maxHeartbeats 0
set_option Elab.async false
set_option linter.all false
set_option maxRecDepth 100000
set_option maxHeartbeats 2000000
namespace Ink
open PySem L2
end Ink
set_option Elab.async false
set_option linter.all false
set_option maxRecDepth 100000
set_option maxHeartbeats 2000000
namespace Ink
open PySem PySem.Spec PyProof.Rows L2
end Ink
set_option Elab.async false
set_option linter.all false
set_option maxRecDepth 100000
set_option maxHeartbeats 0
set_option Elab.async false
set_option linter.all false
set_option maxRecDepth 100000
set_option maxHeartbeats 2000000
namespace Ink
open PySem PySem.W PySem.Spec PyProof.Rows L2
end Ink
set_option Elab.async false
set_option linter.all false
set_option maxRecDepth 100000
set_option maxHeartbeats 2000000
namespace Ink
open PySem PySem.W PySem.Spec PyProof.Rows L2
section
variable {X : Cx} {W : WX} {e : Expr} {f : FE} {x : Str} {pos pos' : Pos} {S P : List Nat}
theorem gN (i : Nat) (hN : X.N.Nodup) (hi : X.N[i]? = some x := by rfl) (hx : Loc X.env.scope x := by first | exact .inl rfl | exact .inr rfl) (hp : S.contains i = true := by rfl) (hf : X.fn x = true ∨ X.env.scope.names.lookup x = some .local := by first | exact .inl rfl | exact .inr rfl | assumption) : PG X (.Name x pos) (rG X.K S (nmG i)) := g_name hN hi hx hp hf
theorem sN (i : Nat) (hN : X.N.Nodup) (he : PE X e (rE X.K W f)) (hi : X.N[i]? = some x := by rfl) (hx : Loc X.env.scope x := by first | exact .inl rfl | exact .inr rfl) (hp : apart [i] P = true := by rfl) (hs : swapsWith e (some (.Name x pos')) pos.line X.env = pure false := by rfl) (hf : X.fn x = true ∨ X.env.scope.names.lookup x = some .local := by first | exact .inl rfl | exact .inr rfl | assumption) :
    PS X (.Assign [.Name x pos'] e pos) (rS X.K W P (asgS f (nmG i))) := s_set hN hi hx he hp hs hf
end
end Ink
set_option Elab.async false
set_option linter.all false
set_option maxRecDepth 100000
set_option maxHeartbeats 0
set_option Elab.async false
set_option linter.all false
set_option maxRecDepth 100000
set_option maxHeartbeats 2000000
namespace Ink
open PySem PySem.Spec PyProof.Rows L2
/-- o.m(.., k = ..); gV puts the positional values and those of the keywords in the parameters' order -/
def tMtK (C : Addr) (m : Str) (sp : Sp) (gV : List V → List V → List V) (E : L2.St → XK) (ta : TE) (t tk : TA) : TE := fun σ H Q => ta σ H fun x H1 => ∃ a dx fs, x = .ref a ∧ H1 a = some (.ins C dx fs) ∧ fs.lookup m = none ∧ t σ H1 fun vs H2 => tk σ H2 fun zs H3 => sp (gV (x :: vs) zs) H3 Q (E σ)
section
variable {X : Cx} {CX : CXT} {k : Nat} {f C : Addr} {fd : FuncData} {ps ks : List Str} {sp : Sp} {E : L2.St → XK} {m x : Str} {p pos apos : Pos} {e o : Expr} {es : List Expr} {kws : List Keyword} {ta : TE} {t tk : TA} {pl : Sem Bool} {g : List Value → List Value → List Value} {gV : List V → List V → List V}
theorem run_fnkS {pins : List (Addr × Obj)} {σ : L2.St} {H : Hp} {s : Shared} {Q : VK} {E : XK} {us ws : List Value} {vs zs : List V} (F : FnOk X.prog X.w X.K X.mg X.base CX k f fd ps sp) (hr : Room k X.A) (hb : KBinds X.K fd ps ks g gV) (hx : PassesAt CX X σ E)
    (I : Inv X pins σ H s) (r : Vals vs us) (rz : Vals zs ws) (h : sp (gV vs zs) H Q E) : wpAny (model X.prog X.w) X.A (call (.ref f) us (ks.zip ws)) (EP X pins σ Q) X.xe s := by
  have r2 := hb.rel r rz
  have hl : (g us ws).length = ps.length := by rw [← r2.length]; exact F.len _ _ _ _ h
  refine wpAny_call (codeAny_mono (F.run X.A X.stack s H ⟨us, ks.zip ws⟩ (g us ws) (gV vs zs) Q E hr I.env0 (hb.to s us ws I.kIn hl) r2 h) fun r s' hq => ?_)
  cases r with
  | error e => exact hx pins H s e s' I hq
  | ok fl =>
    cases fl with
    | ret u => exact I.after hq
    | next => exact False.elim hq
    | brk => exact False.elim hq
    | cont => exact False.elim hq
theorem pe_mtK (he : PE X o ta) (c : Cls X.K C) (hm : Meth X.K C m f) (F : FnOk X.prog X.w X.K X.mg X.base CX k f fd ps sp) (hr : Room k X.A) (hb : KBinds X.K fd ps ks g gV) (hx : ∀ σ, PassesAt CX X σ (E σ)) (ha : PA X (e :: es) t)
    (hkw : PK X kws tk) (hall : (backToKw pos (keywordEach kws X.env)).all (·.1.isSome) = true) (hks : (backToKw pos (keywordEach kws X.env)).filterMap (·.1) = ks)
    (hst : starEach (e :: es) X.env = (false, eval e X.env) :: starEach es X.env)
    (hpl : ((backTo pos (starEach (e :: es) X.env)).any (·.1) || (backToKw pos (keywordEach kws X.env)).any (·.1.isNone)) = false)
    (ht : eval (.Call (.Attribute o m apos) (e :: es) kws pos) X.env = (do
      let ov ← eval o X.env
      standAt apos.atName
      let (f, first) ← holding [ov] (getMethod ov m pl)
      callWith pos f first (backTo pos (starEach (e :: es) X.env)) (backToKw pos (keywordEach kws X.env)))) :
    PE X (.Call (.Attribute o m apos) (e :: es) kws pos) (tMtK C m sp gV E ta t tk) := by
  refine ⟨fun pins s σ H Q I h => ?_⟩
  refine PySem.W.methodCall_KW (pl := pl) (thn (he.run pins s σ H _ I h) fun u s1 ⟨x, H1, I1, rx, a, dx, fs, ex, ea, l, q⟩ => ?_) ht
  subst ex
  obtain rfl : u = Value.ref a := rx
  refine getmeth_ok I1 ea c hm l ?_
  refine PySem.W.callWith_KW (first := [.ref a]) (h₀ := X.base) I.ok.mod.kin hm.kp hall (thn (ha.run pos pins s1 σ H1 _ I1 q) fun us s2 ⟨vs, H2, I2, r, q2⟩ => ?_) hpl hst
  refine thn (hkw.run pos pins s2 σ H2 _ I2 q2) fun ws s3 ⟨zs, H3, I3, rz, q3⟩ => ⟨I3.kIn, ?_⟩
  rw [hks]
  exact run_fnkS (us := .ref a :: us) (vs := .ref a :: vs) F hr hb (hx σ) I3 (.cons rfl r) rz q3
end
def intsA (as : List Int) (fa : FA) : FA := as.foldr (fun n fa => consA (cE (.int n)) fa) fa
@[simp] theorem intsA_0 {fa : FA} : intsA [] fa = fa := (rfl)
@[simp] theorem intsA_1 {n : Int} {as : List Int} {fa : FA} : intsA (n :: as) fa = consA (cE (.int n)) (intsA as fa) := (rfl)
def kwsA (fs : List FE) (fa : FA) : FA := fs.foldr consA fa
@[simp] theorem kwsA_0 {fa : FA} : kwsA [] fa = fa := (rfl)
@[simp] theorem kwsA_1 {f : FE} {fs : List FE} {fa : FA} : kwsA (f :: fs) fa = consA f (kwsA fs fa) := (rfl)
section
variable {K : PySem.W.Frag} {W : WX} {σ : L2.St} {H : Hp}
def tKs (K : PySem.W.Frag) (W : WX) : List FE → TA
  | [] => tNil
  | f :: fs => tCons (rE K W f) (tKs K W fs)
theorem tKs_imp : ∀ {fs : List FE} {H : Hp} {Q Q' : List V → Hp → Prop}, (∀ v H', Q v H' → Q' v H') → tKs K W fs σ H Q → tKs K W fs σ H Q'
  | [], H, Q, Q', h, p => h _ _ p
  | f :: fs, H, Q, Q', h, p => rE_imp (fun a H1 q => tKs_imp (fun v H' z => h _ _ z) q) p
theorem r_int {n : Int} {Q : VK} (p : rE K W (cE (.int n)) σ H Q) : Q (.int n) H := by
  exact rE_c (fun _ => .int n) σ H Q p
theorem r_ints : ∀ {as : List Int} {H : Hp} {fa : FA} {Q : List V → Hp → Prop}, rA K W (intsA as fa) σ H Q → rA K W fa σ H fun vs H1 => Q (as.map V.int ++ vs) H1
  | [], _, _, _, p => p
  | n :: as, H, fa, Q, p => by
    have h := r_int (ra_cons (show rA K W (consA (cE (.int n)) (intsA as fa)) σ H Q from p))
    exact r_ints (as := as) h
theorem r_kws : ∀ {fs : List FE} {bs : List Int} {H : Hp} {Q : List V → Hp → Prop}, rA K W (kwsA fs (intsA bs nilA)) σ H Q → tKs K W fs σ H fun zs H1 => zs.length = fs.length ∧ Q (zs ++ bs.map V.int) H1
  | [], bs, H, Q, p => by
    have h := ra_nil (r_ints (show rA K W (intsA bs nilA) σ H Q from p))
    show ([] : List V).length = 0 ∧ Q ([] ++ bs.map V.int) H
    exact ⟨rfl, by simpa using h⟩
  | f :: fs, bs, H, Q, p => by
    have h := ra_cons (show rA K W (consA f (kwsA fs (intsA bs nilA))) σ H Q from p)
    exact rE_imp (fun a H1 q => tKs_imp (fun zs H2 ⟨l, q⟩ => ⟨by simp [l], q⟩) (r_kws q)) h
end
theorem kk_nil {X : Cx} {W : WX} : PK X [] (tKs X.K W []) := pk_nil
theorem kk_cons {X : Cx} {W : WX} {e : Expr} {f : FE} {nm : Option Str} {kpos : Pos} {kws : List Keyword} {fs : List FE} (he : PE X e (rE X.K W f)) (hk : PK X kws (tKs X.K W fs)) : PK X (⟨nm, e, kpos⟩ :: kws) (tKs X.K W (f :: fs)) := pk_cons he hk
def glueK {α : Type} (n m : Nat) (A B us ws : List α) : List α := if us.length = n ∧ ws.length = m then us ++ A ++ ws ++ B else []
/-- a method m of the class C, called with n values by place (itself among them) and the keywords ks; as and bs: the whole numbers of what lacks before and behind them -/
structure MtK (P : Program) (w : World) (K : PySem.W.Frag) (mg : Str → Option Value) (base : Heap) (k : Nat) (C m : Str) (ps ks : List Str) (n : Nat) (as bs : List Int) (g : FP) : Prop where
  c : Cls K (He.ga K C)
  ex : ∃ f fd A B, FnOk P w K mg base (L2N.CX P w) k f fd ps (spOf K g) ∧ Meth K (He.ga K C) m f ∧ KBinds K fd ps ks (glueK n ks.length A B) (glueK n ks.length (as.map V.int) (bs.map V.int))
section
variable {X : Cx} {W : WX} {k n : Nat} {C m : Str} {ps ks : List Str} {as bs : List Int} {g : FP} {o e1 e2 : Expr} {fo f1 f2 : FE} {fs : List FE} {kws : List Keyword} {apos pos : Pos} {pl : Sem Bool}
theorem e_methK1 (G : MtK X.prog X.w X.K X.mg X.base k C m ps ks 2 as bs g) (hr : Room k X.A) (t : Takes X W) (ho : PE X o (rE X.K W fo)) (h1 : PE X e1 (rE X.K W f1)) (hkw : PK X kws (tKs X.K W fs)) (hl : fs.length = ks.length := by rfl)
    (hall : (backToKw pos (keywordEach kws X.env)).all (·.1.isSome) = true := by rfl) (hks : (backToKw pos (keywordEach kws X.env)).filterMap (·.1) = ks := by rfl)
    (hst : starEach [e1] X.env = (false, eval e1 X.env) :: starEach [] X.env := by rfl)
    (hpl : ((backTo pos (starEach [e1] X.env)).any (·.1) || (backToKw pos (keywordEach kws X.env)).any (·.1.isNone)) = false := by rfl)
    (ht : eval (.Call (.Attribute o m apos) [e1] kws pos) X.env = (do
      let ov ← eval o X.env
      standAt apos.atName
      let (f, first) ← holding [ov] (getMethod ov m pl)
      callWith pos f first (backTo pos (starEach [e1] X.env)) (backToKw pos (keywordEach kws X.env))) := by rfl) :
    PE X (.Call (.Attribute o m apos) [e1] kws pos) (rE X.K W (methE C m g fo (consA f1 (intsA as (kwsA fs (intsA bs nilA)))))) := by
  obtain ⟨f, fd, A, B, F, hm, hb⟩ := G.ex
  refine PE_mono (pe_mtK ho G.c hm F hr hb (fun σ => passAt t σ) (pa_cons h1 pa_nil hst) hkw hall hks hst hpl ht) fun σ H Q q => rE_imp (fun x H1 ⟨a, dx, fs', e1, e2, e3, z⟩ => ⟨a, dx, fs', e1, e2, e3, rE_imp (fun u H2 z => ?_) (ra_cons z)⟩) (r_meth q)
  refine tKs_imp (fun zs H3 ⟨l, z⟩ => ?_) (r_kws (r_ints z))
  have e : glueK 2 ks.length (as.map V.int) (bs.map V.int) [x, u] zs = x :: u :: (as.map V.int ++ (zs ++ bs.map V.int)) := by
    unfold glueK
    rw [if_pos ⟨rfl, by rw [l, hl]⟩]
    simp
  show spOf X.K g (glueK 2 ks.length (as.map V.int) (bs.map V.int) [x, u] zs) H3 Q _
  rw [e]
  exact z
theorem e_methK2 (G : MtK X.prog X.w X.K X.mg X.base k C m ps ks 3 as bs g) (hr : Room k X.A) (t : Takes X W) (ho : PE X o (rE X.K W fo)) (h1 : PE X e1 (rE X.K W f1)) (h2 : PE X e2 (rE X.K W f2)) (hkw : PK X kws (tKs X.K W fs)) (hl : fs.length = ks.length := by rfl)
    (hall : (backToKw pos (keywordEach kws X.env)).all (·.1.isSome) = true := by rfl) (hks : (backToKw pos (keywordEach kws X.env)).filterMap (·.1) = ks := by rfl)
    (hst : starEach [e1, e2] X.env = (false, eval e1 X.env) :: starEach [e2] X.env := by rfl) (hst2 : starEach [e2] X.env = (false, eval e2 X.env) :: starEach [] X.env := by rfl)
    (hpl : ((backTo pos (starEach [e1, e2] X.env)).any (·.1) || (backToKw pos (keywordEach kws X.env)).any (·.1.isNone)) = false := by rfl)
    (ht : eval (.Call (.Attribute o m apos) [e1, e2] kws pos) X.env = (do
      let ov ← eval o X.env
      standAt apos.atName
      let (f, first) ← holding [ov] (getMethod ov m pl)
      callWith pos f first (backTo pos (starEach [e1, e2] X.env)) (backToKw pos (keywordEach kws X.env))) := by rfl) :
    PE X (.Call (.Attribute o m apos) [e1, e2] kws pos) (rE X.K W (methE C m g fo (consA f1 (consA f2 (intsA as (kwsA fs (intsA bs nilA))))))) := by
  obtain ⟨f, fd, A, B, F, hm, hb⟩ := G.ex
  refine PE_mono (pe_mtK ho G.c hm F hr hb (fun σ => passAt t σ) (pa_cons h1 (pa_cons h2 pa_nil hst2) hst) hkw hall hks hst hpl ht) fun σ H Q q => rE_imp (fun x H1 ⟨a, dx, fs', e1, e2, e3, z⟩ => ⟨a, dx, fs', e1, e2, e3, rE_imp (fun u H2 z => rE_imp (fun v H4 z => ?_) (ra_cons z)) (ra_cons z)⟩) (r_meth q)
  refine tKs_imp (fun zs H3 ⟨l, z⟩ => ?_) (r_kws (r_ints z))
  have e : glueK 3 ks.length (as.map V.int) (bs.map V.int) [x, u, v] zs = x :: u :: v :: (as.map V.int ++ (zs ++ bs.map V.int)) := by
    unfold glueK
    rw [if_pos ⟨rfl, by rw [l, hl]⟩]
    simp
  show spOf X.K g (glueK 3 ks.length (as.map V.int) (bs.map V.int) [x, u, v] zs) H3 Q _
  rw [e]
  exact z
end
section
open PySem.Spec
variable {P : Program} {w : World} {K : PySem.W.Frag} {mg : Str → Option Value} {base : Heap} {C m qual : Str} {params : Arguments} {body : List Stmt} {scope : Scope} {f : Addr} {fd : FuncData} {N ps ks : List Str} {k n np nl : Nat} {asg : List Nat} {fb : FS} {ns : List Int}
/-- i, la: what of the defaults stands before the keywords' values; j: from where on behind them -/
theorem mt_mkK (i la j : Nat) (c : Cls K (He.ga K C)) (hm : Meth K (He.ga K C) m f) (F : FunD K m qual params body scope (ns.map V.int) [] f fd) (S : FnScope N ps scope) (hN : N.length = np + nl) (hp : ps.length = np) (hne : ns ≠ []) (hps : ps ≠ [])
    (hbd : ∀ (T : Addr) (kV doc pm : Value) (an : Option Addr) (cdv ct : Value) (us ws its : List Value), us.length = n → ws.length = ks.length → its.length = (ns.map V.int).length →
      ∃ k, bindArgs (PySem.W.fnOf m qual params body scope (.ref T) kV doc pm an cdv ct) ⟨us, ks.zip ws⟩ = seqItems? (.ref T) >>= k ∧ k (some its.toArray) = pure (ps.zip (us ++ (its.drop i).take la ++ ws ++ its.drop j)))
    (hb : ∀ (cdv : Value) (A : Around) (outer : List Env) (s : Shared) (H : Hp) (Ex : XK), Room k (A.deeper (PyProof.Rows.envOfC qual scope s.heap.objs.size f cdv)) → PSs (cxOf (L2N.CX P w) P w K mg base N qual scope f cdv A outer s H Ex) body (rS K (fun cls d _ H' => Ex cls d H') (pinsOf np asg) fb)) :
    MtK P w K mg base (k + 1) C m ps ks n ((ns.drop i).take la) (ns.drop j) (fnM np nl asg fb) := by
  have hF := F.ok S (CX := L2N.CX P w) (sp := spOf K (fnM np nl asg fb)) (fun vs H Q Ex h => by rw [(fn_body hN h).1, hp]) (fun cdv A outer s H vs Q Ex hr h => ⟨_, hb cdv A outer s H Ex hr, (fn_body hN h).2⟩)
  obtain ⟨oc, od, dV, kV, doc, pm, an, cdv, ct, osl, rfl, lk, hcd, hD, hK⟩ := F.ex
  rcases hD with ⟨e, _⟩ | ⟨_, T, o, its, m', rfl, lT, oT, rT⟩
  · exact absurd e (by simpa using hne)
  · have l1 : its.length = (ns.map V.int).length := rT.length.symm
    have rA : Vals (((ns.drop i).take la).map V.int) ((its.drop i).take la) := by
      rw [List.map_take, List.map_drop]
      exact (rT.drop i).take la
    have rB : Vals ((ns.drop j).map V.int) (its.drop j) := by
      rw [List.map_drop]
      exact rT.drop j
    refine ⟨c, f, _, (its.drop i).take la, its.drop j, hF, hm, ⟨fun s us ws X hlen => ?_, fun {vs us zs ws} r1 r2 => ?_⟩⟩
    · unfold glueK at hlen ⊢
      by_cases q : us.length = n ∧ ws.length = ks.length
      · rw [if_pos q]
        obtain ⟨k, e1, e2⟩ := hbd T kV doc pm an cdv ct us ws its q.1 q.2 l1
        refine BindsTo.of_looks fun M => ?_
        rw [e1]
        exact looks_items X lT oT (.of_pure e2)
      · rw [if_neg q] at hlen
        exact absurd hlen.symm (by simpa using hps)
    · unfold glueK
      rw [r1.length, r2.length]
      by_cases q : us.length = n ∧ ws.length = ks.length
      · rw [if_pos q, if_pos q]
        exact ((r1.append rA).append r2).append rB
      · rw [if_neg q, if_neg q]; exact .nil
end
end Ink
set_option Elab.async false
set_option linter.all false
set_option maxRecDepth 100000
set_option maxHeartbeats 4000000
namespace HotX
open PySem PySem.Spec PyProof.Rows
section
variable {prog : Program} {w : World} {A : Around} {E : Value → Shared → Prop} {s : Shared}
theorem list_end_hot {x1 it l : Addr} {i : Nat} {xs : Array Value} {Q : Option Value → Shared → Prop} (hot : HotAt A x1 s.heap) (ne : x1 ≠ it) (hit : s.heap.IsListIter it l i) (hl : s.heap.IsList l xs) (out : xs[i]? = none)
    (fin : ∀ h', (∀ b u, b ≠ it → s.heap.get? b = some u → h'.get? b = some u) → Q none { s with heap := h' }) : wpAny (model prog w) A (pyNext (.ref it)) Q E s := by
  obtain ⟨hand, o1, vs1, g1, d1, c1⟩ := hot
  obtain ⟨oi, gi, ci, di⟩ := id hit
  obtain ⟨ol, gl, _, nl, dl⟩ := hl
  unfold pyNext
  refine wpAny_bind (wpAny_attempt (wpAny_callSpecial?_slot (name := Str.ofString "__next__") hit.typeIs slot_listiter_next (wpAny_call_entry slot_listiter_next hit.typeIs entry_listiter_next ?_ (args_listiter_next _))))
  show wpAny _ _ (field (.ref it) 0 >>= _) _ _ s
  refine wpAny_bind (wpAny_field gi di (x := .ref l) rfl ?_)
  show wpAny _ _ (if (Value.ref l == Value.none) = true then _ else _) _ _ s
  rw [if_neg (show ¬ ((Value.ref l == Value.none) = true) from Bool.false_ne_true)]
  show wpAny _ _ (field (.ref it) 1 >>= _) _ _ s
  refine wpAny_bind (wpAny_field gi di (x := .int i 0) rfl ?_)
  show wpAny _ _ (seqItems? (.ref l) >>= _) _ _ s
  refine wpAny_bind (wpAny_seqItems gl dl ?_)
  simp only [Int.toNat_natCast, out]
  refine wpAny_bind (wpAny_rule (wpAny_bind (wpAny_setField gi di (by simp) ?_)))
  show wpAny _ _ (newExc (.type "StopIteration") [] >>= _) _ _ _
  refine wpAny_bind ?_
  simp only [newExc, newTuple]
  refine wpAny_bind (wpAny_newObj_type ?_ (by size_fits))
  refine wpAny_bind (m := firstArgMember _ _) (wpAny_of_eq (a := Value.none) (by first | rfl | (simp only [firstArgMember]; rfl)) ?_)
  refine wpAny_newObj_type ?_ (by size_fits)
  have u1 := (Heap.get?_update_other s.heap (Obj.mapFields (·.setIfInBounds 0 Value.none)) (Ne.symm ne)).trans g1
  refine raiseNew_hot (A := A.in1) ⟨hand, o1, vs1, Heap.get?_push_of_some _ (Heap.get?_push_of_some _ u1), d1, c1⟩ (Nat.ne_of_lt (Heap.lt_size (Heap.get?_push_of_some _ u1))) (Heap.get?_push_size _ rfl) rfl (by first | (simp; done) | (simp; omega) | (simp only [Array.size_append]; simp; omega)) ?_
  refine wpAny_bind (wpAny_isInstance (T := "StopIteration") (b := true) ⟨_, Heap.get?_update_self _ (Heap.get?_push_size _ rfl) rfl, rfl⟩ isSubtype_stop ?_)
  refine wpAny_pure (fin _ fun b u nb e => ?_)
  have e1 := (Heap.get?_update_other s.heap (Obj.mapFields (·.setIfInBounds 0 Value.none)) (Ne.symm nb)).trans e
  rw [Heap.get?_update_other _ _ (Nat.ne_of_gt (Heap.lt_size (Heap.get?_push_of_some _ e1)))]
  exact Heap.get?_push_of_some _ (Heap.get?_push_of_some _ e1)
theorem tuple_end_hot {x1 it t : Addr} {i : Nat} {xs : Array Value} {Q : Option Value → Shared → Prop} (hot : HotAt A x1 s.heap) (ne : x1 ≠ it) (hit : IsTupIter s.heap it t i) (ht : IsTup s.heap t xs) (out : xs[i]? = none)
    (fin : ∀ h', (∀ b u, b ≠ it → s.heap.get? b = some u → h'.get? b = some u) → Q none { s with heap := h' }) : wpAny (model prog w) A (pyNext (.ref it)) Q E s := by
  obtain ⟨hand, o1, vs1, g1, d1, c1⟩ := hot
  obtain ⟨oi, gi, ci, di⟩ := id hit
  obtain ⟨ol, gl, _, nl, dl⟩ := ht
  unfold pyNext
  refine wpAny_bind (wpAny_attempt (wpAny_callSpecial?_slot (name := Str.ofString "__next__") hit.typeIs slot_tupleiter_next (wpAny_call_entry slot_tupleiter_next hit.typeIs entry_tupleiter_next ?_ (args_tupleiter_next _))))
  show wpAny _ _ (field (.ref it) 0 >>= _) _ _ s
  refine wpAny_bind (wpAny_field gi di (x := .ref t) rfl ?_)
  show wpAny _ _ (if (Value.ref t == Value.none) = true then _ else _) _ _ s
  rw [if_neg (show ¬ ((Value.ref t == Value.none) = true) from Bool.false_ne_true)]
  show wpAny _ _ (field (.ref it) 1 >>= _) _ _ s
  refine wpAny_bind (wpAny_field gi di (x := .int i 0) rfl ?_)
  show wpAny _ _ (seqItems? (.ref t) >>= _) _ _ s
  refine wpAny_bind (wpAny_seqItems gl dl ?_)
  simp only [Int.toNat_natCast, out]
  refine wpAny_bind (wpAny_rule (wpAny_bind (wpAny_setField gi di (by simp) ?_)))
  show wpAny _ _ (newExc (.type "StopIteration") [] >>= _) _ _ _
  refine wpAny_bind ?_
  simp only [newExc, newTuple]
  refine wpAny_bind (wpAny_newObj_type ?_ (by size_fits))
  refine wpAny_bind (m := firstArgMember _ _) (wpAny_of_eq (a := Value.none) (by first | rfl | (simp only [firstArgMember]; rfl)) ?_)
  refine wpAny_newObj_type ?_ (by size_fits)
  have u1 := (Heap.get?_update_other s.heap (Obj.mapFields (·.setIfInBounds 0 Value.none)) (Ne.symm ne)).trans g1
  refine raiseNew_hot (A := A.in1) ⟨hand, o1, vs1, Heap.get?_push_of_some _ (Heap.get?_push_of_some _ u1), d1, c1⟩ (Nat.ne_of_lt (Heap.lt_size (Heap.get?_push_of_some _ u1))) (Heap.get?_push_size _ rfl) rfl (by first | (simp; done) | (simp; omega) | (simp only [Array.size_append]; simp; omega)) ?_
  refine wpAny_bind (wpAny_isInstance (T := "StopIteration") (b := true) ⟨_, Heap.get?_update_self _ (Heap.get?_push_size _ rfl) rfl, rfl⟩ isSubtype_stop ?_)
  refine wpAny_pure (fin _ fun b u nb e => ?_)
  have e1 := (Heap.get?_update_other s.heap (Obj.mapFields (·.setIfInBounds 0 Value.none)) (Ne.symm nb)).trans e
  rw [Heap.get?_update_other _ _ (Nat.ne_of_gt (Heap.lt_size (Heap.get?_push_of_some _ e1)))]
  exact Heap.get?_push_of_some _ (Heap.get?_push_of_some _ e1)
/-- a tuple's items into as many targets -/
theorem unpack_hot {x1 t : Addr} {xs : Array Value} {ys : List (Bool × (Value → Sem Unit))} {Q : Unit → Shared → Prop} (hot : HotAt A x1 s.heap) (ht : IsTup s.heap t xs) (many : ys.length = xs.size) (plain : ys.findIdx? (·.1) = none)
    (go : ∀ h', (∀ b u, s.heap.get? b = some u → h'.get? b = some u) → wpAny (model prog w) A (assignInOrder (ys.map (·.2)) xs.toList) Q E { s with heap := h' }) : wpAny (model prog w) A (unpack (.ref t) ys) Q E s := by
  have far : t ≠ s.heap.objs.size := by obtain ⟨o, z, _⟩ := ht; exact Nat.ne_of_lt (Heap.lt_size z)
  have far1 : x1 ≠ s.heap.objs.size := by obtain ⟨_, o, _, z, _⟩ := hot; exact Nat.ne_of_lt (Heap.lt_size z)
  unfold unpack
  rw [many, plain]
  refine wpAny_bind (wpAny_holding ?_)
  unfold unpackItems
  refine wpAny_bind ?_
  unfold notIterableAtAll
  refine wpAny_bind (wpAny_specialOf ht.typeIs slot_tuple_iter.lookup ?_)
  refine wpAny_pure ?_
  simp only [Bool.false_eq_true, if_false]
  refine wpAny_bind (wpAny_holding (iter_tuple ht ?_))
  refine wpAny_bind (wpAny_holding (draw_tuple far xs.size 0 _ _ ⟨_, Heap.get?_push_size _ rfl, rfl, rfl⟩ (ht.push _) (by omega) fun h₁ it₁ sb₁ => ?_))
  rw [show List.take xs.size (List.drop 0 xs.toList) = xs.toList from by rw [List.drop_zero]; exact List.take_of_length_le (by simp), if_neg (by simp)]
  obtain ⟨hand, o1, vs1, g1, d1, c1⟩ := hot
  have hot1 : HotAt A x1 h₁ := ⟨hand, o1, vs1, sb₁.extBut x1 o1 far1 (Heap.get?_push_of_some _ g1), d1, c1⟩
  refine wpAny_bind (wpAny_holding (tuple_end_hot (s := { s with heap := h₁ }) hot1 far1 it₁ ((ht.push _).extBut sb₁.extBut far) (by simp) fun h₂ kp => ?_))
  simp only [Option.isSome_none, Bool.false_eq_true, if_false]
  refine wpAny_pure (go h₂ fun b u e => ?_)
  have nb := Nat.ne_of_lt (Heap.lt_size e)
  exact kp b u nb (sb₁.extBut b u nb (Heap.get?_push_of_some _ e))
end
end HotX
set_option Elab.async false
set_option linter.all false
set_option maxRecDepth 100000
set_option maxHeartbeats 4000000
namespace L2H
open PySem PySem.Spec PyProof.Rows L2 HotX
/-- a block's context that still knows what is pinned -/
abbrev blkH (X : Cx) (s : Shared) (H : Hp) (scope : Scope) (cenv : Env) (fp : List Addr) : Cx := { X.blk s H scope cenv fp with pn := X.pn }
section
variable {X : Cx} {pins : List (Addr × Obj)} {σ : L2.St} {H H0 : Hp} {s s0 : Shared} {scope : Scope} {cenv : Env} {fp : List Addr}
theorem to_blkH (I : Inv (X.blk s0 H0 scope cenv fp) pins σ H s) (hp : ∀ q ∈ X.pn, s.heap.get? q.1 = some q.2 ∧ H q.1 = none ∧ q.1 ≠ cenv.locals ∧ q.1 ∉ frs X.stack ∧ ∀ v, q.2.data ≠ .cell v) : Inv (blkH X s0 H0 scope cenv fp) pins σ H s := by
  obtain ⟨k, h1, h2, h3, h4, h5, h6, h7, h8, h9, h10⟩ := I
  obtain ⟨k1, k2, k3, k4, k5, k6, k7, k8, k9, k10, k11, k12, k13, k14, k15, k16, k17, k18⟩ := k
  exact ⟨⟨k1, k2, k3, k4, k5, k6, k7, k8, k9, k10, k11, k12, k13, k14, k15, k16, k17, k18⟩, h1, h2, h3, h4, h5, h6, h7, fun q hq => (List.mem_append.mp hq).elim (hp q) fun z => h8 q (List.mem_append_right _ z), h9, h10⟩
theorem of_blkH (I : Inv (blkH X s0 H0 scope cenv fp) pins σ H s) : Inv (X.blk s0 H0 scope cenv fp) pins σ H s := by
  obtain ⟨k, h1, h2, h3, h4, h5, h6, h7, h8, h9, h10⟩ := I
  obtain ⟨k1, k2, k3, k4, k5, k6, k7, k8, k9, k10, k11, k12, k13, k14, k15, k16, k17, k18⟩ := k
  exact ⟨⟨k1, k2, k3, k4, k5, k6, k7, k8, k9, k10, k11, k12, k13, k14, k15, k16, k17, k18⟩, h1, h2, h3, h4, h5, h6, h7, fun q hq => h8 q ((List.mem_append.mp hq).elim (fun z => absurd z (by simp)) fun z => List.mem_append_right _ z), h9, h10⟩
theorem blkH_hot (c : HotC X) : HotC (blkH X s0 H0 scope cenv fp) := c
end
/-- a list's iterator -/
structure PIl (X : Cx) (l : Expr) (wi : TI) : Prop where
  run : ∀ (pins : List (Addr × Obj)) (s : Shared) (σ : L2.St) (H : Hp) (R : It → Hp → Prop), Inv X pins σ H s → wi σ H R → wpAny (model X.prog X.w) X.A (eval l X.env) (fun v s1 => wpAny (model X.prog X.w) X.A (pyIter v) (fun itv s2 =>
    ∃ (it a : Addr) (H' : Hp), itv = .ref it ∧ Inv X pins σ H' s2 ∧ s2.heap.IsListIter it a 0 ∧ FpOk X pins H' it ∧ R (Itl X.K a) H') X.xe s1) X.xe s
theorem pil_list {X : Cx} {l : Expr} {tl : TE} (hl : PE X l tl) : PIl X l (iList X.K tl) := by
  refine ⟨fun pins s σ H R I h => thn (hl.run pins s σ H _ I h) fun v s1 ⟨x, H1, I1, r1, a, e, ⟨xs, hq⟩, q⟩ => ?_⟩
  subst e
  cases r1
  obtain ⟨its, rv, p, hz⟩ := I1.list hq
  refine wpAny_pyIter_list p.isList ⟨s1.heap.objs.size, a, H1, rfl, I1.kept (t' := s1.toks) fun b o e => Heap.get?_push_of_some _ e, ⟨_, Heap.get?_push_size _ rfl, rfl, rfl⟩, I1.fpOk (Nat.le_refl _) (I1.hok.fresh (Nat.le_refl _)), q⟩
theorem PIl_mono {X : Cx} {l : Expr} {w w' : TI} (h : PIl X l w') (e : ∀ σ H R, w σ H R → w' σ H R) : PIl X l w := ⟨fun pins s σ H R I z => h.run pins s σ H R I (e σ H R z)⟩
section
variable {X : Cx}
theorem pe_lcH {elt tg l : Expr} {ifs : List Expr} {scope : Scope} {own : List (Str × Nat)} {pos : Pos} {wi : TI} {g : TG} {tt : TT} {te : TE} (hot : HotC X) (nd : X.N.Nodup) (hi : PIl X l wi) (ok : BlkOk X.N X.env.scope scope own)
    (hg : ∀ (s : Shared) (H : Hp) (C : Addr) (cl : List (Str × Addr)) (fp : List Addr), PG (blkH X s H scope (compEnvC scope cl C X.env) fp) tg g) (ht : ∀ (s : Shared) (H : Hp) (C : Addr) (cl : List (Str × Addr)) (fp : List Addr), PTs (blkH X s H scope (compEnvC scope cl C X.env) fp) ifs tt)
    (he : ∀ (s : Shared) (H : Hp) (C : Addr) (cl : List (Str × Addr)) (fp : List Addr), PE (blkH X s H scope (compEnvC scope cl C X.env) fp) elt te) (hs : ∀ x, foldedSetIterable l X.env x = pure x := by intro _; rfl) :
    PE X (.ListComp elt [⟨tg, l, ifs, 0⟩] scope pos) (tLc wi g tt te (own.map (·.2))) := by
  refine ⟨fun pins s σ H Q I want => ?_⟩
  rw [eval_ListComp]
  have frees : ∀ y ∈ scope.names, y.2 = .free → ∃ c, X.env.cells.lookup y.1 = some c := fun y hy e => (ok.free y hy e).elim (fun k => I.ok.has _ (.inl k)) fun k => I.ok.has _ (.inr k)
  refine wpAny_comprehension_free (use := none) rfl hs (closure_ok frees) ok.kind (fun y hy e => by rw [ok.uniq y hy, e])
    (thn (hi.run pins s σ H _ I want) fun xv s1 hx => thn hx fun itv s2 h2 => ?_)
  obtain ⟨it, a, H2, rfl, I2, st2, f2, q⟩ := h2
  refine wpAny_newObj_type (newEnv_comp ?_) (by show 0 ≤ sizeLine; decide)
  generalize hD : s2.heap.objs.size = D
  have freshD : H2 D = none := I2.hok.fresh (Nat.le_of_eq hD)
  obtain ⟨W, ⟨m0, w0⟩, turn⟩ := q D freshD
  generalize hs3 : ({ s2 with heap := s2.heap.push { cls := .type "list", data := .seq ([] : List Value).toArray } } : Shared) = s3
  have I3 : Inv X pins σ (upd H2 D (.lst [])) s3 := by
    rw [← hs3]
    refine I2.laid (t' := s2.toks) (fun b o e => Heap.get?_push_of_some _ e) (Nat.le_of_eq hD) ⟨Nat.zero_le _, [], 0, .nil, ?_⟩
    rw [← hD]
    exact Heap.get?_push_size _ rfl
  have h3 : s3.heap = s2.heap.push { cls := .type "list", data := .seq ([] : List Value).toArray } := by rw [← hs3]
  have below : it < s2.heap.objs.size := by obtain ⟨o, e, _⟩ := st2; exact Heap.lt_size e
  have f3 : FpOk X pins (upd H2 D (.lst [])) it := ⟨by rw [upd_ne (by rw [← hD]; exact Nat.ne_of_lt below)]; exact f2.1, f2.2⟩
  have below3 : it < s3.heap.objs.size := by rw [h3, Heap.size_push]; exact Nat.lt_succ_of_lt below
  have st3 : s3.heap.IsListIter it a 0 := st2.at fun o e => by rw [h3]; exact Heap.get?_push_of_some _ e
  have I4 := block_start (fp := [it]) I3 ok nd fun b hb => by rw [List.mem_singleton.mp hb]; exact ⟨f3, below3⟩
  have pg := hg s3 (upd H2 D (.lst [])) s3.heap.objs.size (cellsFrom (s3.heap.objs.size + 1) scope.names (cloFrom X.env.cells scope.names [])) [it]
  have pt := ht s3 (upd H2 D (.lst [])) s3.heap.objs.size (cellsFrom (s3.heap.objs.size + 1) scope.names (cloFrom X.env.cells scope.names [])) [it]
  have pe := he s3 (upd H2 D (.lst [])) s3.heap.objs.size (cellsFrom (s3.heap.objs.size + 1) scope.names (cloFrom X.env.cells scope.names [])) [it]
  show codeAny _ _ (.compStart (.ListComp elt [⟨tg, l, ifs, 0⟩] scope pos) 0 (.ref it) (.ref D) (compEnvC scope (cellsFrom (s3.heap.objs.size + 1) scope.names (cloFrom X.env.cells scope.names [])) s3.heap.objs.size X.env)) _ { s3 with heap := pushCells (s3.heap.push { cls := .type "dict", data := .dict #[] }) scope.names }
  generalize hce : compEnvC scope (cellsFrom (s3.heap.objs.size + 1) scope.names (cloFrom X.env.cells scope.names [])) s3.heap.objs.size X.env = ce at I4 pg pt pe ⊢
  have cL : ce.locals = s3.heap.objs.size := by subst hce; rfl
  generalize hH3 : upd H2 D (.lst []) = H3 at I3 I4 pg pt pe w0 f3
  generalize hs4 : ({ s3 with heap := pushCells (s3.heap.push { cls := .type "dict", data := .dict #[] }) scope.names } : Shared) = s4 at I4 ⊢
  have st4 : s4.heap.IsListIter it a 0 := st3.at fun o e => by rw [← hs4]; exact pushCells_keeps _ _ _ _ (Heap.get?_push_of_some _ e)
  -- of what the block leaves: back in the def's context
  have back : ∀ {σ' : L2.St} {H' : Hp} {s' : Shared}, Inv (X.blk s3 H3 scope ce [it]) [] σ' H' s' → Inv X pins σ H' s' := fun {σ' H' s'} J => I3.call' (ch := [it]) J.os J.base J.hok J.bare fun b hb => by
    rw [List.mem_singleton.mp hb]
    exact ⟨f3.2.2.2.1, f3.2.1, f3.2.2.2.2.1, f3.2.2.2.2.2⟩
  have pinB : ∀ {σ' : L2.St} {H' : Hp} {s' : Shared}, Inv (X.blk s3 H3 scope ce [it]) [] σ' H' s' → ∀ q ∈ X.pn, s'.heap.get? q.1 = some q.2 ∧ H' q.1 = none ∧ q.1 ≠ ce.locals ∧ q.1 ∉ frs X.stack ∧ ∀ v, q.2.data ≠ .cell v := fun {σ' H' s'} J q hq => by
    have P := (back J).pin q (List.mem_append_left _ hq)
    have P3 := I3.pin q (List.mem_append_left _ hq)
    exact ⟨P.1, P.2.1, by rw [cL]; exact Nat.ne_of_lt (Heap.lt_size P3.1), fun hm => (List.mem_cons.mp (I3.stkSub q.1 hm)).elim P.2.2.1 P.2.2.2.1, P.2.2.2.2⟩
  have stat : ∀ {σ' : L2.St} {H' : Hp} {s' : Shared}, Inv (X.blk s3 H3 scope ce [it]) [] σ' H' s' → H' it = none → FpOk (X.blk s3 H3 scope ce [it]) [] H' it := fun {σ' H' s'} J hn =>
    ⟨hn, (J.ok.exf it (List.mem_singleton_self _)).1, J.ok.exfs it (List.mem_singleton_self _), .inl (List.mem_singleton_self _), fun x c e => (J.ok.exf it (List.mem_singleton_self _)).2 x c e, fun p hp => absurd (show p ∈ ([] : List (Addr × Obj)) ++ [] from hp) (by simp)⟩
  have statH : ∀ {σ' : L2.St} {H' : Hp} {s' : Shared}, Inv (X.blk s3 H3 scope ce [it]) [] σ' H' s' → H' it = none → FpOk (blkH X s3 H3 scope ce [it]) [] H' it := fun {σ' H' s'} J hn =>
    ⟨hn, (stat J hn).2.1, (stat J hn).2.2.1, (stat J hn).2.2.2.1, (stat J hn).2.2.2.2.1, fun p hp => f3.2.2.2.2.2 p (List.mem_append_left _ (by simpa using hp))⟩
  refine codeAny_compStart_list (?_ : codeAny (model X.prog X.w) X.A (.compLoop (.ListComp elt [⟨tg, l, ifs, 0⟩] scope pos) 0 (.ref it) (.ref D) ce) _ s4) (wpAny_pyIter_listiter st4 ?_)
  all_goals
    refine compLoop_any (fun n s' => ∃ i H', Inv (X.blk s3 H3 scope ce [it]) [] (wipe σ (own.map (·.2))) H' s' ∧ s'.heap.IsListIter it a i ∧ H' it = none ∧ W i n H') ?_ m0 ⟨0, H3, I4, st4, f3.1, w0⟩
    rintro n s5 ⟨i, H5, I5, st5, n5, w5⟩
    have I7 := back I5
    obtain ⟨px, ⟨hand, v1, e1, c1⟩, hpx⟩ := id hot
    have hx1 : HotAt X.A px.1 s5.heap := ⟨hand, px.2, v1, (I7.pin px (List.mem_append_left _ hpx)).1, e1, c1⟩
    have nit : px.1 ≠ it := f3.2.2.2.2.2 px (List.mem_append_left _ hpx)
    rcases turn i n H5 w5 with ⟨⟨xs, hq, hx⟩, qq⟩ | ⟨⟨xs, x, hq, hx⟩, Nx, hNx, step⟩
    · obtain ⟨its, rv, p, hz⟩ := I5.list hq
      have hl := rv.length
      obtain ⟨f0, f1, f2', f3', f4, f5⟩ := stat I5 n5
      refine list_end_hot hx1 nit st5 p.isList (by simp; omega) fun h' eb => ?_
      have I6 : Inv (X.blk s3 H3 scope ce [it]) [] (wipe σ (own.map (·.2))) H5 { s5 with heap := h' } := I5.turned (t' := s5.toks) eb f0 f1 f3' f4 f5
      have I8 := back I6
      have nC : H5 s3.heap.objs.size = none := by
        have z : H5 ce.locals = none := I6.free
        rw [cL] at z
        exact z
      obtain ⟨m, hn, _⟩ := I6.loc
      have hn : h'.Ns ce.locals m := hn
      rw [cL] at hn
      obtain ⟨z0, z1, z2, z3, z4, z5⟩ := I3.fpOk (Nat.le_refl _) nC
      exact ⟨m, hn, fun h'' sb => ⟨.ref D, H5, I8.turned (t' := s5.toks) (fun b o hb e => (sb.2 b hb).trans e) z0 z1 z3 z4 z5, rfl, qq⟩⟩
    · obtain ⟨its, rv, p, hz⟩ := I5.list hq
      obtain ⟨u, hu, ru⟩ := rv.get hx
      obtain ⟨f0, f1, f2', f3', f4, f5⟩ := stat I5 n5
      refine wpAny_pyNext_list_item st5 p.isList (x := u) (by simpa using hu) fun h' st6 sb => ?_
      have I6 : Inv (X.blk s3 H3 scope ce [it]) [] (wipe σ (own.map (·.2))) H5 { s5 with heap := h' } := I5.turned (t' := s5.toks) (fun b o hb e => (sb.2 b hb).trans e) f0 f1 f3' f4 f5
      obtain ⟨oi, ei, ci, di⟩ := id st6
      refine go_of (s := { s5 with heap := h' }) ei ci di (by decide) ?_
      have I9 := (to_blkH I6 (pinB I6)).pinned (fp := [it]) (fun b hb => by rw [List.mem_singleton.mp hb]; exact statH I6 n5) (fun b hb => by rw [List.mem_singleton.mp hb]; exact ⟨oi, ei, fun v z => by rw [di] at z; cases z⟩)
      have y7 := step x H5 ⟨rfl, fun ys hy => by rw [I5.list_inj hy hq]; exact hx⟩
      refine thnF (pg.run _ { s5 with heap := h' } _ H5 x u _ I9 ru y7) fun _ s8 ⟨σ8, H8, I8, hw8, q8⟩ => ?_
      refine thnF (pt.run _ s8 σ8 H8 _ I8 q8) fun b s9 ⟨H9, I9', q9⟩ => ?_
      have fin : ∀ {s' : Shared} {H' : Hp}, Inv (blkH X s3 H3 scope ce [it]) ([] ++ pinsAt [it] h') σ8 H' s' → Nx H' → ∃ m, m < n ∧ ∃ i H', Inv (X.blk s3 H3 scope ce [it]) [] (wipe σ (own.map (·.2))) H' s' ∧ s'.heap.IsListIter it a i ∧ H' it = none ∧ W i m H' := fun {s' H'} J nx => by
        obtain ⟨m', hm, w'⟩ := hNx H' nx
        have P := J.pin (it, oi) (List.mem_append_right _ (List.mem_append_right _ (mem_pinsAt (List.mem_singleton_self _) ei)))
        have hl : (wipe σ (own.map (·.2))).length = σ8.length := by rw [← hw8, wipe_length]
        refine ⟨m', hm, i + 1, H', ((of_blkH J).unpinned (pins := [])).weak hl (fun j v e => ?_), ⟨oi, P.1, ci, di⟩, P.2.1, w'⟩
        rw [← hw8] at e
        exact (wipe_some e).1
      cases b with
      | false =>
        simp only [Bool.false_eq_true, if_false] at q9 ⊢
        exact fin I9' q9
      | true =>
        simp only [if_true] at q9 ⊢
        refine thnF (pe.run _ s9 σ8 H9 _ I9' q9) fun z s10 ⟨yv, H10, I10, r10, acc, hD10, hz10, nx⟩ => ?_
        exact app_ok (X := blkH X s3 H3 scope ce [it]) I10 hD10 hz10 r10 fun s11 I11 => fin I11 nx
end
end L2H
set_option Elab.async false
set_option linter.all false
set_option maxRecDepth 100000
set_option maxHeartbeats 4000000
namespace ExcIsD
open PySem PySem.Spec PySem.Calls PyProof.Rows PySem.W
section
variable {prog : Program} {w : World} {A : Around} {E : Value → Shared → Prop} {s : Shared} {K : Frag} {x D : Addr} {ox : Obj} {od : Option Obj}
/-- isinstance asks an exception for its class, whether it has a dict or not -/
theorem kin_cls {Q : Option Value → Shared → Prop} (C : L2.ExcC K D) (X : K.In s.heap) (I : InstAt s.heap x ox D od) (h : Q (some (.ref D)) { s with toks := s.toks + 1 }) : wpAny (model prog w) A (getAttr? (.ref x) "__class__") Q E s := by
  have hf : findObj K D od "__class__" = some (.bind (.builtin "getset_descriptor.__get__") (.builtin "object.__class__")) := by
    obtain ⟨cd, hc, _⟩ := any_some C.hd
    cases od with
    | none => exact findObj_dataN (by rw [hc]; rfl) C.ha C.hn C.ht
    | some o => exact findObj_data (by rw [hc]; rfl) C.ha C.hn C.ht
  obtain ⟨hp, g, d, t, os⟩ := s
  have L0 := I.type (M := model prog w)
  have L1 := looks_findIn (M := model prog w) X C.hg
  have L2 := looks_findIn (M := model prog w) X C.hk
  have L3 := looks_find (M := model prog w) X I hf
  have sub : Looks (model prog w) hp (isInstance (.ref x) (.type "BaseException")) true := L0.andThen (looks_subIn X C.hs)
  have hx0 : (false && onTheHeap (Value.builtin "BaseException.__getattribute__")) = false := rfl
  have hx2 : (Value.builtin "BaseException.__getattribute__" == Value.builtin "object.__getattribute__") = false := by decide +kernel
  have hx1 : (onTheHeap (Value.ref D) && Value.builtin "BaseException.__getattribute__" == Value.builtin "object.__getattribute__") = false := by rw [hx2]; rfl
  unfold getAttr? getAttrBy? getAttrBy
  refine wpAny_bind (wpAny_mkText (wpAny_bind (wpAny_attempt (wpAny_holding (wpAny_bind (L0.at (wpAny_bind (L1.at ?_))))))))
  show wpAny _ _ (if (onTheHeap (Value.ref D) && Value.builtin "BaseException.__getattribute__" == Value.builtin "object.__getattribute__") = true then _ else _) _ _ _
  rw [hx1, if_neg Bool.false_ne_true]
  unfold getAttrByItsOwn hookBefore
  refine wpAny_bind ?_
  rw [if_pos (show onTheHeap (Value.ref D) = true from rfl)]
  refine L2.at ?_
  refine wpAny_bind (wpAny_attempt (wpAny_holding ?_))
  unfold callGetattribute
  rw [hx0, if_neg Bool.false_ne_true]
  unfold boundAndCalled
  rw [PySem.F.excAttr_ValueError.ga.bind (.ref x)]
  refine wpAny_bind (wpAny_pure ?_)
  show wpAny _ _ (call (.builtin "BaseException.__getattribute__") [.ref x, .str "__class__" t]) _ _ _
  refine wpAny_call (codeAny_call_builtin PySem.F.excAttr_ValueError.ga.plain PySem.F.entry_bexc_ga ?_)
  refine @check_slot (model prog w) _ _ ⟨hp, g, d, t + 1, os⟩ "BaseException.__getattribute__" "BaseException" "__getattribute__" (.ref x) [.str "__class__" t] [] _ (by decide +kernel) (by decide +kernel) sub (PySem.F.args_bexc_ga (.ref x) (.str "__class__" t)) ?_
  unfold Builtin.«object.__getattribute__»
  refine wpAny_bind (wpAny_of_eq (a := ((Value.ref x : Value), [Value.str "__class__" t])) (by first | rfl | (simp only [slotArgs]; rfl)) ?_)
  refine wpAny_bind (wpAny_pure (wpAny_bind (L0.at (wpAny_bind (L3.at ?_)))))
  show wpAny _ _ (holding [Value.builtin "object.__class__"] (call (.builtin "getset_descriptor.__get__") [.builtin "object.__class__", .ref x, .ref D]) >>= ret) _ _ _
  refine wpAny_bind (wpAny_holding (wpAny_call (class_get (s := ⟨hp, g, d, t + 1, os⟩) (ox := ox) (od := od) X I C.hm ?_)))
  refine wpAny_pure ?_
  show wpAny _ _ (handedOut (.ref D)) _ _ _
  rw [handedOut_of (v := .ref D) rfl]
  first
    | exact wpAny_pure (wpAny_pure h)
    | exact wpAny_pure h
    | exact wpAny_pure (wpAny_bind (wpAny_pure (wpAny_pure h)))
theorem kitx (C : L2.ExcC K D) : KitX K (.ref x) (.ref D) (fun h => ∃ od, InstAt h x ox D od) where
  ty := fun _ _ _ I => I.elim fun _ I => I.type
  it := fun _ _ X _ => by
    obtain ⟨cdD, hcD, _⟩ := any_some C.hd
    unfold clsIn at hcD
    split at hcD
    · rename_i c' d' cd' sl' ho
      intro A' Q' E' s' k q
      unfold isType loadHead
      exact wpAny_bind (wpAny_loadPart (k _ _ (X _ _ ho)) (wpAny_pure q))
    · cases hcD
  ne := fun h tp dd its n sl X htp => by
    obtain ⟨cdD, hcD, _⟩ := any_some C.hd
    refine Bool.eq_false_iff.mpr fun q => ?_
    have e : D = tp := Value.ref.inj (beq_iff_eq.mp q)
    subst e
    unfold clsIn at hcD
    split at hcD
    · rename_i c' d' cd' sl' ho
      have z := (X _ _ ho).symm.trans htp
      cases z
    · cases hcD
  ca := fun X I k => I.elim fun _ I => kin_cls C X I k
end
end ExcIsD
namespace Ink
open PySem PySem.Spec PyProof.Rows L2 L2H HotX
/-- the exception's dict is there -/
def DHas (p : Addr × Obj) (h : Heap) : Prop := ∀ dd, p.2.dict = some dd → ∃ o, h.get? dd = some o
section
variable {X : Cx} {W : WX} {S : List Nat}
theorem pg_tupH {es : List Expr} {k n : Nat} {t : TGs} {pos : Pos} (c : HotC X) (h : PGs X es t) (hn : (assignEach es X.env).length = n := by rfl) (hst : (assignEach es X.env).findIdx? (·.1) = none := by rfl) : PG X (.Tuple es k pos) (gTup X.K n t) := by
  refine ⟨fun pins s σ H v u Q I r hw => ?_⟩
  obtain ⟨a, xs, rfl, hq, hl, hw⟩ := hw
  cases r
  obtain ⟨its, rv, ht, hz⟩ := I.tuple hq
  obtain ⟨x1, hot⟩ := c.at I
  rw [assign_Tuple]
  refine wpAny_bind (wpAny_standAt (unpack_hot hot ht (by simp [hn, ← hl, rv.length]) hst fun h' kp => ?_))
  exact h.run pins _ σ H xs _ Q (I.kept (t' := s.toks) kp) (by simpa using rv) hw
theorem g_tupH {es : List Expr} {k n : Nat} {gs : List FG} {pos : Pos} (c : HotC X) (h : PGs X es (rGs X.K S gs)) (hl : gs.length = n := by rfl)
    (hn : (assignEach es X.env).length = n := by rfl) (hst : (assignEach es X.env).findIdx? (·.1) = none := by rfl) : PG X (.Tuple es k pos) (rG X.K S (tupG gs)) := PG_mono (pg_tupH c h hn hst) fun v σ H Q ⟨F, env, fps, m, fp, R, r, d, env', e, p⟩ => by
  unfold tupG at e
  split at e
  · rename_i ds
    have hz := r.fz_nil
    subst hz
    obtain ⟨a, vs, rfl, q, rs⟩ := tup_rep R.fr (repm_fz r)
    refine ⟨a, vs, rfl, q, by rw [rs.length, ← hl, ← eachG_len gs _ env e, List.length_map], F, env, fps, _, [], R, RepMs.ofD rs, d, env', e, p⟩
  · rename_i ms
    cases r with
    | @tup pa vs _ fq a rs => exact ⟨pa, vs, rfl, SqT.of (R.fr _ _ a), by rw [rs.length, ← hl, ← eachG_len gs _ env e], F, env, fps, _, _, R, rs, d, env', e, p⟩
  · cases e
theorem i_listH {l : Expr} {f : FE} (h : PE X l (rE X.K W f)) : PIl X l (rI X.K W (overE itemsL f)) := PIl_mono (pil_list (e_tk h)) fun σ H R p => rE_imp (fun x H1 ⟨F, env, fps, m, fp, ds, R1, r, d, ei, pj⟩ => by
  unfold itemsL at ei
  split at ei
  · rename_i ds' ef
    cases ei
    obtain ⟨F', s', rd, R', e⟩ := freeze_at R1 r d ef
    cases rd with
    | lst a b => exact ⟨_, rfl, ⟨_, SqL.of (s' _ _ a)⟩, pj _ F' H1 fps R' (it_list a b) e⟩
  · cases ei) (r_over σ H R p)
theorem e_lcH {elt tg l : Expr} {ifs : List Expr} {scope : Scope} {own : List (Str × Nat)} {pos : Pos} {fi : FI} {g : FG} {ft : FT} {fe : FE} (c : HotC X) (hN : X.N.Nodup) (hi : PIl X l (rI X.K W fi)) (ok : BlkOk X.N X.env.scope scope own)
    (hg : ∀ (s : Shared) (H : Hp) (C : Addr) (cl : List (Str × Addr)) (fp : List Addr), PG (blkH X s H scope (compEnvC scope cl C X.env) fp) tg (rG X.K S g)) (ht : ∀ (s : Shared) (H : Hp) (C : Addr) (cl : List (Str × Addr)) (fp : List Addr), PTs (blkH X s H scope (compEnvC scope cl C X.env) fp) ifs (rT X.K W0 ft))
    (he : ∀ (s : Shared) (H : Hp) (C : Addr) (cl : List (Str × Addr)) (fp : List Addr), PE (blkH X s H scope (compEnvC scope cl C X.env) fp) elt (rE X.K W0 fe)) (hS : S.all (fun i => (own.map (·.2)).contains i) = true := by rfl) (hs : ∀ x, foldedSetIterable l X.env x = pure x := by intro _; rfl) :
    PE X (.ListComp elt [⟨tg, l, ifs, 0⟩] scope pos) (rE X.K W (compE fi g ft fe (own.map (·.2)))) := PE_mono (pe_lcH c hN hi ok hg ht he hs) (r_lc hS)
end
theorem call_isX {X : Cx} {p : Addr × Obj} {D : Addr} (hp : p ∈ X.pn) (C : ExcC X.K D) (hz : p.2.cls = .ref D) (hf : ∃ vs, p.2.data = .fields vs) (hx : DHas p X.s_0.heap) (hex : X.ex = []) : CallR X (.builtin "isinstance") (rIsE X.K D p.1) := by
  intro pins s σ H xs us Q I r h
  obtain ⟨c, cv, b, rfl, hcv, e, q⟩ := h
  cases r with
  | cons rx rr =>
    cases rr with
    | cons rt rr =>
      cases rr
      cases rx
      have ec := hcv _ rt
      subst ec
      have at1 := (I.pin p (List.mem_append_left _ hp)).1
      obtain ⟨vs, hv⟩ := hf
      have J : ∃ od, PySem.W.InstAt s.heap p.1 p.2 D od := by
        obtain ⟨a, oc, odd, oda, osl⟩ := p
        dsimp only at hz hv at1
        subst hz hv
        cases odd with
        | none => exact ⟨none, at1, rfl, rfl, trivial⟩
        | some dd =>
          obtain ⟨o, ho⟩ := hx dd rfl
          obtain ⟨o', ho'⟩ := I.base.there dd o ho (by rw [hex]; simp)
          exact ⟨some o', at1, rfl, rfl, ho'⟩
      exact PySem.W.kia_one (ExcIsD.kitx C) I.kIn J e (fun z => nomatch z) fun tk => ⟨.bl b, H, I.kept (t' := tk) fun _ _ z => z, rfl, q⟩
def isxE (C : Str) (a : Addr) (b : Bool) (f : FE) : FE := fun env => bindO (f env) fun x env1 => match resA env1 x with
  | some (.fz (.exc C' a')) => if C' = C ∧ a' = a then some (.ok (.tm (.fz (.bl b))) env1) else none
  | _ => none
section
variable {X : Cx} {W : WX} {e : Expr} {f : FE} {p1 p2 pos : Pos}
theorem e_isx {q : Addr × Obj} {C y : Str} {b : Bool} (hp : q ∈ X.pn) (E : ExcC X.K (He.ga X.K C)) (hz : q.2.cls = .ref (He.ga X.K C)) (hf : ∃ vs, q.2.data = .fields vs) (hx : DHas q X.s_0.heap) (hex : X.ex = []) (hk : PySem.W.kitOne X.K (.ref (He.ga X.K C)) (.ref (He.ga X.K y)) = some b)
    (hg : Gl X "isinstance") (hm : X.mg "isinstance" = none) (hg2 : Gl X y) (hm2 : X.mg y = some (.ref (He.ga X.K y))) (he : PE X e (rE X.K W f)) (hd : (y == ("__debug__" : Str)) = false := by decide)
    (hs : starEach [e, .Name y p1] X.env = (false, eval e X.env) :: starEach [.Name y p1] X.env := by rfl) (hs2 : starEach [.Name y p1] X.env = (false, eval (.Name y p1) X.env) :: starEach [] X.env := by rfl) (hpl : (backTo pos (starEach [.Name y p1] X.env)).any (·.1) = false := by rfl) :
    PE X (.Call (.Name "isinstance" p2) [e, .Name y p1] [] pos) (rE X.K W (isxE C q.1 b f)) :=
  PE_mono (pe_callB (call_isX hp E hz hf hx hex) hg hm (by decide +kernel) (pa_cons he (pa_cons (pe_glob hg2 hm2 (v := .ref (He.ga X.K y)) rfl hd) pa_nil hs2) hs) (he := hs) (hpl := hpl)) fun σ H Q ⟨F, env, fps, R, po⟩ => by
  refine ⟨F, env, fps, R, ?_⟩
  unfold isxE at po
  cases ef : f env with
  | none => rw [ef] at po; exact po
  | some o =>
    rw [ef] at po
    cases o with
    | ex x env1 => exact po
    | ok a env1 =>
      simp only [bindO_ok] at po
      intro v F1 H1 fps1 fp R1 r d e1
      cases er : resA env1 a with
      | none => rw [er] at po; exact po.elim
      | some m =>
        obtain ⟨fq, rm⟩ := resA_rep R1 r er
        cases rm with
        | fz rd =>
          cases rd with
          | @exc C' a' =>
            rw [er] at po
            simp only at po
            by_cases cc : C' = C ∧ a' = q.1
            · rw [if_pos cc] at po
              obtain ⟨rfl, rfl⟩ := cc
              exact ⟨_, _, b, rfl, fun u ru => ru, hk, po (.bl b) F1 H1 fps1 [] R1 (RepM.fz (.bl b)) Own.not_nil (e1.weak fun b h => .inl (h.elim id fun z => by cases z))⟩
            · rw [if_neg cc] at po; exact po.elim
          | _ => rw [er] at po; exact po.elim
        | _ => rw [er] at po; exact po.elim
end
/-- what such a def promises, p the handled exception -/
structure FnHp (P : Program) (w : World) (K : PySem.W.Frag) (mg : Str → Option Value) (base : Heap) (CX : CXT) (p : Addr × Obj) (k : Nat) (f : Addr) (fd : FuncData) (ps : List Str) (sp : Sp) : Prop where
  len : ∀ vs H Q E, sp vs H Q E → vs.length = ps.length
  run : ∀ (A : Around) (outer : List Env) (s : Shared) (H : Hp) (args : Args) (us : List Value) (vs : List V) (Q : VK) (E : XK), RoomH k A → Hot1 A p → PinOk outer H s p → DHas p s.heap → Env0 P w K mg base A outer s H → BindsTo s fd args (ps.zip us) → Vals vs us → sp vs H Q E →
    codeAny (model P w) A (.call (.ref f) args) (CR CX outer P w H s Q E) s
theorem fn_ofHp {CX : CXT} {P : Program} {w : World} {K : PySem.W.Frag} {mg : Str → Option Value} {base : Heap} {k : Nat} {f : Addr} {name qual : Str} {params : Arguments} {body : List Stmt} {scope : Scope} {dV kV doc pm cdv ct oc : Value} {an od : Option Addr} {p : Addr × Obj}
    {osl : Array (Option Value)} {N ps : List Str} {sp : Sp} (at1 : K.lookup f = some ⟨oc, od, .func (PySem.W.fnOf name qual params body scope dV kV doc pm an cdv ct), osl⟩) (code : PySem.W.codeIn K cdv qual = true) (S : FnScope N ps scope)
    (len : ∀ vs H Q E, sp vs H Q E → vs.length = ps.length)
    (does : ∀ (A : Around) (outer : List Env) (s : Shared) (H : Hp) (vs : List V) (Q : VK) (E : XK), Hot1 A p → DHas p s.heap → RoomH k (A.deeper (envOfC qual scope s.heap.objs.size f cdv)) → sp vs H Q E →
      ∃ t, PSs (cxH CX P w K mg base N qual scope f cdv A outer s H E p) body t ∧ t { nx := fun _ H' => Q .non H', rt := Q } (L2.start N vs) H) :
    FnHp P w K mg base CX p (k + 1) f (PySem.W.fnOf name qual params body scope dV kV doc pm an cdv ct) ps sp := by
  refine ⟨len, fun A outer s H args us vs Q E room hot pin dh e0 binds rel want => ?_⟩
  have kin : K.In s.heap := e0.mod.kin.keeps fun b o e => (e0.bs b o e).1
  have noLim : s.heap.NoLimit := e0.mod.nolimit.keeps fun b o e => (e0.bs b o e).1
  refine codeAny_call_function room.depth (kin _ _ at1) rfl S.co S.gen rfl (PySem.W.codeRec_of kin code) (binds _ _ _ _ ?_)
  refine wpAny_newFunctionEnv_cells S.kind (fun ⟨n, v⟩ hy => (S.par n (List.of_mem_zip hy).1).elim .inl fun q => .inr ⟨q, PySem.W.cellsFrom_some _ _ _ (.inl q)⟩) fun env he s1 x => ?_
  subst he
  refine ⟨noLim.keeps x.toInCall.keep, codeAny_func ?_⟩
  obtain ⟨t, body_ok, start⟩ := does A outer s H vs Q E hot dh (room.deeper _) want
  have I : Inv (cxH CX P w K mg base N qual scope f cdv A outer s H E p) [] (L2.start N vs) H s1 := inv_startH S pin e0 (len _ _ _ _ want) rel x
  refine wpAny_mono (body_ok.run [] s1 (L2.start N vs) H _ I start) (fun fl s' out => ?_) fun e s' out => out
  cases fl with
  | ret u =>
    obtain ⟨v, σ', H', J, rv, q⟩ := out
    exact ⟨v, H', J.os, J.bare, J.base, J.hok, rv, q⟩
  | next =>
    obtain ⟨σ', H', J, q⟩ := out
    exact ⟨.non, H', J.os, J.bare, J.base, J.hok, rfl, q⟩
  | brk =>
    obtain ⟨_, _, _, q⟩ := out
    exact q.elim
  | cont =>
    obtain ⟨_, _, _, q⟩ := out
    exact q.elim
def tCallX (p : Addr × Obj) (sp : Sp) (t : TA) : TE := fun σ H Q => t σ H fun vs H1 => (∀ dd, p.2.dict = some dd → ∃ fs, H1 dd = some (.xd fs)) ∧ sp vs H1 Q fun _ _ _ => False
theorem pe_callHp {X : Cx} {k : Nat} {f : Addr} {fd : FuncData} {ps : List Str} {sp : Sp} {x : Str} {q pos : Pos} {e : Expr} {es : List Expr} {t : TA} {p : Addr × Obj} (F : FnHp X.prog X.w X.K X.mg X.base (L2N.CX X.prog X.w) p k f fd ps sp) (room : RoomH k X.A) (hot : Hot1 X.A p) (hp : p ∈ X.pn) (gl : Gl X x) (gm : X.mg x = some (.ref f)) (keep : PySem.W.keepIn X.K (.ref f) = true) (bd : Binds X.K fd ps [])
    (ar : PA X (e :: es) t) (nd : (x == ("__debug__" : Str)) = false := by decide) (st : starEach (e :: es) X.env = (false, eval e X.env) :: starEach es X.env := by rfl) (pl : (backTo pos (starEach es X.env)).any (·.1) = false := by rfl) :
    PE X (.Call (.Name x q) (e :: es) [] pos) (tCallX p sp t) := by
  refine ⟨fun pins s σ H Q I want => ?_⟩
  refine wpAny_Call_Name_kw (ld_glob I gl gm ?_ nd)
  refine PySem.W.callWith_K (h₀ := X.base) I.ok.mod.kin keep (thn (ar.run pos pins s σ H _ I want) fun us s1 ⟨vs, H1, J, rel, w1⟩ => ⟨J.kIn, ?_⟩) st pl
  obtain ⟨hdd, w1⟩ := w1
  have l1 : us.length = ps.length := by rw [← rel.length]; exact F.len _ _ _ _ w1
  have b1 := bd s1 us J.kIn (by rw [List.append_nil]; exact l1)
  rw [List.append_nil] at b1
  have P1 := J.pin p (List.mem_append_left _ hp)
  refine wpAny_call (codeAny_mono (F.run X.A X.stack s1 H1 ⟨us, []⟩ us vs Q _ room hot ⟨P1.1, P1.2.1, fun hm => (List.mem_cons.mp (J.stkSub p.1 hm)).elim P1.2.2.1 P1.2.2.2.1, P1.2.2.2.2⟩ (fun dd e => (hdd dd e).elim fun fs z => (J.hok dd _ z).elim fun mA y => y.1.elim fun od y => y.elim fun es y => y.elim fun ep y => ⟨_, y.1⟩) J.env0 b1 rel w1) fun r s' out => ?_)
  cases r with
  | error e => exact (passLN (X := X) pins σ H1 s1 e s' J out)
  | ok fl =>
    cases fl with
    | ret u => exact J.after out
    | next => exact out.elim
    | brk => exact out.elim
    | cont => exact out.elim
/-- x asks of the handled exception's class C; g C a its mirror -/
structure KinG (P : Program) (w : World) (K : PySem.W.Frag) (mg : Str → Option Value) (base : Heap) (k : Nat) (x : Str) (ps : List Str) (tb : List Str) (g : Str → Addr → FP) : Prop where
  ex : ∃ f fd, mg x = some (.ref f) ∧ PySem.W.keepIn K (.ref f) = true ∧ Binds K fd ps [] ∧ ∀ C ∈ tb, ∀ p : Addr × Obj, p.2.cls = .ref (He.ga K C) → (∃ vs, p.2.data = .fields vs) → FnHp P w K mg base (L2N.CX P w) p k f fd ps (spOf K (g C p.1))
theorem kin_mk {P : Program} {w : World} {K : PySem.W.Frag} {mg : Str → Option Value} {base : Heap} {x qual : Str} {params : Arguments} {body : List Stmt} {scope : Scope} {f : Addr} {fd : FuncData} {N ps tb : List Str} {k np nl : Nat} {asg : List Nat} {fb : Str → Addr → FS}
    (F : FunD K x qual params body scope [] [] f fd) (S : FnScope N ps scope) (hN : N.length = np + nl) (hp : ps.length = np) (hm : mg x = some (.ref f))
    (hbd : ∀ (kV doc pm : Value) (an : Option Addr) (cdv ct : Value) (us : List Value), us.length = ps.length → bindArgs (PySem.W.fnOf x qual params body scope .none kV doc pm an cdv ct) ⟨us, []⟩ = pure (ps.zip us))
    (hb : ∀ (C : Str), C ∈ tb → ∀ (p : Addr × Obj), p.2.cls = .ref (He.ga K C) → (∃ vs, p.2.data = .fields vs) → ∀ (cdv : Value) (A : Around) (outer : List Env) (s : Shared) (H : Hp) (Ex : XK), DHas p s.heap → HotC (cxH (L2N.CX P w) P w K mg base N qual scope f cdv A outer s H Ex p) →
      PSs (cxH (L2N.CX P w) P w K mg base N qual scope f cdv A outer s H Ex p) body (rS K (fun cls d _ H' => Ex cls d H') (pinsOf np asg) (fb C p.1))) :
    KinG P w K mg base (k + 1) x ps tb (fun C a => fnM np nl asg (fb C a)) := by
  obtain ⟨oc, od, dV, kV, doc, pm, an, cdv, ct, osl, rfl, lk, hcd, hD, hK⟩ := id F.ex
  refine ⟨f, _, hm, F.kp, F.bindsN hbd, fun C hC p hz hf => ?_⟩
  refine fn_ofHp (k := k) lk hcd S (fun vs H Q Ex h => by rw [(fn_body hN h).1, hp]) fun A outer s H vs Q E hot dh room h => ?_
  refine ⟨_, hb C hC p hz hf cdv A outer s H E dh ⟨p, ⟨hot.1, hot.2⟩, List.mem_singleton_self _⟩, (fn_body hN h).2⟩
end Ink
namespace Ink
open PySem PySem.Spec PyProof.Rows L2 L2H HotX
def kIsx (C : Str) (a : Addr) (b : Bool) (o : Option (Out Av)) : Option (Out Av) := match o with
  | some (.ok x env1) => match resA env1 x with
    | some (.fz (.exc C' a')) => if C' = C ∧ a' = a then some (.ok (.tm (.fz (.bl b))) env1) else none
    | _ => none
  | some (.ex y env1) => some (.ex y env1)
  | none => none
@[simp] theorem ev_isxE {C : Str} {a : Addr} {b : Bool} {f : FE} {env : E} : isxE C a b f env = kIsx C a b (f env) := by
  unfold isxE kIsx bindO
  cases f env with
  | none => (rfl)
  | some o => cases o with
    | ok x env1 => (rfl)
    | ex y env1 => (rfl)
@[simp] theorem kIsx_sl {C : Str} {a : Addr} {b : Bool} {i : Nat} {env1 : E} (h : env1[i]? = some (some (.fz (.exc C a)))) : kIsx C a b (some (.ok (.sl i) env1)) = some (.ok (.tm (.fz (.bl b))) env1) := by
  unfold kIsx resA
  simp [h]
end Ink
set_option Elab.async false
set_option linter.all false
set_option maxRecDepth 100000
set_option maxHeartbeats 4000000
namespace Ink
open PySem PySem.Spec PyProof.Rows L2 L2H HotX
theorem fly_keeps {B h h' : Heap} {l : List Env} {a : Addr} {Z : Obj → Prop} (k : ∀ b o, h.get? b = some o → h'.get? b = some o) (f : HandSPX.FlyingZ B l a Z h) : HandSPX.FlyingZ B l a Z h' := by
  obtain ⟨h1, h2, h3, oe, vs, T, oT, ts, g1, z, g2, g3, g4, g5, g6, g7⟩ := f
  exact ⟨fun b o e => k b o (h1 b o e), h2, Heap.FunFrames.of_keeps (fun b o e _ => ⟨o, k b o e, rfl⟩) h3, oe, vs, T, oT, ts, k _ _ g1, z, g2, g3, g4, g5, k _ _ g6, g7⟩
/-- the one clause's wish: the exception is of a class that it catches -/
def wHot (T : Value → Prop) (i : Nat) (ts : Addr → Value → Option Addr → TS) (D : Ends) : WX := fun cls d σ H =>
  T cls ∧ ∀ a, H a = none → ts a cls d { nx := fun σ' H' => D.nx (σ'.set i none) H', rt := D.rt, bk := fun σ' H' => D.bk (σ'.set i none) H', ct := fun σ' H' => D.ct (σ'.set i none) H' } (σ.set i (some (.ref a))) H
section
variable {X : Cx} {n : Str} {i : Nat} {body suite : List Stmt} {b₀ : Stmt} {t : Expr} {T : Value → Prop} {pos pos' : Pos} {tb : WX → TS} {ts : Addr → Value → Option Addr → TS}
theorem ps_try_hot (hs : X.stack = X.env :: X.outer) (hf : X.env.frame = some X.env.locals) (hN : X.N.Nodup) (hi : X.N[i]? = some n) (hln : X.env.kindOf n = some .local) (ht : ∀ cls, T cls → TestOn X t cls true)
    (body_ok : ∀ (W : WX) (pn : List (Addr × Obj)) (xe : Value → Shared → Prop), Takes (X.tr pn xe) W → PassesOwn (model X.prog X.w) X.A X.env xe → PSs (X.tr pn xe) body (tb W))
    (suite_ok : ∀ (a : Addr) (oe : Obj) (cls : Value) (d : Option Addr) (pn : List (Addr × Obj)), L2N.Zn cls d oe → (∃ vs, oe.data = .fields vs) → PSs (X.suite a ((a, oe) :: pn)) (b₀ :: suite) (ts a cls d)) :
    PS X (.Try body [.ExceptHandler (some t) (some n) (b₀ :: suite) pos'] [] [] pos) (fun D σ H => tb (wHot T i ts D) D σ H) := by
  refine ⟨fun pins s σ H D inv0 want => ?_⟩
  have okX := inv0.ok
  have frames : X.A.frames = some (X.env :: X.outer) := by rw [okX.frames, hs]
  refine wpAny_Try_except ?_
  let xe : Value → Shared → Prop := fun e s₁ => wpAny (model X.prog X.w) X.A (noteFrame e X.env) (fun _ s₂ => wpAny (model X.prog X.w) X.A (setFlight e none)
    (fun _ s₃ => wpAny (model X.prog X.w) X.A (handleBy e X.env [.ExceptHandler (some t) (some n) (b₀ :: suite) pos']) (SP X pins D) X.xe s₃) X.xe s₂) X.xe s₁
  have caught : Takes (X.tr (X.pn ++ pins) xe) (wHot T i ts D) := fun u v wish => by
    obtain ⟨ad, B, t0, pins1, τ, G, cl, dd, rfl, invA, nb, up, sky, gone, os, ag, isC, go⟩ := wish
    have inv1 : Inv X pins τ G t0 := invA.ofTry okX
    have sky1 : Sky B (X.env :: X.outer) ad (L2N.Zn cl dd) X.env.locals v.heap := by rw [← hs]; exact sky
    show wpAny (model X.prog X.w) X.A (noteFrame (.ref ad) X.env) _ _ _
    refine L2N.Sky.land L2N.Zn.steady frames hf sky1 fun g3 fly3 up3 => ?_
    have inv3 : Inv X pins τ G { v with heap := g3 } := inv1.landed nb fly3.1 (up.trans up3) os ag
    obtain ⟨obj3, fs3, at3, zc3, data3⟩ := fly3.there
    have noFrame : ad ∉ frs (X.env :: X.outer) := fun hm => by
      obtain ⟨_, o', at', free⟩ := fly3.2.2.1.mem hm
      rw [at3] at at'
      cases at'
      exact free _ data3
    have notLoc : ad ≠ X.env.locals := fun z => noFrame (List.mem_filterMap.mpr ⟨X.env, List.mem_cons_self, by rw [hf, z]⟩)
    have notFs : ad ∉ X.fs := fun hm => by
      obtain ⟨e, he, q⟩ := List.mem_filterMap.mp hm
      exact noFrame (List.mem_filterMap.mpr ⟨e, List.mem_cons_of_mem _ he, q⟩)
    have inS := inv3.suite at3 data3 gone notLoc notFs
    refine wpAny_handleBy_cons (codeAny_handlers_test ?_) (by intro q; cases q)
    have kindL : PySem.W.Looks (model X.prog X.w) g3 (typeOf (.ref ad)) cl := fun A Q E s k q => wpAny_typeOf_ref (k _ _ at3) (by rw [zc3.1]; exact q)
    refine ht cl isC ad obj3 (X.pn ++ pins) [] τ G { v with heap := g3 } _ _ inS kindL fun h' kp => ?_
    have flyK : HandSPX.FlyingZ B (X.env :: X.outer) ad (L2N.Zn cl dd) h' := fly_keeps kp fly3
    refine codeAny_handlers_suite_as ?_
    refine HandSPX.lands_againZ flyK fun g4 fly4 up4 => ?_
    have inv4 : Inv X pins τ G { v with heap := g4 } := inv1.landed nb fly4.1 (((up.trans up3).trans (Heap.UpToSlots.of_keeps kp)).trans up4) os ag
    obtain ⟨obj4, fs4, at4, zc4, data4⟩ := fly4.there
    have inS4 := inv4.suite at4 data4 gone notLoc notFs
    refine store_ok (X := X.suite ad ((ad, obj4) :: (X.pn ++ pins))) (v := .ref ad) inS4 hN hi (.inl hln) rfl (fun t5 inS5 => ?_) (.inr hln)
    refine wpAny_mono ((suite_ok ad obj4 cl dd (X.pn ++ pins) zc4 ⟨_, data4⟩).run [] t5 _ G _ inS5 (go ad gone)) (fun f t6 out => ?_) (fun _ _ z => False.elim z)
    have leave : ∀ {τ6 : L2.St} {G6 : Hp} {Q : Shared → Prop}, Inv (X.suite ad ((ad, obj4) :: (X.pn ++ pins))) [] τ6 G6 t6 → (∀ t7, Inv X pins (τ6.set i none) G6 t7 → Q t7) →
        wpAny (model X.prog X.w) X.A (do bindName X.env n .none; unbindBehindTheSuite X.env n pos') (fun _ t7 => Q t7) X.xe t6 := fun {τ6 G6 Q} in6 hq => gone_ok (in6.unsuite okX) hN hi hln hq
    cases f with
    | next =>
      obtain ⟨τ6, G6, in6, q6⟩ := out
      exact leave in6 fun t7 inv7 => ⟨_, _, inv7, q6⟩
    | brk =>
      obtain ⟨τ6, G6, in6, q6⟩ := out
      exact leave in6 fun t7 inv7 => ⟨_, _, inv7, q6⟩
    | cont =>
      obtain ⟨τ6, G6, in6, q6⟩ := out
      exact leave in6 fun t7 inv7 => ⟨_, _, inv7, q6⟩
    | ret u =>
      obtain ⟨v6, τ6, G6, in6, r6, q6⟩ := out
      exact leave in6 fun t7 inv7 => ⟨_, _, _, inv7, r6, q6⟩
  refine wpAny_mono ((body_ok (wHot T i ts D) (X.pn ++ pins) xe caught PassesOwn.looking).run [] s σ H D (inv0.toTry _) want) (fun f t1 out => ?_) (fun e t1 he => he)
  cases f with
  | next =>
    obtain ⟨τ, G, inT, q⟩ := out
    exact wpAny_execs_nil ⟨τ, G, inT.ofTry okX, q⟩
  | brk =>
    obtain ⟨τ, G, inT, q⟩ := out
    exact ⟨τ, G, inT.ofTry okX, q⟩
  | cont =>
    obtain ⟨τ, G, inT, q⟩ := out
    exact ⟨τ, G, inT.ofTry okX, q⟩
  | ret u =>
    obtain ⟨v, τ, G, inT, r, q⟩ := out
    exact ⟨v, τ, G, inT.ofTry okX, r, q⟩
end
theorem apart_sub {S S' P : List Nat} (h : ∀ i ∈ S', i ∈ S) (p : apart S P = true) : apart S' P = true := by
  unfold apart at p ⊢
  rw [List.all_eq_true] at p ⊢
  exact fun i hi => p i (h i hi)
/-- kin C: what the def tells of the class C -/
def tryKin (fb : FS) (kin : Str → Option Str) (i j : Nat) : FS := fun env => match fb env with
  | some (.ex z env1) => if i < env1.length ∧ j < env1.length then match kin z.cls with
      | some w => some (.nx ((env1.set j none).set i (some (.fz (.str w)))))
      | none => none
    else none
  | o => o
/-- a slot alone as argument -/
theorem ra_one {K : PySem.W.Frag} {W : WX} {j : Nat} {σ : L2.St} {H : Hp} {Q : List V → Hp → Prop} (p : rA K W (consA (vE j) nilA) σ H Q) : ∃ v, σ[j]? = some (some v) ∧ Q [v] H := by
  obtain ⟨F, env, fps, R, p⟩ := p
  cases e : env[j]? with
  | none => simp [consA, vE, e, bindO, poA] at p
  | some o =>
    cases o with
    | none => simp [consA, vE, e, bindO, poA] at p
    | some m =>
      have e1 : consA (vE j) nilA env = some (.ok [.sl j] env) := by simp only [consA, vE, nilA, e, bindO]
      rw [e1] at p
      obtain ⟨v, hv, _⟩ := R.got j m e
      refine ⟨v, hv, p [v] F H fps (fun _ => []) R ⟨rfl, fun k a h => ?_, fun _ _ => rfl, fun _ _ _ b hb => by cases hb⟩ (fun b ⟨_, z⟩ => by cases z) (Ext.refl fun b h => h.elim id fun ⟨_, q⟩ => by cases q)⟩
      match k, h with
      | 0, h => cases h; exact ⟨v, rfl, hv, rfl⟩
/-- the suite's mirror -/
theorem kin_env {g : FP} {C : Str} {a : Addr} {w : Str} {i j : Nat} {env : E} (hg : g [.fz (.exc C a)] = some (.ok (.fz (.str w)) [some (.fz (.exc C a))])) (hj : env[j]? = some (some (.fz (.exc C a)))) : asgS (callE g (consA (vE j) nilA)) (nmG i) env = some (.nx (env.set i (some (.fz (.str w))))) := by
  have e1 : env.set j (some (.fz (.exc C a))) = env := by
    apply List.ext_getElem?
    intro q
    by_cases z : j = q
    · subst z
      rw [hj]
      exact List.getElem?_set_self (List.getElem?_eq_some_iff.mp hj).1
    · exact List.getElem?_set_ne z
  simp only [asgS, callE, consA, nilA, vE, hj, bindO, bindS, runP, res, okA, isFz, Bool.true_or, Bool.and_true, hg, back, e1, nmG]
section
variable {X : Cx} {W : WX} {P : List Nat} {k : Nat}
theorem s_tryKin {x y wn en kx : Str} {ps tb : List Str} {g : Str → Addr → FP} {kin : Str → Option Str} {i j : Nat} {body : List Stmt} {fb : FS} {p1 p2 p3 p4 p5 p6 p7 p8 p9 p10 : Pos} {k2 : Nat} {c1 c2 : Value}
    (hs : X.stack = X.env :: X.outer) (hf : X.env.frame = some X.env.locals) (hN : X.N.Nodup) (hi : X.N[i]? = some wn) (hj : X.N[j]? = some en) (hli : X.env.kindOf wn = some .local) (hlj : X.env.kindOf en = some .local) (hgk : Gl X kx) (hr : Room k X.A)
    (G : KinG X.prog X.w X.K X.mg X.base k kx ps tb g) (h1 : Names X x c1) (h2 : Names X y c2) (hx : ∀ C ∈ tb, PySem.W.exmAny X.K (.ref (He.ga X.K C)) [c1, c2] = some true)
    (hk : ∀ C w, kin C = some w → C ∈ tb ∧ ∀ a, g C a [.fz (.exc C a)] = some (.ok (.fz (.str w)) [some (.fz (.exc C a))]))
    (hb : ∀ (W : WX) (pn : List (Addr × Obj)) (xe : Value → Shared → Prop), Takes (X.tr pn xe) W → PassesOwn (model X.prog X.w) X.A X.env xe → PSs (X.tr pn xe) body (rS X.K W P fb))
    (hp : apart [i, j] P = true := by rfl) (hij : i ≠ j := by decide) (hde : (en == ("__debug__" : Str)) = false := by decide) (hce : (en == ("__classdict__" : Str)) = false := by decide) (hdk : (kx == ("__debug__" : Str)) = false := by decide)
    (hsw : ∀ Y : Cx, Y.env = X.env → swapsWith (.Call (.Name kx p3) [.Name en p4] [] p5) (some (.Name wn p2)) p6.line Y.env = pure false := by intro _ h; rw [h]; rfl)
    (hst : ∀ Y : Cx, Y.env = X.env → starEach [.Name en p4] Y.env = (false, eval (.Name en p4) Y.env) :: starEach [] Y.env := by intro _ _; rfl) :
    PS X (.Try body [.ExceptHandler (some (.Tuple [.Name x p7, .Name y p8] k2 p9)) (some en) [.Assign [.Name wn p2] (.Call (.Name kx p3) [.Name en p4] [] p5) p6] p1] [] [] p10) (rS X.K W P (tryKin fb kin i j)) := by
  obtain ⟨f, fd, gm, keep, bd, does⟩ := G.ex
  have st := ps_try_hot (X := X) (body := body) (pos := p10) (pos' := p1) (n := en) (i := j) (suite := []) (b₀ := .Assign [.Name wn p2] (.Call (.Name kx p3) [.Name en p4] [] p5) p6) (t := .Tuple [.Name x p7, .Name y p8] k2 p9)
    (T := fun cls => ∃ C ∈ tb, cls = .ref (He.ga X.K C)) (tb := fun W => rS X.K W P fb)
    (ts := fun a' cls d D σ H => ∃ C ∈ tb, cls = .ref (He.ga X.K C) ∧ (∀ dd, d = some dd → ∃ fs, H dd = some (.xd fs)) ∧ rS X.K W0 P (asgS (callE (g C a') (consA (vE j) nilA)) (nmG i)) D σ H) hs hf hN hj hlj (fun cls ⟨C, hC, e⟩ => by rw [e]; exact test_two h1 h2 (hx C hC)) hb
    (fun a' oe cls d pn hz hff => pss_one ⟨fun pins s σ H D I ⟨C, hC, e1, e2, z⟩ => by
      subst e1
      have F := does C hC (a', oe) hz.1 hff
      obtain ⟨vs, hv⟩ := hff
      have hot : Hot1 (X.suite a' ((a', oe) :: pn)).A (a', oe) := ⟨rfl, vs, hv, hz.2.2 vs hv⟩
      have ar : PA (X.suite a' ((a', oe) :: pn)) [.Name en p4] (fun σ H Q => ∃ v, σ[j]? = some (some v) ∧ Q [v] H) :=
        PA_mono (pa_cons (pe_var hj (.inl hlj) hde hce) pa_nil (hst _ rfl)) fun σ H Q ⟨v, hv, q⟩ => ⟨v, hv, q⟩
      have call : PE (X.suite a' ((a', oe) :: pn)) (.Call (.Name kx p3) [.Name en p4] [] p5) (fun σ H Q => (∀ dd, d = some dd → ∃ fs, H dd = some (.xd fs)) ∧ rE X.K W0 (callE (g C a') (consA (vE j) nilA)) σ H Q) :=
        PE_mono (pe_callHp (X := X.suite a' ((a', oe) :: pn)) F ⟨hr.dp, hr.un⟩ hot List.mem_cons_self hgk gm keep bd ar hdk (hst _ rfl) rfl) fun σ H Q ⟨hd, q⟩ => by
          obtain ⟨v, hv, q⟩ := ra_one (r_call q)
          exact ⟨v, hv, fun dd e => hd dd (by rw [← e]; exact hz.2.1.symm), q⟩
      refine (PS.run (t := fun D σ H => (∀ dd, d = some dd → ∃ fs, H dd = some (.xd fs)) ∧ rS X.K W0 P (asgS (callE (g C a') (consA (vE j) nilA)) (nmG i)) D σ H) (PS_mono (ps_set (X := X.suite a' ((a', oe) :: pn)) hN hi (.inl hli) call (hsw _ rfl) (.inr hli)) ?_) pins s σ H D I ⟨e2, z⟩)
      exact fun D σ H ⟨e2, q⟩ => ⟨e2, rE_imp (fun v H' z => r_name (S := [i]) (by simp) v σ H' D.nx z) (r_asg (apart_sub (by simp) hp) D σ H q)⟩⟩)
  refine PS_mono st fun D σ H ⟨F, env, fps, R, po⟩ => ⟨F, env, fps, R, ?_⟩
  unfold tryKin at po
  cases ef : fb env with
  | none => rw [ef] at po; exact po
  | some o =>
    rw [ef] at po
    cases o with
    | nx e2 => exact po
    | bk e2 => exact po
    | ct e2 => exact po
    | rt mm e2 => exact po
    | ex z env1 =>
      simp only at po
      split at po
      · rename_i lij
        obtain ⟨li, lj⟩ := lij
        split at po
        · rename_i w ew
          obtain ⟨hC, hg⟩ := hk _ _ ew
          intro cls d2 σ2 F2 H2 fps2 R2 rx pn e2
          obtain ⟨rfl, rx⟩ := rx
          have hdd : ∀ dd, d2 = some dd → ∃ fs, H2 dd = some (.xd fs) := fun dd e => by
            subst e
            cases hz : z.fs with
            | none => rw [hz] at rx; exact rx.elim
            | some fs => rw [hz] at rx; obtain ⟨vs, q, _⟩ := rx; exact ⟨vs, q⟩
          · refine ⟨⟨z.cls, hC, rfl⟩, fun a' ha' => ⟨z.cls, hC, rfl, hdd, ?_⟩⟩
            have sl : env1.length = σ2.length := R2.len
            have R3 := R2.store (i := j) (v := .ref a') (m := .fz (.exc z.cls a')) (fp := []) (by rw [← sl]; exact lj) (.fz .exc) (fun b hb => by cases hb)
            refine ⟨F2, _, _, R3, ?_⟩
            rw [kin_env (hg a') (List.getElem?_set_self lj)]
            intro σ3 F3 H3 fps3 R4 pn4 e4
            have R5 := (R4.drop j).change (σ' := σ3.set j none) (by simp) (fun k mm hk => by
              by_cases e : k = j
              · subst e
                rw [List.getElem?_set_self (by simpa using lj)] at hk; cases hk
              · exact List.getElem?_set_ne (fun z => e z.symm))
            have ee : ((env1.set j (some (M.fz (.exc z.cls a')))).set i (some (.fz (.str w)))).set j none = (env1.set j none).set i (some (.fz (.str w))) := by
              rw [List.set_comm _ _ hij, List.set_set]
            rw [ee] at R5
            refine po _ _ _ _ R5 ?_ ?_
            · refine (pn.trans (Chg.pin (S := [j]) ⟨by simp, fun k hk => ?_⟩ (apart_sub (by simp) hp))).trans (pn4.trans (Chg.pin (S := [j]) ⟨by simp, fun k hk => ?_⟩ (apart_sub (by simp) hp)))
              · exact List.getElem?_set_ne (fun z => by simp [z] at hk)
              · exact List.getElem?_set_ne (fun z => by simp [z] at hk)
            · refine e2.trans e4 (fun b ⟨k, hb⟩ => ?_) fun b ⟨k, hb⟩ => .inl ?_
              · by_cases e : k = j
                · simp only [if_pos e] at hb; cases hb
                · simp only [if_neg e] at hb; exact ⟨k, hb⟩
              · by_cases e : k = j
                · simp only [if_pos e] at hb; cases hb
                · simp only [if_neg e] at hb; exact ⟨k, hb⟩
        · exact po.elim
      · exact po.elim
end
end Ink
set_option Elab.async false
set_option linter.all false
set_option maxRecDepth 100000
set_option maxHeartbeats 4000000
namespace Ink
open PySem PySem.Spec PyProof.Rows L2
/-- the defs that the dict's keys tell -/
def ActT (P : Program) (w : World) (K : PySem.W.Frag) (mg : Str → Option Value) (base : Heap) (k : Nat) (tb : List (Str × He.Dv)) (fs : List (Str × FP)) : Prop :=
  ∀ p ∈ fs, ∃ y ps j, (tb.find? fun q => decide (q.1 = p.1)) = some (p.1, .glo y) ∧ mg y = some (.ref (He.ga K y)) ∧ j ≤ k ∧ Fn P w K mg base j y ps p.2
theorem act_nil {P : Program} {w : World} {K : PySem.W.Frag} {mg : Str → Option Value} {base : Heap} {k : Nat} {tb : List (Str × He.Dv)} : ActT P w K mg base k tb [] := fun p hp => by cases hp
theorem act_cons {P : Program} {w : World} {K : PySem.W.Frag} {mg : Str → Option Value} {base : Heap} {k j : Nat} {tb : List (Str × He.Dv)} {fs : List (Str × FP)} {x y : Str} {ps : List Str} {g : FP} (h : (tb.find? fun q => decide (q.1 = x)) = some (x, .glo y)) (hm : mg y = some (.ref (He.ga K y))) (hj : j ≤ k) (G : Fn P w K mg base j y ps g)
    (r : ActT P w K mg base k tb fs) : ActT P w K mg base k tb ((x, g) :: fs) := fun p hp => (List.mem_cons.mp hp).elim (fun e => by subst e; exact ⟨y, ps, j, h, hm, hj, G⟩) (r p)
def lkP : List (Str × FP) → Str → Option FP
  | [], _ => none
  | (k, g) :: r, w => if w = k then some g else lkP r w
theorem lkP_mem : ∀ {fs : List (Str × FP)} {w : Str} {g : FP}, lkP fs w = some g → (w, g) ∈ fs
  | (k, g) :: r, w, g', h => by
    rw [lkP] at h
    by_cases e : w = k
    · rw [if_pos e] at h; cases h; rw [e]; exact List.mem_cons_self
    · rw [if_neg e] at h; exact List.mem_cons_of_mem _ (lkP_mem h)
/-- T[k](..), the def kept at i for a while -/
def actS (fs : List (Str × FP)) (i : Nat) (fk : FE) (fa : FA) : FS := fun env => match tk fk env with
  | some (.ok (.tm (.fz (.str w))) env1) => match lkP fs w with
    | some g => if i < env1.length then retS (callE g fa) (env1.set i none) else none
    | none => none
  | some (.ex z env1) => some (.ex z env1)
  | _ => none
section
variable {X : Cx} {W : WX} {P : List Nat}
/-- a def held at a slot is called -/
def tCallH (K : PySem.W.Frag) (R : Addr → FP → Prop) (W : WX) (i : Nat) (ta : TA) : TE := fun σ H Q => ∃ f g, σ[i]? = some (some (.ref f)) ∧ R f g ∧ ta σ H fun vs H1 => spOf K g vs H1 Q (fun c d H' => W c d σ H')
def HeldAt (X : Cx) (k : Nat) (f : Addr) (g : FP) : Prop := ∃ fd ps, FnOk X.prog X.w X.K X.mg X.base (L2N.CX X.prog X.w) k f fd ps (spOf X.K g) ∧ PySem.W.keepIn X.K (.ref f) = true ∧ Binds X.K fd ps []
theorem pe_callH' {k i : Nat} {x : Str} {e : Expr} {es : List Expr} {p pos : Pos} {ta : TA} (hr : Room k X.A) (t : Takes X W) (hN : X.N[i]? = some x) (hv : Vis X.env.scope x) (ar : PA X (e :: es) ta) (nd : (x == ("__debug__" : Str)) = false := by decide) (nc : (x == ("__classdict__" : Str)) = false := by decide)
    (st : starEach (e :: es) X.env = (false, eval e X.env) :: starEach es X.env := by rfl) (pl : (backTo pos (starEach es X.env)).any (·.1) = false := by rfl) : PE X (.Call (.Name x p) (e :: es) [] pos) (tCallH X.K (HeldAt X k) W i ta) := by
  refine ⟨fun pins s σ H Q I ⟨f, g, at1, ⟨fd, ps, F, keep, bd⟩, want⟩ => ?_⟩
  refine wpAny_Call_Name_kw (thn ((pe_var (pos := p) hN hv nd nc).run pins s σ H (fun v H1 => v = .ref f ∧ H1 = H) I ⟨.ref f, at1, rfl, rfl⟩) fun u s1 ⟨v, H1, I1, r1, q1⟩ => ?_)
  obtain ⟨rfl, rfl⟩ := q1
  cases r1
  refine PySem.W.callWith_K (h₀ := X.base) I.ok.mod.kin keep (thn (ar.run pos pins s1 σ _ _ I1 want) fun us s2 ⟨vs, H2, I2, rel, w2⟩ => ⟨I2.kIn, ?_⟩) st pl
  exact run_fnS F hr bd (passAt t σ) I2 rel w2
theorem s_act {k i : Nat} {x an : Str} {tb : List (Str × He.Dv)} {fs : List (Str × FP)} {ek e : Expr} {es : List Expr} {fk : FE} {fa : FA} {p1 p2 p3 p4 p5 p6 p7 : Pos} (T : GD X.K X.w X.mg x tb) (hg : Gl X x) (A : ActT X.prog X.w X.K X.mg X.base k tb fs) (hr : Room k X.A) (t : Takes X W)
    (hN : X.N.Nodup) (hi : X.N[i]? = some an) (hl : X.env.scope.names.lookup an = some .local) (hk : PE X ek (rE X.K W fk)) (ha : PA X (e :: es) (rA X.K W fa)) (hp : apart [i] P = true := by rfl) (hs : PlainIx ek := by exact fun _ _ => rfl) (hd : (x == ("__debug__" : Str)) = false := by decide)
    (nd : (an == ("__debug__" : Str)) = false := by decide) (nc : (an == ("__classdict__" : Str)) = false := by decide) (st : starEach (e :: es) X.env = (false, eval e X.env) :: starEach es X.env := by rfl) (pl : (backTo p6 (starEach es X.env)).any (·.1) = false := by rfl)
    (hsw : swapsWith (.Subscript (.Name x p1) ek p2) (some (.Name an p3)) p4.line X.env = pure false := by rfl) :
    PSs X [.Assign [.Name an p3] (.Subscript (.Name x p1) ek p2) p4, .Return (some (.Call (.Name an p5) (e :: es) [] p6)) p7] (rS X.K W P (actS fs i fk fa)) := by
  refine PSs_mono (pss_cons (ps_set (i := i) hN hi (.inl hl) (pe_ix (ix_GD T) (pe_glob (v := .ref (He.ga X.K x)) hg T.g rfl hd) (e_tk hk) hs) hsw (.inr hl)) (pss_one (ps_ret (pe_callH' (k := k) (i := i) hr t hi (.inl hl) ha nd nc st pl)))) fun D σ H ⟨F, env, fps, R, po⟩ => ?_
  show rE X.K W (tk fk) σ H _
  refine ⟨F, env, fps, R, ?_⟩
  unfold actS at po
  cases ef : tk fk env with
  | none => rw [ef] at po; exact po
  | some o =>
    rw [ef] at po
    cases o with
    | ex y env1 => exact PXS.px po
    | ok a env1 =>
      cases a with
      | sl j => exact po.elim
      | tm m =>
        intro v F1 H1 fps1 fp R1 r dj e1
        cases r with
        | fz rd =>
          cases rd with
          | str w =>
            simp only at po
            cases el : lkP fs w with
            | none => rw [el] at po; exact po.elim
            | some g =>
              rw [el] at po
              simp only at po
              split at po
              · rename_i li
                obtain ⟨y, ps, j, h1, h2, hj, ⟨f, fd, F0, h3, h4, h5⟩⟩ := A _ (lkP_mem el)
                have ey : f = He.ga X.K y := by rw [h2] at h3; exact (Value.ref.inj (Option.some.inj h3)).symm
                subst ey
                refine ⟨w, _, rfl, rfl, h1, ?_⟩
                have lσ : i < σ.length := by rw [← R1.len]; exact li
                have R2 : REnv X.K F1 H1 (σ.set i (some (.ref (He.ga X.K y)))) (env1.set i none) (fun q => if q = i then [] else fps1 q) := (R1.drop i).change (by simp) (fun q mm hq => by
                  by_cases e : q = i
                  · subst e
                    rw [List.getElem?_set_self li] at hq; cases hq
                  · exact List.getElem?_set_ne (fun z => e z.symm))
                have po2 := poS.wide (σ1 := σ.set i (some (.ref (He.ga X.K y)))) (B := Own (fun q => if q = i then [] else fps1 q)) po (Chg.pin (S := [i]) ⟨by simp, fun q hq => by
                  have z : i ≠ q := fun z => by simp [z] at hq
                  exact List.getElem?_set_ne z⟩ hp) e1 (fun b ⟨q, hb⟩ => .inl (by
                  by_cases e : q = i
                  · simp only [if_pos e] at hb; cases hb
                  · simp only [if_neg e] at hb; exact ⟨q, hb⟩))
                have po3 : rE X.K W (callE g fa) (σ.set i (some (.ref (He.ga X.K y)))) H1 D.rt := by
                  refine ⟨F1, _, _, R2, ?_⟩
                  unfold retS at po2
                  cases ec : callE g fa (env1.set i none) with
                  | none => rw [ec] at po2; exact po2
                  | some o =>
                    rw [ec] at po2
                    cases o with
                    | ex x env2 => exact PXS.px po2
                    | ok a env2 =>
                      cases a with
                      | sl q => exact po2.elim
                      | tm m => exact fun v F2 H2 fps2 fp R2 r d e2 => po2 v _ F2 H2 fps2 fp R2 r d .refl e2
                exact ⟨_, g, List.getElem?_set_self lσ, ⟨fd, ps, F0.mono hj, h4, h5⟩, r_call po3⟩
              · exact po.elim
          | _ => exact po.elim
        | _ => exact po.elim
end
def ExcL (K : PySem.W.Frag) (x : Str) : Prop := PySem.W.excIn K (He.ga K x) leBase "LookupError.__new__" = true ∧ PySem.W.keepIn K (.ref (He.ga K x)) = true ∧ PySem.W.subIn K (.ref (He.ga K x)) (.type "BaseException") = some true ∧ PySem.W.typeIn K (.ref (He.ga K x)) = some (.type "type")
theorem excLB_ok {K : PySem.W.Frag} {x : Str} (h : excLB K x = true) : ExcL K x := by
  unfold excLB at h
  simp only [Bool.and_eq_true, decide_eq_true_eq] at h
  exact h
theorem s_raiseL {X : Cx} {W : WX} {P : List Nat} {x m : Str} {j : Nat} {p p2 pos rpos : Pos} (hc : X.calm = true) (tk : Takes X W) (hm : X.mg x = some (.ref (He.ga X.K x))) (hx : ExcL X.K x) (hg : Gl X x) (hdb : (x == ("__debug__" : Str)) = false := by decide) :
    PS X (.Raise (some (.Call (.Name x p) [.Constant (.str m) j p2] [] pos)) none rpos) (rS X.K W P (raiseS x)) :=
  PS_mono (L2N.ps_raise hc tk (L2N.pmk_own PySem.F.excBase_LookupError hx.1 hm hx.2.1 (raises_own hx.2.2.1 hx.2.2.2) hg hdb)) fun D σ H ⟨F, env, fps, R, p⟩ => p (.ref (He.ga X.K x)) none σ F H fps R ⟨rfl, trivial⟩ .refl (Ext.refl fun _ h => h)
theorem excCB_ok {K : PySem.W.Frag} {x : Str} (h : excCB K x = true) : ExcC K (He.ga K x) := by
  unfold excCB at h
  simp only [Bool.and_eq_true, decide_eq_true_eq] at h
  obtain ⟨h1, h2, h3, h4, h5, h6, h7, h8⟩ := h
  exact ⟨h1, h2, h3, h4, h5, h6, h7, h8⟩
structure KinK (K : PySem.W.Frag) (xs ys : List Str) (r : Str → Str → Bool) (y1 y2 : Str) : Prop where
  c : ∀ x ∈ xs, ExcC K (He.ga K x)
  k : ∀ x ∈ xs, ∀ y ∈ ys, PySem.W.kitOne K (.ref (He.ga K x)) (.ref (He.ga K y)) = some (r x y)
  m : ∀ x ∈ xs, PySem.W.exmAny K (.ref (He.ga K x)) [.ref (He.ga K y1), .ref (He.ga K y2)] = some true
theorem kinB_ok {K : PySem.W.Frag} {xs ys : List Str} {r : Str → Str → Bool} {y1 y2 : Str} (h : kinB K xs ys r y1 y2 = true) : KinK K xs ys r y1 y2 := by
  unfold kinB at h
  have z := fun x hx => List.all_eq_true.mp h x hx
  simp only [Bool.and_eq_true, decide_eq_true_eq, List.all_eq_true] at z
  exact ⟨fun x hx => excCB_ok (z x hx).1, fun x hx y hy => (z x hx).2.1 y hy, fun x hx => (z x hx).2.2⟩
def newD : D := .tup [.emp, .emp, .emp, .int 1, .int 1, .non]
theorem emptyTB_ok {K : PySem.W.Frag} {u : Value} (h : emptyTB K u = true) : ∃ p, u = .ref p ∧ ∀ F, Rep K F (.ref p) .emp := by
  unfold emptyTB at h
  split at h
  · rename_i p
    split at h
    · rename_i o ho
      simp only [Bool.and_eq_true, decide_eq_true_eq] at h
      obtain ⟨h1, h2⟩ := h
      split at h2
      · rename_i its n hd
        have e : its = #[] := Array.isEmpty_iff.mp h2
        subst e
        exact ⟨p, rfl, fun F => .emp (.inr ⟨o, #[], n, ho, h1, hd, Nat.zero_le _, .nil⟩)⟩
      · cases h2
    · cases h
  · cases h
theorem newB_ok {K : PySem.W.Frag} {x : Str} (h : newB K x = true) : ∀ F, Rep K F (.ref (He.ga K x)) newD := by
  unfold newB at h
  split at h
  · rename_i o ho
    simp only [Bool.and_eq_true, decide_eq_true_eq] at h
    obtain ⟨h1, h⟩ := h
    split at h
    · rename_i its n hd
      split at h
      · rename_i a b c i t j t' hl
        simp only [Bool.and_eq_true, decide_eq_true_eq] at h
        obtain ⟨ha, hb, hc, rfl, rfl⟩ := h
        obtain ⟨pa, rfl, ra⟩ := emptyTB_ok ha
        obtain ⟨pb, rfl, rb⟩ := emptyTB_ok hb
        obtain ⟨pc, rfl, rc⟩ := emptyTB_ok hc
        intro F
        refine .tupR (vs := [.ref pa, .ref pb, .ref pc, .int 1, .int 1, .non]) (.inr ⟨.inr ⟨o, its, n, ho, h1, hd, ?_, ?_⟩, rfl⟩) (.cons (ra F) (.cons (rb F) (.cons (rc F) (.cons (.int 1) (.cons (.int 1) (.cons .non .nil))))))
        · have e : its.size = its.toList.length := by simp
          rw [e, hl, sizeLine_eq]
          simp
        · rw [hl]
          exact .cons rfl (.cons rfl (.cons rfl (.cons ⟨_, rfl⟩ (.cons ⟨_, rfl⟩ (.cons rfl .nil)))))
      · cases h
    · cases h
  · cases h
theorem e_new {X : Cx} {W : WX} {x : Str} {pos : Pos} (hg : Gl X x) (hm : X.mg x = some (.ref (He.ga X.K x))) (h : ∀ F, Rep X.K F (.ref (He.ga X.K x)) newD) (hd : (x == ("__debug__" : Str)) = false := by decide) : PE X (.Name x pos) (rE X.K W (cE newD)) :=
  PE_mono (pe_glob (v := .ref (He.ga X.K x)) hg hm rfl hd) (rE_c h)
end Ink
set_option Elab.async false
set_option linter.all false
set_option maxRecDepth 100000
set_option maxHeartbeats 4000000
namespace Ink
open PySem PySem.Spec PyProof.Rows L2
def lenOE (C : Str) (g : FP) (fo : FE) : FE := fun env => match methE C "__len__" g fo nilA env with
  | some (.ok (.tm (.fz (.int n))) env1) => if 0 ≤ n ∧ n < 2 ^ 63 then some (.ok (.tm (.fz (.int n))) env1) else none
  | some (.ex y env1) => some (.ex y env1)
  | _ => none
section
variable {X : Cx} {W : WX}
theorem r_lenO {K : PySem.W.Frag} {σ : L2.St} {H : Hp} {C : Str} {g : FP} {fo : FE} {Q : VK} (p : rE K W (lenOE C g fo) σ H Q) : rE K W (methE C "__len__" g fo nilA) σ H fun v H1 => ∃ n : Int, v = .int n ∧ 0 ≤ n ∧ n < 2 ^ 63 ∧ Q (.int n) H1 := by
  obtain ⟨F, env, fps, R, po⟩ := p
  refine ⟨F, env, fps, R, ?_⟩
  unfold lenOE at po
  cases ef : methE C "__len__" g fo nilA env with
  | none => rw [ef] at po; exact po
  | some o =>
    rw [ef] at po
    cases o with
    | ex y env1 => exact po
    | ok a env1 =>
      split at po
      · rename_i n env2 e
        cases e
        split at po
        · rename_i hn
          intro v F1 H1 fps1 fp R1 r d e1
          cases r with
          | fz rd =>
            cases rd
            exact ⟨n, rfl, hn.1, hn.2, po _ F1 H1 fps1 [] R1 (.fz (.int n)) Own.not_nil e1⟩
        · exact po.elim
      · rename_i e; cases e
      · exact po.elim
theorem e_lenO {k : Nat} {C : Str} {ps : List Str} {g : FP} {o : Expr} {fo : FE} {p pos : Pos} (G : MtI X.prog X.w X.K X.mg X.base k C "__len__" ps [] g) (hr : Room (k + 1) X.A) (t : Takes X W) (hg : Gl X "len") (hmn : X.mg "len" = none) (ho : PE X o (rE X.K W fo))
    (hs : starEach [o] X.env = (false, eval o X.env) :: starEach [] X.env := by rfl) (hpl : (backTo pos (starEach [] X.env)).any (·.1) = false := by rfl) : PE X (.Call (.Name "len" p) [o] [] pos) (rE X.K W (lenOE C g fo)) := by
  obtain ⟨f, fd, F, hm, hj⟩ := G.ex
  obtain ⟨us0, hv0, hb0⟩ := hj 0 (Nat.zero_le _)
  have hv0 : Vals ([] : List V) us0 := by simpa using hv0
  cases hv0
  refine ⟨fun pins s σ H Q I want => ?_⟩
  have want := r_meth (r_lenO want)
  refine wpAny_Call_Name_kw (ld_blt (u := .builtin "len") I hg hmn (by decide +kernel) ?_ (by decide) (by decide))
  have ar : tCons (rE X.K W fo) tNil σ H (fun vs H2 => ∃ x, vs = [x] ∧ ∃ a dx fs, x = .ref a ∧ H2 a = some (.ins (He.ga X.K C) dx fs) ∧ spOf X.K g [x] H2 (fun v H1 => ∃ n : Int, v = .int n ∧ 0 ≤ n ∧ n < 2 ^ 63 ∧ Q (.int n) H1) (fun c d H' => W c d σ H')) :=
    rE_imp (fun x H1 ⟨a, dx, fs, e1, e2, e3, z⟩ => ⟨x, rfl, a, dx, fs, e1, e2, ra_nil z⟩) want
  refine PyProof.Rows.callWith_builtin1 (thn ((pa_cons ho pa_nil hs).run pos pins s σ H _ I ar) fun us s1 ⟨vs, H1, I1, r1, x, ev, a, dx, fs, ex, ea, w1⟩ => ?_) hs hpl
  · subst ev ex
    cases r1 with
    | cons rx rr =>
      cases rr
      cases rx
      obtain ⟨mA, J, _⟩ := ins_get I1.hok ea
      obtain ⟨od, J, _⟩ := J.look
      obtain ⟨m, hF⟩ := I1.fr
      refine PySem.W.len_K hF I1.ok.mod.kin J hm.at_ hm.fn ?_
      have e0 : Env0 X.prog X.w X.K X.mg X.base X.A.in1 X.stack s1 H1 := by
        have e := I1.env0
        exact ⟨e.frames, e.mod, e.bs, e.bsz, e.funs, e.frf, e.hok, e.bare⟩
      have hl := F.len _ _ _ _ w1
      have b1 := hb0 s1 [.ref a] I1.kIn (by simpa using hl)
      have r2 : Vals [V.ref a] [Value.ref a] := .cons rfl .nil
      refine wpAny_call (codeAny_mono (F.run X.A.in1 X.stack s1 H1 ⟨[.ref a], []⟩ [.ref a] [.ref a] _ _ hr.in1 e0 (by simpa using b1) r2 w1) fun r s' out => ?_)
      cases r with
      | error e => exact passAt t σ pins H1 s1 e s' I1 out
      | ok fl =>
        cases fl with
        | ret u =>
          obtain ⟨v, H2, I2, rv, n, ev, h0, h1, q⟩ := I1.after out
          subst ev
          obtain ⟨tk, rfl⟩ := rv
          exact ⟨⟨h0, h1⟩, .int n, H2, I2.tok _, ⟨_, rfl⟩, q⟩
        | next => exact False.elim out
        | brk => exact False.elim out
        | cont => exact False.elim out
end
end Ink
set_option Elab.async false
set_option linter.all false
set_option maxRecDepth 100000
set_option maxHeartbeats 0
namespace Lw
section
open PySem L2 Ink
def b_law_kin (C : Str) (a : PySem.Addr) : FS := (seqS (asgS (lstE (consA (tupE (consA (cE (.str "BadName")) (consA (isxE C a (kinR C "BadName") (vE 0)) nilA))) (consA (tupE (consA (cE (.str "Taken")) (consA (isxE C a (kinR C "Taken") (vE 0)) nilA))) (consA (tupE (consA (cE (.str "Full")) (consA (isxE C a (kinR C "Full") (vE 0)) nilA))) nilA)))) (nmG 1))
  (seqS (asgS (callE addG (arg2 (vE 1) (lstE (consA (tupE (consA (cE (.str "Tied")) (consA (isxE C a (kinR C "Tied") (vE 0)) nilA))) (consA (tupE (consA (cE (.str "BadLeast")) (consA (isxE C a (kinR C "BadLeast") (vE 0)) nilA))) nilA))))) (nmG 1))
  (seqS (asgS (callE addG (arg2 (vE 1) (lstE (consA (tupE (consA (cE (.str "BadWeight")) (consA (isxE C a (kinR C "BadWeight") (vE 0)) nilA))) (consA (tupE (consA (cE (.str "Same")) (consA (isxE C a (kinR C "Same") (vE 0)) nilA))) nilA))))) (nmG 1))
  (seqS (asgS (callE addG (arg2 (vE 1) (lstE (consA (tupE (consA (cE (.str "BadDeed")) (consA (isxE C a (kinR C "BadDeed") (vE 0)) nilA))) (consA (tupE (consA (cE (.str "Clash")) (consA (isxE C a (kinR C "Clash") (vE 0)) nilA))) nilA))))) (nmG 1))
  (seqS (asgS (callE addG (arg2 (vE 1) (lstE (consA (tupE (consA (cE (.str "NoBox")) (consA (isxE C a (kinR C "NoBox") (vE 0)) nilA))) (consA (tupE (consA (cE (.str "NoArrow")) (consA (isxE C a (kinR C "NoArrow") (vE 0)) nilA))) nilA))))) (nmG 1))
  (seqS (exprS (bmE .lst appG (vE 1) (arg1 (tk (tupE (consA (cE (.str "NoSaying")) (consA (isxE C a (kinR C "NoSaying") (vE 0)) nilA)))))))
  (retS (bmE .str joinG (cE (.str " ")) (arg1 (compE (overE itemsL (vE 1)) (tupG [(nmG 2), (nmG 3)]) (tst (vE 3)) (tk (vE 2)) [2, 3]))))))))))
def m_law_kin (C : Str) (a : PySem.Addr) : FP := fnM 1 3 [] (b_law_kin C a)
def kin_law_kin (C : Str) : Option Str := if C ∈ [("BadDeed" : Str), ("BadLeast" : Str), ("BadName" : Str), ("BadWeight" : Str), ("Full" : Str), ("Same" : Str), ("Taken" : Str), ("Tied" : Str), ("NoArrow" : Str), ("NoBox" : Str), ("NoSaying" : Str)] then some C else none
def T_numbered_1 : FT := (tst (callE (g2 eqM) (arg2 (callE ixF (arg2 (vE 3) (cE (.int 0)))) (vE 1))))
def b_numbered : FS := (retS (compE (overE (itemsE 0) (vE 0)) (tupG [(nmG 2), (nmG 3)]) T_numbered_1 (tk (vE 2)) [2, 3]))
def m_numbered : FP := fnM 2 2 [] b_numbered
def b_Board___init__ : FS := (seqS (setFS "Board" "now" (tk (cE newD)) (vE 0))
  (seqS (setFS "Board" "past" (tk (lstE nilA)) (vE 0))
  (setFS "Board" "later" (tk (lstE nilA)) (vE 0))))
def m_Board___init__ : FP := fnM 1 0 [] b_Board___init__
def b_Board___len__ : FS := (retS (callE lenG (arg1 (callE ixF (arg2 (fldE "Board" "now" (vE 0)) (cE (.int 0)))))))
def m_Board___len__ : FP := fnM 1 0 [] b_Board___len__
def b_Board_keep : FS := (seqS (exprS (partE .lst 0 (flC "Board" "past" 0) appG (arg1 (tk (tupE (consA (tk (vE 1)) (consA (fldE "Board" "now" (vE 0)) nilA)))))))
  (seqS (setFS "Board" "later" (tk (lstE nilA)) (vE 0))
  (setFS "Board" "now" (tk (vE 2)) (vE 0))))
def m_Board_keep : FP := fnM 3 0 [] b_Board_keep
def L_Board_need_boxes_1 : FS := (ifS (tst (callE (g2 (inF true)) (arg2 (vE 2) (callE ixF (arg2 (fldE "Board" "now" (vE 0)) (cE (.int 0))))))) (raiseS "NoBox") skipS)
def b_Board_need_boxes : FS := (forS (overE itemsA (vE 1)) (nmG 2) L_Board_need_boxes_1)
def m_Board_need_boxes : FP := fnM 2 1 [] b_Board_need_boxes
def b_Board_deeds : FS := (retS (pureE (compE (overE itemsA (fldE "Board" "past" (vE 0))) (tupG [(nmG 1), (nmG 2)]) yesT (tk (vE 1)) [1, 2])))
def m_Board_deeds : FP := fnM 1 2 [] b_Board_deeds
def K_web_of_1 : FE := (tupE (consA (callE ixF (arg2 (vE 1) (vE 7))) (consA (callE ixF (arg2 (vE 1) (vE 8))) (consA (tk (vE 9)) nilA))))
def K_web_of_2 : FE := (tupE (consA (callE ixF (arg2 (vE 1) (vE 7))) (consA (callE ixF (arg2 (vE 1) (vE 8))) (consA (tk (vE 9)) (consA (tk (vE 10)) nilA)))))
def b_web_of : FS := (seqS (asgS (callE (g1 dictM) (arg1 (compE (overE (itemsE 0) (callE ixF (arg2 (vE 0) (cE (.int 0))))) (tupG [(nmG 4), (nmG 5)]) yesT (tupE (consA (tk (vE 5)) (consA (tk (vE 4)) nilA))) [4, 5]))) (nmG 1))
  (seqS (asgS (compE (overE itemsA (callE ixF (arg2 (vE 0) (cE (.int 1))))) (tupG [(nmG 6), (nmG 7), (nmG 8), (nmG 9), (nmG 10)]) yesT K_web_of_2 [6, 7, 8, 9, 10]) (nmG 2))
  (seqS (asgS (compE (overE itemsA (callE ixF (arg2 (vE 0) (cE (.int 2))))) (tupG [(nmG 6), (nmG 7), (nmG 8), (nmG 9)]) yesT K_web_of_1 [6, 7, 8, 9]) (nmG 3))
  (retS (tupE (consA (callE ixF (arg2 (vE 0) (cE (.int 0)))) (consA (callE (g1 tupleM) (arg1 (vE 2))) (consA (callE (g1 tupleM) (arg1 (vE 3))) nilA))))))))
def m_web_of : FP := fnM 1 10 [] b_web_of
def b_Board_box : FS := (seqS (asgS (callE ixF (arg2 (fldE "Board" "now" (vE 0)) (cE (.int 0)))) (nmG 2))
  (seqS (ifS (notT (tst (callE m_is_name (consA (vE 1) nilA)))) (raiseS "BadName") skipS)
  (seqS (ifS (tst (callE (g2 (inF false)) (arg2 (vE 1) (vE 2)))) (raiseS "Taken") skipS)
  (seqS (ifS (tst (callE geG (arg2 (callE lenG (arg1 (vE 2))) (cE (.int 40))))) (raiseS "Full") skipS)
  (exprS (methE "Board" "keep" m_Board_keep (vE 0) (consA (tupE (consA (cE (.str "box")) (consA (tk (vE 1)) nilA))) (consA (callE addG (arg2 (tupE (consA (callE addG (arg2 (vE 2) (tupE (consA (tk (vE 1)) nilA)))) nilA)) (callE sl10 (arg2 (fldE "Board" "now" (vE 0)) (cE (.int 1)))))) nilA))))))))
def m_Board_box : FP := fnM 2 1 [] b_Board_box
def b_Board_need_arrow : FS := (seqS (asgS (callE m_numbered (consA (callE ixF (arg2 (fldE "Board" "now" (vE 0)) (cE (.int 1)))) (consA (vE 1) nilA))) (nmG 2))
  (seqS (ifS (tst (callE (g2 eqM) (arg2 (vE 2) (lstE nilA)))) (raiseS "NoArrow") skipS)
  (retS (callE ixF (arg2 (vE 2) (cE (.int 0)))))))
def m_Board_need_arrow : FP := fnM 2 1 [] b_Board_need_arrow
def b_Board_say : FS := (seqS (asgS (fldE "Board" "now" (vE 0)) (tupG [(nmG 4), (nmG 5), (nmG 6), (nmG 7), (nmG 8), (nmG 9)]))
  (seqS (exprS (methE "Board" "need_boxes" m_Board_need_boxes (vE 0) (consA (lstE (consA (tk (vE 1)) (consA (tk (vE 2)) nilA))) nilA)))
  (seqS (ifS (tst (callE (g2 eqM) (arg2 (vE 1) (vE 2)))) (raiseS "Same") skipS)
  (seqS (ifS (notT (tst (callE m_is_far (consA (vE 3) nilA)))) (raiseS "BadLeast") skipS)
  (seqS (ifS (tst (callE geG (arg2 (callE lenG (arg1 (vE 6))) (cE (.int 20))))) (raiseS "Full") skipS)
  (seqS (asgS (tupE (consA (tk (vE 8)) (consA (tk (vE 1)) (consA (tk (vE 2)) (consA (tk (vE 3)) nilA))))) (nmG 10))
  (seqS (exprS (methE "Board" "keep" m_Board_keep (vE 0) (consA (tupE (consA (cE (.str "say")) (consA (tk (vE 1)) (consA (tk (vE 2)) (consA (tk (vE 3)) nilA))))) (consA (tupE (consA (tk (vE 4)) (consA (tk (vE 5)) (consA (callE addG (arg2 (vE 6) (tupE (consA (tk (vE 10)) nilA)))) (consA (tk (vE 7)) (consA (callE addG (arg2 (vE 8) (cE (.int 1)))) (consA (tk (vE 9)) nilA))))))) nilA))))
  (retV 8))))))))
def m_Board_say : FP := fnM 4 7 [] b_Board_say
def b_Board_unsay : FS := (seqS (asgS (callE m_numbered (consA (callE ixF (arg2 (fldE "Board" "now" (vE 0)) (cE (.int 2)))) (consA (vE 1) nilA))) (nmG 2))
  (seqS (ifS (tst (callE (g2 eqM) (arg2 (vE 2) (lstE nilA)))) (raiseS "NoSaying") skipS)
  (seqS (asgS (callE ixF (arg2 (fldE "Board" "now" (vE 0)) (cE (.int 2)))) (nmG 3))
  (exprS (methE "Board" "keep" m_Board_keep (vE 0) (consA (tupE (consA (cE (.str "unsay")) (consA (tk (vE 1)) nilA))) (consA (callE addG (arg2 (callE addG (arg2 (callE sl01 (arg2 (fldE "Board" "now" (vE 0)) (cE (.int 2)))) (tupE (consA (callE addG (arg2 (callE sl01 (arg2 (vE 3) (callE ixF (arg2 (vE 2) (cE (.int 0)))))) (callE sl10 (arg2 (vE 3) (callE addG (arg2 (callE ixF (arg2 (vE 2) (cE (.int 0)))) (cE (.int 1)))))))) nilA)))) (callE sl10 (arg2 (fldE "Board" "now" (vE 0)) (cE (.int 3)))))) nilA)))))))
def m_Board_unsay : FP := fnM 2 2 [] b_Board_unsay
def b_Board_web : FS := (retS (callE m_web_of (consA (fldE "Board" "now" (vE 0)) nilA)))
def m_Board_web : FP := fnM 1 0 [] b_Board_web
def b_need_sizes : FS := (seqS (ifS (notT (tst (callE m_is_least (consA (vE 0) nilA)))) (raiseS "BadLeast") skipS)
  (ifS (notT (tst (callE m_is_weight (consA (vE 1) nilA)))) (raiseS "BadWeight") skipS))
def m_need_sizes : FP := fnM 2 0 [] b_need_sizes
def b_Board_arrow : FS := (seqS (asgS (fldE "Board" "now" (vE 0)) (tupG [(nmG 5), (nmG 6), (nmG 7), (nmG 8), (nmG 9), (nmG 10)]))
  (seqS (exprS (methE "Board" "need_boxes" m_Board_need_boxes (vE 0) (consA (lstE (consA (tk (vE 1)) (consA (tk (vE 2)) nilA))) nilA)))
  (seqS (exprS (callE m_need_sizes (consA (vE 3) (consA (vE 4) nilA))))
  (seqS (ifS (tst (callE geG (arg2 (callE lenG (arg1 (vE 6))) (cE (.int 80))))) (raiseS "Full") skipS)
  (seqS (asgS (tupE (consA (tk (vE 8)) (consA (tk (vE 1)) (consA (tk (vE 2)) (consA (tk (vE 3)) (consA (tk (vE 4)) nilA)))))) (nmG 11))
  (seqS (exprS (methE "Board" "keep" m_Board_keep (vE 0) (consA (tupE (consA (cE (.str "arrow")) (consA (tk (vE 1)) (consA (tk (vE 2)) (consA (tk (vE 3)) (consA (tk (vE 4)) nilA)))))) (consA (tupE (consA (tk (vE 5)) (consA (callE addG (arg2 (vE 6) (tupE (consA (tk (vE 11)) nilA)))) (consA (tk (vE 7)) (consA (callE addG (arg2 (vE 8) (cE (.int 1)))) (consA (tk (vE 9)) (consA (tk (vE 10)) nilA))))))) nilA))))
  (retV 8)))))))
def m_Board_arrow : FP := fnM 5 7 [] b_Board_arrow
def b_Board_cut : FS := (seqS (asgS (methE "Board" "need_arrow" m_Board_need_arrow (vE 0) (consA (vE 1) nilA)) (nmG 2))
  (seqS (asgS (callE ixF (arg2 (fldE "Board" "now" (vE 0)) (cE (.int 1)))) (nmG 3))
  (exprS (methE "Board" "keep" m_Board_keep (vE 0) (consA (tupE (consA (cE (.str "cut")) (consA (tk (vE 1)) nilA))) (consA (callE addG (arg2 (callE addG (arg2 (callE sl01 (arg2 (fldE "Board" "now" (vE 0)) (cE (.int 1)))) (tupE (consA (callE addG (arg2 (callE sl01 (arg2 (vE 3) (vE 2))) (callE sl10 (arg2 (vE 3) (callE addG (arg2 (vE 2) (cE (.int 1)))))))) nilA)))) (callE sl10 (arg2 (fldE "Board" "now" (vE 0)) (cE (.int 2)))))) nilA))))))
def m_Board_cut : FP := fnM 2 2 [] b_Board_cut
def b_Board_alter : FS := (seqS (asgS (methE "Board" "need_arrow" m_Board_need_arrow (vE 0) (consA (vE 1) nilA)) (nmG 4))
  (seqS (exprS (callE m_need_sizes (consA (vE 2) (consA (vE 3) nilA))))
  (seqS (asgS (callE ixF (arg2 (fldE "Board" "now" (vE 0)) (cE (.int 1)))) (nmG 5))
  (seqS (asgS (callE addG (arg2 (callE addG (arg2 (callE sl01 (arg2 (vE 5) (vE 4))) (tupE (consA (callE addG (arg2 (callE sl01 (arg2 (callE ixF (arg2 (vE 5) (vE 4))) (cE (.int 3)))) (tupE (consA (tk (vE 2)) (consA (tk (vE 3)) nilA))))) nilA)))) (callE sl10 (arg2 (vE 5) (callE addG (arg2 (vE 4) (cE (.int 1)))))))) (nmG 6))
  (exprS (methE "Board" "keep" m_Board_keep (vE 0) (consA (tupE (consA (cE (.str "alter")) (consA (tk (vE 1)) (consA (tk (vE 2)) (consA (tk (vE 3)) nilA))))) (consA (callE addG (arg2 (callE addG (arg2 (callE sl01 (arg2 (fldE "Board" "now" (vE 0)) (cE (.int 1)))) (tupE (consA (tk (vE 6)) nilA)))) (callE sl10 (arg2 (fldE "Board" "now" (vE 0)) (cE (.int 2)))))) nilA))))))))
def m_Board_alter : FP := fnM 4 3 [] b_Board_alter
def b_do_box : FS := (retS (methE "Board" "box" m_Board_box (vE 0) (consA (callE ixF (arg2 (vE 1) (cE (.int 0)))) nilA)))
def m_do_box : FP := fnM 2 0 [] b_do_box
def b_do_say : FS := (retS (methE "Board" "say" m_Board_say (vE 0) (consA (callE ixF (arg2 (vE 1) (cE (.int 0)))) (consA (callE ixF (arg2 (vE 1) (cE (.int 1)))) (intsA [] (kwsA [(callE ixF (arg2 (vE 1) (cE (.int 2))))] (intsA [] nilA)))))))
def m_do_say : FP := fnM 2 0 [] b_do_say
def b_do_arrow : FS := (retS (methE "Board" "arrow" m_Board_arrow (vE 0) (consA (callE ixF (arg2 (vE 1) (cE (.int 0)))) (consA (callE ixF (arg2 (vE 1) (cE (.int 1)))) (intsA [] (kwsA [(callE ixF (arg2 (vE 1) (cE (.int 2)))), (callE ixF (arg2 (vE 1) (cE (.int 3))))] (intsA [] nilA)))))))
def m_do_arrow : FP := fnM 2 0 [] b_do_arrow
def L_law_crammed_1 : FS := (seqS (asgS (callE m_law_pull (consA (vE 0) (consA (cE (.int 39)) nilA))) (nmG 8))
  (seqS (asgS (ifE (tst (callE (g2 eqM) (arg2 (callE modG (arg2 (vE 4) (cE (.int 2)))) (cE (.int 0))))) (methE "Board" "say" m_Board_say (vE 1) (consA (callE ixF (arg2 (vE 2) (vE 8))) (consA (callE ixF (arg2 (vE 2) (callE addG (arg2 (vE 8) (cE (.int 1)))))) (intsA [] (kwsA [(cE (.int 0))] (intsA [] nilA)))))) (methE "Board" "say" (dflI 1 m_Board_say) (vE 1) (consA (callE ixF (arg2 (vE 2) (vE 8))) (consA (callE ixF (arg2 (vE 2) (callE addG (arg2 (vE 8) (cE (.int 1)))))) nilA)))) (nmG 7))
  (ifS (notT (tst (pureE (callE (m_law_alike 6) (consA (vE 7) (consA (frE (callE addG (arg2 (vE 4) (cE (.int 1))))) nilA)))))) (retS (cE (.bl false))) skipS)))
def L_law_crammed_2 : FS := (seqS (parS 5 6 (consA (callE ixF (arg2 (vE 2) (callE m_law_pull (consA (vE 0) (consA (cE (.int 40)) nilA))))) (consA (callE ixF (arg2 (vE 2) (callE m_law_pull (consA (vE 0) (consA (cE (.int 40)) nilA))))) nilA)))
  (seqS (asgS (ifE (tst (callE (g2 eqM) (arg2 (callE modG (arg2 (vE 4) (cE (.int 2)))) (cE (.int 0))))) (methE "Board" "arrow" m_Board_arrow (vE 1) (consA (vE 5) (consA (vE 6) (intsA [1] (kwsA [(cE (.int 9))] (intsA [] nilA)))))) (methE "Board" "arrow" (dflI 1 (dflI 1 m_Board_arrow)) (vE 1) (consA (vE 5) (consA (vE 6) nilA)))) (nmG 7))
  (ifS (notT (tst (pureE (callE (m_law_alike 6) (consA (vE 7) (consA (frE (callE addG (arg2 (vE 4) (cE (.int 1))))) nilA)))))) (retS (cE (.bl false))) skipS)))
def L_law_crammed_3 : FS := (exprS (methE "Board" "box" m_Board_box (vE 1) (consA (vE 3) nilA)))
def b_law_crammed : FS := (seqS (forS (overE itemsA (vE 2)) (nmG 3) L_law_crammed_3)
  (seqS (forS (rng1 (cE (.int 80))) (nmG 4) L_law_crammed_2)
  (seqS (forS (rng1 (cE (.int 20))) (nmG 4) L_law_crammed_1)
  (retS (cE (.bl true))))))
def m_law_crammed : FP := fnM 3 6 [] b_law_crammed
def b_Board_do : FS := (seqS (ifS (orT (tst (callE (g2 eqM) (arg2 (callE lenG (arg1 (vE 1))) (cE (.int 0))))) (orT (tst (callE (g1 (inGM (ksG tb_DEEDS) true)) (arg1 (callE ixF (arg2 (vE 1) (cE (.int 0))))))) (tst (callE (g2 neM) (arg2 (callE lenG (arg1 (vE 1))) (callE addG (arg2 (callE (g1 (itGM tb_THINGS)) (arg1 (callE ixF (arg2 (vE 1) (cE (.int 0)))))) (cE (.int 1))))))))) (raiseS "BadDeed") skipS)
  (actS [("box", m_do_box), ("arrow", m_do_arrow), ("say", m_do_say)] 2 (callE ixF (arg2 (vE 1) (cE (.int 0)))) (consA (vE 0) (consA (callE sl10 (arg2 (vE 1) (cE (.int 1)))) nilA))))
def m_Board_do : FP := fnM 2 1 [] b_Board_do
def b_law_do : FS := (seqS (asgS (cE (.str "")) (nmG 2))
  (seqS (asgS (cE .non) (nmG 3))
  (seqS (tryKin (asgS (methE "Board" "do" m_Board_do (vE 0) (consA (vE 1) nilA)) (nmG 3)) kin_law_kin 2 4)
  (retS (tupE (consA (mvE 2) (consA (mvE 3) nilA)))))))
def m_law_do : FP := fnM 2 3 [] b_law_do
end
end Lw
set_option Elab.async false
set_option linter.all false
set_option maxRecDepth 100000
set_option maxHeartbeats 0
namespace Lw
section
open PySem L2 Ink PyProof.Rows
structure Txt (K : PySem.W.Frag) (mg : Str → Option Value) : Prop where
  b_LookupError : mg "LookupError" = none
  b_ValueError : mg "ValueError" = none
  b_abs : mg "abs" = none
  b_all : mg "all" = none
  b_bool : mg "bool" = none
  b_dict : mg "dict" = none
  b_enumerate : mg "enumerate" = none
  b_int : mg "int" = none
  b_isinstance : mg "isinstance" = none
  b_len : mg "len" = none
  b_list : mg "list" = none
  b_max : mg "max" = none
  b_min : mg "min" = none
  b_range : mg "range" = none
  b_set : mg "set" = none
  b_sorted : mg "sorted" = none
  b_str : mg "str" = none
  b_sum : mg "sum" = none
  b_tuple : mg "tuple" = none
  b_zip : mg "zip" = none
  c_LETTERS : ∃ t, mg "LETTERS" = some (.str "abcdefghijklmnopqrstuvwxyz" t)
  c_LONGEST : ∃ t, mg "LONGEST" = some (.int 6 t)
  c_MOST_BOXES : ∃ t, mg "MOST_BOXES" = some (.int 40 t)
  c_MOST_ARROWS : ∃ t, mg "MOST_ARROWS" = some (.int 80 t)
  c_MOST_SAYINGS : ∃ t, mg "MOST_SAYINGS" = some (.int 20 t)
  c_MOST_LEAST : ∃ t, mg "MOST_LEAST" = some (.int 3 t)
  c_MOST_WEIGHT : ∃ t, mg "MOST_WEIGHT" = some (.int 9 t)
  c_MOST_FAR : ∃ t, mg "MOST_FAR" = some (.int 9 t)
  c_BACKWARD : ∃ t, mg "BACKWARD" = some (.int (-1) t)
  c_ROUNDS : ∃ t, mg "ROUNDS" = some (.int 4 t)
  c_FINE : ∃ t, mg "FINE" = some (.int 1000000 t)
  xl_NoArrow : ExcL K "NoArrow"
  xl_NoBox : ExcL K "NoBox"
  xl_NoSaying : ExcL K "NoSaying"
  n_EMPTY : ∀ F, Rep K F (.ref (He.ga K "EMPTY")) newD
  kk_law_kin : KinK K [("BadDeed" : Str), ("BadLeast" : Str), ("BadName" : Str), ("BadWeight" : Str), ("Full" : Str), ("Same" : Str), ("Taken" : Str), ("Tied" : Str), ("NoArrow" : Str), ("NoBox" : Str), ("NoSaying" : Str)] [("BadName" : Str), ("Taken" : Str), ("Full" : Str), ("NoSaying" : Str), ("Tied" : Str), ("BadLeast" : Str), ("BadWeight" : Str), ("Same" : Str), ("BadDeed" : Str), ("Clash" : Str), ("NoBox" : Str), ("NoArrow" : Str)] kinR "InkError" "Missing"
  g_BadDeed : mg "BadDeed" = some (.ref (He.ga K "BadDeed"))
  g_BadLeast : mg "BadLeast" = some (.ref (He.ga K "BadLeast"))
  g_BadName : mg "BadName" = some (.ref (He.ga K "BadName"))
  g_BadWeb : mg "BadWeb" = some (.ref (He.ga K "BadWeb"))
  g_BadWeight : mg "BadWeight" = some (.ref (He.ga K "BadWeight"))
  g_Clash : mg "Clash" = some (.ref (He.ga K "Clash"))
  g_Full : mg "Full" = some (.ref (He.ga K "Full"))
  g_InkError : mg "InkError" = some (.ref (He.ga K "InkError"))
  g_Same : mg "Same" = some (.ref (He.ga K "Same"))
  g_Taken : mg "Taken" = some (.ref (He.ga K "Taken"))
  g_Tied : mg "Tied" = some (.ref (He.ga K "Tied"))
  x_BadDeed : ExcK K "BadDeed"
  x_BadLeast : ExcK K "BadLeast"
  x_BadName : ExcK K "BadName"
  x_BadWeb : ExcK K "BadWeb"
  x_BadWeight : ExcK K "BadWeight"
  x_Full : ExcK K "Full"
  x_Same : ExcK K "Same"
  x_Taken : ExcK K "Taken"
  x_Tied : ExcK K "Tied"
  g_EMPTY : mg "EMPTY" = some (.ref (He.ga K "EMPTY"))
  g_Missing : mg "Missing" = some (.ref (He.ga K "Missing"))
  g_NoArrow : mg "NoArrow" = some (.ref (He.ga K "NoArrow"))
  g_NoBox : mg "NoBox" = some (.ref (He.ga K "NoBox"))
  g_NoSaying : mg "NoSaying" = some (.ref (He.ga K "NoSaying"))
  g_do_arrow : mg "do_arrow" = some (.ref (He.ga K "do_arrow"))
  g_do_box : mg "do_box" = some (.ref (He.ga K "do_box"))
  g_do_say : mg "do_say" = some (.ref (He.ga K "do_say"))
  g_Board : mg "Board" = some (.ref (He.ga K "Board"))
  k_Board : Cls K (He.ga K "Board")
  f_Board_now : FdI K "Board" "now"
  f_Board_past : FdI K "Board" "past"
  f_Board_later : FdI K "Board" "later"
section
variable {K : PySem.W.Frag} {mg : Str → Option Value}
def scope_Clash : FnScope [("self" : Str), "ring"] [("self" : Str), "ring"] (defScope (methI (top 12))) := ⟨rfl, rfl, rfl, by decide +kernel, rfl, by decide +kernel, by decide +kernel⟩
theorem I_Clash {P : Program} {w : World} {base : Heap} (T : Txt K mg) {fd : FuncData} (F : FunD K "__init__" "Clash.__init__" (defArgs (methI (top 12))) (defBody (methI (top 12))) (defScope (methI (top 12))) [] [] (iAd K "Clash") fd) (c : InitC K "Clash" "InkError" "ring") : InitF P w K mg base "Clash" "InkError" "ring" :=
  init_mk c T.g_Clash T.g_InkError F scope_Clash rfl rfl rfl rfl (by decide) (by decide) (by decide) (fun _ _ _ => ⟨_, rfl⟩) (fun _ _ _ _ _ _ us hl => match us, hl with | [_, _], _ => rfl)
end
def K_law_1 : FE := (callE ixF (arg2 (callE m_law_do (consA (vE 2) (consA (vE 8) nilA))) (cE (.int 0))))
def b_law : FS := (seqS (asgS (callE m_law_bag (consA (vE 0) nilA)) (nmG 1))
  (seqS (asgS (mkE "Board" m_Board___init__ nilA) (nmG 2))
  (seqS (asgS (callE (g1 listDM) (arg1 (callE m_law_names (consA (vE 1) (consA (cE (.int 40)) nilA))))) (nmG 3))
  (seqS (ifS (notT (tst (callE m_law_crammed (consA (vE 1) (consA (vE 2) (consA (vE 3) nilA)))))) (retS (cE (.bl false))) skipS)
  (seqS (asgS (lstE (consA (tupE (consA (cE (.str "box")) (consA (cE (.str "zzz")) nilA))) (consA (tupE (consA (cE (.str "box")) (consA (callE ixF (arg2 (vE 3) (cE (.int 0)))) nilA))) (consA (tupE (consA (cE (.str "box")) (consA (cE (.str "Z")) nilA))) (consA (tupE (consA (cE (.str "arrow")) (consA (callE ixF (arg2 (vE 3) (cE (.int 0)))) (consA (callE ixF (arg2 (vE 3) (cE (.int 1)))) (consA (cE (.int 1)) (consA (cE (.int 1)) nilA)))))) nilA))))) (nmG 4))
  (seqS (asgS (callE addG (arg2 (vE 4) (lstE (consA (tupE (consA (cE (.str "arrow")) (consA (callE ixF (arg2 (vE 3) (cE (.int 0)))) (consA (callE ixF (arg2 (vE 3) (cE (.int 1)))) (consA (cE (.int 1)) (consA (cE (.int 0)) nilA)))))) (consA (tupE (consA (cE (.str "arrow")) (consA (cE (.str "zzz")) (consA (callE ixF (arg2 (vE 3) (cE (.int 1)))) (consA (cE (.int 1)) (consA (cE (.int 1)) nilA)))))) nilA))))) (nmG 4))
  (seqS (asgS (callE addG (arg2 (vE 4) (lstE (consA (tupE (consA (cE (.str "arrow")) (consA (callE ixF (arg2 (vE 3) (cE (.int 0)))) (consA (callE ixF (arg2 (vE 3) (cE (.int 1)))) (consA (cE (.int 0)) (consA (cE (.int 1)) nilA)))))) (consA (tupE (consA (cE (.str "say")) (consA (callE ixF (arg2 (vE 3) (cE (.int 0)))) (consA (callE ixF (arg2 (vE 3) (cE (.int 1)))) (consA (cE (.int 10)) nilA))))) nilA))))) (nmG 4))
  (seqS (asgS (callE addG (arg2 (vE 4) (lstE (consA (tupE (consA (cE (.str "say")) (consA (callE ixF (arg2 (vE 3) (cE (.int 0)))) (consA (callE ixF (arg2 (vE 3) (cE (.int 1)))) (consA (cE (.int 1)) nilA))))) (consA (tupE (consA (cE (.str "say")) (consA (callE ixF (arg2 (vE 3) (cE (.int 0)))) (consA (callE ixF (arg2 (vE 3) (cE (.int 0)))) (consA (cE (.int 1)) nilA))))) (consA (tupE (consA (cE (.str "say")) (consA (cE (.str "zzz")) (consA (callE ixF (arg2 (vE 3) (cE (.int 0)))) (consA (cE (.int 1)) nilA))))) nilA)))))) (nmG 4))
  (seqS (asgS (lstE (consA (cE (.str "Full")) (consA (cE (.str "Taken")) (consA (cE (.str "BadName")) (consA (cE (.str "Full")) (consA (cE (.str "BadWeight")) (consA (cE (.str "NoBox")) (consA (cE (.str "BadLeast")) (consA (cE (.str "BadLeast")) (consA (cE (.str "Full")) (consA (cE (.str "Same")) (consA (cE (.str "NoBox")) nilA)))))))))))) (nmG 5))
  (seqS (ifS (tst (callE (g2 neM) (arg2 (compE (overE itemsA (vE 4)) (nmG 8) yesT K_law_1 [8]) (vE 5)))) (retS (cE (.bl false))) skipS)
  (seqS (asgS (callE addG (arg2 (cE (.int 1)) (callE m_law_pull (consA (vE 1) (consA (cE (.int 80)) nilA))))) (nmG 6))
  (seqS (exprS (methE "Board" "alter" m_Board_alter (vE 2) (consA (cE (.int 1)) (intsA [] (kwsA [(cE (.int 2))] (intsA [1] nilA))))))
  (seqS (exprS (methE "Board" "cut" m_Board_cut (vE 2) (consA (vE 6) nilA)))
  (seqS (exprS (methE "Board" "unsay" m_Board_unsay (vE 2) (consA (cE (.int 20)) nilA)))
  (seqS (ifS (orT (tst (callE (g2 neM) (arg2 (methE "Board" "arrow" m_Board_arrow (vE 2) (consA (callE ixF (arg2 (vE 3) (cE (.int 0)))) (consA (callE ixF (arg2 (vE 3) (cE (.int 1)))) (intsA [] (kwsA [(cE (.int 3))] (intsA [1] nilA)))))) (cE (.int 81))))) (tst (callE (g2 neM) (arg2 (methE "Board" "say" (dflI 1 m_Board_say) (vE 2) (consA (callE ixF (arg2 (vE 3) (cE (.int 1)))) (consA (callE ixF (arg2 (vE 3) (cE (.int 0)))) nilA))) (cE (.int 21)))))) (retS (cE (.bl false))) skipS)
  (seqS (asgS (callE sl10 (arg2 (methE "Board" "deeds" m_Board_deeds (vE 2) nilA) (callE (g1 negM) (arg1 (cE (.int 5)))))) (nmG 7))
  (seqS (asgS (lstE (consA (tupE (consA (cE (.str "alter")) (consA (cE (.int 1)) (consA (cE (.int 2)) (consA (cE (.int 1)) nilA))))) (consA (tupE (consA (cE (.str "cut")) (consA (tk (vE 6)) nilA))) (consA (tupE (consA (cE (.str "unsay")) (consA (cE (.int 20)) nilA))) nilA)))) (nmG 5))
  (seqS (asgS (callE addG (arg2 (vE 5) (lstE (consA (tupE (consA (cE (.str "arrow")) (consA (callE ixF (arg2 (vE 3) (cE (.int 0)))) (consA (callE ixF (arg2 (vE 3) (cE (.int 1)))) (consA (cE (.int 3)) (consA (cE (.int 1)) nilA)))))) (consA (tupE (consA (cE (.str "say")) (consA (callE ixF (arg2 (vE 3) (cE (.int 1)))) (consA (callE ixF (arg2 (vE 3) (cE (.int 0)))) (consA (cE (.int 1)) nilA))))) nilA))))) (nmG 5))
  (retS (andE (pureE (callE (m_law_alike 6) (consA (vE 7) (consA (vE 5) nilA)))) (andE (callE (g2 eqM) (arg2 (callE lenG (arg1 (callE ixF (arg2 (methE "Board" "web" m_Board_web (vE 2) nilA) (cE (.int 1)))))) (cE (.int 80)))) (callE (g2 eqM) (arg2 (lenOE "Board" m_Board___len__ (vE 2)) (cE (.int 40)))))))))))))))))))))))))
def m_law : FP := fnM 1 8 [] b_law
variable {P : Program} {w : World} {K : PySem.W.Frag} {mg : Str → Option Value} {base : Heap}
abbrev N_law_kin : List Str := ["_law_e", "_law_words", "_law_word", "_law_so"]
theorem sc_law_kin : FnScope N_law_kin ["_law_e"] (defScope (top 106)) := ⟨rfl, rfl, rfl, by decide +kernel, rfl, by decide +kernel, by decide +kernel⟩
theorem G_law_kin (T : Txt K mg) {f : Addr} {fd : FuncData} (F : FunD K "_law_kin" "_law_kin" (defArgs (top 106)) (defBody (top 106)) (defScope (top 106)) [] [] f fd) (hm : mg "_law_kin" = some (.ref f)) : KinG P w K mg base 1 "_law_kin" ["_law_e"] [("BadDeed" : Str), ("BadLeast" : Str), ("BadName" : Str), ("BadWeight" : Str), ("Full" : Str), ("Same" : Str), ("Taken" : Str), ("Tied" : Str), ("NoArrow" : Str), ("NoBox" : Str), ("NoSaying" : Str)] m_law_kin := by
  refine kin_mk (k := 0) (N := N_law_kin) (asg := []) F sc_law_kin rfl rfl hm (fun _ _ _ _ _ _ us hl => match us, hl with | [_], _ => rfl) (fun C hC q hz hf cdv A outer s H Ex dh hot => ?_)
  have sc := sc_law_kin
  have hE := T.kk_law_kin.c C hC
  exact (s_cons (sN 1 sc.nd (e_lst (a_cons (e_tup (a_cons e_str (a_cons (e_isx (q := q) (b := kinR C "BadName") (List.mem_singleton_self _) hE hz hf dh rfl (T.kk_law_kin.k C hC "BadName" (by simp)) rfl T.b_isinstance rfl T.g_BadName (e_v 0)) a_nil))) (a_cons (e_tup (a_cons e_str (a_cons (e_isx (q := q) (b := kinR C "Taken") (List.mem_singleton_self _) hE hz hf dh rfl (T.kk_law_kin.k C hC "Taken" (by simp)) rfl T.b_isinstance rfl T.g_Taken (e_v 0)) a_nil))) (a_cons (e_tup (a_cons e_str (a_cons (e_isx (q := q) (b := kinR C "Full") (List.mem_singleton_self _) hE hz hf dh rfl (T.kk_law_kin.k C hC "Full" (by simp)) rfl T.b_isinstance rfl T.g_Full (e_v 0)) a_nil))) a_nil)))))
  (s_cons (sN 1 sc.nd (e_add (e_v 1) (e_lst (a_cons (e_tup (a_cons e_str (a_cons (e_isx (q := q) (b := kinR C "Tied") (List.mem_singleton_self _) hE hz hf dh rfl (T.kk_law_kin.k C hC "Tied" (by simp)) rfl T.b_isinstance rfl T.g_Tied (e_v 0)) a_nil))) (a_cons (e_tup (a_cons e_str (a_cons (e_isx (q := q) (b := kinR C "BadLeast") (List.mem_singleton_self _) hE hz hf dh rfl (T.kk_law_kin.k C hC "BadLeast" (by simp)) rfl T.b_isinstance rfl T.g_BadLeast (e_v 0)) a_nil))) a_nil)))))
  (s_cons (sN 1 sc.nd (e_add (e_v 1) (e_lst (a_cons (e_tup (a_cons e_str (a_cons (e_isx (q := q) (b := kinR C "BadWeight") (List.mem_singleton_self _) hE hz hf dh rfl (T.kk_law_kin.k C hC "BadWeight" (by simp)) rfl T.b_isinstance rfl T.g_BadWeight (e_v 0)) a_nil))) (a_cons (e_tup (a_cons e_str (a_cons (e_isx (q := q) (b := kinR C "Same") (List.mem_singleton_self _) hE hz hf dh rfl (T.kk_law_kin.k C hC "Same" (by simp)) rfl T.b_isinstance rfl T.g_Same (e_v 0)) a_nil))) a_nil)))))
  (s_cons (sN 1 sc.nd (e_add (e_v 1) (e_lst (a_cons (e_tup (a_cons e_str (a_cons (e_isx (q := q) (b := kinR C "BadDeed") (List.mem_singleton_self _) hE hz hf dh rfl (T.kk_law_kin.k C hC "BadDeed" (by simp)) rfl T.b_isinstance rfl T.g_BadDeed (e_v 0)) a_nil))) (a_cons (e_tup (a_cons e_str (a_cons (e_isx (q := q) (b := kinR C "Clash") (List.mem_singleton_self _) hE hz hf dh rfl (T.kk_law_kin.k C hC "Clash" (by simp)) rfl T.b_isinstance rfl T.g_Clash (e_v 0)) a_nil))) a_nil)))))
  (s_cons (sN 1 sc.nd (e_add (e_v 1) (e_lst (a_cons (e_tup (a_cons e_str (a_cons (e_isx (q := q) (b := kinR C "NoBox") (List.mem_singleton_self _) hE hz hf dh rfl (T.kk_law_kin.k C hC "NoBox" (by simp)) rfl T.b_isinstance rfl T.g_NoBox (e_v 0)) a_nil))) (a_cons (e_tup (a_cons e_str (a_cons (e_isx (q := q) (b := kinR C "NoArrow") (List.mem_singleton_self _) hE hz hf dh rfl (T.kk_law_kin.k C hC "NoArrow" (by simp)) rfl T.b_isinstance rfl T.g_NoArrow (e_v 0)) a_nil))) a_nil)))))
  (s_cons (s_expr (e_append (e_v 1) (e_tup (a_cons e_str (a_cons (e_isx (q := q) (b := kinR C "NoSaying") (List.mem_singleton_self _) hE hz hf dh rfl (T.kk_law_kin.k C hC "NoSaying" (by simp)) rfl T.b_isinstance rfl T.g_NoSaying (e_v 0)) a_nil)))))
  (s_one (s_ret (e_join e_str (e_lcH (own := [("_law_word", 2), ("_law_so", 3)]) (S := [2, 3]) hot sc.nd (i_listH (e_v 1)) (blkOk_by (N := N_law_kin) (sc := defScope (top 106)) (own := [("_law_word", 2), ("_law_so", 3)]) (by decide +kernel)) (fun _ _ _ _ _ => (g_tupH (L2H.blkH_hot hot) (gs_cons (gN 2 sc.nd) (gs_cons (gN 3 sc.nd) gs_nil)))) (fun _ _ _ _ _ => (ts_one (t_val (e_v 3)))) (fun _ _ _ _ _ => (e_tk (e_v 2)))))))))))))
theorem kk_law_kin (C : Str) (w : Str) (h : kin_law_kin C = some w) : C ∈ [("BadDeed" : Str), ("BadLeast" : Str), ("BadName" : Str), ("BadWeight" : Str), ("Full" : Str), ("Same" : Str), ("Taken" : Str), ("Tied" : Str), ("NoArrow" : Str), ("NoBox" : Str), ("NoSaying" : Str)] ∧ ∀ a, m_law_kin C a [.fz (.exc C a)] = some (.ok (.fz (.str w)) [some (.fz (.exc C a))]) := by
  unfold kin_law_kin at h
  split at h
  · rename_i hC
    cases h
    refine ⟨hC, fun a => ?_⟩
    simp only [List.mem_cons, List.mem_nil_iff, or_false] at hC
    rcases hC with rfl | rfl | rfl | rfl | rfl | rfl | rfl | rfl | rfl | rfl | rfl
    all_goals
      simp [m_law_kin, b_law_kin, kinR, fnM]
      kernel_rfl
  · cases h
abbrev N_is_name : List Str := ["name", "sign"]
theorem sc_is_name : FnScope N_is_name ["name"] (defScope (top 26)) := ⟨rfl, rfl, rfl, by decide +kernel, rfl, by decide +kernel, by decide +kernel⟩
theorem G_is_name (T : Txt K mg) {f : Addr} {fd : FuncData} (F : FunD K "is_name" "is_name" (defArgs (top 26)) (defBody (top 26)) (defScope (top 26)) [] [] f fd) (hm : mg "is_name" = some (.ref f)) : Fn P w K mg base 1 "is_name" ["name"] m_is_name := by
  refine fn_mk (N := N_is_name) (asg := []) F sc_is_name rfl rfl hm (fun _ _ _ _ _ _ us hl => match us, hl with | [_], _ => rfl) (fun cdv A outer s H Ex hr => ?_)
  have sc := sc_is_name
  have po := passes_of (X := cxOf (L2N.CX P w) P w K mg base N_is_name "is_name" (defScope (top 26)) f cdv A outer s H Ex) rfl
  have tk := L2N.takes_of (X := cxOf (L2N.CX P w) P w K mg base N_is_name "is_name" (defScope (top 26)) f cdv A outer s H Ex) (E := Ex) rfl rfl rfl rfl
  exact (s_one (s_ret (e_and (e_chain op_le op_le e_int (e_len rfl T.b_len (e_v 0)) (e_globI rfl T.c_LONGEST)) (e_one (e_all rfl rfl T.b_all (e_lc (own := [("sign", 1)]) (S := [1]) rfl sc.nd (i_seq (e_v 0)) (blkOk_by (N := N_is_name) (sc := defScope (top 26)) (own := [("sign", 1)]) (by decide +kernel)) (fun _ _ _ _ _ => (gN 1 sc.nd)) (fun _ _ _ _ _ => (ts_nil rfl)) (fun _ _ _ _ _ => (e_inF hr.units (e_v 1) (e_globS rfl T.c_LETTERS)))))))))
abbrev N_is_least : List Str := ["least"]
theorem sc_is_least : FnScope N_is_least ["least"] (defScope (top 27)) := ⟨rfl, rfl, rfl, by decide +kernel, rfl, by decide +kernel, by decide +kernel⟩
theorem G_is_least (T : Txt K mg) {f : Addr} {fd : FuncData} (F : FunD K "is_least" "is_least" (defArgs (top 27)) (defBody (top 27)) (defScope (top 27)) [] [] f fd) (hm : mg "is_least" = some (.ref f)) : Fn P w K mg base 1 "is_least" ["least"] m_is_least := by
  refine fn_mk (N := N_is_least) (asg := []) F sc_is_least rfl rfl hm (fun _ _ _ _ _ _ us hl => match us, hl with | [_], _ => rfl) (fun cdv A outer s H Ex hr => ?_)
  have sc := sc_is_least
  have po := passes_of (X := cxOf (L2N.CX P w) P w K mg base N_is_least "is_least" (defScope (top 27)) f cdv A outer s H Ex) rfl
  have tk := L2N.takes_of (X := cxOf (L2N.CX P w) P w K mg base N_is_least "is_least" (defScope (top 27)) f cdv A outer s H Ex) (E := Ex) rfl rfl rfl rfl
  exact (s_one (s_ret (e_chain op_le op_le e_int (e_v 0) (e_globI rfl T.c_MOST_LEAST))))
abbrev N_is_weight : List Str := ["weight"]
theorem sc_is_weight : FnScope N_is_weight ["weight"] (defScope (top 28)) := ⟨rfl, rfl, rfl, by decide +kernel, rfl, by decide +kernel, by decide +kernel⟩
theorem G_is_weight (T : Txt K mg) {f : Addr} {fd : FuncData} (F : FunD K "is_weight" "is_weight" (defArgs (top 28)) (defBody (top 28)) (defScope (top 28)) [] [] f fd) (hm : mg "is_weight" = some (.ref f)) : Fn P w K mg base 1 "is_weight" ["weight"] m_is_weight := by
  refine fn_mk (N := N_is_weight) (asg := []) F sc_is_weight rfl rfl hm (fun _ _ _ _ _ _ us hl => match us, hl with | [_], _ => rfl) (fun cdv A outer s H Ex hr => ?_)
  have sc := sc_is_weight
  have po := passes_of (X := cxOf (L2N.CX P w) P w K mg base N_is_weight "is_weight" (defScope (top 28)) f cdv A outer s H Ex) rfl
  have tk := L2N.takes_of (X := cxOf (L2N.CX P w) P w K mg base N_is_weight "is_weight" (defScope (top 28)) f cdv A outer s H Ex) (E := Ex) rfl rfl rfl rfl
  exact (s_one (s_ret (e_chain op_le op_le e_int (e_v 0) (e_globI rfl T.c_MOST_WEIGHT))))
abbrev N_is_far : List Str := ["least"]
theorem sc_is_far : FnScope N_is_far ["least"] (defScope (top 29)) := ⟨rfl, rfl, rfl, by decide +kernel, rfl, by decide +kernel, by decide +kernel⟩
theorem G_is_far (T : Txt K mg) {f : Addr} {fd : FuncData} (F : FunD K "is_far" "is_far" (defArgs (top 29)) (defBody (top 29)) (defScope (top 29)) [] [] f fd) (hm : mg "is_far" = some (.ref f)) : Fn P w K mg base 1 "is_far" ["least"] m_is_far := by
  refine fn_mk (N := N_is_far) (asg := []) F sc_is_far rfl rfl hm (fun _ _ _ _ _ _ us hl => match us, hl with | [_], _ => rfl) (fun cdv A outer s H Ex hr => ?_)
  have sc := sc_is_far
  have po := passes_of (X := cxOf (L2N.CX P w) P w K mg base N_is_far "is_far" (defScope (top 29)) f cdv A outer s H Ex) rfl
  have tk := L2N.takes_of (X := cxOf (L2N.CX P w) P w K mg base N_is_far "is_far" (defScope (top 29)) f cdv A outer s H Ex) (E := Ex) rfl rfl rfl rfl
  exact (s_one (s_ret (e_le (e_abs rfl T.b_abs (e_v 0)) (e_globI rfl T.c_MOST_FAR))))
abbrev N_numbered : List Str := ["some", "number", "place", "row"]
theorem sc_numbered : FnScope N_numbered ["some", "number"] (defScope (top 84)) := ⟨rfl, rfl, rfl, by decide +kernel, rfl, by decide +kernel, by decide +kernel⟩
theorem G_numbered (T : Txt K mg) {f : Addr} {fd : FuncData} (F : FunD K "numbered" "numbered" (defArgs (top 84)) (defBody (top 84)) (defScope (top 84)) [] [] f fd) (hm : mg "numbered" = some (.ref f)) : Fn P w K mg base 1 "numbered" ["some", "number"] m_numbered := by
  refine fn_mk (N := N_numbered) (asg := []) F sc_numbered rfl rfl hm (fun _ _ _ _ _ _ us hl => match us, hl with | [_, _], _ => rfl) (fun cdv A outer s H Ex hr => ?_)
  have sc := sc_numbered
  have po := passes_of (X := cxOf (L2N.CX P w) P w K mg base N_numbered "numbered" (defScope (top 84)) f cdv A outer s H Ex) rfl
  have tk := L2N.takes_of (X := cxOf (L2N.CX P w) P w K mg base N_numbered "numbered" (defScope (top 84)) f cdv A outer s H Ex) (E := Ex) rfl rfl rfl rfl
  exact (s_one (s_ret (e_lc (own := [("place", 2), ("row", 3)]) (S := [2, 3]) rfl sc.nd (i_enum rfl T.b_enumerate (e_v 0)) (blkOk_by (N := N_numbered) (sc := defScope (top 84)) (own := [("place", 2), ("row", 3)]) (by decide +kernel)) (fun _ _ _ _ _ => (g_tup rfl (gs_cons (gN 2 sc.nd) (gs_cons (gN 3 sc.nd) gs_nil)))) (fun _ _ _ _ _ => (ts_one (t_eq hr.units (e_itemF hr.units (e_v 3) e_int) (e_v 1)))) (fun _ _ _ _ _ => (e_tk (e_v 2))))))
abbrev N_Board___init__ : List Str := ["self"]
theorem sc_Board___init__ : FnScope N_Board___init__ ["self"] (defScope (top 85 1)) := ⟨rfl, rfl, rfl, by decide +kernel, rfl, by decide +kernel, by decide +kernel⟩
theorem G_Board___init__ (T : Txt K mg) {f : Addr} {fd : FuncData} (F : FunD K "__init__" "Board.__init__" (defArgs (top 85 1)) (defBody (top 85 1)) (defScope (top 85 1)) [] [] f fd) (hm : Mk K (He.ga K "Board") f) : MkI P w K mg base 1 "Board" ["self"] m_Board___init__ := by
  refine mk_mk (N := N_Board___init__) (asg := []) hm T.g_Board F sc_Board___init__ rfl rfl (fun _ _ _ _ _ _ us hl => match us, hl with | [_], _ => rfl) (fun cdv A outer s H Ex hr => ?_)
  have sc := sc_Board___init__
  have po := passes_of (X := cxOf (L2N.CX P w) P w K mg base N_Board___init__ "Board.__init__" (defScope (top 85 1)) f cdv A outer s H Ex) rfl
  have tk := L2N.takes_of (X := cxOf (L2N.CX P w) P w K mg base N_Board___init__ "Board.__init__" (defScope (top 85 1)) f cdv A outer s H Ex) (E := Ex) rfl rfl rfl rfl
  exact (s_cons (s_fld T.f_Board_now (e_v 0) (e_new rfl T.g_EMPTY T.n_EMPTY))
  (s_cons (s_fld T.f_Board_past (e_v 0) (e_lst a_nil))
  (s_one (s_fld T.f_Board_later (e_v 0) (e_lst a_nil)))))
abbrev N_Board___len__ : List Str := ["self"]
theorem sc_Board___len__ : FnScope N_Board___len__ ["self"] (defScope (top 85 3)) := ⟨rfl, rfl, rfl, by decide +kernel, rfl, by decide +kernel, by decide +kernel⟩
theorem G_Board___len__ (T : Txt K mg) {f : Addr} {fd : FuncData} (F : FunD K "__len__" "Board.__len__" (defArgs (top 85 3)) (defBody (top 85 3)) (defScope (top 85 3)) [] [] f fd) (hm : Meth K (He.ga K "Board") "__len__" f) : MtI P w K mg base 1 "Board" "__len__" ["self"] [] m_Board___len__ := by
  refine mt_mk (N := N_Board___len__) (asg := []) T.k_Board hm F sc_Board___len__ rfl rfl (fun _ _ _ _ _ _ us hl => match us, hl with | [_], _ => rfl) (fun cdv A outer s H Ex hr => ?_)
  have sc := sc_Board___len__
  have po := passes_of (X := cxOf (L2N.CX P w) P w K mg base N_Board___len__ "Board.__len__" (defScope (top 85 3)) f cdv A outer s H Ex) rfl
  have tk := L2N.takes_of (X := cxOf (L2N.CX P w) P w K mg base N_Board___len__ "Board.__len__" (defScope (top 85 3)) f cdv A outer s H Ex) (E := Ex) rfl rfl rfl rfl
  exact (s_one (s_ret (e_len rfl T.b_len (e_itemF hr.units (e_fld T.f_Board_now (e_v 0)) e_int))))
abbrev N_Board_keep : List Str := ["self", "deed", "now"]
theorem sc_Board_keep : FnScope N_Board_keep ["self", "deed", "now"] (defScope (top 85 6)) := ⟨rfl, rfl, rfl, by decide +kernel, rfl, by decide +kernel, by decide +kernel⟩
theorem G_Board_keep (T : Txt K mg) {f : Addr} {fd : FuncData} (F : FunD K "keep" "Board.keep" (defArgs (top 85 6)) (defBody (top 85 6)) (defScope (top 85 6)) [] [] f fd) (hm : Meth K (He.ga K "Board") "keep" f) : MtI P w K mg base 1 "Board" "keep" ["self", "deed", "now"] [] m_Board_keep := by
  refine mt_mk (N := N_Board_keep) (asg := []) T.k_Board hm F sc_Board_keep rfl rfl (fun _ _ _ _ _ _ us hl => match us, hl with | [_, _, _], _ => rfl) (fun cdv A outer s H Ex hr => ?_)
  have sc := sc_Board_keep
  have po := passes_of (X := cxOf (L2N.CX P w) P w K mg base N_Board_keep "Board.keep" (defScope (top 85 6)) f cdv A outer s H Ex) rfl
  have tk := L2N.takes_of (X := cxOf (L2N.CX P w) P w K mg base N_Board_keep "Board.keep" (defScope (top 85 6)) f cdv A outer s H Ex) (E := Ex) rfl rfl rfl rfl
  exact (s_cons (s_expr (e_papp (c_fl (i := 0) T.f_Board_past) (e_tup (a_cons (e_tk (e_v 1)) (a_cons (e_fld T.f_Board_now (e_v 0)) a_nil)))))
  (s_cons (s_fld T.f_Board_later (e_v 0) (e_lst a_nil))
  (s_one (s_fld T.f_Board_now (e_v 0) (e_v 2)))))
abbrev N_Board_need_boxes : List Str := ["self", "names", "name"]
theorem sc_Board_need_boxes : FnScope N_Board_need_boxes ["self", "names"] (defScope (top 85 7)) := ⟨rfl, rfl, rfl, by decide +kernel, rfl, by decide +kernel, by decide +kernel⟩
theorem G_Board_need_boxes (T : Txt K mg) {f : Addr} {fd : FuncData} (F : FunD K "need_boxes" "Board.need_boxes" (defArgs (top 85 7)) (defBody (top 85 7)) (defScope (top 85 7)) [] [] f fd) (hm : Meth K (He.ga K "Board") "need_boxes" f) : MtI P w K mg base 1 "Board" "need_boxes" ["self", "names"] [] m_Board_need_boxes := by
  refine mt_mk (N := N_Board_need_boxes) (asg := []) T.k_Board hm F sc_Board_need_boxes rfl rfl (fun _ _ _ _ _ _ us hl => match us, hl with | [_, _], _ => rfl) (fun cdv A outer s H Ex hr => ?_)
  have sc := sc_Board_need_boxes
  have po := passes_of (X := cxOf (L2N.CX P w) P w K mg base N_Board_need_boxes "Board.need_boxes" (defScope (top 85 7)) f cdv A outer s H Ex) rfl
  have tk := L2N.takes_of (X := cxOf (L2N.CX P w) P w K mg base N_Board_need_boxes "Board.need_boxes" (defScope (top 85 7)) f cdv A outer s H Ex) (E := Ex) rfl rfl rfl rfl
  exact (s_one (s_for (S := [2]) po rfl (i_seq (e_v 1)) (gN 2 sc.nd) (s_one (s_if (t_notinF hr.units (e_v 2) (e_itemF hr.units (e_fld T.f_Board_now (e_v 0)) e_int)) (s_one (s_raiseL rfl tk T.g_NoBox T.xl_NoBox rfl)) s_nil))))
abbrev N_Board_deeds : List Str := ["self", "deed", "now"]
theorem sc_Board_deeds : FnScope N_Board_deeds ["self"] (defScope (top 85 21)) := ⟨rfl, rfl, rfl, by decide +kernel, rfl, by decide +kernel, by decide +kernel⟩
theorem G_Board_deeds (T : Txt K mg) {f : Addr} {fd : FuncData} (F : FunD K "deeds" "Board.deeds" (defArgs (top 85 21)) (defBody (top 85 21)) (defScope (top 85 21)) [] [] f fd) (hm : Meth K (He.ga K "Board") "deeds" f) : MtI P w K mg base 1 "Board" "deeds" ["self"] [] m_Board_deeds := by
  refine mt_mk (N := N_Board_deeds) (asg := []) T.k_Board hm F sc_Board_deeds rfl rfl (fun _ _ _ _ _ _ us hl => match us, hl with | [_], _ => rfl) (fun cdv A outer s H Ex hr => ?_)
  have sc := sc_Board_deeds
  have po := passes_of (X := cxOf (L2N.CX P w) P w K mg base N_Board_deeds "Board.deeds" (defScope (top 85 21)) f cdv A outer s H Ex) rfl
  have tk := L2N.takes_of (X := cxOf (L2N.CX P w) P w K mg base N_Board_deeds "Board.deeds" (defScope (top 85 21)) f cdv A outer s H Ex) (E := Ex) rfl rfl rfl rfl
  exact (s_one (s_ret (e_pure (e_lc (own := [("deed", 1), ("now", 2)]) (S := [1, 2]) rfl sc.nd (i_seq (e_fld T.f_Board_past (e_v 0))) (blkOk_by (N := N_Board_deeds) (sc := defScope (top 85 21)) (own := [("deed", 1), ("now", 2)]) (by decide +kernel)) (fun _ _ _ _ _ => (g_tup rfl (gs_cons (gN 1 sc.nd) (gs_cons (gN 2 sc.nd) gs_nil)))) (fun _ _ _ _ _ => (ts_nil rfl)) (fun _ _ _ _ _ => (e_tk (e_v 1)))))))
abbrev N_web_of : List Str := ["now", "spots", "arrows", "sayings", "spot", "name", "number", "one", "other", "least", "weight"]
theorem sc_web_of : FnScope N_web_of ["now"] (defScope (top 87)) := ⟨rfl, rfl, rfl, by decide +kernel, rfl, by decide +kernel, by decide +kernel⟩
theorem G_web_of (T : Txt K mg) {f : Addr} {fd : FuncData} (F : FunD K "web_of" "web_of" (defArgs (top 87)) (defBody (top 87)) (defScope (top 87)) [] [] f fd) (hm : mg "web_of" = some (.ref f)) : Fn P w K mg base 1 "web_of" ["now"] m_web_of := by
  refine fn_mk (N := N_web_of) (asg := []) F sc_web_of rfl rfl hm (fun _ _ _ _ _ _ us hl => match us, hl with | [_], _ => rfl) (fun cdv A outer s H Ex hr => ?_)
  have sc := sc_web_of
  have po := passes_of (X := cxOf (L2N.CX P w) P w K mg base N_web_of "web_of" (defScope (top 87)) f cdv A outer s H Ex) rfl
  have tk := L2N.takes_of (X := cxOf (L2N.CX P w) P w K mg base N_web_of "web_of" (defScope (top 87)) f cdv A outer s H Ex) (E := Ex) rfl rfl rfl rfl
  exact (s_cons (sN 1 sc.nd (e_dict rfl rfl T.b_dict (e_lc (own := [("spot", 4), ("name", 5)]) (S := [4, 5]) rfl sc.nd (i_enum rfl T.b_enumerate (e_itemF hr.units (e_v 0) e_int)) (blkOk_by (N := N_web_of) (sc := defScope (top 87)) (own := [("spot", 4), ("name", 5)]) (by decide +kernel)) (fun _ _ _ _ _ => (g_tup rfl (gs_cons (gN 4 sc.nd) (gs_cons (gN 5 sc.nd) gs_nil)))) (fun _ _ _ _ _ => (ts_nil rfl)) (fun _ _ _ _ _ => (e_tup (a_cons (e_tk (e_v 5)) (a_cons (e_tk (e_v 4)) a_nil)))))))
  (s_cons (s_setLc (own := [("number", 6), ("one", 7), ("other", 8), ("least", 9), ("weight", 10)]) (i := 2) (S := [6, 7, 8, 9, 10]) rfl sc.nd rfl rfl (sw_true rfl rfl rfl (by decide +kernel)) (i_seq (e_itemF hr.units (e_v 0) e_int)) (blkOk_by (N := N_web_of) (sc := defScope (top 87)) (own := [("number", 6), ("one", 7), ("other", 8), ("least", 9), ("weight", 10)]) (by decide +kernel)) (fun _ _ _ _ _ => (g_tup rfl (gs_cons (gN 6 sc.nd) (gs_cons (gN 7 sc.nd) (gs_cons (gN 8 sc.nd) (gs_cons (gN 9 sc.nd) (gs_cons (gN 10 sc.nd) gs_nil))))))) (fun _ _ _ _ _ => (ts_nil rfl)) (fun _ _ _ _ _ => (e_tup (a_cons (e_itemF hr.units (e_v 1) (e_v 7)) (a_cons (e_itemF hr.units (e_v 1) (e_v 8)) (a_cons (e_tk (e_v 9)) (a_cons (e_tk (e_v 10)) a_nil)))))))
  (s_cons (s_setLc (own := [("number", 6), ("one", 7), ("other", 8), ("least", 9)]) (i := 3) (S := [6, 7, 8, 9]) rfl sc.nd rfl rfl (sw_true rfl rfl rfl (by decide +kernel)) (i_seq (e_itemF hr.units (e_v 0) e_int)) (blkOk_by (N := N_web_of) (sc := defScope (top 87)) (own := [("number", 6), ("one", 7), ("other", 8), ("least", 9)]) (by decide +kernel)) (fun _ _ _ _ _ => (g_tup rfl (gs_cons (gN 6 sc.nd) (gs_cons (gN 7 sc.nd) (gs_cons (gN 8 sc.nd) (gs_cons (gN 9 sc.nd) gs_nil)))))) (fun _ _ _ _ _ => (ts_nil rfl)) (fun _ _ _ _ _ => (e_tup (a_cons (e_itemF hr.units (e_v 1) (e_v 7)) (a_cons (e_itemF hr.units (e_v 1) (e_v 8)) (a_cons (e_tk (e_v 9)) a_nil))))))
  (s_one (s_ret (e_tup (a_cons (e_itemF hr.units (e_v 0) e_int) (a_cons (e_tuple rfl T.b_tuple (e_v 2)) (a_cons (e_tuple rfl T.b_tuple (e_v 3)) a_nil)))))))))
abbrev N_law_bag : List Str := ["_law_script", "_law_one", "_law_cells", "_law_salt"]
theorem sc_law_bag : FnScope N_law_bag ["_law_script"] (defScope (top 103)) := ⟨rfl, rfl, rfl, by decide +kernel, rfl, by decide +kernel, by decide +kernel⟩
theorem G_law_bag (T : Txt K mg) {f : Addr} {fd : FuncData} (F : FunD K "_law_bag" "_law_bag" (defArgs (top 103)) (defBody (top 103)) (defScope (top 103)) [] [] f fd) (hm : mg "_law_bag" = some (.ref f)) : Fn P w K mg base 1 "_law_bag" ["_law_script"] m_law_bag := by
  refine fn_mk (N := N_law_bag) (asg := []) F sc_law_bag rfl rfl hm (fun _ _ _ _ _ _ us hl => match us, hl with | [_], _ => rfl) (fun cdv A outer s H Ex hr => ?_)
  have sc := sc_law_bag
  have po := passes_of (X := cxOf (L2N.CX P w) P w K mg base N_law_bag "_law_bag" (defScope (top 103)) f cdv A outer s H Ex) rfl
  have tk := L2N.takes_of (X := cxOf (L2N.CX P w) P w K mg base N_law_bag "_law_bag" (defScope (top 103)) f cdv A outer s H Ex) (E := Ex) rfl rfl rfl rfl
  exact (s_cons (s_setLc (own := [("_law_one", 1)]) (i := 2) (S := [1]) rfl sc.nd rfl rfl (sw_true rfl rfl rfl (by decide +kernel)) (i_seq (e_slice01 (e_v 0) e_int)) (blkOk_by (N := N_law_bag) (sc := defScope (top 103)) (own := [("_law_one", 1)]) (by decide +kernel)) (fun _ _ _ _ _ => (gN 1 sc.nd)) (fun _ _ _ _ _ => (ts_nil rfl)) (fun _ _ _ _ _ => (e_abs rfl T.b_abs (e_v 1))))
  (s_cons (sN 3 sc.nd (e_add e_int (e_len rfl T.b_len (e_v 2))))
  (s_cons (s_for (S := [1]) po rfl (i_seq (e_slice01 (e_v 0) e_int)) (gN 1 sc.nd) (s_one (sN 3 sc.nd (e_mod (e_add (e_add (e_mul (e_v 3) e_int) (e_abs rfl T.b_abs (e_v 1))) (e_mul e_int (e_int1 rfl T.b_int (e_lt (e_v 1) e_int)))) e_int))))
  (s_one (s_ret (e_lst (a_cons (e_tk (e_v 2)) (a_cons e_int (a_cons e_int (a_cons (e_tk (e_v 3)) a_nil))))))))))
abbrev N_law_pull : List Str := ["_law_bag_here", "_law_many", "_law_seed", "_law_blend", "_law_drawn"]
theorem sc_law_pull : FnScope N_law_pull ["_law_bag_here", "_law_many"] (defScope (top 108)) := ⟨rfl, rfl, rfl, by decide +kernel, rfl, by decide +kernel, by decide +kernel⟩
theorem G_law_pull (T : Txt K mg) {f : Addr} {fd : FuncData} (F : FunD K "_law_pull" "_law_pull" (defArgs (top 108)) (defBody (top 108)) (defScope (top 108)) [] [] f fd) (hm : mg "_law_pull" = some (.ref f)) : Fn P w K mg base 1 "_law_pull" ["_law_bag_here", "_law_many"] m_law_pull := by
  refine fn_mk (N := N_law_pull) (asg := []) F sc_law_pull rfl rfl hm (fun _ _ _ _ _ _ us hl => match us, hl with | [_, _], _ => rfl) (fun cdv A outer s H Ex hr => ?_)
  have sc := sc_law_pull
  have po := passes_of (X := cxOf (L2N.CX P w) P w K mg base N_law_pull "_law_pull" (defScope (top 108)) f cdv A outer s H Ex) rfl
  have tk := L2N.takes_of (X := cxOf (L2N.CX P w) P w K mg base N_law_pull "_law_pull" (defScope (top 108)) f cdv A outer s H Ex) (E := Ex) rfl rfl rfl rfl
  exact (s_cons (s_if (t_lt (e_itemF hr.units (e_v 0) e_int) e_int) (s_cons (s_augix iop_add (e_v 0) e_int e_int)
  (s_cons (sN 2 sc.nd (e_itemF hr.units (e_v 0) e_int))
  (s_cons (s_if (t_le (e_itemF hr.units (e_v 0) e_int) (e_len rfl T.b_len (e_itemF hr.units (e_v 0) e_int))) (s_cons (sN 2 sc.nd (e_itemF hr.units (e_itemF hr.units (e_v 0) e_int) (e_sub (e_itemF hr.units (e_v 0) e_int) e_int)))
  (s_one (s_if (t_ge (e_v 2) (e_pow e_int e_int)) (s_cons (s_setitemA hr.units (e_fdiv (e_v 2) (e_v 1)) (e_v 0) e_int)
  (s_one (s_ret (e_mod (e_v 2) (e_v 1))))) s_nil))) s_nil)
  (s_cons (sN 3 sc.nd (e_mod (e_add (e_add (e_v 2) (e_mul (e_itemF hr.units (e_v 0) e_int) e_int)) (e_mul (e_itemF hr.units (e_v 0) e_int) e_int)) e_int))
  (s_cons (sN 3 sc.nd (e_mod (e_add (e_mul (e_v 3) (e_v 3)) e_int) e_int))
  (s_one (s_ret (e_mod (e_fdiv (e_mod (e_add (e_mul (e_v 3) (e_v 3)) (e_itemF hr.units (e_v 0) e_int)) e_int) e_int) (e_v 1))))))))) s_nil)
  (s_cons (sN 4 sc.nd (e_mod (e_itemF hr.units (e_v 0) e_int) (e_v 1)))
  (s_cons (s_setitemA hr.units (e_fdiv (e_itemF hr.units (e_v 0) e_int) (e_v 1)) (e_v 0) e_int)
  (s_one (s_retv (L2.pv 4))))))
abbrev N_law_whole : List Str := ["_law_found"]
theorem sc_law_whole : FnScope N_law_whole ["_law_found"] (defScope (top 109)) := ⟨rfl, rfl, rfl, by decide +kernel, rfl, by decide +kernel, by decide +kernel⟩
theorem G_law_whole (T : Txt K mg) {f : Addr} {fd : FuncData} (F : FunD K "_law_whole" "_law_whole" (defArgs (top 109)) (defBody (top 109)) (defScope (top 109)) [] [] f fd) (hm : mg "_law_whole" = some (.ref f)) : Fn P w K mg base 1 "_law_whole" ["_law_found"] m_law_whole := by
  refine fn_mk (N := N_law_whole) (asg := []) F sc_law_whole rfl rfl hm (fun _ _ _ _ _ _ us hl => match us, hl with | [_], _ => rfl) (fun cdv A outer s H Ex hr => ?_)
  have sc := sc_law_whole
  have po := passes_of (X := cxOf (L2N.CX P w) P w K mg base N_law_whole "_law_whole" (defScope (top 109)) f cdv A outer s H Ex) rfl
  have tk := L2N.takes_of (X := cxOf (L2N.CX P w) P w K mg base N_law_whole "_law_whole" (defScope (top 109)) f cdv A outer s H Ex) (E := Ex) rfl rfl rfl rfl
  exact (s_one (s_ret (e_and (e_isi .int (by decide) rfl T.b_isinstance rfl T.b_int (by decide +kernel) (e_v 0)) (e_one (e_not (e_isi .bl (by decide) rfl T.b_isinstance rfl T.b_bool (by decide +kernel) (e_v 0)))))))
abbrev N_Board_box : List Str := ["self", "name", "names"]
theorem sc_Board_box : FnScope N_Board_box ["self", "name"] (defScope (top 85 8)) := ⟨rfl, rfl, rfl, by decide +kernel, rfl, by decide +kernel, by decide +kernel⟩
theorem G_Board_box (T : Txt K mg) {f : Addr} {fd : FuncData} (F : FunD K "box" "Board.box" (defArgs (top 85 8)) (defBody (top 85 8)) (defScope (top 85 8)) [] [] f fd) (hm : Meth K (He.ga K "Board") "box" f) (G_Board_keep : MtI P w K mg base 1 "Board" "keep" ["self", "deed", "now"] [] m_Board_keep) (G_is_name : Fn P w K mg base 1 "is_name" ["name"] m_is_name) : MtI P w K mg base 2 "Board" "box" ["self", "name"] [] m_Board_box := by
  refine mt_mk (N := N_Board_box) (asg := []) T.k_Board hm F sc_Board_box rfl rfl (fun _ _ _ _ _ _ us hl => match us, hl with | [_, _], _ => rfl) (fun cdv A outer s H Ex hr => ?_)
  have sc := sc_Board_box
  have po := passes_of (X := cxOf (L2N.CX P w) P w K mg base N_Board_box "Board.box" (defScope (top 85 8)) f cdv A outer s H Ex) rfl
  have tk := L2N.takes_of (X := cxOf (L2N.CX P w) P w K mg base N_Board_box "Board.box" (defScope (top 85 8)) f cdv A outer s H Ex) (E := Ex) rfl rfl rfl rfl
  exact (s_cons (sN 2 sc.nd (e_itemF hr.units (e_fld T.f_Board_now (e_v 0)) e_int))
  (s_cons (s_if (t_not (t_val (e_call G_is_name (hr.mono (by omega)) rfl tk (a_cons (e_v 1) a_nil)))) (s_one (s_raise rfl tk T.g_BadName T.x_BadName rfl)) s_nil)
  (s_cons (s_if (t_inF hr.units (e_v 1) (e_v 2)) (s_one (s_raise rfl tk T.g_Taken T.x_Taken rfl)) s_nil)
  (s_cons (s_if (t_ge (e_len rfl T.b_len (e_v 2)) (e_globI rfl T.c_MOST_BOXES)) (s_one (s_raise rfl tk T.g_Full T.x_Full rfl)) s_nil)
  (s_one (s_expr (e_meth G_Board_keep 0 (hr.mono (by omega)) tk (e_v 0) (a_cons (e_tup (a_cons e_str (a_cons (e_tk (e_v 1)) a_nil))) (a_cons (e_add (e_tup (a_cons (e_add (e_v 2) (e_tup (a_cons (e_tk (e_v 1)) a_nil))) a_nil)) (e_slice10 (e_fld T.f_Board_now (e_v 0)) e_int)) a_nil)))))))))
abbrev N_Board_need_arrow : List Str := ["self", "number", "found"]
theorem sc_Board_need_arrow : FnScope N_Board_need_arrow ["self", "number"] (defScope (top 85 11)) := ⟨rfl, rfl, rfl, by decide +kernel, rfl, by decide +kernel, by decide +kernel⟩
theorem G_Board_need_arrow (T : Txt K mg) {f : Addr} {fd : FuncData} (F : FunD K "need_arrow" "Board.need_arrow" (defArgs (top 85 11)) (defBody (top 85 11)) (defScope (top 85 11)) [] [] f fd) (hm : Meth K (He.ga K "Board") "need_arrow" f) (G_numbered : Fn P w K mg base 1 "numbered" ["some", "number"] m_numbered) : MtI P w K mg base 2 "Board" "need_arrow" ["self", "number"] [] m_Board_need_arrow := by
  refine mt_mk (N := N_Board_need_arrow) (asg := []) T.k_Board hm F sc_Board_need_arrow rfl rfl (fun _ _ _ _ _ _ us hl => match us, hl with | [_, _], _ => rfl) (fun cdv A outer s H Ex hr => ?_)
  have sc := sc_Board_need_arrow
  have po := passes_of (X := cxOf (L2N.CX P w) P w K mg base N_Board_need_arrow "Board.need_arrow" (defScope (top 85 11)) f cdv A outer s H Ex) rfl
  have tk := L2N.takes_of (X := cxOf (L2N.CX P w) P w K mg base N_Board_need_arrow "Board.need_arrow" (defScope (top 85 11)) f cdv A outer s H Ex) (E := Ex) rfl rfl rfl rfl
  exact (s_cons (sN 2 sc.nd (e_call G_numbered (hr.mono (by omega)) rfl tk (a_cons (e_itemF hr.units (e_fld T.f_Board_now (e_v 0)) e_int) (a_cons (e_v 1) a_nil))))
  (s_cons (s_if (t_eq hr.units (e_v 2) (e_lst a_nil)) (s_one (s_raiseL rfl tk T.g_NoArrow T.xl_NoArrow rfl)) s_nil)
  (s_one (s_ret (e_itemF hr.units (e_v 2) e_int)))))
abbrev N_Board_say : List Str := ["self", "one", "other", "least", "names", "arrows", "sayings", "late", "number", "held", "row"]
theorem sc_Board_say : FnScope N_Board_say ["self", "one", "other", "least"] (defScope (top 85 14)) := ⟨rfl, rfl, rfl, by decide +kernel, rfl, by decide +kernel, by decide +kernel⟩
theorem B_Board_say (T : Txt K mg) {f : Addr} (G_Board_keep : MtI P w K mg base 1 "Board" "keep" ["self", "deed", "now"] [] m_Board_keep) (G_Board_need_boxes : MtI P w K mg base 1 "Board" "need_boxes" ["self", "names"] [] m_Board_need_boxes) (G_is_far : Fn P w K mg base 1 "is_far" ["least"] m_is_far) : ∀ (cdv : Value) (A : Around) (outer : List Env) (s : Shared) (H : Hp) (Ex : XK), Room 1 (A.deeper (PyProof.Rows.envOfC "Board.say" (defScope (top 85 14)) s.heap.objs.size f cdv)) → PSs (cxOf (L2N.CX P w) P w K mg base N_Board_say "Board.say" (defScope (top 85 14)) f cdv A outer s H Ex) (defBody (top 85 14)) (rS K (fun cls d _ H' => Ex cls d H') (pinsOf 4 []) b_Board_say) := by
  intro cdv A outer s H Ex hr
  have sc := sc_Board_say
  have po := passes_of (X := (cxOf (L2N.CX P w) P w K mg base N_Board_say "Board.say" (defScope (top 85 14)) f cdv A outer s H Ex)) rfl
  have tk := L2N.takes_of (X := (cxOf (L2N.CX P w) P w K mg base N_Board_say "Board.say" (defScope (top 85 14)) f cdv A outer s H Ex)) (E := Ex) rfl rfl rfl rfl
  exact (s_cons (s_asg (S := [4, 5, 6, 7, 8, 9]) (e_fld T.f_Board_now (e_v 0)) (g_tup rfl (gs_cons (gN 4 sc.nd) (gs_cons (gN 5 sc.nd) (gs_cons (gN 6 sc.nd) (gs_cons (gN 7 sc.nd) (gs_cons (gN 8 sc.nd) (gs_cons (gN 9 sc.nd) gs_nil))))))))
  (s_cons (s_expr (e_meth G_Board_need_boxes 0 (hr.mono (by omega)) tk (e_v 0) (a_cons (e_lst (a_cons (e_tk (e_v 1)) (a_cons (e_tk (e_v 2)) a_nil))) a_nil)))
  (s_cons (s_if (t_eq hr.units (e_v 1) (e_v 2)) (s_one (s_raise rfl tk T.g_Same T.x_Same rfl)) s_nil)
  (s_cons (s_if (t_not (t_val (e_call G_is_far (hr.mono (by omega)) rfl tk (a_cons (e_v 3) a_nil)))) (s_one (s_raise rfl tk T.g_BadLeast T.x_BadLeast rfl)) s_nil)
  (s_cons (s_if (t_ge (e_len rfl T.b_len (e_v 6)) (e_globI rfl T.c_MOST_SAYINGS)) (s_one (s_raise rfl tk T.g_Full T.x_Full rfl)) s_nil)
  (s_cons (sN 10 sc.nd (e_tup (a_cons (e_tk (e_v 8)) (a_cons (e_tk (e_v 1)) (a_cons (e_tk (e_v 2)) (a_cons (e_tk (e_v 3)) a_nil))))))
  (s_cons (s_expr (e_meth G_Board_keep 0 (hr.mono (by omega)) tk (e_v 0) (a_cons (e_tup (a_cons e_str (a_cons (e_tk (e_v 1)) (a_cons (e_tk (e_v 2)) (a_cons (e_tk (e_v 3)) a_nil))))) (a_cons (e_tup (a_cons (e_tk (e_v 4)) (a_cons (e_tk (e_v 5)) (a_cons (e_add (e_v 6) (e_tup (a_cons (e_tk (e_v 10)) a_nil))) (a_cons (e_tk (e_v 7)) (a_cons (e_add (e_v 8) e_int) (a_cons (e_tk (e_v 9)) a_nil))))))) a_nil))))
  (s_one (s_retv (L2.pv 8))))))))))
theorem G_Board_say (T : Txt K mg) {f : Addr} {fd : FuncData} (F : FunD K "say" "Board.say" (defArgs (top 85 14)) (defBody (top 85 14)) (defScope (top 85 14)) [V.int 1] [] f fd) (hm : Meth K (He.ga K "Board") "say" f) (G_Board_keep : MtI P w K mg base 1 "Board" "keep" ["self", "deed", "now"] [] m_Board_keep) (G_Board_need_boxes : MtI P w K mg base 1 "Board" "need_boxes" ["self", "names"] [] m_Board_need_boxes) (G_is_far : Fn P w K mg base 1 "is_far" ["least"] m_is_far) : MtI P w K mg base 2 "Board" "say" ["self", "one", "other", "least"] [1] m_Board_say := by
  refine mt_mkI (ns := [1]) (N := N_Board_say) (asg := []) T.k_Board hm F sc_Board_say rfl rfl (by decide) (by decide) (fun j hj T kV doc pm an cdv ct us its hl h2 => match j, hj, T, kV, doc, pm, an, cdv, ct, us, its, hl, h2 with | 0, _, _, _, _, _, _, _, _, us, its, hl, h2 => (match us, hl, its, h2 with | [_, _, _], _, [_], _ => ⟨_, rfl, rfl⟩) | 1, _, _, _, _, _, _, _, _, us, its, hl, h2 => (match us, hl, its, h2 with | [_, _, _, _], _, [_], _ => ⟨_, rfl, rfl⟩) | kk + 2, hj, _, _, _, _, _, _, _, _, _, _, _ => absurd hj (by simp)) (B_Board_say T G_Board_keep G_Board_need_boxes G_is_far)
theorem GK0_Board_say (T : Txt K mg) {f : Addr} {fd : FuncData} (F : FunD K "say" "Board.say" (defArgs (top 85 14)) (defBody (top 85 14)) (defScope (top 85 14)) [V.int 1] [] f fd) (hm : Meth K (He.ga K "Board") "say" f) (G_Board_keep : MtI P w K mg base 1 "Board" "keep" ["self", "deed", "now"] [] m_Board_keep) (G_Board_need_boxes : MtI P w K mg base 1 "Board" "need_boxes" ["self", "names"] [] m_Board_need_boxes) (G_is_far : Fn P w K mg base 1 "is_far" ["least"] m_is_far) : MtK P w K mg base 2 "Board" "say" ["self", "one", "other", "least"] ["least"] 3 [] [] m_Board_say :=
  mt_mkK (ns := [1]) (ks := ["least"]) (n := 3) 0 0 1 T.k_Board hm F sc_Board_say rfl rfl (by decide) (by decide) (fun _ _ _ _ _ _ _ us ws its h1 h2 h3 => match us, h1, ws, h2, its, h3 with | [_, _, _], _, [_], _, [_], _ => ⟨_, rfl, rfl⟩) (B_Board_say T G_Board_keep G_Board_need_boxes G_is_far)
abbrev N_Board_unsay : List Str := ["self", "number", "found", "sayings"]
theorem sc_Board_unsay : FnScope N_Board_unsay ["self", "number"] (defScope (top 85 15)) := ⟨rfl, rfl, rfl, by decide +kernel, rfl, by decide +kernel, by decide +kernel⟩
theorem G_Board_unsay (T : Txt K mg) {f : Addr} {fd : FuncData} (F : FunD K "unsay" "Board.unsay" (defArgs (top 85 15)) (defBody (top 85 15)) (defScope (top 85 15)) [] [] f fd) (hm : Meth K (He.ga K "Board") "unsay" f) (G_Board_keep : MtI P w K mg base 1 "Board" "keep" ["self", "deed", "now"] [] m_Board_keep) (G_numbered : Fn P w K mg base 1 "numbered" ["some", "number"] m_numbered) : MtI P w K mg base 2 "Board" "unsay" ["self", "number"] [] m_Board_unsay := by
  refine mt_mk (N := N_Board_unsay) (asg := []) T.k_Board hm F sc_Board_unsay rfl rfl (fun _ _ _ _ _ _ us hl => match us, hl with | [_, _], _ => rfl) (fun cdv A outer s H Ex hr => ?_)
  have sc := sc_Board_unsay
  have po := passes_of (X := cxOf (L2N.CX P w) P w K mg base N_Board_unsay "Board.unsay" (defScope (top 85 15)) f cdv A outer s H Ex) rfl
  have tk := L2N.takes_of (X := cxOf (L2N.CX P w) P w K mg base N_Board_unsay "Board.unsay" (defScope (top 85 15)) f cdv A outer s H Ex) (E := Ex) rfl rfl rfl rfl
  exact (s_cons (sN 2 sc.nd (e_call G_numbered (hr.mono (by omega)) rfl tk (a_cons (e_itemF hr.units (e_fld T.f_Board_now (e_v 0)) e_int) (a_cons (e_v 1) a_nil))))
  (s_cons (s_if (t_eq hr.units (e_v 2) (e_lst a_nil)) (s_one (s_raiseL rfl tk T.g_NoSaying T.xl_NoSaying rfl)) s_nil)
  (s_cons (sN 3 sc.nd (e_itemF hr.units (e_fld T.f_Board_now (e_v 0)) e_int))
  (s_one (s_expr (e_meth G_Board_keep 0 (hr.mono (by omega)) tk (e_v 0) (a_cons (e_tup (a_cons e_str (a_cons (e_tk (e_v 1)) a_nil))) (a_cons (e_add (e_add (e_slice01 (e_fld T.f_Board_now (e_v 0)) e_int) (e_tup (a_cons (e_add (e_slice01 (e_v 3) (e_itemF hr.units (e_v 2) e_int)) (e_slice10 (e_v 3) (e_add (e_itemF hr.units (e_v 2) e_int) e_int))) a_nil))) (e_slice10 (e_fld T.f_Board_now (e_v 0)) e_int)) a_nil))))))))
abbrev N_Board_web : List Str := ["self"]
theorem sc_Board_web : FnScope N_Board_web ["self"] (defScope (top 85 23)) := ⟨rfl, rfl, rfl, by decide +kernel, rfl, by decide +kernel, by decide +kernel⟩
theorem G_Board_web (T : Txt K mg) {f : Addr} {fd : FuncData} (F : FunD K "web" "Board.web" (defArgs (top 85 23)) (defBody (top 85 23)) (defScope (top 85 23)) [] [] f fd) (hm : Meth K (He.ga K "Board") "web" f) (G_web_of : Fn P w K mg base 1 "web_of" ["now"] m_web_of) : MtI P w K mg base 2 "Board" "web" ["self"] [] m_Board_web := by
  refine mt_mk (N := N_Board_web) (asg := []) T.k_Board hm F sc_Board_web rfl rfl (fun _ _ _ _ _ _ us hl => match us, hl with | [_], _ => rfl) (fun cdv A outer s H Ex hr => ?_)
  have sc := sc_Board_web
  have po := passes_of (X := cxOf (L2N.CX P w) P w K mg base N_Board_web "Board.web" (defScope (top 85 23)) f cdv A outer s H Ex) rfl
  have tk := L2N.takes_of (X := cxOf (L2N.CX P w) P w K mg base N_Board_web "Board.web" (defScope (top 85 23)) f cdv A outer s H Ex) (E := Ex) rfl rfl rfl rfl
  exact (s_one (s_ret (e_call G_web_of (hr.mono (by omega)) rfl tk (a_cons (e_fld T.f_Board_now (e_v 0)) a_nil))))
abbrev N_need_sizes : List Str := ["least", "weight"]
theorem sc_need_sizes : FnScope N_need_sizes ["least", "weight"] (defScope (top 86)) := ⟨rfl, rfl, rfl, by decide +kernel, rfl, by decide +kernel, by decide +kernel⟩
theorem G_need_sizes (T : Txt K mg) {f : Addr} {fd : FuncData} (F : FunD K "need_sizes" "need_sizes" (defArgs (top 86)) (defBody (top 86)) (defScope (top 86)) [] [] f fd) (hm : mg "need_sizes" = some (.ref f)) (G_is_least : Fn P w K mg base 1 "is_least" ["least"] m_is_least) (G_is_weight : Fn P w K mg base 1 "is_weight" ["weight"] m_is_weight) : Fn P w K mg base 2 "need_sizes" ["least", "weight"] m_need_sizes := by
  refine fn_mk (N := N_need_sizes) (asg := []) F sc_need_sizes rfl rfl hm (fun _ _ _ _ _ _ us hl => match us, hl with | [_, _], _ => rfl) (fun cdv A outer s H Ex hr => ?_)
  have sc := sc_need_sizes
  have po := passes_of (X := cxOf (L2N.CX P w) P w K mg base N_need_sizes "need_sizes" (defScope (top 86)) f cdv A outer s H Ex) rfl
  have tk := L2N.takes_of (X := cxOf (L2N.CX P w) P w K mg base N_need_sizes "need_sizes" (defScope (top 86)) f cdv A outer s H Ex) (E := Ex) rfl rfl rfl rfl
  exact (s_cons (s_if (t_not (t_val (e_call G_is_least (hr.mono (by omega)) rfl tk (a_cons (e_v 0) a_nil)))) (s_one (s_raise rfl tk T.g_BadLeast T.x_BadLeast rfl)) s_nil)
  (s_one (s_if (t_not (t_val (e_call G_is_weight (hr.mono (by omega)) rfl tk (a_cons (e_v 1) a_nil)))) (s_one (s_raise rfl tk T.g_BadWeight T.x_BadWeight rfl)) s_nil)))
abbrev N_law_alike : List Str := ["_law_found", "_law_due", "_law_at"]
theorem sc_law_alike : FnScope N_law_alike ["_law_found", "_law_due"] (defScope (top 102)) := ⟨rfl, rfl, rfl, by decide +kernel, rfl, by decide +kernel, by decide +kernel⟩
theorem G_law_alike_n (T : Txt K mg) {f : Addr} {fd : FuncData} (F : FunD K "_law_alike" "_law_alike" (defArgs (top 102)) (defBody (top 102)) (defScope (top 102)) [] [] f fd) (hm : mg "_law_alike" = some (.ref f)) (G_law_whole : Fn P w K mg base 1 "_law_whole" ["_law_found"] m_law_whole) : ∀ n : Nat, Fn P w K mg base (n + 2) "_law_alike" ["_law_found", "_law_due"] (m_law_alike n)
  | 0 => fn_none F hm (fun _ _ _ _ _ _ us hl => match us, hl with | [_, _], _ => rfl)
  | n + 1 => by
    have G_law_alike := G_law_alike_n T F hm G_law_whole n
    refine fn_mk (N := N_law_alike) (asg := []) F sc_law_alike rfl rfl hm (fun _ _ _ _ _ _ us hl => match us, hl with | [_, _], _ => rfl) (fun cdv A outer s H Ex hr => ?_)
    have sc := sc_law_alike
    have po := passes_of (X := cxOf (L2N.CX P w) P w K mg base N_law_alike "_law_alike" (defScope (top 102)) f cdv A outer s H Ex) rfl
    have tk := L2N.takes_of (X := cxOf (L2N.CX P w) P w K mg base N_law_alike "_law_alike" (defScope (top 102)) f cdv A outer s H Ex) (E := Ex) rfl rfl rfl rfl
    exact (s_cons (s_if (t_isN (e_v 1) e_non) (s_one (s_ret (e_isN (e_v 0) e_non))) s_nil)
  (s_cons (s_if (t_val (e_isi .bl (by decide) rfl T.b_isinstance rfl T.b_bool (by decide +kernel) (e_v 1))) (s_one (s_ret (e_and (e_isi .bl (by decide) rfl T.b_isinstance rfl T.b_bool (by decide +kernel) (e_v 0)) (e_one (e_eq hr.units (e_v 0) (e_v 1)))))) s_nil)
  (s_cons (s_if (t_val (e_isi .int (by decide) rfl T.b_isinstance rfl T.b_int (by decide +kernel) (e_v 1))) (s_one (s_ret (e_and (e_call G_law_whole (hr.mono (by omega)) rfl tk (a_cons (e_v 0) a_nil)) (e_one (e_eq hr.units (e_v 0) (e_v 1)))))) s_nil)
  (s_cons (s_if (t_val (e_isi .str (by decide) rfl T.b_isinstance rfl T.b_str (by decide +kernel) (e_v 1))) (s_one (s_ret (e_and (e_isi .str (by decide) rfl T.b_isinstance rfl T.b_str (by decide +kernel) (e_v 0)) (e_one (e_eq hr.units (e_v 0) (e_v 1)))))) s_nil)
  (s_cons (s_if (PW.pt (t_or (t_ne hr.units (e_isi .lst (by decide) rfl T.b_isinstance rfl T.b_list (by decide +kernel) (e_v 1)) (e_isi .lst (by decide) rfl T.b_isinstance rfl T.b_list (by decide +kernel) (e_v 0))) (t_or1 (t_ne hr.units (e_isi .tup (by decide) rfl T.b_isinstance rfl T.b_tuple (by decide +kernel) (e_v 1)) (e_isi .tup (by decide) rfl T.b_isinstance rfl T.b_tuple (by decide +kernel) (e_v 0)))))) (s_one (s_ret e_bl)) s_nil)
  (s_cons (s_if (PW.pt (t_or (t_not (t_val (e_isi2 .lst .tup (by decide) (by decide) rfl T.b_isinstance rfl T.b_list (by decide +kernel) rfl T.b_tuple (by decide +kernel) (e_v 0)))) (t_or1 (t_ne hr.units (e_len rfl T.b_len (e_v 0)) (e_len rfl T.b_len (e_v 1)))))) (s_one (s_ret e_bl)) s_nil)
  (s_one (s_ret (e_all rfl rfl T.b_all (e_lc (own := [("_law_at", 2)]) (S := [2]) rfl sc.nd (i_range1 rfl T.b_range (e_len rfl T.b_len (e_v 1))) (blkOk_by (N := N_law_alike) (sc := defScope (top 102)) (own := [("_law_at", 2)]) (by decide +kernel)) (fun _ _ _ _ _ => (gN 2 sc.nd)) (fun _ _ _ _ _ => (ts_nil rfl)) (fun _ _ _ _ _ => (e_call G_law_alike (hr.mono (by omega)) rfl takesN0 (a_cons (e_itemF hr.units (e_v 0) (e_v 2)) (a_cons (e_itemF hr.units (e_v 1) (e_v 2)) a_nil))))))))))))))
abbrev N_law_names : List Str := ["_law_bag_here", "_law_many", "_law_found", "_law_tail", "_law_k", "_law_first", "_law_at"]
theorem sc_law_names : FnScope N_law_names ["_law_bag_here", "_law_many"] (defScope (top 107)) := ⟨rfl, rfl, rfl, by decide +kernel, rfl, by decide +kernel, by decide +kernel⟩
theorem G_law_names (T : Txt K mg) {f : Addr} {fd : FuncData} (F : FunD K "_law_names" "_law_names" (defArgs (top 107)) (defBody (top 107)) (defScope (top 107)) [] [] f fd) (hm : mg "_law_names" = some (.ref f)) (G_law_pull : Fn P w K mg base 1 "_law_pull" ["_law_bag_here", "_law_many"] m_law_pull) : Fn P w K mg base 2 "_law_names" ["_law_bag_here", "_law_many"] m_law_names := by
  refine fn_mk (N := N_law_names) (asg := []) F sc_law_names rfl rfl hm (fun _ _ _ _ _ _ us hl => match us, hl with | [_, _], _ => rfl) (fun cdv A outer s H Ex hr => ?_)
  have sc := sc_law_names
  have po := passes_of (X := cxOf (L2N.CX P w) P w K mg base N_law_names "_law_names" (defScope (top 107)) f cdv A outer s H Ex) rfl
  have tk := L2N.takes_of (X := cxOf (L2N.CX P w) P w K mg base N_law_names "_law_names" (defScope (top 107)) f cdv A outer s H Ex) (E := Ex) rfl rfl rfl rfl
  exact (s_cons (sN 2 sc.nd (e_lst a_nil))
  (s_cons (sN 3 sc.nd (e_lst (a_cons e_str (a_cons e_str (a_cons e_str (a_cons e_str (a_cons e_str (a_cons e_str a_nil))))))))
  (s_cons (s_for (S := [4]) po rfl (i_range1 rfl T.b_range (e_v 1)) (gN 4 sc.nd) (s_cons (sN 5 sc.nd (e_add (e_itemF hr.units e_str (e_mod (e_v 4) e_int)) (e_mul e_str (e_fdiv (e_v 4) e_int))))
  (s_one (s_expr (e_append (e_v 2) (e_slice01 (e_add (e_v 5) (e_itemF hr.units (e_v 3) (e_call G_law_pull (hr.mono (by omega)) rfl tk (a_cons (e_v 0) (a_cons e_int a_nil))))) e_int))))))
  (s_cons (sN 6 sc.nd (e_call G_law_pull (hr.mono (by omega)) rfl tk (a_cons (e_v 0) (a_cons (e_max2 rfl rfl T.b_max e_int (e_v 1)) a_nil))))
  (s_one (s_ret (e_tuple rfl T.b_tuple (e_add (e_slice10 (e_v 2) (e_v 6)) (e_slice01 (e_v 2) (e_v 6))))))))))
abbrev N_Board_arrow : List Str := ["self", "one", "other", "least", "weight", "names", "arrows", "sayings", "number", "late", "held", "row"]
theorem sc_Board_arrow : FnScope N_Board_arrow ["self", "one", "other", "least", "weight"] (defScope (top 85 10)) := ⟨rfl, rfl, rfl, by decide +kernel, rfl, by decide +kernel, by decide +kernel⟩
theorem B_Board_arrow (T : Txt K mg) {f : Addr} (G_Board_keep : MtI P w K mg base 1 "Board" "keep" ["self", "deed", "now"] [] m_Board_keep) (G_Board_need_boxes : MtI P w K mg base 1 "Board" "need_boxes" ["self", "names"] [] m_Board_need_boxes) (G_need_sizes : Fn P w K mg base 2 "need_sizes" ["least", "weight"] m_need_sizes) : ∀ (cdv : Value) (A : Around) (outer : List Env) (s : Shared) (H : Hp) (Ex : XK), Room 2 (A.deeper (PyProof.Rows.envOfC "Board.arrow" (defScope (top 85 10)) s.heap.objs.size f cdv)) → PSs (cxOf (L2N.CX P w) P w K mg base N_Board_arrow "Board.arrow" (defScope (top 85 10)) f cdv A outer s H Ex) (defBody (top 85 10)) (rS K (fun cls d _ H' => Ex cls d H') (pinsOf 5 []) b_Board_arrow) := by
  intro cdv A outer s H Ex hr
  have sc := sc_Board_arrow
  have po := passes_of (X := (cxOf (L2N.CX P w) P w K mg base N_Board_arrow "Board.arrow" (defScope (top 85 10)) f cdv A outer s H Ex)) rfl
  have tk := L2N.takes_of (X := (cxOf (L2N.CX P w) P w K mg base N_Board_arrow "Board.arrow" (defScope (top 85 10)) f cdv A outer s H Ex)) (E := Ex) rfl rfl rfl rfl
  exact (s_cons (s_asg (S := [5, 6, 7, 8, 9, 10]) (e_fld T.f_Board_now (e_v 0)) (g_tup rfl (gs_cons (gN 5 sc.nd) (gs_cons (gN 6 sc.nd) (gs_cons (gN 7 sc.nd) (gs_cons (gN 8 sc.nd) (gs_cons (gN 9 sc.nd) (gs_cons (gN 10 sc.nd) gs_nil))))))))
  (s_cons (s_expr (e_meth G_Board_need_boxes 0 (hr.mono (by omega)) tk (e_v 0) (a_cons (e_lst (a_cons (e_tk (e_v 1)) (a_cons (e_tk (e_v 2)) a_nil))) a_nil)))
  (s_cons (s_expr (e_call G_need_sizes (hr.mono (by omega)) rfl tk (a_cons (e_v 3) (a_cons (e_v 4) a_nil))))
  (s_cons (s_if (t_ge (e_len rfl T.b_len (e_v 6)) (e_globI rfl T.c_MOST_ARROWS)) (s_one (s_raise rfl tk T.g_Full T.x_Full rfl)) s_nil)
  (s_cons (sN 11 sc.nd (e_tup (a_cons (e_tk (e_v 8)) (a_cons (e_tk (e_v 1)) (a_cons (e_tk (e_v 2)) (a_cons (e_tk (e_v 3)) (a_cons (e_tk (e_v 4)) a_nil)))))))
  (s_cons (s_expr (e_meth G_Board_keep 0 (hr.mono (by omega)) tk (e_v 0) (a_cons (e_tup (a_cons e_str (a_cons (e_tk (e_v 1)) (a_cons (e_tk (e_v 2)) (a_cons (e_tk (e_v 3)) (a_cons (e_tk (e_v 4)) a_nil)))))) (a_cons (e_tup (a_cons (e_tk (e_v 5)) (a_cons (e_add (e_v 6) (e_tup (a_cons (e_tk (e_v 11)) a_nil))) (a_cons (e_tk (e_v 7)) (a_cons (e_add (e_v 8) e_int) (a_cons (e_tk (e_v 9)) (a_cons (e_tk (e_v 10)) a_nil))))))) a_nil))))
  (s_one (s_retv (L2.pv 8)))))))))
theorem G_Board_arrow (T : Txt K mg) {f : Addr} {fd : FuncData} (F : FunD K "arrow" "Board.arrow" (defArgs (top 85 10)) (defBody (top 85 10)) (defScope (top 85 10)) [V.int 1, V.int 1] [] f fd) (hm : Meth K (He.ga K "Board") "arrow" f) (G_Board_keep : MtI P w K mg base 1 "Board" "keep" ["self", "deed", "now"] [] m_Board_keep) (G_Board_need_boxes : MtI P w K mg base 1 "Board" "need_boxes" ["self", "names"] [] m_Board_need_boxes) (G_need_sizes : Fn P w K mg base 2 "need_sizes" ["least", "weight"] m_need_sizes) : MtI P w K mg base 3 "Board" "arrow" ["self", "one", "other", "least", "weight"] [1, 1] m_Board_arrow := by
  refine mt_mkI (ns := [1, 1]) (N := N_Board_arrow) (asg := []) T.k_Board hm F sc_Board_arrow rfl rfl (by decide) (by decide) (fun j hj T kV doc pm an cdv ct us its hl h2 => match j, hj, T, kV, doc, pm, an, cdv, ct, us, its, hl, h2 with | 0, _, _, _, _, _, _, _, _, us, its, hl, h2 => (match us, hl, its, h2 with | [_, _, _], _, [_, _], _ => ⟨_, rfl, rfl⟩) | 1, _, _, _, _, _, _, _, _, us, its, hl, h2 => (match us, hl, its, h2 with | [_, _, _, _], _, [_, _], _ => ⟨_, rfl, rfl⟩) | 2, _, _, _, _, _, _, _, _, us, its, hl, h2 => (match us, hl, its, h2 with | [_, _, _, _, _], _, [_, _], _ => ⟨_, rfl, rfl⟩) | kk + 3, hj, _, _, _, _, _, _, _, _, _, _, _ => absurd hj (by simp)) (B_Board_arrow T G_Board_keep G_Board_need_boxes G_need_sizes)
theorem GK0_Board_arrow (T : Txt K mg) {f : Addr} {fd : FuncData} (F : FunD K "arrow" "Board.arrow" (defArgs (top 85 10)) (defBody (top 85 10)) (defScope (top 85 10)) [V.int 1, V.int 1] [] f fd) (hm : Meth K (He.ga K "Board") "arrow" f) (G_Board_keep : MtI P w K mg base 1 "Board" "keep" ["self", "deed", "now"] [] m_Board_keep) (G_Board_need_boxes : MtI P w K mg base 1 "Board" "need_boxes" ["self", "names"] [] m_Board_need_boxes) (G_need_sizes : Fn P w K mg base 2 "need_sizes" ["least", "weight"] m_need_sizes) : MtK P w K mg base 3 "Board" "arrow" ["self", "one", "other", "least", "weight"] ["least"] 3 [] [1] m_Board_arrow :=
  mt_mkK (ns := [1, 1]) (ks := ["least"]) (n := 3) 0 0 1 T.k_Board hm F sc_Board_arrow rfl rfl (by decide) (by decide) (fun _ _ _ _ _ _ _ us ws its h1 h2 h3 => match us, h1, ws, h2, its, h3 with | [_, _, _], _, [_], _, [_, _], _ => ⟨_, rfl, rfl⟩) (B_Board_arrow T G_Board_keep G_Board_need_boxes G_need_sizes)
theorem GK1_Board_arrow (T : Txt K mg) {f : Addr} {fd : FuncData} (F : FunD K "arrow" "Board.arrow" (defArgs (top 85 10)) (defBody (top 85 10)) (defScope (top 85 10)) [V.int 1, V.int 1] [] f fd) (hm : Meth K (He.ga K "Board") "arrow" f) (G_Board_keep : MtI P w K mg base 1 "Board" "keep" ["self", "deed", "now"] [] m_Board_keep) (G_Board_need_boxes : MtI P w K mg base 1 "Board" "need_boxes" ["self", "names"] [] m_Board_need_boxes) (G_need_sizes : Fn P w K mg base 2 "need_sizes" ["least", "weight"] m_need_sizes) : MtK P w K mg base 3 "Board" "arrow" ["self", "one", "other", "least", "weight"] ["least", "weight"] 3 [] [] m_Board_arrow :=
  mt_mkK (ns := [1, 1]) (ks := ["least", "weight"]) (n := 3) 0 0 2 T.k_Board hm F sc_Board_arrow rfl rfl (by decide) (by decide) (fun _ _ _ _ _ _ _ us ws its h1 h2 h3 => match us, h1, ws, h2, its, h3 with | [_, _, _], _, [_, _], _, [_, _], _ => ⟨_, rfl, rfl⟩) (B_Board_arrow T G_Board_keep G_Board_need_boxes G_need_sizes)
theorem GK2_Board_arrow (T : Txt K mg) {f : Addr} {fd : FuncData} (F : FunD K "arrow" "Board.arrow" (defArgs (top 85 10)) (defBody (top 85 10)) (defScope (top 85 10)) [V.int 1, V.int 1] [] f fd) (hm : Meth K (He.ga K "Board") "arrow" f) (G_Board_keep : MtI P w K mg base 1 "Board" "keep" ["self", "deed", "now"] [] m_Board_keep) (G_Board_need_boxes : MtI P w K mg base 1 "Board" "need_boxes" ["self", "names"] [] m_Board_need_boxes) (G_need_sizes : Fn P w K mg base 2 "need_sizes" ["least", "weight"] m_need_sizes) : MtK P w K mg base 3 "Board" "arrow" ["self", "one", "other", "least", "weight"] ["weight"] 3 [1] [] m_Board_arrow :=
  mt_mkK (ns := [1, 1]) (ks := ["weight"]) (n := 3) 0 1 2 T.k_Board hm F sc_Board_arrow rfl rfl (by decide) (by decide) (fun _ _ _ _ _ _ _ us ws its h1 h2 h3 => match us, h1, ws, h2, its, h3 with | [_, _, _], _, [_], _, [_, _], _ => ⟨_, rfl, rfl⟩) (B_Board_arrow T G_Board_keep G_Board_need_boxes G_need_sizes)
abbrev N_Board_cut : List Str := ["self", "number", "at", "arrows"]
theorem sc_Board_cut : FnScope N_Board_cut ["self", "number"] (defScope (top 85 12)) := ⟨rfl, rfl, rfl, by decide +kernel, rfl, by decide +kernel, by decide +kernel⟩
theorem G_Board_cut (T : Txt K mg) {f : Addr} {fd : FuncData} (F : FunD K "cut" "Board.cut" (defArgs (top 85 12)) (defBody (top 85 12)) (defScope (top 85 12)) [] [] f fd) (hm : Meth K (He.ga K "Board") "cut" f) (G_Board_keep : MtI P w K mg base 1 "Board" "keep" ["self", "deed", "now"] [] m_Board_keep) (G_Board_need_arrow : MtI P w K mg base 2 "Board" "need_arrow" ["self", "number"] [] m_Board_need_arrow) : MtI P w K mg base 3 "Board" "cut" ["self", "number"] [] m_Board_cut := by
  refine mt_mk (N := N_Board_cut) (asg := []) T.k_Board hm F sc_Board_cut rfl rfl (fun _ _ _ _ _ _ us hl => match us, hl with | [_, _], _ => rfl) (fun cdv A outer s H Ex hr => ?_)
  have sc := sc_Board_cut
  have po := passes_of (X := cxOf (L2N.CX P w) P w K mg base N_Board_cut "Board.cut" (defScope (top 85 12)) f cdv A outer s H Ex) rfl
  have tk := L2N.takes_of (X := cxOf (L2N.CX P w) P w K mg base N_Board_cut "Board.cut" (defScope (top 85 12)) f cdv A outer s H Ex) (E := Ex) rfl rfl rfl rfl
  exact (s_cons (sN 2 sc.nd (e_meth G_Board_need_arrow 0 (hr.mono (by omega)) tk (e_v 0) (a_cons (e_v 1) a_nil)))
  (s_cons (sN 3 sc.nd (e_itemF hr.units (e_fld T.f_Board_now (e_v 0)) e_int))
  (s_one (s_expr (e_meth G_Board_keep 0 (hr.mono (by omega)) tk (e_v 0) (a_cons (e_tup (a_cons e_str (a_cons (e_tk (e_v 1)) a_nil))) (a_cons (e_add (e_add (e_slice01 (e_fld T.f_Board_now (e_v 0)) e_int) (e_tup (a_cons (e_add (e_slice01 (e_v 3) (e_v 2)) (e_slice10 (e_v 3) (e_add (e_v 2) e_int))) a_nil))) (e_slice10 (e_fld T.f_Board_now (e_v 0)) e_int)) a_nil)))))))
abbrev N_Board_alter : List Str := ["self", "number", "least", "weight", "at", "arrows", "later"]
theorem sc_Board_alter : FnScope N_Board_alter ["self", "number", "least", "weight"] (defScope (top 85 13)) := ⟨rfl, rfl, rfl, by decide +kernel, rfl, by decide +kernel, by decide +kernel⟩
theorem B_Board_alter (T : Txt K mg) {f : Addr} (G_Board_keep : MtI P w K mg base 1 "Board" "keep" ["self", "deed", "now"] [] m_Board_keep) (G_Board_need_arrow : MtI P w K mg base 2 "Board" "need_arrow" ["self", "number"] [] m_Board_need_arrow) (G_need_sizes : Fn P w K mg base 2 "need_sizes" ["least", "weight"] m_need_sizes) : ∀ (cdv : Value) (A : Around) (outer : List Env) (s : Shared) (H : Hp) (Ex : XK), Room 2 (A.deeper (PyProof.Rows.envOfC "Board.alter" (defScope (top 85 13)) s.heap.objs.size f cdv)) → PSs (cxOf (L2N.CX P w) P w K mg base N_Board_alter "Board.alter" (defScope (top 85 13)) f cdv A outer s H Ex) (defBody (top 85 13)) (rS K (fun cls d _ H' => Ex cls d H') (pinsOf 4 []) b_Board_alter) := by
  intro cdv A outer s H Ex hr
  have sc := sc_Board_alter
  have po := passes_of (X := (cxOf (L2N.CX P w) P w K mg base N_Board_alter "Board.alter" (defScope (top 85 13)) f cdv A outer s H Ex)) rfl
  have tk := L2N.takes_of (X := (cxOf (L2N.CX P w) P w K mg base N_Board_alter "Board.alter" (defScope (top 85 13)) f cdv A outer s H Ex)) (E := Ex) rfl rfl rfl rfl
  exact (s_cons (sN 4 sc.nd (e_meth G_Board_need_arrow 0 (hr.mono (by omega)) tk (e_v 0) (a_cons (e_v 1) a_nil)))
  (s_cons (s_expr (e_call G_need_sizes (hr.mono (by omega)) rfl tk (a_cons (e_v 2) (a_cons (e_v 3) a_nil))))
  (s_cons (sN 5 sc.nd (e_itemF hr.units (e_fld T.f_Board_now (e_v 0)) e_int))
  (s_cons (sN 6 sc.nd (e_add (e_add (e_slice01 (e_v 5) (e_v 4)) (e_tup (a_cons (e_add (e_slice01 (e_itemF hr.units (e_v 5) (e_v 4)) e_int) (e_tup (a_cons (e_tk (e_v 2)) (a_cons (e_tk (e_v 3)) a_nil)))) a_nil))) (e_slice10 (e_v 5) (e_add (e_v 4) e_int))))
  (s_one (s_expr (e_meth G_Board_keep 0 (hr.mono (by omega)) tk (e_v 0) (a_cons (e_tup (a_cons e_str (a_cons (e_tk (e_v 1)) (a_cons (e_tk (e_v 2)) (a_cons (e_tk (e_v 3)) a_nil))))) (a_cons (e_add (e_add (e_slice01 (e_fld T.f_Board_now (e_v 0)) e_int) (e_tup (a_cons (e_tk (e_v 6)) a_nil))) (e_slice10 (e_fld T.f_Board_now (e_v 0)) e_int)) a_nil)))))))))
theorem G_Board_alter (T : Txt K mg) {f : Addr} {fd : FuncData} (F : FunD K "alter" "Board.alter" (defArgs (top 85 13)) (defBody (top 85 13)) (defScope (top 85 13)) [V.int 1, V.int 1] [] f fd) (hm : Meth K (He.ga K "Board") "alter" f) (G_Board_keep : MtI P w K mg base 1 "Board" "keep" ["self", "deed", "now"] [] m_Board_keep) (G_Board_need_arrow : MtI P w K mg base 2 "Board" "need_arrow" ["self", "number"] [] m_Board_need_arrow) (G_need_sizes : Fn P w K mg base 2 "need_sizes" ["least", "weight"] m_need_sizes) : MtI P w K mg base 3 "Board" "alter" ["self", "number", "least", "weight"] [1, 1] m_Board_alter := by
  refine mt_mkI (ns := [1, 1]) (N := N_Board_alter) (asg := []) T.k_Board hm F sc_Board_alter rfl rfl (by decide) (by decide) (fun j hj T kV doc pm an cdv ct us its hl h2 => match j, hj, T, kV, doc, pm, an, cdv, ct, us, its, hl, h2 with | 0, _, _, _, _, _, _, _, _, us, its, hl, h2 => (match us, hl, its, h2 with | [_, _], _, [_, _], _ => ⟨_, rfl, rfl⟩) | 1, _, _, _, _, _, _, _, _, us, its, hl, h2 => (match us, hl, its, h2 with | [_, _, _], _, [_, _], _ => ⟨_, rfl, rfl⟩) | 2, _, _, _, _, _, _, _, _, us, its, hl, h2 => (match us, hl, its, h2 with | [_, _, _, _], _, [_, _], _ => ⟨_, rfl, rfl⟩) | kk + 3, hj, _, _, _, _, _, _, _, _, _, _, _ => absurd hj (by simp)) (B_Board_alter T G_Board_keep G_Board_need_arrow G_need_sizes)
theorem GK0_Board_alter (T : Txt K mg) {f : Addr} {fd : FuncData} (F : FunD K "alter" "Board.alter" (defArgs (top 85 13)) (defBody (top 85 13)) (defScope (top 85 13)) [V.int 1, V.int 1] [] f fd) (hm : Meth K (He.ga K "Board") "alter" f) (G_Board_keep : MtI P w K mg base 1 "Board" "keep" ["self", "deed", "now"] [] m_Board_keep) (G_Board_need_arrow : MtI P w K mg base 2 "Board" "need_arrow" ["self", "number"] [] m_Board_need_arrow) (G_need_sizes : Fn P w K mg base 2 "need_sizes" ["least", "weight"] m_need_sizes) : MtK P w K mg base 3 "Board" "alter" ["self", "number", "least", "weight"] ["least"] 2 [] [1] m_Board_alter :=
  mt_mkK (ns := [1, 1]) (ks := ["least"]) (n := 2) 0 0 1 T.k_Board hm F sc_Board_alter rfl rfl (by decide) (by decide) (fun _ _ _ _ _ _ _ us ws its h1 h2 h3 => match us, h1, ws, h2, its, h3 with | [_, _], _, [_], _, [_, _], _ => ⟨_, rfl, rfl⟩) (B_Board_alter T G_Board_keep G_Board_need_arrow G_need_sizes)
abbrev N_do_box : List Str := ["board", "rest"]
theorem sc_do_box : FnScope N_do_box ["board", "rest"] (defScope (top 90)) := ⟨rfl, rfl, rfl, by decide +kernel, rfl, by decide +kernel, by decide +kernel⟩
theorem G_do_box (T : Txt K mg) {f : Addr} {fd : FuncData} (F : FunD K "do_box" "do_box" (defArgs (top 90)) (defBody (top 90)) (defScope (top 90)) [] [] f fd) (hm : mg "do_box" = some (.ref f)) (G_Board_box : MtI P w K mg base 2 "Board" "box" ["self", "name"] [] m_Board_box) : Fn P w K mg base 3 "do_box" ["board", "rest"] m_do_box := by
  refine fn_mk (N := N_do_box) (asg := []) F sc_do_box rfl rfl hm (fun _ _ _ _ _ _ us hl => match us, hl with | [_, _], _ => rfl) (fun cdv A outer s H Ex hr => ?_)
  have sc := sc_do_box
  have po := passes_of (X := cxOf (L2N.CX P w) P w K mg base N_do_box "do_box" (defScope (top 90)) f cdv A outer s H Ex) rfl
  have tk := L2N.takes_of (X := cxOf (L2N.CX P w) P w K mg base N_do_box "do_box" (defScope (top 90)) f cdv A outer s H Ex) (E := Ex) rfl rfl rfl rfl
  exact (s_one (s_ret (e_meth G_Board_box 0 (hr.mono (by omega)) tk (e_v 0) (a_cons (e_itemF hr.units (e_v 1) e_int) a_nil))))
abbrev N_do_say : List Str := ["board", "rest"]
theorem sc_do_say : FnScope N_do_say ["board", "rest"] (defScope (top 95)) := ⟨rfl, rfl, rfl, by decide +kernel, rfl, by decide +kernel, by decide +kernel⟩
theorem G_do_say (T : Txt K mg) {f : Addr} {fd : FuncData} (F : FunD K "do_say" "do_say" (defArgs (top 95)) (defBody (top 95)) (defScope (top 95)) [] [] f fd) (hm : mg "do_say" = some (.ref f)) (G_Board_say : MtI P w K mg base 2 "Board" "say" ["self", "one", "other", "least"] [1] m_Board_say) (GK0_Board_say : MtK P w K mg base 2 "Board" "say" ["self", "one", "other", "least"] ["least"] 3 [] [] m_Board_say) : Fn P w K mg base 3 "do_say" ["board", "rest"] m_do_say := by
  refine fn_mk (N := N_do_say) (asg := []) F sc_do_say rfl rfl hm (fun _ _ _ _ _ _ us hl => match us, hl with | [_, _], _ => rfl) (fun cdv A outer s H Ex hr => ?_)
  have sc := sc_do_say
  have po := passes_of (X := cxOf (L2N.CX P w) P w K mg base N_do_say "do_say" (defScope (top 95)) f cdv A outer s H Ex) rfl
  have tk := L2N.takes_of (X := cxOf (L2N.CX P w) P w K mg base N_do_say "do_say" (defScope (top 95)) f cdv A outer s H Ex) (E := Ex) rfl rfl rfl rfl
  exact (s_one (s_ret (e_methK2 GK0_Board_say (hr.mono (by omega)) tk (e_v 0) (e_itemF hr.units (e_v 1) e_int) (e_itemF hr.units (e_v 1) e_int) (kk_cons (e_itemF hr.units (e_v 1) e_int) kk_nil))))
abbrev N_do_arrow : List Str := ["board", "rest"]
theorem sc_do_arrow : FnScope N_do_arrow ["board", "rest"] (defScope (top 92)) := ⟨rfl, rfl, rfl, by decide +kernel, rfl, by decide +kernel, by decide +kernel⟩
theorem G_do_arrow (T : Txt K mg) {f : Addr} {fd : FuncData} (F : FunD K "do_arrow" "do_arrow" (defArgs (top 92)) (defBody (top 92)) (defScope (top 92)) [] [] f fd) (hm : mg "do_arrow" = some (.ref f)) (G_Board_arrow : MtI P w K mg base 3 "Board" "arrow" ["self", "one", "other", "least", "weight"] [1, 1] m_Board_arrow) (GK0_Board_arrow : MtK P w K mg base 3 "Board" "arrow" ["self", "one", "other", "least", "weight"] ["least"] 3 [] [1] m_Board_arrow) (GK1_Board_arrow : MtK P w K mg base 3 "Board" "arrow" ["self", "one", "other", "least", "weight"] ["least", "weight"] 3 [] [] m_Board_arrow) (GK2_Board_arrow : MtK P w K mg base 3 "Board" "arrow" ["self", "one", "other", "least", "weight"] ["weight"] 3 [1] [] m_Board_arrow) : Fn P w K mg base 4 "do_arrow" ["board", "rest"] m_do_arrow := by
  refine fn_mk (N := N_do_arrow) (asg := []) F sc_do_arrow rfl rfl hm (fun _ _ _ _ _ _ us hl => match us, hl with | [_, _], _ => rfl) (fun cdv A outer s H Ex hr => ?_)
  have sc := sc_do_arrow
  have po := passes_of (X := cxOf (L2N.CX P w) P w K mg base N_do_arrow "do_arrow" (defScope (top 92)) f cdv A outer s H Ex) rfl
  have tk := L2N.takes_of (X := cxOf (L2N.CX P w) P w K mg base N_do_arrow "do_arrow" (defScope (top 92)) f cdv A outer s H Ex) (E := Ex) rfl rfl rfl rfl
  exact (s_one (s_ret (e_methK2 GK1_Board_arrow (hr.mono (by omega)) tk (e_v 0) (e_itemF hr.units (e_v 1) e_int) (e_itemF hr.units (e_v 1) e_int) (kk_cons (e_itemF hr.units (e_v 1) e_int) (kk_cons (e_itemF hr.units (e_v 1) e_int) kk_nil)))))
abbrev N_law_crammed : List Str := ["_law_bag_here", "_law_board", "_law_names_here", "_law_name", "_law_k", "_law_one", "_law_other", "_law_told_now", "_law_at"]
theorem sc_law_crammed : FnScope N_law_crammed ["_law_bag_here", "_law_board", "_law_names_here"] (defScope (top 104)) := ⟨rfl, rfl, rfl, by decide +kernel, rfl, by decide +kernel, by decide +kernel⟩
theorem G_law_crammed (T : Txt K mg) {f : Addr} {fd : FuncData} (F : FunD K "_law_crammed" "_law_crammed" (defArgs (top 104)) (defBody (top 104)) (defScope (top 104)) [] [] f fd) (hm : mg "_law_crammed" = some (.ref f)) (G_Board_arrow : MtI P w K mg base 3 "Board" "arrow" ["self", "one", "other", "least", "weight"] [1, 1] m_Board_arrow) (GK0_Board_arrow : MtK P w K mg base 3 "Board" "arrow" ["self", "one", "other", "least", "weight"] ["least"] 3 [] [1] m_Board_arrow) (GK1_Board_arrow : MtK P w K mg base 3 "Board" "arrow" ["self", "one", "other", "least", "weight"] ["least", "weight"] 3 [] [] m_Board_arrow) (GK2_Board_arrow : MtK P w K mg base 3 "Board" "arrow" ["self", "one", "other", "least", "weight"] ["weight"] 3 [1] [] m_Board_arrow) (G_Board_box : MtI P w K mg base 2 "Board" "box" ["self", "name"] [] m_Board_box) (G_Board_say : MtI P w K mg base 2 "Board" "say" ["self", "one", "other", "least"] [1] m_Board_say) (GK0_Board_say : MtK P w K mg base 2 "Board" "say" ["self", "one", "other", "least"] ["least"] 3 [] [] m_Board_say) (G_law_alike : Fn P w K mg base 8 "_law_alike" ["_law_found", "_law_due"] (m_law_alike 6)) (G_law_pull : Fn P w K mg base 1 "_law_pull" ["_law_bag_here", "_law_many"] m_law_pull) : Fn P w K mg base 9 "_law_crammed" ["_law_bag_here", "_law_board", "_law_names_here"] m_law_crammed := by
  refine fn_mk (N := N_law_crammed) (asg := []) F sc_law_crammed rfl rfl hm (fun _ _ _ _ _ _ us hl => match us, hl with | [_, _, _], _ => rfl) (fun cdv A outer s H Ex hr => ?_)
  have sc := sc_law_crammed
  have po := passes_of (X := cxOf (L2N.CX P w) P w K mg base N_law_crammed "_law_crammed" (defScope (top 104)) f cdv A outer s H Ex) rfl
  have tk := L2N.takes_of (X := cxOf (L2N.CX P w) P w K mg base N_law_crammed "_law_crammed" (defScope (top 104)) f cdv A outer s H Ex) (E := Ex) rfl rfl rfl rfl
  exact (s_cons (s_for (S := [3]) po rfl (i_seq (e_v 2)) (gN 3 sc.nd) (s_one (s_expr (e_meth G_Board_box 0 (hr.mono (by omega)) tk (e_v 1) (a_cons (e_v 3) a_nil)))))
  (s_cons (s_for (S := [4]) po rfl (i_range1 rfl T.b_range e_int) (gN 4 sc.nd) (s_cons (s_par rfl sc.nd rfl rfl (by decide) rfl rfl (a_cons (e_itemF hr.units (e_v 2) (e_call G_law_pull (hr.mono (by omega)) rfl tk (a_cons (e_v 0) (a_cons e_int a_nil)))) (a_cons (e_itemF hr.units (e_v 2) (e_call G_law_pull (hr.mono (by omega)) rfl tk (a_cons (e_v 0) (a_cons e_int a_nil)))) a_nil)))
  (s_cons (sN 7 sc.nd (e_if (t_eq hr.units (e_mod (e_v 4) e_int) e_int) (e_methK2 GK2_Board_arrow (hr.mono (by omega)) tk (e_v 1) (e_v 5) (e_v 6) (kk_cons e_int kk_nil)) (e_meth G_Board_arrow 0 (hr.mono (by omega)) tk (e_v 1) (a_cons (e_v 5) (a_cons (e_v 6) a_nil)))))
  (s_one (s_if (t_not (t_val (e_pure (e_call G_law_alike (hr.mono (by omega)) rfl tk (a_cons (e_v 7) (a_cons (e_fr (e_add (e_v 4) e_int)) a_nil)))))) (s_one (s_ret e_bl)) s_nil)))))
  (s_cons (s_for (S := [4]) po rfl (i_range1 rfl T.b_range e_int) (gN 4 sc.nd) (s_cons (sN 8 sc.nd (e_call G_law_pull (hr.mono (by omega)) rfl tk (a_cons (e_v 0) (a_cons e_int a_nil))))
  (s_cons (sN 7 sc.nd (e_if (t_eq hr.units (e_mod (e_v 4) e_int) e_int) (e_methK2 GK0_Board_say (hr.mono (by omega)) tk (e_v 1) (e_itemF hr.units (e_v 2) (e_v 8)) (e_itemF hr.units (e_v 2) (e_add (e_v 8) e_int)) (kk_cons e_int kk_nil)) (e_meth G_Board_say 0 (hr.mono (by omega)) tk (e_v 1) (a_cons (e_itemF hr.units (e_v 2) (e_v 8)) (a_cons (e_itemF hr.units (e_v 2) (e_add (e_v 8) e_int)) a_nil)))))
  (s_one (s_if (t_not (t_val (e_pure (e_call G_law_alike (hr.mono (by omega)) rfl tk (a_cons (e_v 7) (a_cons (e_fr (e_add (e_v 4) e_int)) a_nil)))))) (s_one (s_ret e_bl)) s_nil)))))
  (s_one (s_ret e_bl)))))
abbrev N_Board_do : List Str := ["self", "deed", "act"]
theorem sc_Board_do : FnScope N_Board_do ["self", "deed"] (defScope (top 85 18)) := ⟨rfl, rfl, rfl, by decide +kernel, rfl, by decide +kernel, by decide +kernel⟩
theorem G_Board_do (T : Txt K mg) {f : Addr} {fd : FuncData} (F : FunD K "do" "Board.do" (defArgs (top 85 18)) (defBody (top 85 18)) (defScope (top 85 18)) [] [] f fd) (hm : Meth K (He.ga K "Board") "do" f) (GD_DEEDS : GD K w mg "DEEDS" tb_DEEDS) (GD_THINGS : GD K w mg "THINGS" tb_THINGS) (G_do_arrow : Fn P w K mg base 4 "do_arrow" ["board", "rest"] m_do_arrow) (G_do_box : Fn P w K mg base 3 "do_box" ["board", "rest"] m_do_box) (G_do_say : Fn P w K mg base 3 "do_say" ["board", "rest"] m_do_say) : MtI P w K mg base 5 "Board" "do" ["self", "deed"] [] m_Board_do := by
  refine mt_mk (N := N_Board_do) (asg := []) T.k_Board hm F sc_Board_do rfl rfl (fun _ _ _ _ _ _ us hl => match us, hl with | [_, _], _ => rfl) (fun cdv A outer s H Ex hr => ?_)
  have sc := sc_Board_do
  have po := passes_of (X := cxOf (L2N.CX P w) P w K mg base N_Board_do "Board.do" (defScope (top 85 18)) f cdv A outer s H Ex) rfl
  have tk := L2N.takes_of (X := cxOf (L2N.CX P w) P w K mg base N_Board_do "Board.do" (defScope (top 85 18)) f cdv A outer s H Ex) (E := Ex) rfl rfl rfl rfl
  exact (s_cons (s_if (PW.pt (t_or (t_eq hr.units (e_len rfl T.b_len (e_v 1)) e_int) (t_or (t_ninGD GD_DEEDS rfl (e_itemF hr.units (e_v 1) e_int)) (t_or1 (t_ne hr.units (e_len rfl T.b_len (e_v 1)) (e_add (e_itGD GD_THINGS rfl (e_itemF hr.units (e_v 1) e_int)) e_int)))))) (s_one (s_raise rfl tk T.g_BadDeed T.x_BadDeed rfl)) s_nil)
  (s_act (k := 4) (i := 2) GD_DEEDS rfl (act_cons rfl T.g_do_box (by decide) G_do_box (act_cons rfl T.g_do_arrow (by decide) G_do_arrow (act_cons rfl T.g_do_say (by decide) G_do_say act_nil))) (hr.mono (by omega)) tk sc.nd rfl rfl (e_itemF hr.units (e_v 1) e_int) (a_cons (e_v 0) (a_cons (e_slice10 (e_v 1) e_int) a_nil))))
abbrev N_law_do : List Str := ["_law_board", "_law_deed", "_law_word", "_law_told_now", "_law_e"]
theorem sc_law_do : FnScope N_law_do ["_law_board", "_law_deed"] (defScope (top 105)) := ⟨rfl, rfl, rfl, by decide +kernel, rfl, by decide +kernel, by decide +kernel⟩
theorem G_law_do (T : Txt K mg) {f : Addr} {fd : FuncData} (F : FunD K "_law_do" "_law_do" (defArgs (top 105)) (defBody (top 105)) (defScope (top 105)) [] [] f fd) (hm : mg "_law_do" = some (.ref f)) (G_Board_do : MtI P w K mg base 5 "Board" "do" ["self", "deed"] [] m_Board_do) (G_law_kin : KinG P w K mg base 1 "_law_kin" ["_law_e"] [("BadDeed" : Str), ("BadLeast" : Str), ("BadName" : Str), ("BadWeight" : Str), ("Full" : Str), ("Same" : Str), ("Taken" : Str), ("Tied" : Str), ("NoArrow" : Str), ("NoBox" : Str), ("NoSaying" : Str)] m_law_kin) : Fn P w K mg base 6 "_law_do" ["_law_board", "_law_deed"] m_law_do := by
  refine fn_mk (N := N_law_do) (asg := []) F sc_law_do rfl rfl hm (fun _ _ _ _ _ _ us hl => match us, hl with | [_, _], _ => rfl) (fun cdv A outer s H Ex hr => ?_)
  have sc := sc_law_do
  have po := passes_of (X := cxOf (L2N.CX P w) P w K mg base N_law_do "_law_do" (defScope (top 105)) f cdv A outer s H Ex) rfl
  have tk := L2N.takes_of (X := cxOf (L2N.CX P w) P w K mg base N_law_do "_law_do" (defScope (top 105)) f cdv A outer s H Ex) (E := Ex) rfl rfl rfl rfl
  exact (s_cons (sN 2 sc.nd e_str)
  (s_cons (sN 3 sc.nd e_non)
  (s_cons (s_tryKin (i := 2) (j := 4) rfl rfl sc.nd rfl rfl rfl rfl rfl (hr.mono (by omega)) G_law_kin ⟨rfl, by decide, .inl T.g_InkError⟩ ⟨rfl, by decide, .inl T.g_Missing⟩ T.kk_law_kin.m kk_law_kin (fun W pn xe tk po => (s_one (sN 3 sc.nd (e_meth G_Board_do 0 (hr.mono (by omega)) tk (e_v 0) (a_cons (e_v 1) a_nil))))))
  (s_one (s_ret (e_tup (a_cons (e_mv 2) (a_cons (e_mv 3) a_nil))))))))
abbrev N_law : List Str := ["_law_script", "_law_bag_here", "_law_board", "_law_names_here", "_law_tries", "_law_due", "_law_gone", "_law_late", "_law_deed"]
theorem sc_law : FnScope N_law ["_law_script"] (defScope (top 110)) := ⟨rfl, rfl, rfl, by decide +kernel, rfl, by decide +kernel, by decide +kernel⟩
theorem G_law (T : Txt K mg) {f : Addr} {fd : FuncData} (F : FunD K "law" "law" (defArgs (top 110)) (defBody (top 110)) (defScope (top 110)) [] [] f fd) (hf : f = He.ga K "law") (TB : LamX.TabB base mg (He.cT K ("law", none)).1 (He.cT K ("law", none)).2) (TI : tlOf K ("law", none) ∈ TL K) (G_Board___init__ : MkI P w K mg base 1 "Board" ["self"] m_Board___init__) (G_Board___len__ : MtI P w K mg base 1 "Board" "__len__" ["self"] [] m_Board___len__) (G_Board_alter : MtI P w K mg base 3 "Board" "alter" ["self", "number", "least", "weight"] [1, 1] m_Board_alter) (GK0_Board_alter : MtK P w K mg base 3 "Board" "alter" ["self", "number", "least", "weight"] ["least"] 2 [] [1] m_Board_alter) (G_Board_arrow : MtI P w K mg base 3 "Board" "arrow" ["self", "one", "other", "least", "weight"] [1, 1] m_Board_arrow) (GK0_Board_arrow : MtK P w K mg base 3 "Board" "arrow" ["self", "one", "other", "least", "weight"] ["least"] 3 [] [1] m_Board_arrow) (GK1_Board_arrow : MtK P w K mg base 3 "Board" "arrow" ["self", "one", "other", "least", "weight"] ["least", "weight"] 3 [] [] m_Board_arrow) (GK2_Board_arrow : MtK P w K mg base 3 "Board" "arrow" ["self", "one", "other", "least", "weight"] ["weight"] 3 [1] [] m_Board_arrow) (G_Board_cut : MtI P w K mg base 3 "Board" "cut" ["self", "number"] [] m_Board_cut) (G_Board_deeds : MtI P w K mg base 1 "Board" "deeds" ["self"] [] m_Board_deeds) (G_Board_say : MtI P w K mg base 2 "Board" "say" ["self", "one", "other", "least"] [1] m_Board_say) (GK0_Board_say : MtK P w K mg base 2 "Board" "say" ["self", "one", "other", "least"] ["least"] 3 [] [] m_Board_say) (G_Board_unsay : MtI P w K mg base 2 "Board" "unsay" ["self", "number"] [] m_Board_unsay) (G_Board_web : MtI P w K mg base 2 "Board" "web" ["self"] [] m_Board_web) (G_law_alike : Fn P w K mg base 8 "_law_alike" ["_law_found", "_law_due"] (m_law_alike 6)) (G_law_bag : Fn P w K mg base 1 "_law_bag" ["_law_script"] m_law_bag) (G_law_crammed : Fn P w K mg base 9 "_law_crammed" ["_law_bag_here", "_law_board", "_law_names_here"] m_law_crammed) (G_law_do : Fn P w K mg base 6 "_law_do" ["_law_board", "_law_deed"] m_law_do) (G_law_names : Fn P w K mg base 2 "_law_names" ["_law_bag_here", "_law_many"] m_law_names) (G_law_pull : Fn P w K mg base 1 "_law_pull" ["_law_bag_here", "_law_many"] m_law_pull) : FnG P w K mg base (L2N.CX P w) 10 f fd ["_law_script"] (spOf K m_law) := by
  refine fn_mkO (N := N_law) (asg := []) F hf sc_law rfl rfl (fun cdv A outer s H Ex hco hgd hr => ?_)
  have sc := sc_law
  have po := passes_of (X := cxOf (L2N.CX P w) P w K mg base N_law "law" (defScope (top 110)) f cdv A outer s H Ex) rfl
  have tk := L2N.takes_of (X := cxOf (L2N.CX P w) P w K mg base N_law "law" (defScope (top 110)) f cdv A outer s H Ex) (E := Ex) rfl rfl rfl rfl
  exact (s_cons (sN 1 sc.nd (e_call G_law_bag (hr.mono (by omega)) rfl tk (a_cons (e_v 0) a_nil)))
  (s_cons (sN 2 sc.nd (e_make0 G_Board___init__ (hr.mono (by omega)) rfl tk))
  (s_cons (sN 3 sc.nd (e_listD rfl rfl T.b_list (e_call G_law_names (hr.mono (by omega)) rfl tk (a_cons (e_v 1) (a_cons e_int a_nil)))))
  (s_cons (s_if (t_not (t_val (e_call G_law_crammed (hr.mono (by omega)) rfl tk (a_cons (e_v 1) (a_cons (e_v 2) (a_cons (e_v 3) a_nil)))))) (s_one (s_ret e_bl)) s_nil)
  (s_cons (sN 4 sc.nd (e_lst (a_cons (e_tup (a_cons e_str (a_cons e_str a_nil))) (a_cons (e_tup (a_cons e_str (a_cons (e_itemF hr.units (e_v 3) e_int) a_nil))) (a_cons (e_tup (a_cons e_str (a_cons e_str a_nil))) (a_cons (e_tup (a_cons e_str (a_cons (e_itemF hr.units (e_v 3) e_int) (a_cons (e_itemF hr.units (e_v 3) e_int) (a_cons e_int (a_cons e_int a_nil)))))) a_nil))))))
  (s_cons (sN 4 sc.nd (e_add (e_v 4) (e_lst (a_cons (e_tup (a_cons e_str (a_cons (e_itemF hr.units (e_v 3) e_int) (a_cons (e_itemF hr.units (e_v 3) e_int) (a_cons e_int (a_cons e_int a_nil)))))) (a_cons (e_tup (a_cons e_str (a_cons e_str (a_cons (e_itemF hr.units (e_v 3) e_int) (a_cons e_int (a_cons e_int a_nil)))))) a_nil)))))
  (s_cons (sN 4 sc.nd (e_add (e_v 4) (e_lst (a_cons (e_tup (a_cons e_str (a_cons (e_itemF hr.units (e_v 3) e_int) (a_cons (e_itemF hr.units (e_v 3) e_int) (a_cons e_int (a_cons e_int a_nil)))))) (a_cons (e_tup (a_cons e_str (a_cons (e_itemF hr.units (e_v 3) e_int) (a_cons (e_itemF hr.units (e_v 3) e_int) (a_cons e_int a_nil))))) a_nil)))))
  (s_cons (sN 4 sc.nd (e_add (e_v 4) (e_lst (a_cons (e_tup (a_cons e_str (a_cons (e_itemF hr.units (e_v 3) e_int) (a_cons (e_itemF hr.units (e_v 3) e_int) (a_cons e_int a_nil))))) (a_cons (e_tup (a_cons e_str (a_cons (e_itemF hr.units (e_v 3) e_int) (a_cons (e_itemF hr.units (e_v 3) e_int) (a_cons e_int a_nil))))) (a_cons (e_tup (a_cons e_str (a_cons e_str (a_cons (e_itemF hr.units (e_v 3) e_int) (a_cons e_int a_nil))))) a_nil))))))
  (s_cons (sN 5 sc.nd (e_lst (a_cons e_str (a_cons e_str (a_cons e_str (a_cons e_str (a_cons e_str (a_cons e_str (a_cons e_str (a_cons e_str (a_cons e_str (a_cons e_str (a_cons e_str a_nil)))))))))))))
  (s_cons (s_if (t_ne hr.units (e_lc (own := [("_law_deed", 8)]) (S := [8]) rfl sc.nd (i_seq (e_v 4)) (blkOk_by (N := N_law) (sc := defScope (top 110)) (own := [("_law_deed", 8)]) (by decide +kernel)) (fun _ _ _ _ _ => (gN 8 sc.nd)) (fun _ _ _ _ _ => (ts_nil rfl)) (fun _ _ _ _ _ => (e_itemF hr.units (e_call G_law_do (hr.mono (by omega)) rfl takesN0 (a_cons (e_v 2) (a_cons (e_v 8) a_nil))) e_int))) (e_v 5)) (s_one (s_ret e_bl)) s_nil)
  (s_cons (sN 6 sc.nd (e_add e_int (e_call G_law_pull (hr.mono (by omega)) rfl tk (a_cons (e_v 1) (a_cons e_int a_nil)))))
  (s_cons (s_expr (e_methK1 GK0_Board_alter (hr.mono (by omega)) tk (e_v 2) e_int (kk_cons e_int kk_nil)))
  (s_cons (s_expr (e_meth G_Board_cut 0 (hr.mono (by omega)) tk (e_v 2) (a_cons (e_v 6) a_nil)))
  (s_cons (s_expr (e_meth G_Board_unsay 0 (hr.mono (by omega)) tk (e_v 2) (a_cons e_int a_nil)))
  (s_cons (s_if (PW.pt (t_or (t_ne hr.units (e_methK2 GK0_Board_arrow (hr.mono (by omega)) tk (e_v 2) (e_itemF hr.units (e_v 3) e_int) (e_itemF hr.units (e_v 3) e_int) (kk_cons e_int kk_nil)) e_int) (t_or1 (t_ne hr.units (e_meth G_Board_say 0 (hr.mono (by omega)) tk (e_v 2) (a_cons (e_itemF hr.units (e_v 3) e_int) (a_cons (e_itemF hr.units (e_v 3) e_int) a_nil))) e_int)))) (s_one (s_ret e_bl)) s_nil)
  (s_cons (sN 7 sc.nd (e_slice10 (e_meth0 G_Board_deeds 0 (hr.mono (by omega)) tk (e_v 2)) (e_neg e_int)))
  (s_cons (sN 5 sc.nd (e_lst (a_cons (e_tup (a_cons e_str (a_cons e_int (a_cons e_int (a_cons e_int a_nil))))) (a_cons (e_tup (a_cons e_str (a_cons (e_tk (e_v 6)) a_nil))) (a_cons (e_tup (a_cons e_str (a_cons e_int a_nil))) a_nil)))))
  (s_cons (sN 5 sc.nd (e_add (e_v 5) (e_lst (a_cons (e_tup (a_cons e_str (a_cons (e_itemF hr.units (e_v 3) e_int) (a_cons (e_itemF hr.units (e_v 3) e_int) (a_cons e_int (a_cons e_int a_nil)))))) (a_cons (e_tup (a_cons e_str (a_cons (e_itemF hr.units (e_v 3) e_int) (a_cons (e_itemF hr.units (e_v 3) e_int) (a_cons e_int a_nil))))) a_nil)))))
  (s_one (s_ret (e_and (e_pure (e_call G_law_alike (hr.mono (by omega)) rfl tk (a_cons (e_v 7) (a_cons (e_v 5) a_nil)))) (e_and (e_eq hr.units (e_len rfl T.b_len (e_itemF hr.units (e_meth0 G_Board_web 0 (hr.mono (by omega)) tk (e_v 2)) e_int)) e_int) (e_one (e_eq hr.units (e_lenO G_Board___len__ (hr.mono (by omega)) tk rfl T.b_len (e_v 2)) e_int))))))))))))))))))))))))
end
end Lw
set_option Elab.async false
set_option linter.all false
set_option maxRecDepth 100000
set_option maxHeartbeats 0
namespace Lw
open PySem L2 Ink
structure Bag where
  c : List Int
  i : Nat
  s : Int
  z : Int
def Bag.m (b : Bag) : M := .lst [.fz (.lst (b.c.map D.int)), .fz (.int (b.i : Nat)), .fz (.int b.s), .fz (.int b.z)]
@[simp] theorem isFz_bag {b : Bag} : isFz b.m = false := rfl
theorem small_emod (a n : Int) (h : 0 < n) (h2 : n < 2 ^ 64) : mulC (a % n) (a % n) = true := by
  have h0 := Int.emod_nonneg a (show n ≠ 0 by omega)
  have h1 := Int.emod_lt_of_pos a h
  simp only [mulC, Bool.or_eq_true, Bool.and_eq_true, decide_eq_true_eq]
  omega
theorem mulC_r {i j : Int} (h : -(2 ^ 64) < j) (h2 : j < 2 ^ 64) : mulC i j = true := by
  simp only [mulC, Bool.or_eq_true, Bool.and_eq_true, decide_eq_true_eq]
  exact .inr ⟨h, h2⟩
def blend0 (x z i : Int) : Int := (x + z * 31 + i * 69061) % 2147483629
def blend1 (b : Int) : Int := (b * b + 40961) % 2147483587
def blend (x z i n : Int) : Int := ((blend1 (blend0 x z i) * blend1 (blend0 x z i) + i) % 1073741789) / 19 % n
theorem pull_ok (b : Bag) (n : Int) (hn : 0 < n) (hn2 : n < 1208925819614629174706176) : ∃ (r : Int) (b' : Bag), 0 ≤ r ∧ r < n ∧ m_law_pull [b.m, .fz (.int n)] = some (.ok (.fz (.int r)) [some b'.m, some (.fz (.int n))]) := by
  obtain ⟨c, i, s, z⟩ := b
  by_cases hs : s < 2
  · by_cases hl : (i : Int) + 1 ≤ c.length
    · obtain ⟨x, hx1, hx⟩ := atI_at (xs := c.map D.int) (i := (i : Int)) (by omega) (by simp; omega)
      obtain ⟨y, rfl⟩ : ∃ y, x = D.int y := by
        have := List.mem_of_getElem? hx1
        simp only [List.mem_map] at this
        obtain ⟨y, _, e⟩ := this
        exact ⟨y, e.symm⟩
      by_cases hb : (10 : Int) ^ 18 ≤ y
      · refine ⟨y % n, ⟨c, i + 1, y / n, z⟩, Int.emod_nonneg _ (by omega), Int.emod_lt_of_pos _ hn, ?_⟩
        have hb' : (1000000000000000000 : Int) ≤ y := by simpa using hb
        simp [m_law_pull, b_law_pull, Bag.m, hs, hl, hn, hn2]
        simp at hx
        simp [hx, hl, hb', hn, hn2]
      · refine ⟨blend y z (i + 1) n, ⟨c, i + 1, s, z⟩, Int.emod_nonneg _ (by omega), Int.emod_lt_of_pos _ hn, ?_⟩
        have hb' : ¬ (1000000000000000000 : Int) ≤ y := by simpa using hb
        simp [m_law_pull, b_law_pull, Bag.m, hs, hl, hn, hn2]
        simp at hx
        simp [hx, hl, hb', hn, hn2, mulC_r, small_emod, blend, blend0, blend1]
    · refine ⟨blend (i + 1) z (i + 1) n, ⟨c, i + 1, s, z⟩, Int.emod_nonneg _ (by omega), Int.emod_lt_of_pos _ hn, ?_⟩
      simp [m_law_pull, b_law_pull, Bag.m, hs, hl, hn, hn2, mulC_r, small_emod, blend, blend0, blend1]
  · refine ⟨s % n, ⟨c, i, s / n, z⟩, Int.emod_nonneg _ (by omega), Int.emod_lt_of_pos _ hn, ?_⟩
    simp [m_law_pull, b_law_pull, Bag.m, hs, hn, hn2]
open Classical in
/-- what is pulled, and the bag behind -/
noncomputable def pv (b : Bag) (n : Int) : Int := if h : 0 < n ∧ n < 1208925819614629174706176 then (pull_ok b n h.1 h.2).choose else 0
open Classical in
noncomputable def pb (b : Bag) (n : Int) : Bag := if h : 0 < n ∧ n < 1208925819614629174706176 then (pull_ok b n h.1 h.2).choose_spec.choose else b
theorem pull_all {b : Bag} {n : Int} (h : 0 < n) (h2 : n < 1208925819614629174706176) : 0 ≤ pv b n ∧ pv b n < n ∧ m_law_pull [b.m, .fz (.int n)] = some (.ok (.fz (.int (pv b n))) [some (pb b n).m, some (.fz (.int n))]) := by
  unfold pv pb
  rw [dif_pos ⟨h, h2⟩, dif_pos ⟨h, h2⟩]
  exact (pull_ok b n h h2).choose_spec.choose_spec
theorem pv_0 {b : Bag} {n : Int} (h : 0 < n) (h2 : n < 1208925819614629174706176) : 0 ≤ pv b n := (pull_all h h2).1
theorem pv_lt {b : Bag} {n : Int} (h : 0 < n) (h2 : n < 1208925819614629174706176) : pv b n < n := (pull_all h h2).2.1
@[simp] theorem pull_eq {b : Bag} {n : Int} (h : 0 < n) (h2 : n < 1208925819614629174706176) : m_law_pull [b.m, .fz (.int n)] = some (.ok (.fz (.int (pv b n))) [some (pb b n).m, some (.fz (.int n))]) := (pull_all h h2).2.2
end Lw
set_option Elab.async false
set_option linter.all false
set_option maxRecDepth 100000
set_option maxHeartbeats 0
namespace Lw
open PySem L2 Ink
structure Web where
  names : List Str
  arrows : List (List Int)
  told : List (List Int)
def rowD (r : List Int) : D := .tup (r.map D.int)
def Web.d (w : Web) : D := .tup [.tup (w.names.map D.str), .tup (w.arrows.map rowD), .tup (w.told.map rowD)]
abbrev letters : Str := "abcdefghijklmnopqrstuvwxyz"
def isNameB (x : Str) : Bool := (decide ((1 : Int) ≤ x.length) && decide ((x.length : Int) ≤ 6)) && (x.cps.toList.all fun c => decide (c ∈ letters.cps.toList))
theorem inSign {c : Nat} {t : Str} : inM false (.fz (.str ⟨#[c]⟩)) (.fz (.str t)) = some (.fz (.bl (decide (c ∈ t.cps.toList)))) := rfl
theorem signs_all (x : Str) (p : Nat → Bool) : allM true (.lst (x.cps.toList.map fun c => M.fz (.bl (p c)))) = some (.fz (.bl (x.cps.toList.all p))) := by
  have h := all_map (fun d => match d with | .int i => p i.toNat | _ => false) (x.cps.toList.map fun c => D.int (c : Nat))
  simp only [List.map_map, List.all_map] at h
  exact h
theorem comp_signs {fe : FE} {i : Nat} (x : Str) (p : Nat → Bool) (env : E) (hw : env.set i none = env) (h : ∀ c : Nat, ∃ env2, fe (env.set i (some (.fz (.str ⟨#[c]⟩)))) = some (.ok (.tm (.fz (.bl (p c)))) env2) ∧ env2.set i none = env) :
    compD (nmG i) yesT fe [i] (x.cps.toList.map fun c => D.str ⟨#[c]⟩) env = some (x.cps.toList.map fun c => M.fz (.bl (p c)), env) := by
  generalize x.cps.toList = l
  induction l with
  | nil => rfl
  | cons c l ih =>
    obtain ⟨env2, e, e2⟩ := h c
    simp only [List.map_cons, compD, nmG, yesT, e, wipeE, e2, ih]
theorem cps_len (x : Str) : x.cps.toList.length = x.length := rfl
theorem is_name_eq {x : Str} (h : x.length ≤ 16777216) : m_is_name [.fz (.str x)] = some (.ok (.fz (.bl (isNameB x))) [some (.fz (.str x))]) := by
  have hl : x.cps.toList.length ≤ 16777216 := by rw [cps_len]; exact h
  have h2 : x.cps.size ≤ 16777216 := h
  simp [m_is_name, b_is_name, h]
  rw [if_pos h2, comp_signs x (fun c => decide (c ∈ letters.cps.toList)) [some (.fz (.str x)), none] rfl (fun c => ⟨_, by simp [inSign]; rfl, rfl⟩)]
  simp [signs_all, isNameB]
@[simp] theorem is_least_eq {i : Int} : m_is_least [.fz (.int i)] = some (.ok (.fz (.bl (decide (1 ≤ i) && decide (i ≤ 3)))) [some (.fz (.int i))]) := by
  simp [m_is_least, b_is_least]
@[simp] theorem is_weight_eq {i : Int} : m_is_weight [.fz (.int i)] = some (.ok (.fz (.bl (decide (1 ≤ i) && decide (i ≤ 9)))) [some (.fz (.int i))]) := by
  simp [m_is_weight, b_is_weight]
@[simp] theorem is_far_eq {i : Int} : m_is_far [.fz (.int i)] = some (.ok (.fz (.bl (decide ((if i < 0 then -i else i) ≤ 9)))) [some (.fz (.int i))]) := by
  simp [m_is_far, b_is_far]
end Lw
set_option Elab.async false
set_option linter.all false
set_option maxRecDepth 100000
set_option maxHeartbeats 0
namespace Lw
open PySem L2 Ink
theorem enumD_zip {α : Type} (enc : α → D) : ∀ (xs : List α) (n : Nat), enumD (n : Int) (xs.map enc) = (xs.zipIdx n).map fun p => D.tup [.int (p.2 : Nat), enc p.1]
  | [], _ => rfl
  | x :: xs, n => by
    have ih := enumD_zip enc xs (n + 1)
    simp only [List.map_cons, enumD, List.zipIdx_cons]
    rw [← ih]
    rfl
theorem inTup {x : Str} {xs : List Str} : inM false (.fz (.str x)) (.fz (.tup (xs.map D.str))) = some (.fz (.bl (decide (x ∈ xs)))) := by
  have e : inB (.fz (.str x)) (.fz (.tup (xs.map D.str))) = some (decide (x ∈ xs)) := by
    unfold inB
    have h1 : (xs.map D.str).all flatD = true := by simp [flatD]
    have h2 : ((xs.map D.str).any fun e => eqD e (.str x)) = decide (x ∈ xs) := by
      induction xs with
      | nil => rfl
      | cons y ys ih =>
        have e0 : ∀ z : Str, eqD (.str z) (.str x) = (z == x) := fun _ => rfl
        simp only [List.map_cons, List.any_cons, e0]
        rw [ih (by simp [flatD])]
        by_cases h : y = x
        · simp [h]
        · have h' : ¬ x = y := fun e => h e.symm
          simp [h, h']
    split
    · rename_i e1 e2
      cases e2
    · rename_i d e1 e2
      cases e1
      simp only [seqD, h1, h2, flatD, if_true]
    · rename_i h4 h3
      exact (h4 _ rfl).elim
  simp only [inM, e]
  rfl
end Lw
set_option Elab.async false
set_option linter.all false
set_option maxRecDepth 100000
set_option maxHeartbeats 0
namespace Lw
open PySem L2 Ink
theorem bag_ok (ns : List Int) : ∃ b : Bag, m_law_bag [.fz (.scr ns)] = some (.ok b.m [some (.fz (.scr ns))]) := by
  have hl : (cutL ns none (some 63)).length ≤ 16777216 := by
    rw [cutL_to (by omega)]
    simp
    omega
  generalize hx : cutL ns none (some 63) = xs at hl
  simp [m_law_bag, b_law_bag, hx, hl]
  rw [comp_list D.int (fun n => M.fz (.int (if n < 0 then -n else n)))]
  case a => exact fun x hx => ⟨_, _, rfl, rfl, by simp; rfl, rfl⟩
  simp [hx]
  generalize hL : loopD _ _ _ _ = o
  have key : ∃ env', o = some (.nx env') ∧ ∃ o1 z, env' = [some (.fz (.scr ns)), o1, some (.lst (xs.map fun n => M.fz (.int (if n < 0 then -n else n)))), some (.fz (.int z))] := by
    rw [← hL]
    refine loop_list D.int (fun _ env => ∃ o1 z, env = [some (.fz (.scr ns)), o1, some (.lst (xs.map fun n => M.fz (.int (if n < 0 then -n else n)))), some (.fz (.int z))]) xs 0 _ ?_ ⟨_, _, rfl⟩
    rintro j y env hd ⟨o1, z, rfl⟩
    by_cases hy : y < 0
    · simp [hy, mulC_r]
    · simp [hy, mulC_r]
  obtain ⟨env1, e1, o1, z, rfl⟩ := key
  rw [e1]
  simp
  exact ⟨⟨xs.map fun n => if n < 0 then -n else n, 0, 0, z⟩, by simp [Bag.m]⟩
def tails : List Str := ["", "", "x", "box", "zzzzz", "a"]
def firstS (k : Nat) : Str := ⟨#[letters.cps.toList.getD (k % 26) 0]⟩ ++ repS "q" (k / 26)
def nameOf (k : Nat) (t : Str) : Str := cutS (firstS k ++ t) none (some 6)
def keyOf (x : Str) : Nat × Nat := (x.cps.toList.getD 0 0 - 97, if x.cps.toList.getD 1 0 = 113 then 1 else 0)
theorem names_all : ∀ k ∈ List.range 40, ∀ t ∈ tails, isNameB (nameOf k t) = true ∧ keyOf (nameOf k t) = (k % 26, k / 26) ∧ (firstS k).length + t.length ≤ 100 ∧ (firstS k ++ t).length ≤ 100 ∧ (repS "q" (k / 26)).length ≤ 100 := by decide +kernel
def NamesTo (k : Nat) (xs : List Str) : Prop := xs.length = k ∧ ∀ j x, xs[j]? = some x → ∃ t ∈ tails, x = nameOf j t
theorem NamesTo.nodup {k : Nat} {xs : List Str} (hk : k ≤ 40) (h : NamesTo k xs) : xs.Nodup := by
  rw [List.nodup_iff_pairwise_ne, List.pairwise_iff_getElem]
  intro i j hi hj hij e
  obtain ⟨t, ht, e1⟩ := h.2 i _ (List.getElem?_eq_getElem hi)
  obtain ⟨u, hu, e2⟩ := h.2 j _ (List.getElem?_eq_getElem hj)
  have hl := h.1
  have a1 := (names_all i (by simp; omega) t ht).2.1
  have a2 := (names_all j (by simp; omega) u hu).2.1
  rw [← e1, e, e2, a2] at a1
  injection a1 with p q
  omega
theorem NamesTo.names {k : Nat} {xs : List Str} (hk : k ≤ 40) (h : NamesTo k xs) : ∀ x ∈ xs, isNameB x = true := by
  intro x hx
  obtain ⟨i, hi, e⟩ := List.mem_iff_getElem.mp hx
  obtain ⟨t, ht, e1⟩ := h.2 i x (by rw [← e]; exact List.getElem?_eq_getElem hi)
  rw [e1]
  have hl := h.1
  exact (names_all i (by simp; omega) t ht).1
theorem NamesTo.next {k : Nat} {xs : List Str} {t : Str} (h : NamesTo k xs) (ht : t ∈ tails) : NamesTo (k + 1) (xs ++ [nameOf k t]) := by
  refine ⟨by simp [h.1], fun j x hx => ?_⟩
  by_cases hj : j < xs.length
  · rw [List.getElem?_append_left hj] at hx
    exact h.2 j x hx
  · rw [List.getElem?_append_right (by omega)] at hx
    obtain ⟨hl, e⟩ := List.getElem?_eq_some_iff.mp hx
    simp at hl e
    have : j = k := by have := h.1; omega
    subst this
    exact ⟨t, ht, e.symm⟩
def tailsM : M := .lst [.fz (.str ""), .fz (.str ""), .fz (.str "x"), .fz (.str "box"), .fz (.str "zzzzz"), .fz (.str "a")]
def NamesP (n : Nat) (xs : List Str) : Prop := ∃ ys, NamesTo n ys ∧ xs.Perm ys
theorem names_okP (b : Bag) (n : Nat) (hn : n ≤ 40) : ∃ (b' : Bag) (xs : List Str), (xs.length = n ∧ NamesP n xs) ∧ xs.Nodup ∧ (∀ x ∈ xs, isNameB x = true) ∧ m_law_names [b.m, .fz (.int (n : Nat))] = some (.ok (.fz (.tup (xs.map D.str))) [some b'.m, some (.fz (.int (n : Nat)))]) := by
  have hf : -4611686018427387904 ≤ (n : Int) ∧ (n : Int) < 4611686018427387904 := by omega
  simp [m_law_names, b_law_names, hf]
  generalize hL : loopD _ _ _ _ = o
  have key : ∃ env', o = some (.nx env') ∧ ∃ (b' : Bag) (xs : List Str) (o4 o5 : Option M), NamesTo n xs ∧ env' = [some b'.m, some (.fz (.int (n : Nat))), some (.lst (xs.map fun x => M.fz (.str x))), some tailsM, o4, o5, none] := by
    rw [← hL]
    refine loop_range (fun k env => ∃ (b' : Bag) (xs : List Str) (o4 o5 : Option M), NamesTo k xs ∧ env = [some b'.m, some (.fz (.int (n : Nat))), some (.lst (xs.map fun x => M.fz (.str x))), some tailsM, o4, o5, none]) n _ ?_ ⟨b, [], none, none, ⟨rfl, fun j x h => by simp at h⟩, rfl⟩
    rintro j env hj ⟨b', xs, o4, o5, hx, rfl⟩
    obtain ⟨y, hy, ey⟩ := atI_mem (xs := tails.map D.str) (i := pv b' 6) (pv_0 (by omega) (by omega)) (by have := pv_lt (b := b') (n := 6) (by omega) (by omega); simpa [tails] using this)
    simp only [List.mem_map] at hy
    obtain ⟨t, ht, rfl⟩ := hy
    obtain ⟨n1, n2, n3, n4, n5⟩ := names_all j (by simp; omega) t ht
    have hlt : j % 26 < letters.cps.toList.length := by
      have : letters.cps.toList.length = 26 := by decide +kernel
      omega
    obtain ⟨c0, hc0⟩ : ∃ c, letters.cps.toList[j % 26]? = some c := ⟨_, List.getElem?_eq_getElem hlt⟩
    have e1 : atI letters.cps.toList ((j : Int) % 26) = some c0 := by
      rw [show (j : Int) % 26 = ((j % 26 : Nat) : Int) by omega, Ink.atI_nat, hc0]
    have q1 : (Str.ofString "abcdefghijklmnopqrstuvwxyz").length = 26 := by decide +kernel
    have q2 : (Str.ofString "q").length = 1 := by decide +kernel
    have q3 : (0 : Int) ≤ (j : Int) / 26 := by omega
    have q4 : (j : Int) / 26 ≤ 1000 := by omega
    have q5 : ((j : Int) / 26).toNat = j / 26 := by omega
    have q6 : (⟨#[c0]⟩ : Str).length = 1 := rfl
    have q7 : 1 + (repS (Str.ofString "q") (j / 26)).length ≤ 16777216 := by
      have : (repS (Str.ofString "q") (j / 26)).length ≤ 100 := n5
      omega
    have q8 : (firstS j).length + t.length ≤ 16777216 := by omega
    have q9 : (firstS j ++ t).length ≤ 16777216 := by omega
    have q10 : (⟨#[c0]⟩ ++ repS (Str.ofString "q") (j / 26) : Str) = firstS j := by
      unfold firstS
      rw [List.getD_eq_getElem?_getD, hc0]
      rfl
    have q11 : xs.length < 16777216 := by have := hx.1; omega
    have ey' : atI [D.str (Str.ofString ""), D.str (Str.ofString ""), D.str (Str.ofString "x"), D.str (Str.ofString "box"), D.str (Str.ofString "zzzzz"), D.str (Str.ofString "a")] (pv b' 6) = some (D.str t) := ey
    simp [q1, e1, q2, q3, q4, q5, q6, q7, q10, tailsM, ey', q8, q9, q11]
    exact ⟨pb b' 6, xs ++ [nameOf j t], hx.next ht, rfl, by simp; rfl⟩
  obtain ⟨env1, e1, b1, xs, o4, o5, hx, rfl⟩ := key
  rw [e1]
  have fin : ∀ z : Int, 0 ≤ z → ((xs.drop z.toNat ++ xs.take z.toNat).length = n ∧ NamesP n (xs.drop z.toNat ++ xs.take z.toNat)) ∧ (xs.drop z.toNat ++ xs.take z.toNat).Nodup ∧ ∀ x ∈ xs.drop z.toNat ++ xs.take z.toNat, isNameB x = true := fun z hz => by
    have hp : (xs.drop z.toNat ++ xs.take z.toNat).Perm xs := by
      have := List.perm_append_comm (l₁ := xs.drop z.toNat) (l₂ := xs.take z.toNat)
      rwa [List.take_append_drop] at this
    exact ⟨⟨by rw [hp.length_eq]; exact hx.1, xs, hx, hp⟩, hp.nodup_iff.mpr (hx.nodup hn), fun x h => hx.names hn x (hp.mem_iff.mp h)⟩
  have hl : xs.length ≤ 40 := by rw [hx.1]; exact hn
  have mx : ∃ k : Int, 0 < k ∧ k < 1208925819614629174706176 ∧ maxM (.fz (.int 1)) (.fz (.int (n : Nat))) = some (.fz (.int k)) := by
    exact ⟨if (1 : Int) < n then n else 1, by split <;> omega, by split <;> omega, ev_max⟩
  obtain ⟨k, hk, hk2, ek⟩ := mx
  rw [ev_max] at ek
  injection ek with ek
  injection ek with ek
  injection ek with ek
  have h0 := pv_0 (b := b1) hk hk2
  have hs : (cutL (xs.map D.str) (some (pv b1 k)) none).length + (cutL (xs.map D.str) none (some (pv b1 k))).length ≤ 16777216 := by
    rw [cutL_from h0, cutL_to h0]
    simp
    omega
  simp [ek, hk, hk2, hs]
  refine ⟨pb b1 k, _, (fin _ h0).1, (fin _ h0).2.1, (fin _ h0).2.2, ?_, rfl⟩
  rw [cutL_from h0, cutL_to h0]
  simp
end Lw
set_option Elab.async false
set_option linter.all false
set_option maxRecDepth 100000
set_option maxHeartbeats 1000000
namespace Lw
open PySem L2 Ink
/-- a deed, and what stood ahead of it -/
abbrev Step := D × D
def stM (p : Step) : M := .fz (.tup [p.1, p.2])
structure Bd where
  now : D
  past : List Step
  later : List Step
def Bd.m (b : Bd) : M := .ins "Board" [("now", .fz b.now), ("past", .lst (b.past.map stM)), ("later", .lst (b.later.map stM))]
@[simp] theorem isFz_bd {b : Bd} : isFz b.m = false := rfl
/-- what stands -/
structure Nw where
  n : D
  a : D
  s : D
  i : Int
  j : Int
  h : D
def Nw.d (w : Nw) : D := .tup [w.n, w.a, w.s, .int w.i, .int w.j, w.h]
/-- a tuple's data, the text's own empty one among them -/
def TupD (d : D) (xs : List D) : Prop := d = .tup xs ∨ (d = .emp ∧ xs = [])
@[simp] theorem bd_now {b : Bd} : insD "Board" "now" b.m = some b.now := (rfl)
@[simp] theorem bd_set1 {b : Bd} {d : D} : setFG "Board" "now" [.fz d, b.m] = some (.ok (.fz .non) [none, some (Bd.m { b with now := d })]) := (rfl)
@[simp] theorem bd_set2 {b : Bd} : setFG "Board" "later" [.lst [], b.m] = some (.ok (.fz .non) [none, some (Bd.m { b with later := [] })]) := (rfl)
@[simp] theorem bd_fc {b : Bd} {env : E} : kFc "Board" "past" env b.m = some (env, .fl "past") := (rfl)
@[simp] theorem bd_get {b : Bd} : getC b.m (.fl "past") = some (.lst (b.past.map stM)) := (rfl)
theorem bd_put {b : Bd} {m : M} {ps : List Step} (h : m = .lst (ps.map stM)) : putC b.m (.fl "past") m = some (Bd.m { b with past := ps }) := by subst h; rfl
@[simp] theorem bd_m_keep {b : Bd} : isInsM "Board" "keep" b.m = true := (rfl)
@[simp] theorem bd_m_need_boxes {b : Bd} : isInsM "Board" "need_boxes" b.m = true := (rfl)
@[simp] theorem bd_m_box {b : Bd} : isInsM "Board" "box" b.m = true := (rfl)
@[simp] theorem bd_m_drop {b : Bd} : isInsM "Board" "drop" b.m = true := (rfl)
@[simp] theorem bd_m_arrow {b : Bd} : isInsM "Board" "arrow" b.m = true := (rfl)
@[simp] theorem bd_m_need_arrow {b : Bd} : isInsM "Board" "need_arrow" b.m = true := (rfl)
@[simp] theorem bd_m_cut {b : Bd} : isInsM "Board" "cut" b.m = true := (rfl)
@[simp] theorem bd_m_alter {b : Bd} : isInsM "Board" "alter" b.m = true := (rfl)
@[simp] theorem bd_m_say {b : Bd} : isInsM "Board" "say" b.m = true := (rfl)
@[simp] theorem bd_m_unsay {b : Bd} : isInsM "Board" "unsay" b.m = true := (rfl)
@[simp] theorem bd_m_hold {b : Bd} : isInsM "Board" "hold" b.m = true := (rfl)
@[simp] theorem bd_m_free {b : Bd} : isInsM "Board" "free" b.m = true := (rfl)
@[simp] theorem bd_m_do {b : Bd} : isInsM "Board" "do" b.m = true := (rfl)
@[simp] theorem bd_m_undo {b : Bd} : isInsM "Board" "undo" b.m = true := (rfl)
@[simp] theorem bd_m_redo {b : Bd} : isInsM "Board" "redo" b.m = true := (rfl)
@[simp] theorem bd_m_deeds {b : Bd} : isInsM "Board" "deeds" b.m = true := (rfl)
@[simp] theorem bd_m_twin {b : Bd} : isInsM "Board" "twin" b.m = true := (rfl)
@[simp] theorem bd_m_web {b : Bd} : isInsM "Board" "web" b.m = true := (rfl)
@[simp] theorem bd_m_numbers {b : Bd} : isInsM "Board" "numbers" b.m = true := (rfl)
@[simp] theorem bd_m_held {b : Bd} : isInsM "Board" "held" b.m = true := (rfl)
@[simp] theorem bd_m_layers {b : Bd} : isInsM "Board" "layers" b.m = true := (rfl)
@[simp] theorem bd_m_spots {b : Bd} : isInsM "Board" "spots" b.m = true := (rfl)
@[simp] theorem bd_m_rows {b : Bd} : isInsM "Board" "rows" b.m = true := (rfl)
@[simp] theorem bd_m_crossings {b : Bd} : isInsM "Board" "crossings" b.m = true := (rfl)
@[simp] theorem bd_m_turned {b : Bd} : isInsM "Board" "turned" b.m = true := (rfl)
@[simp] theorem bd_m_moved {b : Bd} : isInsM "Board" "moved" b.m = true := (rfl)
@[simp] theorem bd_m_draw {b : Bd} : isInsM "Board" "draw" b.m = true := (rfl)
@[simp] theorem bd_m_len {b : Bd} : isInsM "Board" "__len__" b.m = true := (rfl)
@[simp] theorem bd_m_str {b : Bd} : isInsM "Board" "__str__" b.m = true := (rfl)
@[simp] theorem bd_m_repr {b : Bd} : isInsM "Board" "__repr__" b.m = true := (rfl)
@[simp] theorem bd_m_eq {b : Bd} : isInsM "Board" "__eq__" b.m = true := (rfl)
@[simp] theorem bd_app {b : Bd} {x y : D} : putC b.m (.fl "past") (.lst (b.past.map stM ++ [.fz (.tup [x, y])])) = some (Bd.m { b with past := b.past ++ [(x, y)] }) := bd_put (by simp [stM])
def stD (p : Step) : D := .tup [p.1, p.2]
def Bd.f (b : Bd) : D := .ins "Board" [("now", b.now), ("past", .lst (b.past.map stD)), ("later", .lst (b.later.map stD))]
theorem frz_sts (ps : List Step) : frz (.lst (ps.map stM)) = some (.lst (ps.map stD)) := by
  have h : frzs (ps.map stM) = some (ps.map stD) := by
    induction ps with
    | nil => rfl
    | cons p ps ih =>
      rw [List.map_cons, frzs, ih]
      rfl
  rw [frz, h]
theorem noT_sts (ps : List Step) : noT (.lst (ps.map stM)) = true := by
  rw [noT]
  induction ps with
  | nil => rfl
  | cons p ps ih =>
    rw [List.map_cons, noTs, ih]
    rfl
theorem bd_frz {b : Bd} : frz b.m = some b.f := by
  unfold Bd.m Bd.f
  rw [frz, frzF, frzF, frzF, frzF, frz_sts, frz_sts, frz]
@[simp] theorem bd_bor {b : Bd} : borO (some b.m) = some (.fz b.f) := by
  have h1 : noT b.m = true := by
    unfold Bd.m
    rw [noT, noTF, noTF, noTF, noTF, noT_sts, noT_sts]
    rfl
  rw [borO_m, h1, bd_frz]
  rfl
@[simp] theorem bd_nowF {b : Bd} : insD "Board" "now" (.fz b.f) = some b.now := (rfl)
@[simp] theorem bd_pastF {b : Bd} : insD "Board" "past" (.fz b.f) = some (.lst (b.past.map stD)) := (rfl)
theorem keep_ok {b : Bd} {deed now : D} (h1 : noL deed = true) (h2 : noL b.now = true) (h3 : b.past.length < 16777216) : m_Board_keep [b.m, .fz deed, .fz now] = some (.ok (.fz .non) [some (Bd.m ⟨now, b.past ++ [(deed, b.now)], []⟩), some (.fz deed), some (.fz now)]) := by
  simp [m_Board_keep, b_Board_keep, h1, h2, h3]
theorem init_ok : m_Board___init__ [.ins "Board" []] = some (.ok (.fz .non) [some (Bd.m ⟨newD, [], []⟩)]) := by
  have a1 : setFG "Board" "now" [.fz newD, .ins "Board" []] = some (.ok (.fz .non) [none, some (.ins "Board" [("now", .fz newD)])]) := rfl
  have a2 : setFG "Board" "past" [.lst [], .ins "Board" [("now", .fz newD)]] = some (.ok (.fz .non) [none, some (.ins "Board" [("now", .fz newD), ("past", .lst [])])]) := rfl
  have a3 : setFG "Board" "later" [.lst [], .ins "Board" [("now", .fz newD), ("past", .lst [])]] = some (.ok (.fz .non) [none, some (Bd.m ⟨newD, [], []⟩)]) := rfl
  have a4 : isFz (.ins "Board" []) = false := rfl
  have a5 : isFz (.ins "Board" [("now", .fz newD)]) = false := rfl
  have a6 : isFz (.ins "Board" [("now", .fz newD), ("past", .lst [])]) = false := rfl
  simp [m_Board___init__, b_Board___init__, a1, a2, a3, a4, a5, a6]
theorem TupD.tup {d : D} {l : List D} (h : TupD d l) (ne : l ≠ []) : d = .tup l := h.elim id fun z => (ne z.2).elim
theorem TupD.mk {l : List D} : TupD (.tup l) l := .inl rfl
theorem TupD.len {d : D} {l : List D} (h : TupD d l) : lenM (.fz d) = some (.fz (.int l.length)) := by
  rcases h with rfl | ⟨rfl, rfl⟩ <;> rfl
theorem TupD.items {d : D} {l : List D} (h : TupD d l) : itemsA (.fz d) = some l := by
  rcases h with rfl | ⟨rfl, rfl⟩ <;> rfl
theorem TupD.itemsE {d : D} {l : List D} (h : TupD d l) (k : Int) : itemsE k (.fz d) = some (enumD k l) := by
  rcases h with rfl | ⟨rfl, rfl⟩ <;> rfl
theorem TupD.add {d : D} {l ys : List D} (h : TupD d l) (hz : l.length + ys.length ≤ 16777216) : addM (.fz d) (.fz (.tup ys)) = some (.fz (.tup (l ++ ys))) := by
  rcases h with rfl | ⟨rfl, rfl⟩
  · simp [addM, hz]
  · simp only [List.length_nil, Nat.zero_add] at hz
    simp [addM, hz]
theorem inM_neg {a b : M} {k : Bool} (h : inM false a b = some (.fz (.bl k))) (neg : Bool) : inM neg a b = some (.fz (.bl (Bool.xor k neg))) := by
  unfold inM at h ⊢
  cases e : inB a b with
  | none => rw [e] at h; cases h
  | some k' =>
    rw [e] at h
    simp at h
    subst h
    cases neg <;> cases k' <;> rfl
theorem TupD.inS {d : D} {xs : List Str} (h : TupD d (xs.map D.str)) {x : Str} {neg : Bool} : inF neg (.fz (.str x)) (.fz d) = some (.fz (.bl (Bool.xor (decide (x ∈ xs)) neg))) := by
  rcases h with rfl | ⟨rfl, h⟩
  · exact inM_neg (inTup (x := x) (xs := xs)) neg
  · obtain rfl : xs = [] := by simpa using h
    have e0 : inB (.fz (.str x)) (.fz .emp) = some false := by
      unfold inB
      split
      · rename_i h1 h2
        cases h2
      · rename_i d h2 h1
        cases h2
        rfl
      · rename_i h1 h2 h3
        exact (h2 _ rfl).elim
    have e : inM false (.fz (.str x)) (.fz .emp) = some (.fz (.bl false)) := by
      unfold inM
      rw [e0]
      rfl
    exact inM_neg e neg
theorem noLs_all : ∀ {l : List D}, (∀ d ∈ l, noL d = true) → noLs l = true
  | [], _ => rfl
  | d :: l, h => by
    rw [noLs, h d List.mem_cons_self, noLs_all fun d hd => h d (List.mem_cons_of_mem _ hd)]
    rfl
theorem TupD.noL {d : D} {l : List D} (h : TupD d l) (hl : ∀ d ∈ l, Ink.noL d = true) : Ink.noL d = true := by
  rcases h with rfl | ⟨rfl, rfl⟩
  · rw [Ink.noL]
    exact noLs_all hl
  · rfl
@[simp] theorem cut6_1 {x1 x2 x3 x4 x5 x6 : D} : cutL [x1, x2, x3, x4, x5, x6] (some 1) none = [x2, x3, x4, x5, x6] := (rfl)
@[simp] theorem cut6_2 {x1 x2 x3 x4 x5 x6 : D} : cutL [x1, x2, x3, x4, x5, x6] (some 2) none = [x3, x4, x5, x6] := (rfl)
@[simp] theorem cut6_3 {x1 x2 x3 x4 x5 x6 : D} : cutL [x1, x2, x3, x4, x5, x6] (some 3) none = [x4, x5, x6] := (rfl)
@[simp] theorem cut6t_1 {x1 x2 x3 x4 x5 x6 : D} : cutL [x1, x2, x3, x4, x5, x6] none (some 1) = [x1] := (rfl)
@[simp] theorem cut6t_2 {x1 x2 x3 x4 x5 x6 : D} : cutL [x1, x2, x3, x4, x5, x6] none (some 2) = [x1, x2] := (rfl)
@[simp] theorem cut6t_5 {x1 x2 x3 x4 x5 x6 : D} : cutL [x1, x2, x3, x4, x5, x6] none (some 5) = [x1, x2, x3, x4, x5] := (rfl)
structure Arw where
  k : Int
  x : Str
  y : Str
  l : Int
  w : Int
def Arw.d (a : Arw) : D := .tup [.int a.k, .str a.x, .str a.y, .int a.l, .int a.w]
structure Syg where
  k : Int
  x : Str
  y : Str
  l : Int
def Syg.d (a : Syg) : D := .tup [.int a.k, .str a.x, .str a.y, .int a.l]
structure Now where
  xs : List Str
  as : List Arw
  ss : List Syg
  i : Int
  j : Int
  h : D
/-- the data d tells what stands -/
def IsNow (d : D) (w : Now) : Prop := ∃ n a s, d = .tup [n, a, s, .int w.i, .int w.j, w.h] ∧ TupD n (w.xs.map D.str) ∧ TupD a (w.as.map Arw.d) ∧ TupD s (w.ss.map Syg.d) ∧ noL w.h = true
theorem IsNow.noL {d : D} {w : Now} (h : IsNow d w) : Ink.noL d = true := by
  obtain ⟨n, a, s, rfl, hn, ha, hs, hh⟩ := h
  have h1 := hn.noL fun d hd => by obtain ⟨x, _, rfl⟩ := List.mem_map.mp hd; rfl
  have h2 := ha.noL fun d hd => by obtain ⟨x, _, rfl⟩ := List.mem_map.mp hd; rfl
  have h3 := hs.noL fun d hd => by obtain ⟨x, _, rfl⟩ := List.mem_map.mp hd; rfl
  rw [Ink.noL]
  refine noLs_all fun d hd => ?_
  simp only [List.mem_cons, List.mem_nil_iff, or_false] at hd
  rcases hd with rfl | rfl | rfl | rfl | rfl | rfl <;> first | assumption | rfl
/-- the refusals of a new box -/
def boxW (w : Now) (x : Str) : Option Str := if isNameB x = false then some "BadName" else if x ∈ w.xs then some "Taken" else if 40 ≤ w.xs.length then some "Full" else none
theorem box_ok {b : Bd} {w : Now} (hw : IsNow b.now w) (hp : b.past.length < 16777216) {x : Str} (hx : x.length ≤ 16777216) : (∀ y, boxW w x = some y → m_Board_box [b.m, .fz (.str x)] = some (.ex ⟨y, none⟩ [some b.m, some (.fz (.str x))])) ∧
    (boxW w x = none → ∃ d, IsNow d { w with xs := w.xs ++ [x] } ∧ m_Board_box [b.m, .fz (.str x)] = some (.ok (.fz .non) [some (Bd.m ⟨d, b.past ++ [(.tup [.str "box", .str x], b.now)], []⟩), some (.fz (.str x))])) := by
  have hw' := hw
  obtain ⟨n, a, s, e, hn, ha, hs, hh⟩ := hw
  have l1 := hn.len
  have i1 : ∀ neg, inF neg (.fz (.str x)) (.fz n) = _ := fun neg => hn.inS
  unfold boxW
  cases hb : isNameB x with
  | false =>
    refine ⟨fun y h => ?_, fun h => by simp at h⟩
    simp at h
    subst h
    simp [-ev_inF, m_Board_box, b_Board_box, e, is_name_eq hx, hb]
  | true =>
    by_cases hm : x ∈ w.xs
    · refine ⟨fun y h => ?_, fun h => by simp [hm] at h⟩
      simp [hm] at h
      subst h
      simp [-ev_inF, m_Board_box, b_Board_box, e, is_name_eq hx, hb, i1, hm]
    · by_cases hf : 40 ≤ w.xs.length
      · have hf' : (40 : Int) ≤ (w.xs.length : Int) := by omega
        refine ⟨fun y h => ?_, fun h => by simp [hm, hf] at h⟩
        simp [hm, hf] at h
        subst h
        simp [-ev_inF, m_Board_box, b_Board_box, e, is_name_eq hx, hb, i1, hm, l1, hf']
      · have hf' : ¬ (40 : Int) ≤ (w.xs.length : Int) := by omega
        refine ⟨fun y h => by simp [hm, hf] at h, fun _ => ⟨.tup [.tup (w.xs.map D.str ++ [.str x]), a, s, .int w.i, .int w.j, w.h], ⟨_, a, s, rfl, .inl (by simp), ha, hs, hh⟩, ?_⟩⟩
        have k1 := keep_ok (b := b) (deed := .tup [.str "box", .str x]) (now := .tup [.tup (w.xs.map D.str ++ [.str x]), a, s, .int w.i, .int w.j, w.h]) rfl hw'.noL hp
        have a1 := hn.add (ys := [.str x]) (by simp; omega)
        simp [-ev_inF, m_Board_box, b_Board_box, e, is_name_eq hx, hb, i1, hm, l1, hf', k1, a1]
end Lw
set_option Elab.async false
set_option linter.all false
set_option maxRecDepth 100000
set_option maxHeartbeats 1000000
namespace Lw
open PySem L2 Ink
theorem need2_ok {b : Bd} {w : Now} (hw : IsNow b.now w) {x y : Str} : m_Board_need_boxes [b.m, .lst [.fz (.str x), .fz (.str y)]] =
    if x ∈ w.xs ∧ y ∈ w.xs then some (.ok (.fz .non) [some b.m, some (.fz (.lst [.str x, .str y]))]) else some (.ex ⟨"NoBox", none⟩ [some b.m, some (.fz (.lst [.str x, .str y]))]) := by
  obtain ⟨n, a, s, e, hn, ha, hs, hh⟩ := hw
  have i1 : ∀ z neg, inF neg (.fz (.str z)) (.fz n) = _ := fun z neg => hn.inS
  by_cases h1 : x ∈ w.xs
  · by_cases h2 : y ∈ w.xs
    · simp [-ev_inF, m_Board_need_boxes, b_Board_need_boxes, L_Board_need_boxes_1, loopD, e, i1, h1, h2]
    · simp [-ev_inF, m_Board_need_boxes, b_Board_need_boxes, L_Board_need_boxes_1, loopD, e, i1, h1, h2]
  · simp [-ev_inF, m_Board_need_boxes, b_Board_need_boxes, L_Board_need_boxes_1, loopD, e, i1, h1]
theorem sizes_ok {l w : Int} : m_need_sizes [.fz (.int l), .fz (.int w)] = if 1 ≤ l ∧ l ≤ 3 then if 1 ≤ w ∧ w ≤ 9 then some (.ok (.fz .non) [some (.fz (.int l)), some (.fz (.int w))]) else some (.ex ⟨"BadWeight", none⟩ [some (.fz (.int l)), some (.fz (.int w))]) else some (.ex ⟨"BadLeast", none⟩ [some (.fz (.int l)), some (.fz (.int w))]) := by
  by_cases h1 : 1 ≤ l ∧ l ≤ 3
  · by_cases h2 : 1 ≤ w ∧ w ≤ 9
    · simp [m_need_sizes, b_need_sizes, h1, h2]
    · simp only [if_pos h1, if_neg h2]
      have h2' : (decide (1 ≤ w) && decide (w ≤ 9)) = false := by simpa using h2
      simp [m_need_sizes, b_need_sizes, h1, h2']
  · have h1' : (decide (1 ≤ l) && decide (l ≤ 3)) = false := by simpa using h1
    simp only [if_neg h1]
    simp [m_need_sizes, b_need_sizes, h1']
/-- the refusals of a new arrow -/
def arrowW (w : Now) (x y : Str) (l g : Int) : Option Str := if ¬ (x ∈ w.xs ∧ y ∈ w.xs) then some "NoBox" else if ¬ (1 ≤ l ∧ l ≤ 3) then some "BadLeast" else if ¬ (1 ≤ g ∧ g ≤ 9) then some "BadWeight" else if 80 ≤ w.as.length then some "Full" else none
theorem arrow_ok {b : Bd} {w : Now} (hw : IsNow b.now w) (hp : b.past.length < 16777216) {x y : Str} {l g : Int} : (∀ z, arrowW w x y l g = some z → m_Board_arrow [b.m, .fz (.str x), .fz (.str y), .fz (.int l), .fz (.int g)] = some (.ex ⟨z, none⟩ [some b.m, some (.fz (.str x)), some (.fz (.str y)), some (.fz (.int l)), some (.fz (.int g))])) ∧
    (arrowW w x y l g = none → ∃ d, IsNow d { w with as := w.as ++ [⟨w.i, x, y, l, g⟩], i := w.i + 1 } ∧ m_Board_arrow [b.m, .fz (.str x), .fz (.str y), .fz (.int l), .fz (.int g)] = some (.ok (.fz (.int w.i)) [some (Bd.m ⟨d, b.past ++ [(.tup [.str "arrow", .str x, .str y, .int l, .int g], b.now)], []⟩), some (.fz (.str x)), some (.fz (.str y)), some (.fz (.int l)), some (.fz (.int g))])) := by
  have hw' := hw
  have n1 := need2_ok hw (x := x) (y := y)
  have s1 := sizes_ok (l := l) (w := g)
  obtain ⟨n, a, s, e, hn, ha, hs, hh⟩ := hw
  have l1 := ha.len
  unfold arrowW
  by_cases h1 : x ∈ w.xs ∧ y ∈ w.xs
  · rw [if_pos h1] at n1
    by_cases h2 : 1 ≤ l ∧ l ≤ 3
    · rw [if_pos h2] at s1
      by_cases h3 : 1 ≤ g ∧ g ≤ 9
      · rw [if_pos h3] at s1
        by_cases h4 : 80 ≤ w.as.length
        · have h4' : (80 : Int) ≤ (w.as.length : Int) := by omega
          refine ⟨fun z h => ?_, fun h => by simp [h1, h2, h3, h4] at h⟩
          simp [h1, h2, h3, h4] at h
          subst h
          simp [m_Board_arrow, b_Board_arrow, e, n1, s1, l1, h4']
        · have h4' : ¬ (80 : Int) ≤ (w.as.length : Int) := by omega
          refine ⟨fun z h => by simp [h1, h2, h3, h4] at h, fun _ => ⟨.tup [n, .tup (w.as.map Arw.d ++ [Arw.d ⟨w.i, x, y, l, g⟩]), s, .int (w.i + 1), .int w.j, w.h], ⟨n, _, s, rfl, hn, .inl (by simp), hs, hh⟩, ?_⟩⟩
          have k1 := keep_ok (b := b) (deed := .tup [.str "arrow", .str x, .str y, .int l, .int g]) (now := .tup [n, .tup (w.as.map Arw.d ++ [Arw.d ⟨w.i, x, y, l, g⟩]), s, .int (w.i + 1), .int w.j, w.h]) rfl hw'.noL hp
          have a1 := ha.add (ys := [Arw.d ⟨w.i, x, y, l, g⟩]) (by simp; omega)
          have d1 : Arw.d ⟨w.i, x, y, l, g⟩ = .tup [.int w.i, .str x, .str y, .int l, .int g] := rfl
          rw [d1] at a1 k1
          rw [d1]
          simp [m_Board_arrow, b_Board_arrow, e, n1, s1, l1, h4', a1, k1]
      · rw [if_neg h3] at s1
        refine ⟨fun z h => ?_, fun h => by simp [h1, h2, h3] at h⟩
        simp only [h1, h2, h3, not_true_eq_false, if_false, not_false_eq_true, if_true, and_self] at h
        cases h
        simp [m_Board_arrow, b_Board_arrow, e, n1, s1]
    · rw [if_neg h2] at s1
      refine ⟨fun z h => ?_, fun h => by simp [h1, h2] at h⟩
      simp only [h1, h2, not_true_eq_false, if_false, not_false_eq_true, if_true, and_self] at h
      cases h
      simp [m_Board_arrow, b_Board_arrow, e, n1, s1]
  · rw [if_neg h1] at n1
    refine ⟨fun z h => ?_, fun h => by simp [h1] at h⟩
    rw [if_pos h1] at h
    cases h
    simp [m_Board_arrow, b_Board_arrow, e, n1]
/-- the refusals of a new saying -/
def sayW (w : Now) (x y : Str) (l : Int) : Option Str := if ¬ (x ∈ w.xs ∧ y ∈ w.xs) then some "NoBox" else if x = y then some "Same" else if ¬ (if l < 0 then -l else l) ≤ 9 then some "BadLeast" else if 20 ≤ w.ss.length then some "Full" else none
theorem say_ok {b : Bd} {w : Now} (hw : IsNow b.now w) (hp : b.past.length < 16777216) {x y : Str} {l : Int} : (∀ z, sayW w x y l = some z → m_Board_say [b.m, .fz (.str x), .fz (.str y), .fz (.int l)] = some (.ex ⟨z, none⟩ [some b.m, some (.fz (.str x)), some (.fz (.str y)), some (.fz (.int l))])) ∧
    (sayW w x y l = none → ∃ d, IsNow d { w with ss := w.ss ++ [⟨w.j, x, y, l⟩], j := w.j + 1 } ∧ m_Board_say [b.m, .fz (.str x), .fz (.str y), .fz (.int l)] = some (.ok (.fz (.int w.j)) [some (Bd.m ⟨d, b.past ++ [(.tup [.str "say", .str x, .str y, .int l], b.now)], []⟩), some (.fz (.str x)), some (.fz (.str y)), some (.fz (.int l))])) := by
  have hw' := hw
  have n1 := need2_ok hw (x := x) (y := y)
  have f1 := @is_far_eq l
  obtain ⟨n, a, s, e, hn, ha, hs, hh⟩ := hw
  have l1 := hs.len
  unfold sayW
  by_cases h1 : x ∈ w.xs ∧ y ∈ w.xs
  · rw [if_pos h1] at n1
    by_cases h2 : x = y
    · refine ⟨fun z h => ?_, fun h => by simp [h1, h2] at h⟩
      simp only [h1, h2, not_true_eq_false, if_false, if_true, and_self] at h
      subst h2
      cases h
      simp [m_Board_say, b_Board_say, e, n1]
    · by_cases h3 : (if l < 0 then -l else l) ≤ 9
      · by_cases h4 : 20 ≤ w.ss.length
        · have h4' : (20 : Int) ≤ (w.ss.length : Int) := by omega
          refine ⟨fun z h => ?_, fun h => by simp [h1, h2, h3, h4] at h⟩
          simp [h1, h2, h3, h4] at h
          subst h
          simp [m_Board_say, b_Board_say, e, n1, f1, l1, h2, h3, h4']
        · have h4' : ¬ (20 : Int) ≤ (w.ss.length : Int) := by omega
          refine ⟨fun z h => by simp [h1, h2, h3, h4] at h, fun _ => ⟨.tup [n, a, .tup (w.ss.map Syg.d ++ [Syg.d ⟨w.j, x, y, l⟩]), .int w.i, .int (w.j + 1), w.h], ⟨n, a, _, rfl, hn, ha, .inl (by simp), hh⟩, ?_⟩⟩
          have k1 := keep_ok (b := b) (deed := .tup [.str "say", .str x, .str y, .int l]) (now := .tup [n, a, .tup (w.ss.map Syg.d ++ [Syg.d ⟨w.j, x, y, l⟩]), .int w.i, .int (w.j + 1), w.h]) rfl hw'.noL hp
          have a1 := hs.add (ys := [Syg.d ⟨w.j, x, y, l⟩]) (by simp; omega)
          have d1 : Syg.d ⟨w.j, x, y, l⟩ = .tup [.int w.j, .str x, .str y, .int l] := rfl
          rw [d1] at a1 k1
          rw [d1]
          simp [m_Board_say, b_Board_say, e, n1, f1, l1, h2, h3, h4', a1, k1]
      · refine ⟨fun z h => ?_, fun h => by simp [h1, h2, h3] at h⟩
        simp only [h1, h2, h3, not_true_eq_false, if_false, not_false_eq_true, if_true, and_self] at h
        cases h
        simp [m_Board_say, b_Board_say, e, n1, f1, h2, h3]
  · rw [if_neg h1] at n1
    refine ⟨fun z h => ?_, fun h => by simp [h1] at h⟩
    rw [if_pos h1] at h
    cases h
    simp [m_Board_say, b_Board_say, e, n1]
end Lw
set_option Elab.async false
set_option linter.all false
set_option maxRecDepth 100000
set_option maxHeartbeats 1000000
namespace Lw
open PySem L2 Ink
/-- the places of the rows of number k -/
def atNo {α : Type} (key : α → Int) (l : List α) (k : Int) : List Nat := (l.zipIdx.filter fun p => decide (key p.1 = k)).map (·.2)
theorem atNo_one {α : Type} {key : α → Int} {l : List α} {k : Int} {i : Nat} {a : α} (hi : l[i]? = some a) (hk : key a = k) (hu : ∀ (j : Nat) b, l[j]? = some b → key b = k → j = i) : atNo key l k = [i] := by
  unfold atNo
  have hl : i < l.length := (List.getElem?_eq_some_iff.mp hi).1
  have e : (l.zipIdx.filter fun p => decide (key p.1 = k)) = [(a, i)] := by
    have e1 : ∀ (n : Nat) (r : List α), (∀ (j : Nat) b, r[j]? = some b → (key b = k ↔ n + j = i)) → (r.zipIdx n).filter (fun p => decide (key p.1 = k)) = if h : n ≤ i ∧ i < n + r.length then [(r[i - n]'(by omega), i)] else [] := by
      intro n r
      induction r generalizing n with
      | nil => intro _; simp
      | cons b r ih =>
        intro h
        have h0 := h 0 b rfl
        have ih := ih (n + 1) fun j c hc => by
          have := h (j + 1) c (by simpa using hc)
          rw [this]; omega
        rw [List.zipIdx_cons, List.filter_cons]
        by_cases z : key b = k
        · have ei : n = i := by simpa using h0.mp z
          subst ei
          simp [z, ih]
          omega
        · have ni : n ≠ i := fun e => z (h0.mpr (by omega))
          simp only [z, decide_false, Bool.false_eq_true, if_false, ih]
          by_cases c : n + 1 ≤ i ∧ i < n + 1 + r.length
          · rw [dif_pos c, dif_pos (by simp; omega)]
            have e2 : i - n = i - (n + 1) + 1 := by omega
            simp [e2]
          · rw [dif_neg c, dif_neg (by simp; omega)]
    rw [e1 0 l fun j b hb => ⟨fun z => by simpa using hu j b hb z, fun z => by
      have z : j = i := by omega
      subst z
      rw [hi] at hb; cases hb; exact hk⟩]
    rw [dif_pos (by omega)]
    have e3 : l[i - 0]'(by omega) = a := by
      have := (List.getElem?_eq_some_iff.mp hi).2
      simpa using this
    simp [e3]
    have := (List.getElem?_eq_some_iff.mp hi).2
    exact this
  rw [e]
  rfl
theorem numbered_ok {α : Type} {enc : α → D} {key : α → Int} {d : D} {l : List α} (h : TupD d (l.map enc)) (he : ∀ a, ∃ r, enc a = .tup (.int (key a) :: r)) (hl : l.length ≤ 1000) (k : Int) : m_numbered [.fz d, .fz (.int k)] = some (.ok (.lst ((atNo key l k).map fun i => .fz (.int (i : Nat)))) [some (.fz d), some (.fz (.int k))]) := by
  have i1 := h.itemsE 0
  have z := enumD_zip enc l 0
  have z : enumD 0 (l.map enc) = (l.zipIdx 0).map fun p => D.tup [.int (p.2 : Nat), enc p.1] := z
  rw [z] at i1
  have c := comp_filter (g := tupG [(nmG 2), (nmG 3)]) (ft := T_numbered_1) (fe := tk (vE 2)) (own := [2, 3]) (fun p : α × Nat => D.tup [.int (p.2 : Nat), enc p.1]) (fun p => decide (key p.1 = k)) (fun p => M.fz (.int (p.2 : Nat))) [some (.fz d), some (.fz (.int k)), none, none] (l.zipIdx 0) (fun p hp => by
    obtain ⟨r, hr⟩ := he p.1
    refine ⟨[some (.fz d), some (.fz (.int k)), some (.fz (.int (p.2 : Nat))), some (.fz (enc p.1))], [some (.fz d), some (.fz (.int k)), some (.fz (.int (p.2 : Nat))), some (.fz (enc p.1))], by simp [tupG], ?_, fun _ => ⟨[some (.fz d), some (.fz (.int k)), some (.fz (.int (p.2 : Nat))), some (.fz (enc p.1))], by simp, by simp [wipeE]⟩, fun _ => by simp [wipeE]⟩
    rw [hr]
    simp [T_numbered_1]
    )
  have hl2 : l.length ≤ 16777216 := by omega
  simp [m_numbered, b_numbered, i1, c, atNo, hl2]
theorem need_arrow_ok {b : Bd} {w : Now} (hw : IsNow b.now w) (hl : w.as.length ≤ 1000) {k : Int} {i : Nat} (h : atNo Arw.k w.as k = [i]) : m_Board_need_arrow [b.m, .fz (.int k)] = some (.ok (.fz (.int (i : Nat))) [some b.m, some (.fz (.int k))]) := by
  obtain ⟨n, a, s, e, hn, ha, hs, hh⟩ := hw
  have n1 := numbered_ok ha (key := Arw.k) (fun a => ⟨_, rfl⟩) hl k
  rw [h] at n1
  simp only [List.map_nil, List.map_cons] at n1
  have q : eqM (.lst [.fz (.int (i : Nat))]) (.lst []) = some (.fz (.bl false)) := rfl
  simp [m_Board_need_arrow, b_Board_need_arrow, e, n1, q]
theorem cut_ok {b : Bd} {w : Now} (hw : IsNow b.now w) (hp : b.past.length < 16777216) (hl : w.as.length ≤ 1000) {k : Int} {i : Nat} (h : atNo Arw.k w.as k = [i]) (hi : i < w.as.length) : ∃ d, IsNow d { w with as := w.as.take i ++ w.as.drop (i + 1) } ∧
    m_Board_cut [b.m, .fz (.int k)] = some (.ok (.fz .non) [some (Bd.m ⟨d, b.past ++ [(.tup [.str "cut", .int k], b.now)], []⟩), some (.fz (.int k))]) := by
  have hw' := hw
  have n1 := need_arrow_ok hw hl h
  obtain ⟨n, a, s, e, hn, ha, hs, hh⟩ := hw
  have ea := ha.tup (by intro z; rw [List.map_eq_nil_iff] at z; rw [z] at hi; simp at hi)
  subst ea
  refine ⟨.tup [n, .tup ((w.as.take i).map Arw.d ++ (w.as.drop (i + 1)).map Arw.d), s, .int w.i, .int w.j, w.h], ⟨n, _, s, rfl, hn, .inl (by simp), hs, hh⟩, ?_⟩
  have k1 := keep_ok (b := b) (deed := .tup [.str "cut", .int k]) (now := .tup [n, .tup ((w.as.take i).map Arw.d ++ (w.as.drop (i + 1)).map Arw.d), s, .int w.i, .int w.j, w.h]) rfl hw'.noL hp
  have c1 : cutL (w.as.map Arw.d) none (some (i : Int)) = (w.as.take i).map Arw.d := by rw [cutL_to (by omega)]; simp
  have c2 : cutL (w.as.map Arw.d) (some ((i : Int) + 1)) none = (w.as.drop (i + 1)).map Arw.d := by rw [cutL_from (by omega), show ((i : Int) + 1).toNat = i + 1 by omega]; simp
  have z1 : min i w.as.length + (w.as.length - (i + 1)) ≤ 16777216 := by omega
  simp only [List.map_take, List.map_drop] at c1 c2 k1 ⊢
  simp [m_Board_cut, b_Board_cut, e, n1, c1, c2, k1, z1]
theorem alter_ok {b : Bd} {w : Now} (hw : IsNow b.now w) (hp : b.past.length < 16777216) (hl : w.as.length ≤ 1000) {k l g : Int} {i : Nat} {r : Arw} (h : atNo Arw.k w.as k = [i]) (hi : w.as[i]? = some r) (h1 : 1 ≤ l ∧ l ≤ 3) (h2 : 1 ≤ g ∧ g ≤ 9) : ∃ d, IsNow d { w with as := w.as.take i ++ { r with l := l, w := g } :: w.as.drop (i + 1) } ∧
    m_Board_alter [b.m, .fz (.int k), .fz (.int l), .fz (.int g)] = some (.ok (.fz .non) [some (Bd.m ⟨d, b.past ++ [(.tup [.str "alter", .int k, .int l, .int g], b.now)], []⟩), some (.fz (.int k)), some (.fz (.int l)), some (.fz (.int g))]) := by
  have hw' := hw
  have n1 := need_arrow_ok hw hl h
  have s1 := sizes_ok (l := l) (w := g)
  rw [if_pos h1, if_pos h2] at s1
  have hi' : i < w.as.length := (List.getElem?_eq_some_iff.mp hi).1
  obtain ⟨n, a, s, e, hn, ha, hs, hh⟩ := hw
  have ea := ha.tup (by intro z; rw [List.map_eq_nil_iff] at z; rw [z] at hi'; simp at hi')
  subst ea
  refine ⟨.tup [n, .tup ((w.as.take i).map Arw.d ++ Arw.d { r with l := l, w := g } :: (w.as.drop (i + 1)).map Arw.d), s, .int w.i, .int w.j, w.h], ⟨n, _, s, rfl, hn, .inl (by simp), hs, hh⟩, ?_⟩
  have k1 := keep_ok (b := b) (deed := .tup [.str "alter", .int k, .int l, .int g]) (now := .tup [n, .tup ((w.as.take i).map Arw.d ++ Arw.d { r with l := l, w := g } :: (w.as.drop (i + 1)).map Arw.d), s, .int w.i, .int w.j, w.h]) rfl hw'.noL hp
  have c1 : cutL (w.as.map Arw.d) none (some (i : Int)) = (w.as.take i).map Arw.d := by rw [cutL_to (by omega)]; simp
  have c2 : cutL (w.as.map Arw.d) (some ((i : Int) + 1)) none = (w.as.drop (i + 1)).map Arw.d := by rw [cutL_from (by omega), show ((i : Int) + 1).toNat = i + 1 by omega]; simp
  have z1 : min i w.as.length + 1 ≤ 16777216 := by omega
  have z2 : min i w.as.length + 1 + (w.as.length - (i + 1)) ≤ 16777216 := by omega
  have z3 : min i w.as.length + (w.as.length - (i + 1) + 1) ≤ 16777216 := by omega
  have x1 : atI (w.as.map Arw.d) (i : Int) = some (Arw.d r) := by
    obtain ⟨d, h3, h4⟩ := atI_at (xs := w.as.map Arw.d) (i := (i : Int)) (by omega) (by simp; omega)
    rw [h4]
    simp [hi] at h3
    rw [h3]
  have d1 : Arw.d r = .tup [.int r.k, .str r.x, .str r.y, .int r.l, .int r.w] := rfl
  have d2 : Arw.d { r with l := l, w := g } = .tup [.int r.k, .str r.x, .str r.y, .int l, .int g] := rfl
  have c3 : ∀ x1 x2 x3 x4 x5 : D, cutL [x1, x2, x3, x4, x5] none (some 3) = [x1, x2, x3] := fun _ _ _ _ _ => rfl
  rw [d1] at x1
  rw [d2] at k1
  simp only [List.map_take, List.map_drop] at c1 c2 k1 ⊢
  rw [d2]
  simp [m_Board_alter, b_Board_alter, e, n1, s1, c1, c2, c3, x1, k1, z1, z2, z3]
theorem unsay_ok {b : Bd} {w : Now} (hw : IsNow b.now w) (hp : b.past.length < 16777216) (hl : w.ss.length ≤ 1000) {k : Int} {i : Nat} (h : atNo Syg.k w.ss k = [i]) (hi : i < w.ss.length) : ∃ d, IsNow d { w with ss := w.ss.take i ++ w.ss.drop (i + 1) } ∧
    m_Board_unsay [b.m, .fz (.int k)] = some (.ok (.fz .non) [some (Bd.m ⟨d, b.past ++ [(.tup [.str "unsay", .int k], b.now)], []⟩), some (.fz (.int k))]) := by
  have hw' := hw
  obtain ⟨n, a, s, e, hn, ha, hs, hh⟩ := hw
  have n1 := numbered_ok hs (key := Syg.k) (fun a => ⟨_, rfl⟩) hl k
  rw [h] at n1
  simp only [List.map_nil, List.map_cons] at n1
  have ea := hs.tup (by intro z; rw [List.map_eq_nil_iff] at z; rw [z] at hi; simp at hi)
  subst ea
  refine ⟨.tup [n, a, .tup ((w.ss.take i).map Syg.d ++ (w.ss.drop (i + 1)).map Syg.d), .int w.i, .int w.j, w.h], ⟨n, a, _, rfl, hn, ha, .inl (by simp), hh⟩, ?_⟩
  have k1 := keep_ok (b := b) (deed := .tup [.str "unsay", .int k]) (now := .tup [n, a, .tup ((w.ss.take i).map Syg.d ++ (w.ss.drop (i + 1)).map Syg.d), .int w.i, .int w.j, w.h]) rfl hw'.noL hp
  have c1 : cutL (w.ss.map Syg.d) none (some (i : Int)) = (w.ss.take i).map Syg.d := by rw [cutL_to (by omega)]; simp
  have c2 : cutL (w.ss.map Syg.d) (some ((i : Int) + 1)) none = (w.ss.drop (i + 1)).map Syg.d := by rw [cutL_from (by omega), show ((i : Int) + 1).toNat = i + 1 by omega]; simp
  have z1 : min i w.ss.length + (w.ss.length - (i + 1)) ≤ 16777216 := by omega
  have q : eqM (.lst [.fz (.int (i : Nat))]) (.lst []) = some (.fz (.bl false)) := rfl
  simp only [List.map_take, List.map_drop] at c1 c2 k1 ⊢
  simp [m_Board_unsay, b_Board_unsay, e, n1, c1, c2, k1, z1, q]
end Lw
set_option Elab.async false
set_option linter.all false
set_option maxRecDepth 100000
set_option maxHeartbeats 0
set_option Elab.async false
set_option linter.all false
set_option maxRecDepth 100000
set_option maxHeartbeats 0
namespace Lw
open PySem L2 Ink
@[simp] theorem isNon_d {d : D} (h : d ≠ .non) : isNon (.fz d) = false := by cases d <;> first | rfl | exact absurd rfl h
@[simp] theorem isNon_l {ms : List M} : isNon (.lst ms) = false := (rfl)
@[simp] theorem isNon_n : isNon (.fz .non) = true := (rfl)
@[simp] theorem kd_bl {b : Bool} : kdM (.fz (.bl b)) = some .bl := (rfl)
@[simp] theorem kd_int {b : Int} : kdM (.fz (.int b)) = some .int := (rfl)
@[simp] theorem kd_str {b : Str} : kdM (.fz (.str b)) = some .str := (rfl)
@[simp] theorem kd_non : kdM (.fz .non) = some .non := (rfl)
@[simp] theorem kd_fl {b : List D} : kdM (.fz (.lst b)) = some .lst := (rfl)
@[simp] theorem kd_tup {b : List D} : kdM (.fz (.tup b)) = some .tup := (rfl)
@[simp] theorem kd_lst {b : List M} : kdM (.lst b) = some .lst := (rfl)
end Lw
set_option Elab.async false
set_option linter.all false
set_option maxRecDepth 100000
set_option maxHeartbeats 0
namespace Lw
open PySem L2 Ink
inductive Rch {α : Type} (R : α → α → Prop) : α → α → Prop
  | refl (x : α) : Rch R x x
  | step {x y z : α} : R x y → Rch R y z → Rch R x z
theorem Rch.trans {α : Type} {R : α → α → Prop} {x y z : α} (a : Rch R x y) (b : Rch R y z) : Rch R x z := by
  induction a with
  | refl => exact b
  | step h _ ih => exact .step h (ih b)
theorem Rch.tail {α : Type} {R : α → α → Prop} {x y z : α} (a : Rch R x y) (b : R y z) : Rch R x z := a.trans (.step b (.refl _))
theorem Rch.mono {α : Type} {R S : α → α → Prop} {x y : α} (a : Rch R x y) (h : ∀ a b, R a b → S a b) : Rch S x y := by
  induction a with
  | refl => exact .refl _
  | step q _ ih => exact .step (h _ _ q) ih
theorem nodup_le {α : Type} [DecidableEq α] : ∀ {xs ys : List α}, xs.Nodup → (∀ x ∈ xs, x ∈ ys) → xs.length ≤ ys.length
  | [], _, _, _ => Nat.zero_le _
  | x :: xs, ys, hn, hs => by
    rw [List.nodup_cons] at hn
    have hx := hs x (List.mem_cons_self ..)
    have ih := nodup_le (xs := xs) (ys := ys.erase x) hn.2 fun y hy => by
      rw [List.mem_erase_of_ne]
      · exact hs y (List.mem_cons_of_mem _ hy)
      · intro e; subst e; exact hn.1 hy
    rw [List.length_erase_of_mem hx] at ih
    have := List.length_pos_of_mem hx
    simp only [List.length_cons]
    omega
abbrev kI (x : Int) : Key := Sum.inl x
def prD (p : Int × Int) : D := .tup [.int p.1, .int p.2]
end Lw
set_option Elab.async false
set_option linter.all false
set_option maxRecDepth 100000
set_option maxHeartbeats 0
namespace Lw
open PySem L2 Ink
def EdgR (es : List (Int × Int)) (x y : Int) : Prop := (x, y) ∈ es
structure GoI (es : List (Int × Int)) (first : Int) (row : List Int) : Prop where
  nd : row.Nodup
  hd : row[0]? = some first
  rc : ∀ y ∈ row, Rch (EdgR es) first y
  sub : ∀ y ∈ row, y ∈ first :: es.map (·.2)
theorem GoI.len {es : List (Int × Int)} {first : Int} {row : List Int} (h : GoI es first row) : row.length ≤ es.length + 1 := by
  have := nodup_le h.nd h.sub
  simpa using this
theorem GoI.add {es : List (Int × Int)} {first : Int} {row : List Int} (h : GoI es first row) {x y : Int} (hx : x ∈ row) (he : (x, y) ∈ es) (hy : y ∉ row) : GoI es first (row ++ [y]) := by
  refine ⟨?_, ?_, fun z hz => ?_, fun z hz => ?_⟩
  · rw [List.nodup_append]
    exact ⟨h.nd, by simp, fun a ha b hb e => by simp at hb; subst hb; subst e; exact hy ha⟩
  · have := h.hd
    rw [List.getElem?_append_left]
    · exact this
    · exact (List.getElem?_eq_some_iff.mp this).1
  · rcases List.mem_append.mp hz with q | q
    · exact h.rc z q
    · simp at q; subst q; exact (h.rc x hx).tail he
  · rcases List.mem_append.mp hz with q | q
    · exact h.sub z q
    · simp at q; subst q
      exact List.mem_cons_of_mem _ (List.mem_map.mpr ⟨(x, z), he, rfl⟩)
structure GoJ (es : List (Int × Int)) (first : Int) (row : List Int) (x : Int) (k : Nat) (row' : List Int) : Prop where
  inv : GoI es first row'
  pre : ∀ (i : Nat) z, row[i]? = some z → row'[i]? = some z
  done : ∀ i < k, ∀ p, es[i]? = some p → p.1 = x → p.2 ∈ row'
  sub : ∀ y ∈ row, y ∈ row'
theorem GoJ.same {es : List (Int × Int)} {first : Int} {row : List Int} {x : Int} {k : Nat} {row' : List Int} (h : GoJ es first row x k row') {p : Int × Int} (hp : es[k]? = some p) (hd : p.1 = x → p.2 ∈ row') : GoJ es first row x (k + 1) row' :=
  ⟨h.inv, h.pre, fun i hi q hq hx => by
    by_cases e : i = k
    · subst e; rw [hp] at hq; cases hq; exact hd hx
    · exact h.done i (by omega) q hq hx, h.sub⟩
theorem GoJ.more {es : List (Int × Int)} {first : Int} {row : List Int} {x : Int} {k : Nat} {row' : List Int} (h : GoJ es first row x k row') {y : Int} (hp : es[k]? = some (x, y)) (hx : x ∈ row') (hy : y ∉ row') : GoJ es first row x (k + 1) (row' ++ [y]) :=
  ⟨h.inv.add hx (List.mem_of_getElem? hp) hy, fun i z hz => by
    have h' := h.pre i z hz
    rw [List.getElem?_append_left (List.getElem?_eq_some_iff.mp h').1]; exact h', fun i hi q hq hxx => by
    by_cases e : i = k
    · subst e; rw [hp] at hq; cases hq; simp
    · exact List.mem_append_left _ (h.done i (by omega) q hq hxx), fun z hz => List.mem_append_left _ (h.sub z hz)⟩
end Lw
set_option Elab.async false
set_option linter.all false
set_option maxRecDepth 100000
set_option maxHeartbeats 0
namespace Lw
open PySem L2 Ink
abbrev Ahd := List (Int × List (Int × Int))
def nb (A : Ahd) (x : Int) : List (Int × Int) := (valG A x).getD []
def NbR (N : Int → List (Int × Int)) (x y : Int) : Prop := ∃ a, (a, y) ∈ N x
structure WyI (A : Ahd) (m : Nat) (first : Int) (row : List Int) (pre : Int → Option (Int × Int)) : Prop where
  nd : row.Nodup
  hd : row[0]? = some first
  p0 : pre first = none
  ps : ∀ (i : Nat) y, row[i]? = some y → 0 < i → ∃ a x, ∃ j : Nat, pre y = some (a, x) ∧ j < i ∧ row[j]? = some x ∧ (a, y) ∈ nb A x
  rc : ∀ y ∈ row, Rch (NbR (nb A)) first y
  sub : ∀ y ∈ row, 0 ≤ y ∧ y < m
theorem nodup_range {row : List Int} {m : Nat} (h : row.Nodup) (hs : ∀ y ∈ row, 0 ≤ y ∧ y < m) : row.length ≤ m := by
  have := nodup_le (ys := (List.range m).map fun k : Nat => (k : Int)) h fun y hy => by
    obtain ⟨h1, h2⟩ := hs y hy
    exact List.mem_map.mpr ⟨y.toNat, by simp; omega, by omega⟩
  simpa using this
theorem WyI.len {A : Ahd} {m : Nat} {first : Int} {row : List Int} {pre : Int → Option (Int × Int)} (h : WyI A m first row pre) : row.length ≤ m := nodup_range h.nd h.sub
def setP (pre : Int → Option (Int × Int)) (y : Int) (p : Int × Int) : Int → Option (Int × Int) := fun z => if z = y then some p else pre z
theorem WyI.add {A : Ahd} {m : Nat} {first : Int} {row : List Int} {pre : Int → Option (Int × Int)} (h : WyI A m first row pre) {a x y : Int} {j : Nat} (hx : row[j]? = some x) (he : (a, y) ∈ nb A x) (hy : y ∉ row) (hU : 0 ≤ y ∧ y < m) :
    WyI A m first (row ++ [y]) (setP pre y (a, x)) := by
  have hf : first ∈ row := List.mem_of_getElem? h.hd
  have hjl := (List.getElem?_eq_some_iff.mp hx).1
  refine ⟨?_, ?_, ?_, fun i z hz hi => ?_, fun z hz => ?_, fun z hz => ?_⟩
  · rw [List.nodup_append]
    exact ⟨h.nd, by simp, fun a ha b hb e => by simp at hb; subst hb; subst e; exact hy ha⟩
  · rw [List.getElem?_append_left (List.getElem?_eq_some_iff.mp h.hd).1]; exact h.hd
  · unfold setP
    rw [if_neg fun q : first = y => hy (q ▸ hf)]; exact h.p0
  · by_cases hl : i < row.length
    · rw [List.getElem?_append_left hl] at hz
      obtain ⟨a', x', j', h1, h2, h3, h4⟩ := h.ps i z hz hi
      refine ⟨a', x', j', ?_, h2, ?_, h4⟩
      · unfold setP
        rw [if_neg fun q : z = y => hy (q ▸ List.mem_of_getElem? hz)]; exact h1
      · rw [List.getElem?_append_left (List.getElem?_eq_some_iff.mp h3).1]; exact h3
    · rw [List.getElem?_append_right (by omega)] at hz
      have hi0 : i - row.length = 0 := by
        rcases Nat.eq_zero_or_pos (i - row.length) with q | q
        · exact q
        · rw [List.getElem?_eq_none (by simp; omega)] at hz; cases hz
      rw [hi0] at hz
      simp at hz
      subst hz
      refine ⟨a, x, j, by unfold setP; rw [if_pos rfl], by omega, ?_, he⟩
      rw [List.getElem?_append_left hjl]; exact hx
  · rcases List.mem_append.mp hz with q | q
    · exact h.rc z q
    · simp at q; subst q; exact (h.rc x (List.mem_of_getElem? hx)).tail ⟨a, he⟩
  · rcases List.mem_append.mp hz with q | q
    · exact h.sub z q
    · simp at q; subst q; exact hU
end Lw
set_option Elab.async false
set_option linter.all false
set_option maxRecDepth 100000
set_option maxHeartbeats 0
namespace Lw
open PySem L2 Ink
structure Arr where
  one : Int
  other : Int
  least : Int
  weight : Int
def Arr.row (a : Arr) : List Int := [a.one, a.other, a.least, a.weight]
structure Arr.Ok (n : Int) (a : Arr) : Prop where
  o0 : 0 ≤ a.one
  o1 : a.one < n
  t0 : 0 ≤ a.other
  t1 : a.other < n
  l0 : 1 ≤ a.least
  l1 : a.least ≤ 3
  w0 : 1 ≤ a.weight
  w1 : a.weight ≤ 9
@[simp] theorem noL_pr {p : Int × Int} : noL (prD p) = true := by simp [prD]
end Lw
set_option Elab.async false
set_option linter.all false
set_option maxRecDepth 100000
set_option maxHeartbeats 0
namespace Lw
open PySem L2 Ink
section
variable {α : Type} (enc : α → D)
def lsM (A : List (Int × List α)) : M := .dK (A.map fun p => (kI p.1, M.lst (p.2.map fun q => M.fz (enc q))))
def lsD (A : List (Int × List α)) : D := .dK (A.map fun p => (kI p.1, .lst (p.2.map enc)))
theorem frz_ls (A : List (Int × List α)) : frz (lsM enc A) = some (lsD enc A) := by
  unfold lsM lsD
  rw [frz_dK, frzK_map (g := fun p : Int × List α => D.lst (p.2.map enc)) fun x _ => by simp]
  rfl
theorem noT_ls (A : List (Int × List α)) : noT (lsM enc A) = true := by
  unfold lsM
  simp [List.all_eq_true]
variable {enc}
@[simp] theorem bor_ls {A : List (Int × List α)} : borO (some (lsM enc A)) = some (.fz (lsD enc A)) := by
  rw [borO_m, frz_ls, noT_ls]; rfl
@[simp] theorem isFz_ls {A : List (Int × List α)} : isFz (lsM enc A) = false := rfl
@[simp] theorem unfz_ls {A : List (Int × List α)} {r : List M} : unfz (lsM enc A :: r) = none := rfl
end
/-- one more behind a key -/
def addA {α : Type} (A : List (Int × List α)) (x : Int) (q : α) : List (Int × List α) := match valG A x with
  | some ps => chgG A x (ps ++ [q])
  | none => A ++ [(x, [q])]
theorem valG_chg {κ α : Type} [DecidableEq κ] {x y : κ} {a b : α} : ∀ {A : List (κ × α)}, valG A x = some b → valG (chgG A x a) y = if y = x then some a else valG A y
  | [], h => by simp [valG] at h
  | (k, c) :: A, h => by
    by_cases e : k = x
    · subst e
      by_cases q : y = k
      · subst q
        simp [chgG, valG]
      · have q2 : ¬ k = y := fun z => q z.symm
        simp [chgG, valG, q, q2]
    · rw [valG_neg e] at h
      have ih := valG_chg (y := y) (a := a) h
      simp only [chgG, if_neg e]
      by_cases q : k = y
      · subst q
        rw [valG_pos, if_neg e, valG_pos]
      · rw [valG_neg q, valG_neg q, ih]
theorem valG_app {κ α : Type} [DecidableEq κ] {x y : κ} {a : α} : ∀ {A : List (κ × α)}, valG A x = none → valG (A ++ [(x, a)]) y = if y = x then some a else valG A y
  | [], _ => by
    by_cases q : y = x
    · subst q; simp [valG]
    · have q2 : ¬ x = y := fun z => q z.symm
      simp [valG, q, q2]
  | (k, c) :: A, h => by
    by_cases e : k = x
    · subst e; rw [valG_pos] at h; cases h
    · rw [valG_neg e] at h
      have ih := valG_app (y := y) (a := a) h
      rw [List.cons_append]
      by_cases q : k = y
      · subst q
        rw [valG_pos, if_neg e, valG_pos]
      · rw [valG_neg q, valG_neg q, ih]
theorem nb_add (A : Ahd) (x y : Int) (q : Int × Int) : nb (addA A x q) y = if y = x then nb A x ++ [q] else nb A y := by
  unfold nb addA
  cases h : valG A x with
  | none =>
    simp only []
    rw [valG_app h]
    by_cases e : y = x
    · simp [e]
    · simp [e]
  | some ps =>
    simp only []
    rw [valG_chg h]
    by_cases e : y = x
    · simp [e]
    · simp [e]
structure AhdOk (A : Ahd) (kept : List (Int × Int × Int)) : Prop where
  nb : ∀ x a y, (a, y) ∈ nb A x ↔ (a, x, y) ∈ kept
  len : A.length ≤ kept.length
  lens : ∀ p ∈ A, p.2.length ≤ kept.length
theorem valG_mem {κ α : Type} [DecidableEq κ] {x : κ} {a : α} : ∀ {A : List (κ × α)}, valG A x = some a → (x, a) ∈ A
  | [], h => by simp [valG] at h
  | (k, c) :: A, h => by
    by_cases e : k = x
    · subst e; rw [valG_pos] at h; cases h; exact List.mem_cons_self ..
    · rw [valG_neg e] at h; exact List.mem_cons_of_mem _ (valG_mem h)
theorem chg_len {κ α : Type} [DecidableEq κ] {x : κ} {a : α} : ∀ {A : List (κ × α)}, (chgG A x a).length = A.length
  | [] => rfl
  | (k, c) :: A => by
    by_cases e : k = x
    · simp [chgG, e]
    · simp [chgG, e, chg_len]
theorem chg_mem {κ α : Type} [DecidableEq κ] {x : κ} {a : α} {p : κ × α} : ∀ {A : List (κ × α)}, p ∈ chgG A x a → p ∈ A ∨ p = (x, a)
  | [], h => by simp [chgG] at h
  | (k, c) :: A, h => by
    by_cases e : k = x
    · subst e
      simp only [chgG, if_true] at h
      rcases List.mem_cons.mp h with q | q
      · exact .inr q
      · exact .inl (List.mem_cons_of_mem _ q)
    · simp only [chgG, if_neg e] at h
      rcases List.mem_cons.mp h with q | q
      · exact .inl (q ▸ List.mem_cons_self ..)
      · exact (chg_mem q).imp (List.mem_cons_of_mem _) id
theorem AhdOk.add {A : Ahd} {kept : List (Int × Int × Int)} (h : AhdOk A kept) (a x y : Int) : AhdOk (addA A x (a, y)) (kept ++ [(a, x, y)]) := by
  refine ⟨fun x' a' y' => ?_, ?_, fun p hp => ?_⟩
  · rw [nb_add]
    by_cases e : x' = x
    · subst e
      rw [if_pos rfl, List.mem_append, List.mem_append, h.nb]
      simp
    · rw [if_neg e, List.mem_append, h.nb]
      simp [e]
  · unfold addA
    have := h.len
    split
    · rw [chg_len]; simp; omega
    · simp; omega
  · unfold addA at hp
    rw [List.length_append]
    simp only [List.length_singleton]
    split at hp
    · rename_i ps hv
      rcases chg_mem hp with q | q
      · have := h.lens p q; omega
      · subst q
        have := h.lens _ (valG_mem hv)
        simp at this ⊢
        omega
    · rcases List.mem_append.mp hp with q | q
      · have := h.lens p q; omega
      · simp at q; subst q; simp
end Lw
set_option Elab.async false
set_option linter.all false
set_option maxRecDepth 100000
set_option maxHeartbeats 0
namespace Lw
open PySem L2 Ink
/-- what _law_alike can look at within n calls -/
def alOk : Nat → D → Prop
  | 0, _ => False
  | n + 1, d => match d with
    | .non => True
    | .bl _ => True
    | .int _ => True
    | .str _ => True
    | .lst ds => ds.length ≤ 1000000 ∧ ∀ x ∈ ds, alOk n x
    | .tup ds => ds.length ≤ 1000000 ∧ ∀ x ∈ ds, alOk n x
    | _ => False
theorem range_map (n : Nat) : rangeD 0 (n : Int) = (List.range n).map fun k => D.int (k : Nat) := by
  unfold rangeD
  simp
theorem range_len (n : Nat) : (rangeD 0 (n : Int)).length = n := by rw [range_map]; simp
theorem alike_comp {n : Nat} {ds : List D} (q : D) (hq : ∀ i : Int, ixF [.fz q, .fz (.int i)] = kG [some (.fz q), some (.fz (.int i))] (match atI ds i with | some d => some (.fz d) | none => none)) (ih : ∀ x ∈ ds, m_law_alike n [.fz x, .fz x] = some (.ok (.fz (.bl true)) [some (.fz x), some (.fz x)])) :
    compD (nmG 2) yesT (callE (m_law_alike n) (consA (callE ixF (arg2 (vE 0) (vE 2))) (consA (callE ixF (arg2 (vE 1) (vE 2))) nilA))) [2] (rangeD 0 ds.length) [some (.fz q), some (.fz q), none] = some ((List.range ds.length).map (fun _ => .fz (.bl true)), [some (.fz q), some (.fz q), none]) := by
  rw [range_map]
  refine comp_list (fun k : Nat => D.int (k : Nat)) (fun _ => .fz (.bl true)) _ (List.range ds.length) fun k hk => ?_
  have hlt : k < ds.length := by simpa using hk
  have hx := ih ds[k] (List.getElem_mem hlt)
  simp [-ev_ixF, hq, hlt, hx, wipeE]
theorem alike_same : ∀ (n : Nat) (d : D), alOk n d → m_law_alike n [.fz d, .fz d] = some (.ok (.fz (.bl true)) [some (.fz d), some (.fz d)])
  | 0, _, h => h.elim
  | n + 1, .non, _ => by simp [m_law_alike, kdSub]
  | n + 1, .bl b, _ => by simp [m_law_alike, kdSub]
  | n + 1, .int i, _ => by simp [m_law_alike, kdSub, m_law_whole, b_law_whole]
  | n + 1, .str i, _ => by simp [m_law_alike, kdSub]
  | n + 1, .dK _, h => h.elim
  | n + 1, .dT _, h => h.elim
  | n + 1, .scr _, h => h.elim
  | n + 1, .ins _ _, h => h.elim
  | n + 1, .lst ds, h => by
    have ih := fun x hx => alike_same n x (h.2 x hx)
    have hl := h.1
    have fit : -4611686018427387904 ≤ (ds.length : Int) ∧ (ds.length : Int) < 4611686018427387904 := by omega
    rw [m_law_alike]
    simp [kdSub, fit]
    rw [range_len, if_pos (by omega), alike_comp (D.lst ds) (fun i => by simp <;> cases atI ds i <;> rfl) ih]
    simp
  | n + 1, .tup ds, h => by
    have ih := fun x hx => alike_same n x (h.2 x hx)
    have hl := h.1
    have fit : -4611686018427387904 ≤ (ds.length : Int) ∧ (ds.length : Int) < 4611686018427387904 := by omega
    rw [m_law_alike]
    simp [kdSub, fit]
    rw [range_len, if_pos (by omega), alike_comp (D.tup ds) (fun i => by simp <;> cases atI ds i <;> rfl) ih]
    simp
end Lw
set_option Elab.async false
set_option linter.all false
set_option maxRecDepth 100000
set_option maxHeartbeats 1000000
namespace Lw
open PySem L2 Ink TL
/-- a reader -/
def RdM (x : Str) (k : Int) : M := .ins "Reader" [("text", .fz (.str x)), ("at", .fz (.int k))]
@[simp] theorem rd_text {x : Str} {k : Int} : insD "Reader" "text" (RdM x k) = some (.str x) := (rfl)
@[simp] theorem rd_at {x : Str} {k : Int} : insD "Reader" "at" (RdM x k) = some (.int k) := (rfl)
@[simp] theorem rd_set {x : Str} {k j : Int} : setFG "Reader" "at" [.fz (.int j), RdM x k] = some (.ok (.fz .non) [none, some (RdM x j)]) := (rfl)
@[simp] theorem rd_isFz {x : Str} {k : Int} : isFz (RdM x k) = false := (rfl)
@[simp] theorem rd_m1 {x : Str} {k : Int} : isInsM "Reader" "sign" (RdM x k) = true := (rfl)
@[simp] theorem rd_m2 {x : Str} {k : Int} : isInsM "Reader" "bar" (RdM x k) = true := (rfl)
@[simp] theorem rd_m3 {x : Str} {k : Int} : isInsM "Reader" "pass_blanks" (RdM x k) = true := (rfl)
@[simp] theorem rd_m4 {x : Str} {k : Int} : isInsM "Reader" "take" (RdM x k) = true := (rfl)
@[simp] theorem rd_m5 {x : Str} {k : Int} : isInsM "Reader" "name" (RdM x k) = true := (rfl)
@[simp] theorem rd_m6 {x : Str} {k : Int} : isInsM "Reader" "group" (RdM x k) = true := (rfl)
@[simp] theorem rd_m7 {x : Str} {k : Int} : isInsM "Reader" "link" (RdM x k) = true := (rfl)
/-- the reader of the text l that has r ahead -/
def RS (l r : List Nat) : M := RdM ⟨l.toArray⟩ ((l.length - r.length : Nat) : Int)
@[simp] theorem rs_isFz {l r : List Nat} : isFz (RS l r) = false := (rfl)
@[simp] theorem rs_m1 {l r : List Nat} : isInsM "Reader" "sign" (RS l r) = true := (rfl)
@[simp] theorem rs_m2 {l r : List Nat} : isInsM "Reader" "bar" (RS l r) = true := (rfl)
@[simp] theorem rs_m3 {l r : List Nat} : isInsM "Reader" "pass_blanks" (RS l r) = true := (rfl)
@[simp] theorem rs_m4 {l r : List Nat} : isInsM "Reader" "take" (RS l r) = true := (rfl)
@[simp] theorem rs_m5 {l r : List Nat} : isInsM "Reader" "name" (RS l r) = true := (rfl)
@[simp] theorem rs_m6 {l r : List Nat} : isInsM "Reader" "group" (RS l r) = true := (rfl)
@[simp] theorem rs_m7 {l r : List Nat} : isInsM "Reader" "link" (RS l r) = true := (rfl)
/-- behind blanks -/
def blk (r : List Nat) : List Nat := r.dropWhile (· == 32)
end Lw
set_option Elab.async false
set_option linter.all false
set_option maxRecDepth 100000
set_option maxHeartbeats 1000000
namespace Lw
open PySem L2 Ink TL
/-- what a reading tells, and what it leaves; or where it stands still -/
inductive RR (α : Type) where
  | ok (a : α) (r : List Nat)
  | bad (r : List Nat)
def okR {α : Type} (r0 : List Nat) (o : RR α) : Prop := match o with
  | .ok _ r => r <:+ r0
  | .bad r => r <:+ r0
theorem okR.mono {α : Type} {r0 r1 : List Nat} {o : RR α} (h : okR r0 o) (s : r0 <:+ r1) : okR r1 o := by
  cases o <;> exact List.IsSuffix.trans h s
end Lw
set_option Elab.async false
set_option linter.all false
set_option maxRecDepth 100000
set_option maxHeartbeats 1000000
set_option Elab.async false
set_option linter.all false
set_option maxRecDepth 100000
set_option maxHeartbeats 1000000
set_option Elab.async false
set_option linter.all false
set_option maxRecDepth 100000
set_option maxHeartbeats 1000000
namespace Lw
open PySem L2 Ink TL
structure Dft where
  ns : List Str
  ar : List (List Int)
  sy : List (List Int)
def knM (ns : List Str) : List (Key × M) := ns.zipIdx.map fun p => (.inr p.1, .fz (.int (p.2 : Nat)))
def knD (ns : List Str) : List (Key × D) := ns.zipIdx.map fun p => (.inr p.1, .int (p.2 : Nat))
def rwsM (ar : List (List Int)) : M := .lst (ar.map fun r => .fz (rowD r))
def DrM (d : Dft) : M := .ins "Draft" [("known", .dK (knM d.ns)), ("arrows", rwsM d.ar), ("sayings", rwsM d.sy)]
def DrF (d : Dft) : D := .ins "Draft" [("known", .dK (knD d.ns)), ("arrows", .lst (d.ar.map rowD)), ("sayings", .lst (d.sy.map rowD))]
@[simp] theorem dr_isFz {d : Dft} : isFz (DrM d) = false := (rfl)
@[simp] theorem dr_m1 {d : Dft} : isInsM "Draft" "seen" (DrM d) = true := (rfl)
@[simp] theorem dr_m2 {d : Dft} : isInsM "Draft" "tie" (DrM d) = true := (rfl)
@[simp] theorem dr_m3 {d : Dft} : isInsM "Draft" "linked" (DrM d) = true := (rfl)
@[simp] theorem dr_m4 {d : Dft} : isInsM "Draft" "web" (DrM d) = true := (rfl)
@[simp] theorem dr_f1 {d : Dft} : insD "Draft" "known" (.fz (DrF d)) = some (.dK (knD d.ns)) := (rfl)
@[simp] theorem dr_f2 {d : Dft} : insD "Draft" "arrows" (.fz (DrF d)) = some (.lst (d.ar.map rowD)) := (rfl)
@[simp] theorem dr_f3 {d : Dft} : insD "Draft" "sayings" (.fz (DrF d)) = some (.lst (d.sy.map rowD)) := (rfl)
@[simp] theorem dr_c1 {d : Dft} {env : E} : kFc "Draft" "known" env (DrM d) = some (env, .fl "known") := (rfl)
@[simp] theorem dr_c2 {d : Dft} {env : E} : kFc "Draft" "arrows" env (DrM d) = some (env, .fl "arrows") := (rfl)
@[simp] theorem dr_c3 {d : Dft} {env : E} : kFc "Draft" "sayings" env (DrM d) = some (env, .fl "sayings") := (rfl)
@[simp] theorem dr_g1 {d : Dft} : getC (DrM d) (.fl "known") = some (.dK (knM d.ns)) := (rfl)
@[simp] theorem dr_g2 {d : Dft} : getC (DrM d) (.fl "arrows") = some (.lst (d.ar.map fun r => .fz (rowD r))) := (rfl)
@[simp] theorem dr_g3 {d : Dft} : getC (DrM d) (.fl "sayings") = some (.lst (d.sy.map fun r => .fz (rowD r))) := (rfl)
@[simp] theorem dr_p1 {d : Dft} {ns : List Str} : putC (DrM d) (.fl "known") (.dK (knM ns)) = some (DrM { d with ns := ns }) := (rfl)
theorem val_kn (x : Str) : ∀ (ns : List Str) (k : Nat), valG ((ns.zipIdx k).map fun p => ((.inr p.1 : Key), M.fz (.int (p.2 : Nat)))) (.inr x) = if x ∈ ns then some (.fz (.int ((k + ns.idxOf x : Nat) : Int))) else none
  | [], k => by simp [valG]
  | y :: ns, k => by
    rw [List.zipIdx_cons, List.map_cons]
    by_cases e : y = x
    · subst e
      rw [valG_pos, if_pos (List.mem_cons_self ..), List.idxOf_cons_self]
      simp
    · rw [valG_neg (fun z => e (by injection z)), val_kn x ns (k + 1)]
      have e2 : ¬ x = y := fun z => e z.symm
      by_cases hx : x ∈ ns
      · rw [if_pos hx, if_pos (List.mem_cons_of_mem _ hx)]
        have e3 : (y :: ns).idxOf x = ns.idxOf x + 1 := by
          rw [List.idxOf_cons]
          have : (y == x) = false := by simpa using e
          rw [this]
          rfl
        rw [e3]
        congr 3
        omega
      · rw [if_neg hx, if_neg (by simp [e2, hx])]
theorem kn_app (ns : List Str) (x : Str) : knM ns ++ [(.inr x, .fz (.int (ns.length : Nat)))] = knM (ns ++ [x]) := by
  unfold knM
  rw [List.zipIdx_append, List.map_append]
  simp
end Lw
set_option Elab.async false
set_option linter.all false
set_option maxRecDepth 100000
set_option maxHeartbeats 1000000
namespace Lw
open PySem L2 Ink
theorem merge_kn : ∀ (xs ys : List Str), (ys ++ xs).Nodup → mergeM (knM ys) ((xs.zipIdx ys.length).map fun p => ((.inr p.1 : Key), M.fz (.int (p.2 : Nat)))) = knM (ys ++ xs)
  | [], ys, _ => by simp [mergeM]
  | x :: xs, ys, h => by
    have hx : x ∉ ys := fun z => by
      rw [List.nodup_append] at h
      exact h.2.2 x z x List.mem_cons_self rfl
    have h0 : hasK (knM ys) (.inr x) = false := by
      unfold hasK knM
      rw [List.any_eq_false]
      intro p hp
      obtain ⟨q, hq, rfl⟩ := List.mem_map.mp hp
      have := List.fst_mem_of_mem_zipIdx hq
      simp
      intro e
      rw [e] at this
      exact hx this
    have ih := merge_kn xs (ys ++ [x]) (by simpa using h)
    rw [List.zipIdx_cons, List.map_cons]
    unfold mergeM at ih ⊢
    rw [List.foldl_cons]
    have e1 : putM (knM ys) (.inr x) (.fz (.int (ys.length : Nat))) = knM (ys ++ [x]) := by
      unfold putM
      rw [h0]
      simp only [Bool.false_eq_true, if_false]
      exact kn_app ys x
    rw [e1]
    simpa using ih
theorem dict_names {xs : List Str} (nd : xs.Nodup) (hl : xs.length ≤ 16777216) : dictM (.lst ((xs.zipIdx).map fun p => M.fz (.tup [.str p.1, .int (p.2 : Nat)]))) = some (.dK (knM xs)) := by
  have e1 : lstD (.lst ((xs.zipIdx).map fun p => M.fz (.tup [.str p.1, .int (p.2 : Nat)]))) = some ((xs.zipIdx).map fun p => D.tup [.str p.1, .int (p.2 : Nat)]) := by
    simp
  unfold dictM
  rw [e1]
  simp only [pairsD_str (k := fun p : Str × Nat => p.1) (f := fun p => D.int (p.2 : Nat))]
  rw [if_pos (by simp; exact hl)]
  have := merge_kn xs [] (by simpa using nd)
  simp only [List.length_nil, List.nil_append] at this
  have e0 : knM ([] : List Str) = [] := rfl
  rw [e0] at this
  rw [List.map_map]
  have e2 : ((fun kv : Key × D => (kv.1, M.fz kv.2)) ∘ fun x : Str × Nat => ((Sum.inr x.1 : Key), D.int (x.2 : Nat))) = fun p : Str × Nat => ((.inr p.1 : Key), M.fz (.int (p.2 : Nat))) := rfl
  rw [e2, this]
theorem spot_ok {xs : List Str} {x : Str} (h : x ∈ xs) : ixF [.dK (knM xs), .fz (.str x)] = some (.ok (.fz (.int ((xs.idxOf x : Nat) : Int))) [some (.dK (knM xs)), some (.fz (.str x))]) := by
  have v : valG (knM xs) (.inr x) = some (.fz (.int ((xs.idxOf x : Nat) : Int))) := by
    have := val_kn x xs 0
    rw [if_pos h] at this
    unfold knM
    simpa using this
  have e : getV (.dK (knM xs)) (.fz (.str x)) = some (some (.fz (.int ((xs.idxOf x : Nat) : Int)))) := by
    unfold getV
    simp [keyM, v]
  unfold ixF
  simp only [e]
  rfl
/-- the rows of the web -/
def arwR (xs : List Str) (a : Arw) : List Int := [(xs.idxOf a.x : Nat), (xs.idxOf a.y : Nat), a.l, a.w]
def sygR (xs : List Str) (a : Syg) : List Int := [(xs.idxOf a.x : Nat), (xs.idxOf a.y : Nat), a.l]
/-- what stands is whole -/
structure Now.Ok (w : Now) : Prop where
  nd : w.xs.Nodup
  ax : ∀ a ∈ w.as, a.x ∈ w.xs ∧ a.y ∈ w.xs
  sx : ∀ a ∈ w.ss, a.x ∈ w.xs ∧ a.y ∈ w.xs
  nl : w.xs.length ≤ 40
  al : w.as.length ≤ 80
  sl : w.ss.length ≤ 20
theorem web_of_ok {d n a s : D} {w : Now} (e : d = .tup [n, a, s, .int w.i, .int w.j, w.h]) (hn : TupD n (w.xs.map D.str)) (ha : TupD a (w.as.map Arw.d)) (hs : TupD s (w.ss.map Syg.d)) (ok : w.Ok) :
    m_web_of [.fz d] = some (.ok (.fz (.tup [n, .tup (w.as.map fun a => rowD (arwR w.xs a)), .tup (w.ss.map fun a => rowD (sygR w.xs a))])) [some (.fz d)]) := by
  subst e
  have i1 := hn.itemsE 0
  rw [show enumD 0 (w.xs.map D.str) = (w.xs.zipIdx 0).map fun p => D.tup [.int (p.2 : Nat), .str p.1] from enumD_zip D.str w.xs 0] at i1
  have i2 := ha.items
  have i3 := hs.items
  have nl := ok.nl
  have al := ok.al
  have sl := ok.sl
  have d1 := dict_names ok.nd (by omega)
  generalize hd : D.tup [n, a, s, .int w.i, .int w.j, w.h] = d
  have c1 := comp_list (g := tupG [(nmG 4), (nmG 5)]) (ft := yesT) (fe := tupE (consA (tk (vE 5)) (consA (tk (vE 4)) nilA))) (own := [4, 5]) (fun p : Str × Nat => D.tup [.int (p.2 : Nat), .str p.1]) (fun p => M.fz (.tup [.str p.1, .int (p.2 : Nat)])) [some (.fz d), none, none, none, none, none, none, none, none, none, none] w.xs.zipIdx (fun p _ => ⟨_, _, by simp [tupG]; rfl, by simp [yesT], by simp; rfl, by simp [wipeE]⟩)
  have c2 := comp_list (g := tupG [(nmG 6), (nmG 7), (nmG 8), (nmG 9), (nmG 10)]) (ft := yesT) (fe := K_web_of_2) (own := [6, 7, 8, 9, 10]) Arw.d (fun a => M.fz (rowD (arwR w.xs a))) [some (.fz d), some (.dK (knM w.xs)), none, none, none, none, none, none, none, none, none] w.as (fun a ha => by
    have s1 := spot_ok (ok.ax a ha).1
    have s2 := spot_ok (ok.ax a ha).2
    exact ⟨[some (.fz d), some (.dK (knM w.xs)), none, none, none, none, some (.fz (.int a.k)), some (.fz (.str a.x)), some (.fz (.str a.y)), some (.fz (.int a.l)), some (.fz (.int a.w))], [some (.fz d), some (.dK (knM w.xs)), none, none, none, none, some (.fz (.int a.k)), some (.fz (.str a.x)), some (.fz (.str a.y)), some (.fz (.int a.l)), some (.fz (.int a.w))], by simp [tupG, Arw.d], by simp [yesT], by simp [K_web_of_2, -ev_ixF, s1, s2, rowD, arwR], by simp [wipeE]⟩)
  have c3 := comp_list (g := tupG [(nmG 6), (nmG 7), (nmG 8), (nmG 9)]) (ft := yesT) (fe := K_web_of_1) (own := [6, 7, 8, 9]) Syg.d (fun a => M.fz (rowD (sygR w.xs a))) [some (.fz d), some (.dK (knM w.xs)), some (.lst (w.as.map fun a => M.fz (rowD (arwR w.xs a)))), none, none, none, none, none, none, none, none] w.ss (fun a ha => by
    have s1 := spot_ok (ok.sx a ha).1
    have s2 := spot_ok (ok.sx a ha).2
    exact ⟨[some (.fz d), some (.dK (knM w.xs)), some (.lst (w.as.map fun a => M.fz (rowD (arwR w.xs a)))), none, none, none, some (.fz (.int a.k)), some (.fz (.str a.x)), some (.fz (.str a.y)), some (.fz (.int a.l)), none], [some (.fz d), some (.dK (knM w.xs)), some (.lst (w.as.map fun a => M.fz (rowD (arwR w.xs a)))), none, none, none, some (.fz (.int a.k)), some (.fz (.str a.x)), some (.fz (.str a.y)), some (.fz (.int a.l)), none], by simp [tupG, Syg.d], by simp [yesT], by simp [K_web_of_1, -ev_ixF, s1, s2, rowD, sygR], by simp [wipeE]⟩)
  have x0 : ixF [.fz d, .fz (.int 0)] = some (.ok (.fz n) [some (.fz d), some (.fz (.int 0))]) := by subst hd; rfl
  have x1 : ixF [.fz d, .fz (.int 1)] = some (.ok (.fz a) [some (.fz d), some (.fz (.int 1))]) := by subst hd; rfl
  have x2 : ixF [.fz d, .fz (.int 2)] = some (.ok (.fz s) [some (.fz d), some (.fz (.int 2))]) := by subst hd; rfl
  have z1 : w.xs.length ≤ 16777216 := by omega
  have z2 : w.as.length ≤ 16777216 := by omega
  have z3 : w.ss.length ≤ 16777216 := by omega
  simp [m_web_of, b_web_of, -ev_ixF, -ev_dictM, x0, x1, x2, i1, i2, i3, c1, c2, c3, d1, z1, z2, z3]
theorem noLMs_all : ∀ {l : List M}, (∀ m ∈ l, noLM m = true) → noLMs l = true
  | [], _ => rfl
  | m :: l, h => by
    rw [noLMs, h m List.mem_cons_self, noLMs_all fun d hd => h d (List.mem_cons_of_mem _ hd)]
    rfl
theorem deeds_ok {b : Bd} (h : b.past.length ≤ 16777216) (hd : ∀ p ∈ b.past, noL p.1 = true) : m_Board_deeds [b.m] = some (.ok (.lst (b.past.map fun p => .fz p.1)) [some b.m]) := by
  have c := comp_list (g := tupG [(nmG 1), (nmG 2)]) (ft := yesT) (fe := tk (vE 1)) (own := [1, 2]) stD (fun p => M.fz p.1) [some (.fz b.f), none, none] b.past (fun p _ => ⟨[some (.fz b.f), some (.fz p.1), some (.fz p.2)], _, by simp [tupG, stD], by simp [yesT], by simp; rfl, by simp [wipeE]⟩)
  have e : noLM (.lst (b.past.map fun p => M.fz p.1)) = true := by
    rw [noLM]
    refine noLMs_all fun m hm => ?_
    obtain ⟨p, hp, rfl⟩ := List.mem_map.mp hm
    rw [noLM]
    exact hd p hp
  simp [m_Board_deeds, b_Board_deeds, c, h, e]
end Lw
set_option Elab.async false
set_option linter.all false
set_option maxRecDepth 100000
set_option maxHeartbeats 1000000
namespace Lw
open PySem L2 Ink
theorem do_box_ex {b b' : Bd} {x z : Str} (h : m_Board_box [b.m, .fz (.str x)] = some (.ex ⟨z, none⟩ [some b'.m, some (.fz (.str x))])) : m_Board_do [b.m, .fz (.tup [.str "box", .str x])] = some (.ex ⟨z, none⟩ [some b'.m, some (.fz (.tup [.str "box", .str x]))]) := by
  have t1 : itGM tb_THINGS (.fz (.str "box")) = some (.fz (.int 1)) := rfl
  have t2 : inGM (ksG tb_DEEDS) true (.fz (.str "box")) = some (.fz (.bl false)) := rfl
  have c1 : cutL [D.str "box", D.str x] (some 1) none = [.str x] := rfl
  simp [m_Board_do, b_Board_do, actS, lkP, m_do_box, b_do_box, h, c1, t1, t2]
theorem do_arrow_ex {b b' : Bd} {x y z : Str} {l g : Int} (h : m_Board_arrow [b.m, .fz (.str x), .fz (.str y), .fz (.int l), .fz (.int g)] = some (.ex ⟨z, none⟩ [some b'.m, some (.fz (.str x)), some (.fz (.str y)), some (.fz (.int l)), some (.fz (.int g))])) :
    m_Board_do [b.m, .fz (.tup [.str "arrow", .str x, .str y, .int l, .int g])] = some (.ex ⟨z, none⟩ [some b'.m, some (.fz (.tup [.str "arrow", .str x, .str y, .int l, .int g]))]) := by
  have t1 : itGM tb_THINGS (.fz (.str "arrow")) = some (.fz (.int 4)) := rfl
  have t2 : inGM (ksG tb_DEEDS) true (.fz (.str "arrow")) = some (.fz (.bl false)) := rfl
  have c1 : cutL [D.str "arrow", D.str x, D.str y, D.int l, D.int g] (some 1) none = [.str x, .str y, .int l, .int g] := rfl
  simp [m_Board_do, b_Board_do, actS, lkP, m_do_arrow, b_do_arrow, h, c1, t1, t2, show ¬ ("arrow" : Str) = "box" by decide]
theorem do_say_ex {b b' : Bd} {x y z : Str} {l : Int} (h : m_Board_say [b.m, .fz (.str x), .fz (.str y), .fz (.int l)] = some (.ex ⟨z, none⟩ [some b'.m, some (.fz (.str x)), some (.fz (.str y)), some (.fz (.int l))])) :
    m_Board_do [b.m, .fz (.tup [.str "say", .str x, .str y, .int l])] = some (.ex ⟨z, none⟩ [some b'.m, some (.fz (.tup [.str "say", .str x, .str y, .int l]))]) := by
  have t1 : itGM tb_THINGS (.fz (.str "say")) = some (.fz (.int 3)) := rfl
  have t2 : inGM (ksG tb_DEEDS) true (.fz (.str "say")) = some (.fz (.bl false)) := rfl
  have c1 : cutL [D.str "say", D.str x, D.str y, D.int l] (some 1) none = [.str x, .str y, .int l] := rfl
  simp [m_Board_do, b_Board_do, actS, lkP, m_do_say, b_do_say, h, c1, t1, t2, show ¬ ("say" : Str) = "box" by decide, show ¬ ("say" : Str) = "arrow" by decide]
theorem law_do_ex {b b' : Bd} {d : D} {z : Str} (hz : z ∈ [("BadDeed" : Str), "BadLeast", "BadName", "BadWeight", "Full", "Same", "Taken", "Tied", "NoArrow", "NoBox", "NoSaying"]) (h : m_Board_do [b.m, .fz d] = some (.ex ⟨z, none⟩ [some b'.m, some (.fz d)])) : m_law_do [b.m, .fz d] = some (.ok (.fz (.tup [.str z, .non])) [some b'.m, some (.fz d)]) := by
  have k : kin_law_kin z = some z := by
    unfold kin_law_kin
    rw [if_pos hz]
  simp [m_law_do, b_law_do, tryKin, h, k]
end Lw
set_option Elab.async false
set_option linter.all false
set_option maxRecDepth 100000
set_option maxHeartbeats 2000000
namespace Lw
open PySem L2 Ink
/-- deeds hold no lists -/
def DeedsOk (b : Bd) : Prop := ∀ p ∈ b.past, noL p.1 = true
theorem DeedsOk.add {b : Bd} {d now : D} (h : DeedsOk b) (hd : noL d = true) : DeedsOk ⟨now, b.past ++ [(d, b.now)], []⟩ := fun p hp => by
  rcases List.mem_append.mp hp with z | z
  · exact h p z
  · rw [List.mem_singleton.mp z]; exact hd
/-- the numbers go from 1 on -/
def NumA (xs : List Str) (as : List Arw) : Prop := ∀ (i : Nat) a, as[i]? = some a → a.k = (i : Int) + 1 ∧ a.x ∈ xs ∧ a.y ∈ xs
def NumS (xs : List Str) (as : List Syg) : Prop := ∀ (i : Nat) a, as[i]? = some a → a.k = (i : Int) + 1 ∧ a.x ∈ xs ∧ a.y ∈ xs
theorem NumA.add {xs : List Str} {as : List Arw} {a : Arw} (h : NumA xs as) (h1 : a.k = (as.length : Int) + 1) (h2 : a.x ∈ xs) (h3 : a.y ∈ xs) : NumA xs (as ++ [a]) := fun i b hb => by
  by_cases z : i < as.length
  · rw [List.getElem?_append_left z] at hb; exact h i b hb
  · rw [List.getElem?_append_right (by omega)] at hb
    have e : i - as.length = 0 := by
      have := (List.getElem?_eq_some_iff.mp hb).1
      simp at this
      omega
    rw [e] at hb
    simp at hb
    subst hb
    exact ⟨by rw [h1]; omega, h2, h3⟩
theorem NumS.add {xs : List Str} {as : List Syg} {a : Syg} (h : NumS xs as) (h1 : a.k = (as.length : Int) + 1) (h2 : a.x ∈ xs) (h3 : a.y ∈ xs) : NumS xs (as ++ [a]) := fun i b hb => by
  by_cases z : i < as.length
  · rw [List.getElem?_append_left z] at hb; exact h i b hb
  · rw [List.getElem?_append_right (by omega)] at hb
    have e : i - as.length = 0 := by
      have := (List.getElem?_eq_some_iff.mp hb).1
      simp at this
      omega
    rw [e] at hb
    simp at hb
    subst hb
    exact ⟨by rw [h1]; omega, h2, h3⟩
theorem isName_len {x : Str} (h : isNameB x = true) : x.length ≤ 6 := by
  unfold isNameB at h
  simp only [Bool.and_eq_true, decide_eq_true_eq] at h
  omega
theorem boxes_in {xs : List Str} (nd : xs.Nodup) (nm : ∀ x ∈ xs, isNameB x = true) (hl : xs.length ≤ 40) {m0 : M} {b : Bd} (hb : IsNow b.now ⟨[], [], [], 1, 1, .non⟩) (hp : b.past = []) {o2 o3 : Option M} {r : E} :
    ∃ (b' : Bd) (z3 : Option M), IsNow b'.now ⟨xs, [], [], 1, 1, .non⟩ ∧ b'.past.length = xs.length ∧ DeedsOk b' ∧ loopD (nmG 3) L_law_crammed_3 (xs.map D.str) (some m0 :: some b.m :: o2 :: o3 :: r) = some (.nx (some m0 :: some b'.m :: o2 :: z3 :: r)) := by
  obtain ⟨env, e, b', z3, h1, h2, h3, rfl⟩ := loop_list (g := nmG 3) (fb := L_law_crammed_3) D.str (fun k env => ∃ (b' : Bd) (z3 : Option M), IsNow b'.now ⟨xs.take k, [], [], 1, 1, .non⟩ ∧ b'.past.length = k ∧ DeedsOk b' ∧ env = some m0 :: some b'.m :: o2 :: z3 :: r) xs 0 (some m0 :: some b.m :: o2 :: o3 :: r) (fun j x env hx ⟨b', z3, h1, h2, h3, he⟩ => by
    subst he
    have hj : j < xs.length := (List.getElem?_eq_some_iff.mp hx).1
    have hm : x ∈ xs := List.mem_of_getElem? hx
    have hn := nm x hm
    have hxl := isName_len hn
    rw [Nat.zero_add] at h1 h2
    have nin : x ∉ xs.take j := fun z => by
      obtain ⟨i, hi, e⟩ := List.getElem_of_mem z
      have hi' : i < j := by rw [List.length_take] at hi; omega
      have e1 : xs[i]? = some x := by
        rw [List.getElem_take] at e
        rw [List.getElem?_eq_getElem (by omega), e]
      have := (List.getElem?_inj (by omega) nd).mp (e1.trans hx.symm)
      omega
    have w0 : boxW ⟨xs.take j, [], [], 1, 1, .non⟩ x = none := by
      unfold boxW
      rw [if_neg (by rw [hn]; decide), if_neg nin, if_neg (by simp only [List.length_take]; omega)]
    obtain ⟨d, hd, ed⟩ := (box_ok h1 (by omega) (x := x) (by omega)).2 w0
    have tk : xs.take j ++ [x] = xs.take (j + 1) := by rw [List.take_add_one, hx]; rfl
    simp only [tk] at hd
    simp [L_law_crammed_3, ed]
    exact ⟨_, hd, by simp [h2], h3.add rfl, rfl⟩) ⟨b, o3, by simpa using hb, by rw [hp]; rfl, (show DeedsOk b from fun p hp' => by rw [hp] at hp'; cases hp'), rfl⟩
  rw [Nat.zero_add] at h1 h2
  rw [List.take_length] at h1
  exact ⟨b', z3, h1, h2, h3, e⟩
theorem arrows_in {xs : List Str} (hl : xs.length = 40) {b0 : Bag} {b : Bd} (hb : IsNow b.now ⟨xs, [], [], 1, 1, .non⟩) (hp : b.past.length = 40) (dk : DeedsOk b) {o3 o4 o5 o6 o7 : Option M} {r : E} :
    ∃ (b0' : Bag) (b' : Bd) (as : List Arw) (z4 z5 z6 z7 : Option M), IsNow b'.now ⟨xs, as, [], 81, 1, .non⟩ ∧ as.length = 80 ∧ NumA xs as ∧ b'.past.length = 120 ∧ DeedsOk b' ∧
    loopD (nmG 4) L_law_crammed_2 (rangeD 0 80) (some b0.m :: some b.m :: some (.fz (.lst (xs.map D.str))) :: o3 :: o4 :: o5 :: o6 :: o7 :: r) = some (.nx (some b0'.m :: some b'.m :: some (.fz (.lst (xs.map D.str))) :: o3 :: z4 :: z5 :: z6 :: z7 :: r)) := by
  obtain ⟨env, e, b0', b', as, z4, z5, z6, z7, h1, h2, h3, h4, h5, rfl⟩ := loop_range (g := nmG 4) (fb := L_law_crammed_2) (fun k env => ∃ (b0' : Bag) (b' : Bd) (as : List Arw) (z4 z5 z6 z7 : Option M), IsNow b'.now ⟨xs, as, [], (k : Int) + 1, 1, .non⟩ ∧ as.length = k ∧ NumA xs as ∧ b'.past.length = 40 + k ∧ DeedsOk b' ∧
      env = some b0'.m :: some b'.m :: some (.fz (.lst (xs.map D.str))) :: o3 :: z4 :: z5 :: z6 :: z7 :: r) 80 (some b0.m :: some b.m :: some (.fz (.lst (xs.map D.str))) :: o3 :: o4 :: o5 :: o6 :: o7 :: r) (fun j env hj ⟨b0', b', as, z4, z5, z6, z7, h1, h2, h3, h4, h5, he⟩ => by
    subst he
    obtain ⟨p1, p2, p3⟩ := pull_all (b := b0') (n := 40) (by omega) (by omega)
    obtain ⟨q1, q2, q3⟩ := pull_all (b := pb b0' 40) (n := 40) (by omega) (by omega)
    obtain ⟨x', hx', ex⟩ := atI_mem (xs := xs.map D.str) (i := pv b0' 40) p1 (by simp; omega)
    obtain ⟨y', hy', ey⟩ := atI_mem (xs := xs.map D.str) (i := pv (pb b0' 40) 40) q1 (by simp; omega)
    obtain ⟨x, hx, rfl⟩ := List.mem_map.mp hx'
    obtain ⟨y, hy, rfl⟩ := List.mem_map.mp hy'
    have step : ∀ g : Int, 1 ≤ g ∧ g ≤ 9 → _ := fun g hg => (arrow_ok h1 (by omega) (x := x) (y := y) (l := 1) (g := g)).2 (by
      unfold arrowW
      rw [if_neg (by simp [hx, hy]), if_neg (by decide), if_neg (by simp [hg]), if_neg (by simp only [h2]; omega)])
    have al := alike_same 6 (.int ((j : Int) + 1)) trivial
    by_cases par : (j : Int) % 2 = 0
    · obtain ⟨d, hd, ed⟩ := step 9 (by omega)
      simp [L_law_crammed_2, p3, q3, ex, ey, par, ed, al, dflI, isFzO]
      exact ⟨pb (pb b0' 40) 40, ⟨d, b'.past ++ [(.tup [.str "arrow", .str x, .str y, .int 1, .int 9], b'.now)], []⟩, as ++ [⟨(j : Int) + 1, x, y, 1, 9⟩], by simpa using hd, by simp [h2], h3.add (by simp [h2]) hx hy, by simp [h4]; omega, h5.add rfl, rfl, rfl⟩
    · obtain ⟨d, hd, ed⟩ := step 1 (by omega)
      simp [L_law_crammed_2, p3, q3, ex, ey, par, ed, al, dflI, isFzO]
      exact ⟨pb (pb b0' 40) 40, ⟨d, b'.past ++ [(.tup [.str "arrow", .str x, .str y, .int 1, .int 1], b'.now)], []⟩, as ++ [⟨(j : Int) + 1, x, y, 1, 1⟩], by simpa using hd, by simp [h2], h3.add (by simp [h2]) hx hy, by simp [h4]; omega, h5.add rfl, rfl, rfl⟩) ⟨b0, b, [], o4, o5, o6, o7, by simpa using hb, rfl, fun i a h => by simp at h, by simpa using hp, dk, rfl⟩
  exact ⟨b0', b', as, z4, z5, z6, z7, by simpa using h1, h2, h3, h4, h5, e⟩
theorem sayings_in {xs : List Str} (hl : xs.length = 40) (nd : xs.Nodup) {as : List Arw} {b0 : Bag} {b : Bd} (hb : IsNow b.now ⟨xs, as, [], 81, 1, .non⟩) (hp : b.past.length = 120) (dk : DeedsOk b) {o3 o4 o5 o6 o7 o8 : Option M} {r : E} :
    ∃ (b0' : Bag) (b' : Bd) (ss : List Syg) (z4 z7 z8 : Option M), IsNow b'.now ⟨xs, as, ss, 81, 21, .non⟩ ∧ ss.length = 20 ∧ NumS xs ss ∧ b'.past.length = 140 ∧ DeedsOk b' ∧
    loopD (nmG 4) L_law_crammed_1 (rangeD 0 20) (some b0.m :: some b.m :: some (.fz (.lst (xs.map D.str))) :: o3 :: o4 :: o5 :: o6 :: o7 :: o8 :: r) = some (.nx (some b0'.m :: some b'.m :: some (.fz (.lst (xs.map D.str))) :: o3 :: z4 :: o5 :: o6 :: z7 :: z8 :: r)) := by
  obtain ⟨env, e, b0', b', ss, z4, z7, z8, h1, h2, h3, h4, h5, rfl⟩ := loop_range (g := nmG 4) (fb := L_law_crammed_1) (fun k env => ∃ (b0' : Bag) (b' : Bd) (ss : List Syg) (z4 z7 z8 : Option M), IsNow b'.now ⟨xs, as, ss, 81, (k : Int) + 1, .non⟩ ∧ ss.length = k ∧ NumS xs ss ∧ b'.past.length = 120 + k ∧ DeedsOk b' ∧
      env = some b0'.m :: some b'.m :: some (.fz (.lst (xs.map D.str))) :: o3 :: z4 :: o5 :: o6 :: z7 :: z8 :: r) 20 (some b0.m :: some b.m :: some (.fz (.lst (xs.map D.str))) :: o3 :: o4 :: o5 :: o6 :: o7 :: o8 :: r) (fun j env hj ⟨b0', b', ss, z4, z7, z8, h1, h2, h3, h4, h5, he⟩ => by
    subst he
    obtain ⟨p1, p2, p3⟩ := pull_all (b := b0') (n := 39) (by omega) (by omega)
    obtain ⟨t, ht⟩ : ∃ t : Nat, pv b0' 39 = (t : Int) := ⟨(pv b0' 39).toNat, by omega⟩
    have lt : t < 39 := by omega
    rw [ht] at p3
    obtain ⟨x, hx⟩ : ∃ x, xs[t]? = some x := ⟨_, List.getElem?_eq_getElem (by omega)⟩
    obtain ⟨y, hy⟩ : ∃ y, xs[t + 1]? = some y := ⟨_, List.getElem?_eq_getElem (by omega)⟩
    have mx : x ∈ xs := List.mem_of_getElem? hx
    have my : y ∈ xs := List.mem_of_getElem? hy
    have ne : x ≠ y := fun z => by
      subst z
      have := (List.getElem?_inj (by omega) nd).mp (hx.trans hy.symm)
      omega
    have ex : atI (xs.map D.str) (t : Int) = some (.str x) := by
      obtain ⟨d, h3, h4⟩ := atI_at (xs := xs.map D.str) (i := (t : Int)) (by omega) (by simp; omega)
      rw [h4]
      simpa [hx] using h3.symm
    have ey : atI (xs.map D.str) ((t : Int) + 1) = some (.str y) := by
      obtain ⟨d, h3, h4⟩ := atI_at (xs := xs.map D.str) (i := (t : Int) + 1) (by omega) (by simp; omega)
      rw [h4]
      rw [show ((t : Int) + 1).toNat = t + 1 by omega] at h3
      simpa [hy] using h3.symm
    have step : ∀ l : Int, 0 ≤ l ∧ l ≤ 9 → _ := fun l hg => (say_ok h1 (by omega) (x := x) (y := y) (l := l)).2 (by
      unfold sayW
      rw [if_neg (by simp [mx, my]), if_neg ne, if_neg (by rw [if_neg (by omega)]; omega), if_neg (by simp only [h2]; omega)])
    have al := alike_same 6 (.int ((j : Int) + 1)) trivial
    by_cases par : (j : Int) % 2 = 0
    · obtain ⟨d, hd, ed⟩ := step 0 (by omega)
      simp [L_law_crammed_1, p3, ex, ey, par, ed, al, dflI, isFzO]
      exact ⟨pb b0' 39, ⟨d, b'.past ++ [(.tup [.str "say", .str x, .str y, .int 0], b'.now)], []⟩, ss ++ [⟨(j : Int) + 1, x, y, 0⟩], by simpa using hd, by simp [h2], h3.add (by simp [h2]) mx my, by simp [h4]; omega, h5.add rfl, rfl, rfl⟩
    · obtain ⟨d, hd, ed⟩ := step 1 (by omega)
      simp [L_law_crammed_1, p3, ex, ey, par, ed, al, dflI, isFzO]
      exact ⟨pb b0' 39, ⟨d, b'.past ++ [(.tup [.str "say", .str x, .str y, .int 1], b'.now)], []⟩, ss ++ [⟨(j : Int) + 1, x, y, 1⟩], by simpa using hd, by simp [h2], h3.add (by simp [h2]) mx my, by simp [h4]; omega, h5.add rfl, rfl, rfl⟩) ⟨b0, b, [], o4, o7, o8, by simpa using hb, rfl, fun i a h => by simp at h, by simpa using hp, dk, rfl⟩
  exact ⟨b0', b', ss, z4, z7, z8, by simpa using h1, h2, h3, h4, h5, e⟩
theorem crammed_ok {xs : List Str} (hl : xs.length = 40) (nd : xs.Nodup) (nm : ∀ x ∈ xs, isNameB x = true) (b0 : Bag) : ∃ (b0' : Bag) (b' : Bd) (as : List Arw) (ss : List Syg), IsNow b'.now ⟨xs, as, ss, 81, 21, .non⟩ ∧ as.length = 80 ∧ NumA xs as ∧ ss.length = 20 ∧ NumS xs ss ∧ b'.past.length = 140 ∧ DeedsOk b' ∧
    m_law_crammed [b0.m, Bd.m ⟨newD, [], []⟩, .lst (xs.map fun x => .fz (.str x))] = some (.ok (.fz (.bl true)) [some b0'.m, some b'.m, some (.fz (.lst (xs.map D.str)))]) := by
  have n0 : IsNow (⟨newD, [], []⟩ : Bd).now ⟨[], [], [], 1, 1, .non⟩ := ⟨.emp, .emp, .emp, rfl, .inr ⟨rfl, rfl⟩, .inr ⟨rfl, rfl⟩, .inr ⟨rfl, rfl⟩, rfl⟩
  obtain ⟨b1, z3, h1, h2, h3, e1⟩ := boxes_in nd nm (by omega) n0 rfl (m0 := b0.m) (o2 := some (.fz (.lst (xs.map D.str)))) (o3 := none) (r := [none, none, none, none, none])
  obtain ⟨b02, b2, as, z4, z5, z6, z7, i1, i2, i3, i4, i5, e2⟩ := arrows_in hl h1 (by omega) h3 (b0 := b0) (o3 := z3) (o4 := none) (o5 := none) (o6 := none) (o7 := none) (r := [none])
  obtain ⟨b03, b3, ss, y4, y7, y8, j1, j2, j3, j4, j5, e3⟩ := sayings_in hl nd i1 i4 i5 (b0 := b02) (o3 := z3) (o4 := z4) (o5 := z5) (o6 := z6) (o7 := z7) (o8 := none) (r := [])
  refine ⟨b03, b3, as, ss, j1, i2, i3, j2, j3, j4, j5, ?_⟩
  simp [m_law_crammed, b_law_crammed, e1, e2, e3]
end Lw
set_option Elab.async false
set_option linter.all false
set_option maxRecDepth 100000
set_option maxHeartbeats 2000000
namespace Lw
open PySem L2 Ink
theorem zzz_all : ∀ k ∈ List.range 40, ∀ t ∈ tails, nameOf k t ≠ ("zzz" : Str) := by decide +kernel
theorem zzz_out {xs : List Str} (h : NamesP 40 xs) : ("zzz" : Str) ∉ xs := fun hm => by
  obtain ⟨ys, ⟨h1, h2⟩, hp⟩ := h
  have hm := hp.mem_iff.mp hm
  obtain ⟨i, hi, e⟩ := List.getElem_of_mem hm
  obtain ⟨t, ht, e2⟩ := h2 i _ (List.getElem?_eq_getElem hi)
  exact zzz_all i (by simp; omega) t ht (by rw [← e2, e])
theorem web_ok {b : Bd} {w : Now} (hw : IsNow b.now w) (ok : w.Ok) : ∃ n, TupD n (w.xs.map D.str) ∧ m_Board_web [b.m] = some (.ok (.fz (.tup [n, .tup (w.as.map fun a => rowD (arwR w.xs a)), .tup (w.ss.map fun a => rowD (sygR w.xs a))])) [some b.m]) := by
  obtain ⟨n, a, s, e, hn, ha, hs, hh⟩ := hw
  have h1 := web_of_ok rfl hn ha hs ok
  refine ⟨n, hn, ?_⟩
  simp [m_Board_web, b_Board_web, e, h1]
theorem len_ok {b : Bd} {w : Now} (hw : IsNow b.now w) : m_Board___len__ [b.m] = some (.ok (.fz (.int w.xs.length)) [some b.m]) := by
  obtain ⟨n, a, s, e, hn, ha, hs, hh⟩ := hw
  have h1 := hn.len
  simp [m_Board___len__, b_Board___len__, e, h1]
theorem NumA.at {xs : List Str} {as : List Arw} (h : NumA xs as) {i : Nat} (hi : i < as.length) : atNo Arw.k as ((i : Int) + 1) = [i] :=
  atNo_one (List.getElem?_eq_getElem hi) (h i _ (List.getElem?_eq_getElem hi)).1 fun j b hb hk => by
    have := (h j b hb).1
    omega
theorem NumS.at {xs : List Str} {as : List Syg} (h : NumS xs as) {i : Nat} (hi : i < as.length) : atNo Syg.k as ((i : Int) + 1) = [i] :=
  atNo_one (List.getElem?_eq_getElem hi) (h i _ (List.getElem?_eq_getElem hi)).1 fun j b hb hk => by
    have := (h j b hb).1
    omega
/-- the refusals that the law tries -/
def tries (x y : Str) : List (D × Str) := [(.tup [.str "box", .str "zzz"], "Full"), (.tup [.str "box", .str x], "Taken"), (.tup [.str "box", .str "Z"], "BadName"), (.tup [.str "arrow", .str x, .str y, .int 1, .int 1], "Full"),
  (.tup [.str "arrow", .str x, .str y, .int 1, .int 0], "BadWeight"), (.tup [.str "arrow", .str "zzz", .str y, .int 1, .int 1], "NoBox"), (.tup [.str "arrow", .str x, .str y, .int 0, .int 1], "BadLeast"), (.tup [.str "say", .str x, .str y, .int 10], "BadLeast"),
  (.tup [.str "say", .str x, .str y, .int 1], "Full"), (.tup [.str "say", .str x, .str x, .int 1], "Same"), (.tup [.str "say", .str "zzz", .str x, .int 1], "NoBox")]
theorem tries_ok {b : Bd} {w : Now} (hw : IsNow b.now w) (hp : b.past.length < 16777216) {x y : Str} (hx : x ∈ w.xs) (hy : y ∈ w.xs) (ne : x ≠ y) (nx : isNameB x = true) (nz : ("zzz" : Str) ∉ w.xs) (h1 : w.xs.length = 40) (h2 : w.as.length = 80) (h3 : w.ss.length = 20) :
    ∀ p ∈ tries x y, m_law_do [b.m, .fz p.1] = some (.ok (.fz (.tup [.str p.2, .non])) [some b.m, some (.fz p.1)]) := by
  intro p hp'
  have hxl := isName_len nx
  have zn : isNameB "zzz" = true := by decide +kernel
  have Zn : isNameB "Z" = false := by decide +kernel
  simp only [tries, List.mem_cons, List.mem_nil_iff, or_false] at hp'
  rcases hp' with rfl | rfl | rfl | rfl | rfl | rfl | rfl | rfl | rfl | rfl | rfl
  · exact law_do_ex (by simp) (do_box_ex ((box_ok hw hp (by decide +kernel)).1 _ (by unfold boxW; rw [if_neg (by rw [zn]; decide), if_neg nz, if_pos (by omega)])))
  · exact law_do_ex (by simp) (do_box_ex ((box_ok hw hp (by omega)).1 _ (by unfold boxW; rw [if_neg (by rw [nx]; decide), if_pos hx])))
  · exact law_do_ex (by simp) (do_box_ex ((box_ok hw hp (by decide +kernel)).1 _ (by unfold boxW; rw [if_pos Zn])))
  · exact law_do_ex (by simp) (do_arrow_ex ((arrow_ok hw hp).1 _ (by unfold arrowW; rw [if_neg (by simp [hx, hy]), if_neg (by decide), if_neg (by decide), if_pos (by omega)])))
  · exact law_do_ex (by simp) (do_arrow_ex ((arrow_ok hw hp).1 _ (by unfold arrowW; rw [if_neg (by simp [hx, hy]), if_neg (by decide), if_pos (by decide)])))
  · exact law_do_ex (by simp) (do_arrow_ex ((arrow_ok hw hp).1 _ (by unfold arrowW; rw [if_pos (by simp [nz])])))
  · exact law_do_ex (by simp) (do_arrow_ex ((arrow_ok hw hp).1 _ (by unfold arrowW; rw [if_neg (by simp [hx, hy]), if_pos (by decide)])))
  · exact law_do_ex (by simp) (do_say_ex ((say_ok hw hp).1 _ (by unfold sayW; rw [if_neg (by simp [hx, hy]), if_neg ne, if_pos (by decide)])))
  · exact law_do_ex (by simp) (do_say_ex ((say_ok hw hp).1 _ (by unfold sayW; rw [if_neg (by simp [hx, hy]), if_neg ne, if_neg (by decide), if_pos (by omega)])))
  · exact law_do_ex (by simp) (do_say_ex ((say_ok hw hp).1 _ (by unfold sayW; rw [if_neg (by simp [hx]), if_pos rfl])))
  · exact law_do_ex (by simp) (do_say_ex ((say_ok hw hp).1 _ (by unfold sayW; rw [if_pos (by simp [nz])])))
theorem cutL_last5 {α : Type} {xs ys : List α} (hy : ys.length = 5) : cutL (xs ++ ys) (some (-5)) none = ys := by
  have h1 : HT.sIx (xs ++ ys).length 0 (some (-5)) = xs.length := by
    simp only [HT.sIx, List.length_append, hy]
    split <;> omega
  have h2 : HT.sIx (xs ++ ys).length (xs ++ ys).length none = (xs ++ ys).length := rfl
  unfold cutL
  rw [h1, h2]
  rw [List.drop_left, List.take_of_length_le (by rw [List.length_append]; omega)]
end Lw
set_option Elab.async false
set_option linter.all false
set_option maxRecDepth 100000
set_option maxHeartbeats 0
namespace Ink
open PySem L2
end Ink
set_option Elab.async false
set_option linter.all false
set_option maxRecDepth 100000
set_option maxHeartbeats 2000000
namespace Lw
open PySem L2 Ink
def rw0 (as : List Arw) : List Arw := match as with
  | [] => []
  | a :: r => { a with l := 2, w := 1 } :: r
theorem rw0_num {xs : List Str} {as : List Arw} (h : NumA xs as) : NumA xs (rw0 as) := by
  cases as with
  | nil => exact h
  | cons a r =>
    intro i b hb
    cases i with
    | zero =>
      simp [rw0] at hb
      subst hb
      exact h 0 a rfl
    | succ i => exact h (i + 1) b (by simpa [rw0] using hb)
theorem num_take {xs : List Str} {as : List Arw} (h : NumA xs as) (i : Nat) : ∀ a ∈ as.take i ++ as.drop (i + 1), a.x ∈ xs ∧ a.y ∈ xs := fun a ha => by
  have hm : a ∈ as := (List.mem_append.mp ha).elim List.mem_of_mem_take List.mem_of_mem_drop
  obtain ⟨j, hj, e⟩ := List.getElem_of_mem hm
  exact (h j a (by rw [List.getElem?_eq_getElem hj, e])).2
theorem num_takeS {xs : List Str} {as : List Syg} (h : NumS xs as) (i : Nat) : ∀ a ∈ as.take i ++ as.drop (i + 1), a.x ∈ xs ∧ a.y ∈ xs := fun a ha => by
  have hm : a ∈ as := (List.mem_append.mp ha).elim List.mem_of_mem_take List.mem_of_mem_drop
  obtain ⟨j, hj, e⟩ := List.getElem_of_mem hm
  exact (h j a (by rw [List.getElem?_eq_getElem hj, e])).2
theorem law_ok (ns : List Int) : m_law [.fz (.scr ns)] = some (.ok (.fz (.bl true)) [some (.fz (.scr ns))]) := by
  obtain ⟨b0, e0⟩ := bag_ok ns
  obtain ⟨b1, xs, ⟨hl, np⟩, nd, nm, e1⟩ := names_okP b0 40 (by omega)
  obtain ⟨b2, bd, as, ss, w0, al, na, sl, nss, pl, dk, e2⟩ := crammed_ok hl nd nm b1
  obtain ⟨x, hx⟩ : ∃ x, xs[0]? = some x := ⟨_, List.getElem?_eq_getElem (by omega)⟩
  obtain ⟨y, hy⟩ : ∃ y, xs[1]? = some y := ⟨_, List.getElem?_eq_getElem (by omega)⟩
  have mx : x ∈ xs := List.mem_of_getElem? hx
  have my : y ∈ xs := List.mem_of_getElem? hy
  have ne : x ≠ y := fun z => by
    subst z
    have := (List.getElem?_inj (by omega) nd).mp (hx.trans hy.symm)
    omega
  have ex : atI (xs.map D.str) 0 = some (.str x) := by
    obtain ⟨d, h3, h4⟩ := atI_at (xs := xs.map D.str) (i := 0) (by omega) (by simp; omega)
    rw [h4]
    simpa [hx] using h3.symm
  have ey : atI (xs.map D.str) 1 = some (.str y) := by
    obtain ⟨d, h3, h4⟩ := atI_at (xs := xs.map D.str) (i := 1) (by omega) (by simp; omega)
    rw [h4]
    simpa [hy] using h3.symm
  have tr := tries_ok w0 (by omega) (x := x) (y := y) mx my ne (nm x mx) (zzz_out np) hl al sl
  obtain ⟨p1, p2, p3⟩ := pull_all (b := b2) (n := 80) (by omega) (by omega)
  obtain ⟨t, ht⟩ : ∃ t : Nat, pv b2 80 = (t : Int) := ⟨(pv b2 80).toNat, by omega⟩
  have lt : t < 80 := by omega
  rw [ht] at p3
  -- altered
  obtain ⟨a0, ar, rfl⟩ : ∃ a0 ar, as = a0 :: ar := by
    cases as with
    | nil => simp at al
    | cons a r => exact ⟨a, r, rfl⟩
  have q0 : atNo Arw.k (a0 :: ar) 1 = [0] := na.at (i := 0) (by simp)
  obtain ⟨d1, w1, f1⟩ := alter_ok w0 (by omega) (by simp only [al]; omega) (k := 1) (l := 2) (g := 1) q0 rfl (by omega) (by omega)
  have n1 : NumA xs ({ a0 with l := 2, w := 1 } :: ar) := rw0_num na
  simp only [List.take_zero, List.nil_append, Nat.zero_add, List.drop_succ_cons, List.drop_zero] at w1
  obtain ⟨B1, hB1⟩ : ∃ B, B = (⟨d1, bd.past ++ [(.tup [.str "alter", .int 1, .int 2, .int 1], bd.now)], []⟩ : Bd) := ⟨_, rfl⟩
  have P1 : B1.past.length = 141 := by rw [hB1]; simp [pl]
  have W1 := w1
  rw [show d1 = B1.now by rw [hB1]] at W1
  rw [← hB1] at f1
  -- cut
  have l1 : ({ a0 with l := 2, w := 1 } :: ar : List Arw).length = 80 := by simpa using al
  have q1 := n1.at (i := t) (by omega)
  rw [Int.add_comm] at q1
  obtain ⟨d2, w2, f2⟩ := cut_ok W1 (by omega) (by simp only [l1]; omega) (k := 1 + (t : Int)) (i := t) q1 (by simp only [l1]; omega)
  obtain ⟨B2, hB2⟩ : ∃ B, B = (⟨d2, B1.past ++ [(.tup [.str "cut", .int (1 + (t : Int))], B1.now)], []⟩ : Bd) := ⟨_, rfl⟩
  have P2 : B2.past.length = 142 := by rw [hB2]; simp [P1]
  have W2 := w2
  rw [show d2 = B2.now by rw [hB2]] at W2
  rw [← hB2] at f2
  -- unsaid
  have q2 : atNo Syg.k ss 20 = [19] := nss.at (i := 19) (by omega)
  obtain ⟨d3, w3, f3⟩ := unsay_ok W2 (by omega) (by simp only [sl]; omega) (k := 20) (i := 19) q2 (by simp only [sl]; omega)
  obtain ⟨B3, hB3⟩ : ∃ B, B = (⟨d3, B2.past ++ [(.tup [.str "unsay", .int 20], B2.now)], []⟩ : Bd) := ⟨_, rfl⟩
  have P3 : B3.past.length = 143 := by rw [hB3]; simp [P2]
  have W3 := w3
  rw [show d3 = B3.now by rw [hB3]] at W3
  rw [← hB3] at f3
  -- one more of each
  obtain ⟨d4, w4, f4⟩ := (arrow_ok W3 (by omega) (x := x) (y := y) (l := 3) (g := 1)).2 (by
    unfold arrowW
    rw [if_neg (by simp [mx, my]), if_neg (by decide), if_neg (by decide), if_neg (by simp only [List.length_append, List.length_take, List.length_drop, l1]; omega)])
  obtain ⟨B4, hB4⟩ : ∃ B, B = (⟨d4, B3.past ++ [(.tup [.str "arrow", .str x, .str y, .int 3, .int 1], B3.now)], []⟩ : Bd) := ⟨_, rfl⟩
  have P4 : B4.past.length = 144 := by rw [hB4]; simp [P3]
  have W4 := w4
  rw [show d4 = B4.now by rw [hB4]] at W4
  rw [← hB4] at f4
  obtain ⟨d5, w5, f5⟩ := (say_ok W4 (by omega) (x := y) (y := x) (l := 1)).2 (by
    unfold sayW
    rw [if_neg (by simp [mx, my]), if_neg (fun z => ne z.symm), if_neg (by decide), if_neg (by simp only [List.length_append, List.length_take, List.length_drop, sl]; omega)])
  obtain ⟨B5, hB5⟩ : ∃ B, B = (⟨d5, B4.past ++ [(.tup [.str "say", .str y, .str x, .int 1], B4.now)], []⟩ : Bd) := ⟨_, rfl⟩
  have P5 : B5.past.length = 145 := by rw [hB5]; simp [P4]
  have W5 := w5
  rw [show d5 = B5.now by rw [hB5]] at W5
  rw [← hB5] at f5
  have K5 : DeedsOk B5 := by
    rw [hB5, hB4, hB3, hB2, hB1]
    exact ((((dk.add rfl).add rfl).add rfl).add rfl).add rfl
  have e5 : B5.past.map (·.1) = bd.past.map (·.1) ++ [D.tup [.str "alter", .int 1, .int 2, .int 1], .tup [.str "cut", .int (1 + (t : Int))], .tup [.str "unsay", .int 20], .tup [.str "arrow", .str x, .str y, .int 3, .int 1], .tup [.str "say", .str y, .str x, .int 1]] := by
    rw [hB5, hB4, hB3, hB2, hB1]
    simp
  have g1 := deeds_ok (b := B5) (by omega) K5
  obtain ⟨n5, hn5, g2⟩ := web_ok W5 ⟨nd, fun a ha => by
    simp only at ha
    rcases List.mem_append.mp ha with z | z
    · exact num_take n1 t a z
    · rw [List.mem_singleton.mp z]; exact ⟨mx, my⟩, fun a ha => by
    simp only at ha
    rcases List.mem_append.mp ha with z | z
    · exact num_takeS nss 19 a z
    · rw [List.mem_singleton.mp z]; exact ⟨my, mx⟩, by simp only; omega, by simp only [List.length_append, List.length_take, List.length_drop, l1, List.length_singleton]; omega, by simp only [List.length_append, List.length_take, List.length_drop, sl, List.length_singleton]; omega⟩
  have g3 := len_ok W5
  simp only [hl] at g3
  have c1 : ∀ o0 o1 o3 o4 o5 o6 o7 : Option M, compD (nmG 8) yesT K_law_1 [8] ((tries x y).map (·.1)) [o0, o1, some bd.m, o3, o4, o5, o6, o7, none] = some ((tries x y).map fun p => .fz (.str p.2), [o0, o1, some bd.m, o3, o4, o5, o6, o7, none]) := fun o0 o1 o3 o4 o5 o6 o7 =>
    comp_list (·.1) (fun p : D × Str => M.fz (.str p.2)) [o0, o1, some bd.m, o3, o4, o5, o6, o7, none] (tries x y) fun p hp => ⟨[o0, o1, some bd.m, o3, o4, o5, o6, o7, some (.fz p.1)], [o0, o1, some bd.m, o3, o4, o5, o6, o7, some (.fz p.1)], by simp, by simp [yesT], by simp [K_law_1, tr p hp], by simp [wipeE]⟩
  unfold tries at c1
  simp only [List.map_cons, List.map_nil] at c1
  have e1' : m_law_names [b0.m, M.fz (D.int 40)] = some (.ok (.fz (.tup (xs.map D.str))) [some b1.m, some (.fz (.int 40))]) := e1
  have hx0 : xs[0]'(by omega) = x := (List.getElem?_eq_some_iff.mp hx).2
  have hy0 : xs[1]'(by omega) = y := (List.getElem?_eq_some_iff.mp hy).2
  have ne1 : neM (.lst [.fz (.str "Full"), .fz (.str "Taken"), .fz (.str "BadName"), .fz (.str "Full"), .fz (.str "BadWeight"), .fz (.str "NoBox"), .fz (.str "BadLeast"), .fz (.str "BadLeast"), .fz (.str "Full"), .fz (.str "Same"), .fz (.str "NoBox")]) (.lst [.fz (.str "Full"), .fz (.str "Taken"), .fz (.str "BadName"), .fz (.str "Full"), .fz (.str "BadWeight"), .fz (.str "NoBox"), .fz (.str "BadLeast"), .fz (.str "BadLeast"), .fz (.str "Full"), .fz (.str "Same"), .fz (.str "NoBox")]) = some (.fz (.bl false)) := by kernel_rfl
  have al1 := alike_same 6 (.lst [.tup [.str "alter", .int 1, .int 2, .int 1], .tup [.str "cut", .int (1 + (t : Int))], .tup [.str "unsay", .int 20], .tup [.str "arrow", .str x, .str y, .int 3, .int 1], .tup [.str "say", .str y, .str x, .int 1]]) (by simp [alOk])
  have c5 : cutL (B5.past.map (·.1)) (some (-5)) none = _ := (congrArg (fun l => cutL l (some (-5)) none) e5).trans (cutL_last5 rfl)
  have al' : ar.length + 1 = 80 := by simpa using al
  have z80 : ((min t (ar.length + 1) : Nat) : Int) + (((ar.length - t : Nat) : Int) + 1) = 80 := by omega
  have e2' : m_law_crammed [b1.m, Bd.m ⟨newD, [], []⟩, .lst (xs.map (M.fz ∘ D.str))] = _ := e2
  simp [m_law, b_law, e0, init_ok, e1', e2', hl, ex, ey, hx0, hy0, c1, ne1, al1, c5, p3, f1, f2, f3, f4, f5, g1, g2, g3, dflI, isFzO, z80, lenOE]
end Lw
set_option Elab.async false
set_option linter.all false
set_option maxRecDepth 100000
set_option maxHeartbeats 0
namespace Lw
section
open PySem PySem.Spec PyProof.Rows L2 Ink
theorem txtH {K : PySem.W.Frag} {h : Heap} {mg : Str → Option Value} (X : K.In h) (G : h.Ns mainGlobals mg) (c : He.SaysD factsH fnsH K) (z : exZ K = true) : Txt K mg := by
  unfold exZ at z
  try simp only [Bool.and_eq_true] at z
  exact ⟨He.free_ok X G (c.fact 66 (f := .free "LookupError") rfl),
    He.free_ok X G (c.fact 67 (f := .free "ValueError") rfl),
    He.free_ok X G (c.fact 68 (f := .free "abs") rfl),
    He.free_ok X G (c.fact 69 (f := .free "all") rfl),
    He.free_ok X G (c.fact 70 (f := .free "bool") rfl),
    He.free_ok X G (c.fact 71 (f := .free "dict") rfl),
    He.free_ok X G (c.fact 72 (f := .free "enumerate") rfl),
    He.free_ok X G (c.fact 73 (f := .free "int") rfl),
    He.free_ok X G (c.fact 74 (f := .free "isinstance") rfl),
    He.free_ok X G (c.fact 75 (f := .free "len") rfl),
    He.free_ok X G (c.fact 76 (f := .free "list") rfl),
    He.free_ok X G (c.fact 77 (f := .free "max") rfl),
    He.free_ok X G (c.fact 78 (f := .free "min") rfl),
    He.free_ok X G (c.fact 79 (f := .free "range") rfl),
    He.free_ok X G (c.fact 80 (f := .free "set") rfl),
    He.free_ok X G (c.fact 81 (f := .free "sorted") rfl),
    He.free_ok X G (c.fact 82 (f := .free "str") rfl),
    He.free_ok X G (c.fact 83 (f := .free "sum") rfl),
    He.free_ok X G (c.fact 84 (f := .free "tuple") rfl),
    He.free_ok X G (c.fact 85 (f := .free "zip") rfl),
    He.str_ok X G (c.fact 86 rfl),
    He.int_ok X G (c.fact 87 rfl),
    He.int_ok X G (c.fact 88 rfl),
    He.int_ok X G (c.fact 89 rfl),
    He.int_ok X G (c.fact 90 rfl),
    He.int_ok X G (c.fact 91 rfl),
    He.int_ok X G (c.fact 92 rfl),
    He.int_ok X G (c.fact 93 rfl),
    He.int_ok X G (c.fact 94 rfl),
    He.int_ok X G (c.fact 95 rfl),
    He.int_ok X G (c.fact 96 rfl),
    excLB_ok (z.1.1.1.1),
    excLB_ok (z.1.1.1.2),
    excLB_ok (z.1.1.2),
    newB_ok (z.1.2),
    kinB_ok (z.2),
    He.glo_ok X G (c.fact 97 (f := .glo "BadDeed") rfl),
    He.glo_ok X G (c.fact 98 (f := .glo "BadLeast") rfl),
    He.glo_ok X G (c.fact 99 (f := .glo "BadName") rfl),
    He.glo_ok X G (c.fact 100 (f := .glo "BadWeb") rfl),
    He.glo_ok X G (c.fact 101 (f := .glo "BadWeight") rfl),
    He.glo_ok X G (c.fact 102 (f := .glo "Clash") rfl),
    He.glo_ok X G (c.fact 103 (f := .glo "Full") rfl),
    He.glo_ok X G (c.fact 104 (f := .glo "InkError") rfl),
    He.glo_ok X G (c.fact 105 (f := .glo "Same") rfl),
    He.glo_ok X G (c.fact 106 (f := .glo "Taken") rfl),
    He.glo_ok X G (c.fact 107 (f := .glo "Tied") rfl),
    He.exc_ok (c.fact 108 (f := .exc "BadDeed") rfl),
    He.exc_ok (c.fact 109 (f := .exc "BadLeast") rfl),
    He.exc_ok (c.fact 110 (f := .exc "BadName") rfl),
    He.exc_ok (c.fact 111 (f := .exc "BadWeb") rfl),
    He.exc_ok (c.fact 112 (f := .exc "BadWeight") rfl),
    He.exc_ok (c.fact 113 (f := .exc "Full") rfl),
    He.exc_ok (c.fact 114 (f := .exc "Same") rfl),
    He.exc_ok (c.fact 115 (f := .exc "Taken") rfl),
    He.exc_ok (c.fact 116 (f := .exc "Tied") rfl),
    He.glo_ok X G (c.fact 117 (f := .glo "EMPTY") rfl),
    He.glo_ok X G (c.fact 118 (f := .glo "Missing") rfl),
    He.glo_ok X G (c.fact 119 (f := .glo "NoArrow") rfl),
    He.glo_ok X G (c.fact 120 (f := .glo "NoBox") rfl),
    He.glo_ok X G (c.fact 121 (f := .glo "NoSaying") rfl),
    He.glo_ok X G (c.fact 122 (f := .glo "do_arrow") rfl),
    He.glo_ok X G (c.fact 123 (f := .glo "do_box") rfl),
    He.glo_ok X G (c.fact 124 (f := .glo "do_say") rfl),
    He.glo_ok X G (c.fact 125 (f := .glo "Board") rfl),
    He.cls_ok (c.fact 126 (f := .cls "Board") rfl),
    FdI.mk (He.cls_ok (c.fact 126 (f := .cls "Board") rfl)) <| He.noat_ok (c.fact 127 (f := .noat "Board" "now") rfl),
    FdI.mk (He.cls_ok (c.fact 126 (f := .cls "Board") rfl)) <| He.noat_ok (c.fact 128 (f := .noat "Board" "past") rfl),
    FdI.mk (He.cls_ok (c.fact 126 (f := .cls "Board") rfl)) <| He.noat_ok (c.fact 129 (f := .noat "Board" "later") rfl)⟩
theorem allH {P : Program} {w : World} {K : PySem.W.Frag} {h : Heap} {mg : Str → Option Value} {f : Addr} (X : K.In h) (G : h.Ns mainGlobals mg) (hfa : mg ("law" : Str) = some (.ref f)) (c : He.SaysD factsH fnsH K) (ct : He.SaysT factsH fnsH tsH w K) (hx : exH K = true) :
    ∃ fd : FuncData, (∀ (s : Shared) (v : Value), BindsTo s fd ⟨[v], []⟩ [("_law_script", v)]) ∧ ∀ base : Heap, K.In base → base.Ns mainGlobals mg → (∀ p ∈ tfH.map (He.cT K), LamX.TabB base mg p.1 p.2) → FnG P w K mg base (L2N.CX P w) 10 f fd ["_law_script"] (spOf K m_law) := by
  have T := txtH X G c (Bool.and_eq_true_iff.mp (Bool.and_eq_true_iff.mp hx).2).2
  have hlam : lamB K tfH = true := (Bool.and_eq_true_iff.mp hx).1
  replace hx : exR K = true := (Bool.and_eq_true_iff.mp (Bool.and_eq_true_iff.mp hx).2).1
  obtain ⟨fd_wall, F_wall⟩ := c.def_ 0 (d := d_wall) rfl
  have g_wall := He.glo_ok X G (c.fact 0 (f := .glo "_wall") rfl)
  obtain ⟨fd_is_name, F_is_name⟩ := c.def_ 1 (d := d_is_name) rfl
  have g_is_name := He.glo_ok X G (c.fact 1 (f := .glo "is_name") rfl)
  obtain ⟨fd_is_least, F_is_least⟩ := c.def_ 2 (d := d_is_least) rfl
  have g_is_least := He.glo_ok X G (c.fact 2 (f := .glo "is_least") rfl)
  obtain ⟨fd_is_weight, F_is_weight⟩ := c.def_ 3 (d := d_is_weight) rfl
  have g_is_weight := He.glo_ok X G (c.fact 3 (f := .glo "is_weight") rfl)
  obtain ⟨fd_is_far, F_is_far⟩ := c.def_ 4 (d := d_is_far) rfl
  have g_is_far := He.glo_ok X G (c.fact 4 (f := .glo "is_far") rfl)
  obtain ⟨fd_is_arrow, F_is_arrow⟩ := c.def_ 5 (d := d_is_arrow) rfl
  have g_is_arrow := He.glo_ok X G (c.fact 5 (f := .glo "is_arrow") rfl)
  obtain ⟨fd_is_saying, F_is_saying⟩ := c.def_ 6 (d := d_is_saying) rfl
  have g_is_saying := He.glo_ok X G (c.fact 6 (f := .glo "is_saying") rfl)
  obtain ⟨fd_is_web, F_is_web⟩ := c.def_ 7 (d := d_is_web) rfl
  have g_is_web := He.glo_ok X G (c.fact 7 (f := .glo "is_web") rfl)
  obtain ⟨fd_need_web, F_need_web⟩ := c.def_ 8 (d := d_need_web) rfl
  have g_need_web := He.glo_ok X G (c.fact 8 (f := .glo "need_web") rfl)
  obtain ⟨fd_box_item, F_box_item⟩ := c.def_ 9 (d := d_box_item) rfl
  have g_box_item := He.glo_ok X G (c.fact 9 (f := .glo "box_item") rfl)
  obtain ⟨fd_chain_of, F_chain_of⟩ := c.def_ 10 (d := d_chain_of) rfl
  have g_chain_of := He.glo_ok X G (c.fact 10 (f := .glo "chain_of") rfl)
  obtain ⟨fd_chains, F_chains⟩ := c.def_ 11 (d := d_chains) rfl
  have g_chains := He.glo_ok X G (c.fact 11 (f := .glo "chains") rfl)
  obtain ⟨fd_rows, F_rows⟩ := c.def_ 12 (d := d_rows) rfl
  have g_rows := He.glo_ok X G (c.fact 12 (f := .glo "rows") rfl)
  obtain ⟨fd_segments_by, F_segments_by⟩ := c.def_ 13 (d := d_segments_by) rfl
  have g_segments_by := He.glo_ok X G (c.fact 13 (f := .glo "segments_by") rfl)
  obtain ⟨fd_spots_of, F_spots_of⟩ := c.def_ 14 (d := d_spots_of) rfl
  have g_spots_of := He.glo_ok X G (c.fact 14 (f := .glo "spots_of") rfl)
  obtain ⟨fd_segments_below, F_segments_below⟩ := c.def_ 15 (d := d_segments_below) rfl
  have g_segments_below := He.glo_ok X G (c.fact 15 (f := .glo "segments_below") rfl)
  obtain ⟨fd_added, F_added⟩ := c.def_ 16 (d := d_added) rfl
  have g_added := He.glo_ok X G (c.fact 16 (f := .glo "added") rfl)
  obtain ⟨fd_up_to, F_up_to⟩ := c.def_ 17 (d := d_up_to) rfl
  have g_up_to := He.glo_ok X G (c.fact 17 (f := .glo "up_to") rfl)
  obtain ⟨fd_counted, F_counted⟩ := c.def_ 18 (d := d_counted) rfl
  have g_counted := He.glo_ok X G (c.fact 18 (f := .glo "counted") rfl)
  obtain ⟨fd_crossings, F_crossings⟩ := c.def_ 19 (d := d_crossings) rfl
  have g_crossings := He.glo_ok X G (c.fact 19 (f := .glo "crossings") rfl)
  obtain ⟨fd_arrow_text, F_arrow_text⟩ := c.def_ 20 (d := d_arrow_text) rfl
  have g_arrow_text := He.glo_ok X G (c.fact 20 (f := .glo "arrow_text") rfl)
  obtain ⟨fd_web_text, F_web_text⟩ := c.def_ 21 (d := d_web_text) rfl
  have g_web_text := He.glo_ok X G (c.fact 21 (f := .glo "web_text") rfl)
  obtain ⟨fd_links_of, F_links_of⟩ := c.def_ 22 (d := d_links_of) rfl
  have g_links_of := He.glo_ok X G (c.fact 22 (f := .glo "links_of") rfl)
  obtain ⟨fd_raised, F_raised⟩ := c.def_ 23 (d := d_raised) rfl
  have g_raised := He.glo_ok X G (c.fact 23 (f := .glo "raised") rfl)
  obtain ⟨fd_ring_at, F_ring_at⟩ := c.def_ 24 (d := d_ring_at) rfl
  have g_ring_at := He.glo_ok X G (c.fact 24 (f := .glo "ring_at") rfl)
  obtain ⟨fd_gain_ring, F_gain_ring⟩ := c.def_ 25 (d := d_gain_ring) rfl
  have g_gain_ring := He.glo_ok X G (c.fact 25 (f := .glo "gain_ring") rfl)
  obtain ⟨fd_sent, F_sent⟩ := c.def_ 26 (d := d_sent) rfl
  have g_sent := He.glo_ok X G (c.fact 26 (f := .glo "sent") rfl)
  obtain ⟨fd_best, F_best⟩ := c.def_ 27 (d := d_best) rfl
  have g_best := He.glo_ok X G (c.fact 27 (f := .glo "best") rfl)
  obtain ⟨fd_way_to, F_way_to⟩ := c.def_ 28 (d := d_way_to) rfl
  have g_way_to := He.glo_ok X G (c.fact 28 (f := .glo "way_to") rfl)
  obtain ⟨fd_parted, F_parted⟩ := c.def_ 29 (d := d_parted) rfl
  have g_parted := He.glo_ok X G (c.fact 29 (f := .glo "parted") rfl)
  obtain ⟨fd_turned, F_turned⟩ := c.def_ 30 (d := d_turned) rfl
  have g_turned := He.glo_ok X G (c.fact 30 (f := .glo "turned") rfl)
  obtain ⟨fd_ties_of, F_ties_of⟩ := c.def_ 31 (d := d_ties_of) rfl
  have g_ties_of := He.glo_ok X G (c.fact 31 (f := .glo "ties_of") rfl)
  obtain ⟨fd_solved, F_solved⟩ := c.def_ 32 (d := d_solved) rfl
  have g_solved := He.glo_ok X G (c.fact 32 (f := .glo "solved") rfl)
  obtain ⟨fd_lots, F_lots⟩ := c.def_ 33 (d := d_lots) rfl
  have g_lots := He.glo_ok X G (c.fact 33 (f := .glo "lots") rfl)
  obtain ⟨fd_layers, F_layers⟩ := c.def_ 34 (d := d_layers) rfl
  have g_layers := He.glo_ok X G (c.fact 34 (f := .glo "layers") rfl)
  obtain ⟨fd_neighbours, F_neighbours⟩ := c.def_ 35 (d := d_neighbours) rfl
  have g_neighbours := He.glo_ok X G (c.fact 35 (f := .glo "neighbours") rfl)
  obtain ⟨fd_swept, F_swept⟩ := c.def_ 36 (d := d_swept) rfl
  have g_swept := He.glo_ok X G (c.fact 36 (f := .glo "swept") rfl)
  obtain ⟨fd_swept_rows, F_swept_rows⟩ := c.def_ 37 (d := d_swept_rows) rfl
  have g_swept_rows := He.glo_ok X G (c.fact 37 (f := .glo "swept_rows") rfl)
  obtain ⟨fd_ahead_of, F_ahead_of⟩ := c.def_ 38 (d := d_ahead_of) rfl
  have g_ahead_of := He.glo_ok X G (c.fact 38 (f := .glo "ahead_of") rfl)
  obtain ⟨fd_turned_twos, F_turned_twos⟩ := c.def_ 39 (d := d_turned_twos) rfl
  have g_turned_twos := He.glo_ok X G (c.fact 39 (f := .glo "turned_twos") rfl)
  obtain ⟨fd_gain, F_gain⟩ := c.def_ 40 (d := d_gain) rfl
  have g_gain := He.glo_ok X G (c.fact 40 (f := .glo "gain") rfl)
  obtain ⟨fd_exchanged, F_exchanged⟩ := c.def_ 41 (d := d_exchanged) rfl
  have g_exchanged := He.glo_ok X G (c.fact 41 (f := .glo "exchanged") rfl)
  obtain ⟨fd_ordered, F_ordered⟩ := c.def_ 42 (d := d_ordered) rfl
  have g_ordered := He.glo_ok X G (c.fact 42 (f := .glo "ordered") rfl)
  obtain ⟨fd_numbered, F_numbered⟩ := c.def_ 43 (d := d_numbered) rfl
  have g_numbered := He.glo_ok X G (c.fact 43 (f := .glo "numbered") rfl)
  obtain ⟨fd_need_sizes, F_need_sizes⟩ := c.def_ 44 (d := d_need_sizes) rfl
  have g_need_sizes := He.glo_ok X G (c.fact 44 (f := .glo "need_sizes") rfl)
  obtain ⟨fd_web_of, F_web_of⟩ := c.def_ 45 (d := d_web_of) rfl
  have g_web_of := He.glo_ok X G (c.fact 45 (f := .glo "web_of") rfl)
  obtain ⟨fd_in_order, F_in_order⟩ := c.def_ 46 (d := d_in_order) rfl
  have g_in_order := He.glo_ok X G (c.fact 46 (f := .glo "in_order") rfl)
  obtain ⟨fd_held_pairs, F_held_pairs⟩ := c.def_ 47 (d := d_held_pairs) rfl
  have g_held_pairs := He.glo_ok X G (c.fact 47 (f := .glo "held_pairs") rfl)
  obtain ⟨fd_do_box, F_do_box⟩ := c.def_ 48 (d := d_do_box) rfl
  have g_do_box := He.glo_ok X G (c.fact 48 (f := .glo "do_box") rfl)
  obtain ⟨fd_do_drop, F_do_drop⟩ := c.def_ 49 (d := d_do_drop) rfl
  have g_do_drop := He.glo_ok X G (c.fact 49 (f := .glo "do_drop") rfl)
  obtain ⟨fd_do_arrow, F_do_arrow⟩ := c.def_ 50 (d := d_do_arrow) rfl
  have g_do_arrow := He.glo_ok X G (c.fact 50 (f := .glo "do_arrow") rfl)
  obtain ⟨fd_do_cut, F_do_cut⟩ := c.def_ 51 (d := d_do_cut) rfl
  have g_do_cut := He.glo_ok X G (c.fact 51 (f := .glo "do_cut") rfl)
  obtain ⟨fd_do_alter, F_do_alter⟩ := c.def_ 52 (d := d_do_alter) rfl
  have g_do_alter := He.glo_ok X G (c.fact 52 (f := .glo "do_alter") rfl)
  obtain ⟨fd_do_say, F_do_say⟩ := c.def_ 53 (d := d_do_say) rfl
  have g_do_say := He.glo_ok X G (c.fact 53 (f := .glo "do_say") rfl)
  obtain ⟨fd_do_unsay, F_do_unsay⟩ := c.def_ 54 (d := d_do_unsay) rfl
  have g_do_unsay := He.glo_ok X G (c.fact 54 (f := .glo "do_unsay") rfl)
  obtain ⟨fd_do_hold, F_do_hold⟩ := c.def_ 55 (d := d_do_hold) rfl
  have g_do_hold := He.glo_ok X G (c.fact 55 (f := .glo "do_hold") rfl)
  obtain ⟨fd_do_free, F_do_free⟩ := c.def_ 56 (d := d_do_free) rfl
  have g_do_free := He.glo_ok X G (c.fact 56 (f := .glo "do_free") rfl)
  obtain ⟨fd_law_alike, F_law_alike⟩ := c.def_ 57 (d := d_law_alike) rfl
  have g_law_alike := He.glo_ok X G (c.fact 57 (f := .glo "_law_alike") rfl)
  obtain ⟨fd_law_bag, F_law_bag⟩ := c.def_ 58 (d := d_law_bag) rfl
  have g_law_bag := He.glo_ok X G (c.fact 58 (f := .glo "_law_bag") rfl)
  obtain ⟨fd_law_crammed, F_law_crammed⟩ := c.def_ 59 (d := d_law_crammed) rfl
  have g_law_crammed := He.glo_ok X G (c.fact 59 (f := .glo "_law_crammed") rfl)
  obtain ⟨fd_law_do, F_law_do⟩ := c.def_ 60 (d := d_law_do) rfl
  have g_law_do := He.glo_ok X G (c.fact 60 (f := .glo "_law_do") rfl)
  obtain ⟨fd_law_kin, F_law_kin⟩ := c.def_ 61 (d := d_law_kin) rfl
  have g_law_kin := He.glo_ok X G (c.fact 61 (f := .glo "_law_kin") rfl)
  obtain ⟨fd_law_names, F_law_names⟩ := c.def_ 62 (d := d_law_names) rfl
  have g_law_names := He.glo_ok X G (c.fact 62 (f := .glo "_law_names") rfl)
  obtain ⟨fd_law_pull, F_law_pull⟩ := c.def_ 63 (d := d_law_pull) rfl
  have g_law_pull := He.glo_ok X G (c.fact 63 (f := .glo "_law_pull") rfl)
  obtain ⟨fd_law_whole, F_law_whole⟩ := c.def_ 64 (d := d_law_whole) rfl
  have g_law_whole := He.glo_ok X G (c.fact 64 (f := .glo "_law_whole") rfl)
  obtain ⟨fd_law, F_law⟩ := c.def_ 65 (d := d_law) rfl
  have g_law := He.glo_ok X G (c.fact 65 (f := .glo "law") rfl)
  unfold exR at hx
  simp only [Bool.and_eq_true] at hx
  have GD_DEEDS : GD K w mg "DEEDS" tb_DEEDS := gd_of ct 0 rfl (He.glo_ok X G (c.fact 130 (f := .glo "DEEDS") rfl)) hx.1.2
  have GD_THINGS : GD K w mg "THINGS" tb_THINGS := gd_of ct 1 rfl (He.glo_ok X G (c.fact 131 (f := .glo "THINGS") rfl)) hx.2
  obtain ⟨fd_Board___init__, F_Board___init__⟩ := c.def_ 67 (d := d_Board___init__) rfl
  have g_Board___init__ := He.mkr_ok (c.fact 132 (f := .mkr "Board") rfl)
  obtain ⟨fd_Board___eq__, F_Board___eq__⟩ := c.def_ 68 (d := d_Board___eq__) rfl
  have g_Board___eq__ := He.meth_ok (c.fact 133 (f := .meth "Board" "__eq__") rfl)
  obtain ⟨fd_Board___len__, F_Board___len__⟩ := c.def_ 69 (d := d_Board___len__) rfl
  have g_Board___len__ := He.meth_ok (c.fact 134 (f := .meth "Board" "__len__") rfl)
  obtain ⟨fd_Board___str__, F_Board___str__⟩ := c.def_ 70 (d := d_Board___str__) rfl
  have g_Board___str__ := He.meth_ok (c.fact 135 (f := .meth "Board" "__str__") rfl)
  obtain ⟨fd_Board___repr__, F_Board___repr__⟩ := c.def_ 71 (d := d_Board___repr__) rfl
  have g_Board___repr__ := He.meth_ok (c.fact 136 (f := .meth "Board" "__repr__") rfl)
  obtain ⟨fd_Board_keep, F_Board_keep⟩ := c.def_ 72 (d := d_Board_keep) rfl
  have g_Board_keep := He.meth_ok (c.fact 137 (f := .meth "Board" "keep") rfl)
  obtain ⟨fd_Board_need_boxes, F_Board_need_boxes⟩ := c.def_ 73 (d := d_Board_need_boxes) rfl
  have g_Board_need_boxes := He.meth_ok (c.fact 138 (f := .meth "Board" "need_boxes") rfl)
  obtain ⟨fd_Board_box, F_Board_box⟩ := c.def_ 74 (d := d_Board_box) rfl
  have g_Board_box := He.meth_ok (c.fact 139 (f := .meth "Board" "box") rfl)
  obtain ⟨fd_Board_drop, F_Board_drop⟩ := c.def_ 75 (d := d_Board_drop) rfl
  have g_Board_drop := He.meth_ok (c.fact 140 (f := .meth "Board" "drop") rfl)
  obtain ⟨fd_Board_arrow, F_Board_arrow⟩ := c.def_ 76 (d := d_Board_arrow) rfl
  have g_Board_arrow := He.meth_ok (c.fact 141 (f := .meth "Board" "arrow") rfl)
  obtain ⟨fd_Board_need_arrow, F_Board_need_arrow⟩ := c.def_ 77 (d := d_Board_need_arrow) rfl
  have g_Board_need_arrow := He.meth_ok (c.fact 142 (f := .meth "Board" "need_arrow") rfl)
  obtain ⟨fd_Board_cut, F_Board_cut⟩ := c.def_ 78 (d := d_Board_cut) rfl
  have g_Board_cut := He.meth_ok (c.fact 143 (f := .meth "Board" "cut") rfl)
  obtain ⟨fd_Board_alter, F_Board_alter⟩ := c.def_ 79 (d := d_Board_alter) rfl
  have g_Board_alter := He.meth_ok (c.fact 144 (f := .meth "Board" "alter") rfl)
  obtain ⟨fd_Board_say, F_Board_say⟩ := c.def_ 80 (d := d_Board_say) rfl
  have g_Board_say := He.meth_ok (c.fact 145 (f := .meth "Board" "say") rfl)
  obtain ⟨fd_Board_unsay, F_Board_unsay⟩ := c.def_ 81 (d := d_Board_unsay) rfl
  have g_Board_unsay := He.meth_ok (c.fact 146 (f := .meth "Board" "unsay") rfl)
  obtain ⟨fd_Board_hold, F_Board_hold⟩ := c.def_ 82 (d := d_Board_hold) rfl
  have g_Board_hold := He.meth_ok (c.fact 147 (f := .meth "Board" "hold") rfl)
  obtain ⟨fd_Board_free, F_Board_free⟩ := c.def_ 83 (d := d_Board_free) rfl
  have g_Board_free := He.meth_ok (c.fact 148 (f := .meth "Board" "free") rfl)
  obtain ⟨fd_Board_do, F_Board_do⟩ := c.def_ 84 (d := d_Board_do) rfl
  have g_Board_do := He.meth_ok (c.fact 149 (f := .meth "Board" "do") rfl)
  obtain ⟨fd_Board_undo, F_Board_undo⟩ := c.def_ 85 (d := d_Board_undo) rfl
  have g_Board_undo := He.meth_ok (c.fact 150 (f := .meth "Board" "undo") rfl)
  obtain ⟨fd_Board_redo, F_Board_redo⟩ := c.def_ 86 (d := d_Board_redo) rfl
  have g_Board_redo := He.meth_ok (c.fact 151 (f := .meth "Board" "redo") rfl)
  obtain ⟨fd_Board_deeds, F_Board_deeds⟩ := c.def_ 87 (d := d_Board_deeds) rfl
  have g_Board_deeds := He.meth_ok (c.fact 152 (f := .meth "Board" "deeds") rfl)
  obtain ⟨fd_Board_twin, F_Board_twin⟩ := c.def_ 88 (d := d_Board_twin) rfl
  have g_Board_twin := He.meth_ok (c.fact 153 (f := .meth "Board" "twin") rfl)
  obtain ⟨fd_Board_web, F_Board_web⟩ := c.def_ 89 (d := d_Board_web) rfl
  have g_Board_web := He.meth_ok (c.fact 154 (f := .meth "Board" "web") rfl)
  obtain ⟨fd_Board_numbers, F_Board_numbers⟩ := c.def_ 90 (d := d_Board_numbers) rfl
  have g_Board_numbers := He.meth_ok (c.fact 155 (f := .meth "Board" "numbers") rfl)
  obtain ⟨fd_Board_held, F_Board_held⟩ := c.def_ 91 (d := d_Board_held) rfl
  have g_Board_held := He.meth_ok (c.fact 156 (f := .meth "Board" "held") rfl)
  obtain ⟨fd_Board_layers, F_Board_layers⟩ := c.def_ 92 (d := d_Board_layers) rfl
  have g_Board_layers := He.meth_ok (c.fact 157 (f := .meth "Board" "layers") rfl)
  obtain ⟨fd_Board_spots, F_Board_spots⟩ := c.def_ 93 (d := d_Board_spots) rfl
  have g_Board_spots := He.meth_ok (c.fact 158 (f := .meth "Board" "spots") rfl)
  obtain ⟨fd_Board_rows, F_Board_rows⟩ := c.def_ 94 (d := d_Board_rows) rfl
  have g_Board_rows := He.meth_ok (c.fact 159 (f := .meth "Board" "rows") rfl)
  obtain ⟨fd_Board_crossings, F_Board_crossings⟩ := c.def_ 95 (d := d_Board_crossings) rfl
  have g_Board_crossings := He.meth_ok (c.fact 160 (f := .meth "Board" "crossings") rfl)
  obtain ⟨fd_Board_turned, F_Board_turned⟩ := c.def_ 96 (d := d_Board_turned) rfl
  have g_Board_turned := He.meth_ok (c.fact 161 (f := .meth "Board" "turned") rfl)
  obtain ⟨fd_Board_moved, F_Board_moved⟩ := c.def_ 97 (d := d_Board_moved) rfl
  have g_Board_moved := He.meth_ok (c.fact 162 (f := .meth "Board" "moved") rfl)
  obtain ⟨fd_Board_draw, F_Board_draw⟩ := c.def_ 98 (d := d_Board_draw) rfl
  have g_Board_draw := He.meth_ok (c.fact 163 (f := .meth "Board" "draw") rfl)
  obtain ⟨fdi_Clash, Fi_Clash⟩ := c.def_ 66 (d := di_Clash) rfl
  have e := hfa.symm.trans g_law
  cases e
  have b := FunD.bindsA (ps := ["_law_script"]) F_law fun _ _ _ _ _ _ us hl => match us, hl with | [_], _ => rfl
  refine ⟨fd_law, fun s v => b s [v] rfl, fun base _ _ TB => ?_⟩
  have IF_Clash := I_Clash (P := P) (w := w) (base := base) T Fi_Clash (initB_ok hx.1.1)
  have w_law_kin := G_law_kin (P := P) (w := w) (base := base) T F_law_kin g_law_kin  
  have w_is_name := G_is_name (P := P) (w := w) (base := base) T F_is_name g_is_name  
  have w_is_least := G_is_least (P := P) (w := w) (base := base) T F_is_least g_is_least  
  have w_is_weight := G_is_weight (P := P) (w := w) (base := base) T F_is_weight g_is_weight  
  have w_is_far := G_is_far (P := P) (w := w) (base := base) T F_is_far g_is_far  
  have w_numbered := G_numbered (P := P) (w := w) (base := base) T F_numbered g_numbered  
  have w_Board___init__ := G_Board___init__ (P := P) (w := w) (base := base) T F_Board___init__ g_Board___init__  
  have w_Board___len__ := G_Board___len__ (P := P) (w := w) (base := base) T F_Board___len__ g_Board___len__  
  have w_Board_keep := G_Board_keep (P := P) (w := w) (base := base) T F_Board_keep g_Board_keep  
  have w_Board_need_boxes := G_Board_need_boxes (P := P) (w := w) (base := base) T F_Board_need_boxes g_Board_need_boxes  
  have w_Board_deeds := G_Board_deeds (P := P) (w := w) (base := base) T F_Board_deeds g_Board_deeds  
  have w_web_of := G_web_of (P := P) (w := w) (base := base) T F_web_of g_web_of  
  have w_law_bag := G_law_bag (P := P) (w := w) (base := base) T F_law_bag g_law_bag  
  have w_law_pull := G_law_pull (P := P) (w := w) (base := base) T F_law_pull g_law_pull  
  have w_law_whole := G_law_whole (P := P) (w := w) (base := base) T F_law_whole g_law_whole  
  have w_Board_box := G_Board_box (P := P) (w := w) (base := base) T F_Board_box g_Board_box  w_Board_keep w_is_name
  have w_Board_need_arrow := G_Board_need_arrow (P := P) (w := w) (base := base) T F_Board_need_arrow g_Board_need_arrow  w_numbered
  have w_Board_say := G_Board_say (P := P) (w := w) (base := base) T F_Board_say g_Board_say  w_Board_keep w_Board_need_boxes w_is_far
  have wk0_Board_say := GK0_Board_say (P := P) (w := w) (base := base) T F_Board_say g_Board_say  w_Board_keep w_Board_need_boxes w_is_far
  have w_Board_unsay := G_Board_unsay (P := P) (w := w) (base := base) T F_Board_unsay g_Board_unsay  w_Board_keep w_numbered
  have w_Board_web := G_Board_web (P := P) (w := w) (base := base) T F_Board_web g_Board_web  w_web_of
  have w_need_sizes := G_need_sizes (P := P) (w := w) (base := base) T F_need_sizes g_need_sizes  w_is_least w_is_weight
  have w_law_alike := G_law_alike_n (P := P) (w := w) (base := base) T F_law_alike g_law_alike  w_law_whole 6
  have w_law_names := G_law_names (P := P) (w := w) (base := base) T F_law_names g_law_names  w_law_pull
  have w_Board_arrow := G_Board_arrow (P := P) (w := w) (base := base) T F_Board_arrow g_Board_arrow  w_Board_keep w_Board_need_boxes w_need_sizes
  have wk0_Board_arrow := GK0_Board_arrow (P := P) (w := w) (base := base) T F_Board_arrow g_Board_arrow  w_Board_keep w_Board_need_boxes w_need_sizes
  have wk1_Board_arrow := GK1_Board_arrow (P := P) (w := w) (base := base) T F_Board_arrow g_Board_arrow  w_Board_keep w_Board_need_boxes w_need_sizes
  have wk2_Board_arrow := GK2_Board_arrow (P := P) (w := w) (base := base) T F_Board_arrow g_Board_arrow  w_Board_keep w_Board_need_boxes w_need_sizes
  have w_Board_cut := G_Board_cut (P := P) (w := w) (base := base) T F_Board_cut g_Board_cut  w_Board_keep w_Board_need_arrow
  have w_Board_alter := G_Board_alter (P := P) (w := w) (base := base) T F_Board_alter g_Board_alter  w_Board_keep w_Board_need_arrow w_need_sizes
  have wk0_Board_alter := GK0_Board_alter (P := P) (w := w) (base := base) T F_Board_alter g_Board_alter  w_Board_keep w_Board_need_arrow w_need_sizes
  have w_do_box := G_do_box (P := P) (w := w) (base := base) T F_do_box g_do_box  w_Board_box
  have w_do_say := G_do_say (P := P) (w := w) (base := base) T F_do_say g_do_say  w_Board_say wk0_Board_say
  have w_do_arrow := G_do_arrow (P := P) (w := w) (base := base) T F_do_arrow g_do_arrow  w_Board_arrow wk0_Board_arrow wk1_Board_arrow wk2_Board_arrow
  have w_law_crammed := G_law_crammed (P := P) (w := w) (base := base) T F_law_crammed g_law_crammed  w_Board_arrow wk0_Board_arrow wk1_Board_arrow wk2_Board_arrow w_Board_box w_Board_say wk0_Board_say w_law_alike w_law_pull
  have w_Board_do := G_Board_do (P := P) (w := w) (base := base) T F_Board_do g_Board_do GD_DEEDS GD_THINGS w_do_arrow w_do_box w_do_say
  have w_law_do := G_law_do (P := P) (w := w) (base := base) T F_law_do g_law_do  w_Board_do w_law_kin
  have tm_law : (("law", none) : He.Defn) ∈ tfH := by simp [tfH]
  exact G_law T F_law rfl (TB _ (List.mem_map_of_mem tm_law)) (lamB_in hlam tm_law)  w_Board___init__ w_Board___len__ w_Board_alter wk0_Board_alter w_Board_arrow wk0_Board_arrow wk1_Board_arrow wk2_Board_arrow w_Board_cut w_Board_deeds w_Board_say wk0_Board_say w_Board_unsay w_Board_web w_law_alike w_law_bag w_law_crammed w_law_do w_law_names w_law_pull
end
end Lw
section
open PySem PySem.W PySem.Calls PyProof.Rows
theorem PySem.Challenge.cw_layerink_k30_boards_filled_holds : PySem.Challenge.rw_layerink_k30_boards_filled.Holds := by
  w_on
  refine Lw.hwqL fun said => ?_
  refine HandSHeadRun.head_any (r := PySem.W.OpenLaw.row PySem.Challenge.rw_layerink_k30_boards_filled) (q := PySem.W.view (PySem.W.OpenLaw.row PySem.Challenge.rw_layerink_k30_boards_filled).prog [110]) (H := Lw.hkH) (ob := Lw.obH) (M := 9000) (loose := Lw.looseH) (d := HandSHeadRun.topDef (PySem.W.OpenLaw.row PySem.Challenge.rw_layerink_k30_boards_filled).prog 110) (kwd := []) Lw.obH_eq Lw.hwqA Lw.hwqB Lw.runH Lw.hwqC Lw.hwqD Lw.hwqE (by rfl) said Lw.hwqG Lw.hwqI ?hw ?hc
  case hw => exact Lw.hwqJ
  case hc =>
    refine Ink.walkT (l := PySem.Challenge.rw_layerink_k30_boards_filled) (n := 63) (k := 10) (x := "_law_script") (CX := fun w => L2N.CX (PySem.Challenge.rw_layerink_k30_boards_filled).prog w) rfl (by decide) (by kernel_rfl) ⟨rfl, by decide, by decide⟩ ?F (fun _ _ _ _ _ z => Ink.noCX z)
    intro w mg fa h Y G hm0
    obtain ⟨K, kx, c⟩ := Y
    have hm : mg ("law" : PySem.Str) = some (.ref fa) := by
      have e : (HandSHeadRun.topDef (PySem.W.OpenLaw.row PySem.Challenge.rw_layerink_k30_boards_filled).prog 110).name = ("law" : PySem.Str) := by kernel_rfl
      rw [← e]; exact hm0
    obtain ⟨fd, hb, hF⟩ := Lw.allH (P := (PySem.Challenge.rw_layerink_k30_boards_filled).prog) (w := w) kx G hm c.t.d c.t c.more
    have hlam : Ink.lamB K Lw.tfH = true := (Bool.and_eq_true_iff.mp c.more).1
    refine ⟨K, fd, Lw.tfH.map (He.cT K), Ink.spOf K Lw.m_law, kx, fun p hp => ?_, fun p hp => ?_, fun p hp => ?_, hb, fun H a ns _ hH hO hS => Ink.sp_law (Lw.law_ok ns) (fun p hp => ?_) (fun b ps e => ?_) hS, hF⟩
    · obtain ⟨q, hq, rfl⟩ := List.mem_map.mp hp; exact c.empty q hq
    · obtain ⟨q, hq, rfl⟩ := List.mem_map.mp hp; exact c.out q hq
    · obtain ⟨q, hq, rfl⟩ := List.mem_map.mp hp; exact PySem.W.codeHd_of_K kx (c.hd q hq)
    · obtain ⟨q, hq, rfl⟩ := Ink.lamB_at hlam hp; exact hH _ (List.mem_map_of_mem hq)
    · obtain ⟨p, hp, e2⟩ := hO b ps e
      obtain ⟨q, hq, rfl⟩ := List.mem_map.mp hp
      exact ⟨_, Ink.lamB_in hlam hq, e2⟩
end
