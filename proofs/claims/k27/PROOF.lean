import PyProof.Rows.All
import Wide.All
import OpenK.AllK
import Wide.FinOn
import HandS.Base
import HandS.Call
import HandS.List
import HandS.Comp
import HandS.Exc
import HandS.Dict
import HandS.Iter
import HandS.Text
import HandS.Lambda
import HandS.HeadHook4
import KE.KeyNested
import HandS.TupAny
import HandS.TupMul
import HandS.IsInst
import HandS.Wide
import HandS.Words
import HandS.WordsExc
import HandS.CallSlots
import HandS.Defaults
import HandS.Zip
import KE.GoesEnum
import KE.GoesEnumKw
import KE.GoesMore
import HandS.Strs
import HandS.EndTab
import HandS.Head0
import HandS.Head1
import HandS.Head2
import HandS.HeadEnd
import HandS.HeadHook1
import HandS.HeadHook2
import HandS.Style
import HandS.SetKeys
import HandS.Small
import KE.KDictLaws
import HandS.SortKw
import HandS.SortInts
import HandS.Conv
import HandS.NoneIn
import HandS.Deep
import HandS.MakeKw
import HandS.Flt
import HandS.ExcOwn
import HandS.ExcIs
import HandS.TryMany
import PyProof.ReprRoads
import HandS.SortOrd
import HandS.Sort
import HandS.Remove
import HandS.ExcInit
import HandS.ExcField
import PyProof.DictMoreH
import KE.KDictPairs
import KE.KDictCopyH
import HandS.Flow
import HandS.DictComp
import HandS.TupLen
import HandS.WordsDict
import KE.SortKeyHeap
import PyProof.Rows.SetFrom
import KE.DataMinMax
import HandS.StrMore
import HandS.RaiseMore
import PyProof.Rows.StrPadFill
import HandS.HeadHook3
import HandS.FStr
import PyProof.Draws
import HandS.IntHex
import PySem.Challenge.RW_layerink_k27_whole_webs_written_and_read
set_option Elab.async false
set_option linter.all false
set_option maxRecDepth 100000
namespace Ink
open PySem L2
/-- a lambda: its number, name, text, names, cells -/
structure LamD where
  ix : Nat
  q : Str
  ps : Arguments
  bd : Expr
  sc : Scope
  cl : List (Str × Addr)
/-- at p: the function object of the lambda l, its code at c -/
def LamO (p c : Addr) (l : LamD) : HO := .ext fun h => ∃ pm ctv : Value, h.get? p = some (PySem.W.kla_obj "<lambda>" l.q l.ps l.bd l.sc l.cl pm c ctv)
/-- at p: a dict whose keys, at us, are tuples of tuples and the like -/
def NstO (p : Addr) (us : List Addr) (ks : List NestedKey) : HO := .ext fun h => (p == sysModules) = false ∧ ∃ (rows : List (NestedKey × Addr × Value)) (o : Obj) (es : Array DictEntry) (ep : Nat), rows.map (·.1) = ks ∧ rows.map (·.2.1) = us ∧ h.get? p = some o ∧ o.ExactDict ∧ o.data = .dict es ep ∧
  (∀ (P : Program) (w : World), es.toList = rows.map (entryOfKey (nestedKind P w))) ∧ ks.Nodup
/-- plain data, never changed -/
inductive D where
  | non | bl (b : Bool) | int (i : Int) | str (x : Str)
  | lst (xs : List D) | tup (xs : List D)
  | dK (kvs : List (Key × D)) | dT (kvs : List (List Key × D))
  /-- a list of ints that is locked (the script) -/
  | scr (ns : List Int)
  | ins (C : Str) (fs : List (Str × D))
  | lam (l : LamD)
  /-- dicts that are locked: looked at alone -/
  | dLK (kvs : List (Key × D)) | dLT (kvs : List (List Key × D))
  /-- a dict of nested keys, looked at by key alone -/
  | nst (ks : List NestedKey) (ds : List D)
/-- a tree of things that are owned (may be changed), its leaves plain data -/
inductive M where
  | fz (d : D)
  | lst (ms : List M)
  | tup (ms : List M)
  | dK (kvs : List (Key × M)) | dT (kvs : List (List Key × M))
  | ins (C : Str) (fs : List (Str × M))
abbrev E := List (Option M)
abbrev Sub (F F' : Hp) : Prop := ∀ b o, F b = some o → F' b = some o
theorem Sub.refl (F : Hp) : Sub F F := fun _ _ h => h
theorem Sub.trans {F F1 F2 : Hp} (a : Sub F F1) (b : Sub F1 F2) : Sub F F2 := fun c o h => b c o (a c o h)
theorem Sub.rd {F F' : Hp} {p : Addr} {u : HO} (e : Sub F F') (h : Rd F p u) : Rd F' p u := by
  rcases h with h | ⟨o, h⟩
  · exact .inl (e _ _ h)
  · exact .inr ⟨o, e _ _ h⟩
theorem Sub.sql {K : PySem.W.Frag} {F F' : Hp} {p : Addr} {xs : List V} (e : Sub F F') (h : SqL K F p xs) : SqL K F' p xs := by
  rcases h with h | h
  · exact .inl (e.rd h)
  · exact .inr h
theorem Sub.sqt {K : PySem.W.Frag} {F F' : Hp} {p : Addr} {xs : List V} (e : Sub F F') (h : SqT K F p xs) : SqT K F' p xs := by
  rcases h with h | h
  · exact .inl (e.rd h)
  · exact .inr h
mutual
inductive Rep (K : PySem.W.Frag) (F : Hp) : V → D → Prop
  | non : Rep K F .non .non
  | bl (b : Bool) : Rep K F (.bl b) (.bl b)
  | int (i : Int) : Rep K F (.int i) (.int i)
  | str (x : Str) : Rep K F (.str x) (.str x)
  | lst {p : Addr} {vs : List V} {ds : List D} : F p = some (.lst vs) → Reps K F vs ds → Rep K F (.ref p) (.lst ds)
  | tup {p : Addr} {vs : List V} {ds : List D} : F p = some (.tup vs) → Reps K F vs ds → Rep K F (.ref p) (.tup ds)
  | dK {p : Addr} {kvs : List (Key × V)} {ds : List (Key × D)} : F p = some (.dK kvs) → kvs.map (·.1) = ds.map (·.1) → Reps K F (kvs.map (·.2)) (ds.map (·.2)) → Rep K F (.ref p) (.dK ds)
  | dT {p : Addr} {kvs : List (List Key × V)} {ds : List (List Key × D)} : F p = some (.dT kvs) → kvs.map (·.1) = ds.map (·.1) → Reps K F (kvs.map (·.2)) (ds.map (·.2)) → Rep K F (.ref p) (.dT ds)
  | scr {p : Addr} {ns : List Int} : SqL K F p (ns.map V.int) → Rep K F (.ref p) (.scr ns)
  | ins {p : Addr} {C : Str} {dx : Addr} {fs : List (Str × V)} {ds : List (Str × D)} : F p = some (.ins (He.ga K C) dx fs) → fs.map (·.1) = ds.map (·.1) → Reps K F (fs.map (·.2)) (ds.map (·.2)) → Rep K F (.ref p) (.ins C ds)
  | lam {p c : Addr} {l : LamD} : F p = some (LamO p c l) → F c = some (LamX.CodeO c l.q) → Rep K F (.ref p) (.lam l)
  | dLK {p : Addr} {o : Obj} {kvs : List (Key × V)} {ds : List (Key × D)} : F p = some (.frz o (.dK kvs)) → kvs.map (·.1) = ds.map (·.1) → Reps K F (kvs.map (·.2)) (ds.map (·.2)) → Rep K F (.ref p) (.dLK ds)
  | dLT {p : Addr} {o : Obj} {kvs : List (List Key × V)} {ds : List (List Key × D)} : F p = some (.frz o (.dT kvs)) → kvs.map (·.1) = ds.map (·.1) → Reps K F (kvs.map (·.2)) (ds.map (·.2)) → Rep K F (.ref p) (.dLT ds)
  | nst {p : Addr} {us : List Addr} {vs : List V} {ks : List NestedKey} {ds : List D} : F p = some (NstO p us ks) → vs = us.map V.ref → Reps K F vs ds → Rep K F (.ref p) (.nst ks ds)
inductive Reps (K : PySem.W.Frag) (F : Hp) : List V → List D → Prop
  | nil : Reps K F [] []
  | cons {v : V} {vs : List V} {d : D} {ds : List D} : Rep K F v d → Reps K F vs ds → Reps K F (v :: vs) (d :: ds)
end
theorem Rep.mono {K : PySem.W.Frag} {F F' : Hp} (e : Sub F F') {v : V} {d : D} (h : Rep K F v d) : Rep K F' v d :=
  Rep.rec (K := K) (F := F) (motive_1 := fun v d _ => Rep K F' v d) (motive_2 := fun vs ds _ => Reps K F' vs ds)
    .non .bl .int .str (fun a _ q => .lst (e _ _ a) q) (fun a _ q => .tup (e _ _ a) q) (fun a b _ q => .dK (e _ _ a) b q) (fun a b _ q => .dT (e _ _ a) b q) (fun a => .scr (e.sql a)) (fun a b _ q => .ins (e _ _ a) b q) (fun a b => .lam (e _ _ a) (e _ _ b)) (fun a b _ q => .dLK (e _ _ a) b q) (fun a b _ q => .dLT (e _ _ a) b q) (fun a b _ q => .nst (e _ _ a) b q) .nil (fun _ _ a b => .cons a b) h
theorem Reps.mono {K : PySem.W.Frag} {F F' : Hp} (e : Sub F F') {vs : List V} {ds : List D} (h : Reps K F vs ds) : Reps K F' vs ds := by
  induction ds generalizing vs with
  | nil => cases h; exact .nil
  | cons d ds ih => cases h with | cons a b => exact .cons (a.mono e) (ih b)
theorem Reps.length {K : PySem.W.Frag} {F : Hp} {vs : List V} {ds : List D} (h : Reps K F vs ds) : vs.length = ds.length := by
  induction ds generalizing vs with
  | nil => cases h; rfl
  | cons d ds ih => cases h with | cons a b => simp [ih b]
theorem Reps.get {K : PySem.W.Frag} {F : Hp} {vs : List V} {ds : List D} (h : Reps K F vs ds) {i : Nat} {d : D} (e : ds[i]? = some d) : ∃ v, vs[i]? = some v ∧ Rep K F v d := by
  induction ds generalizing vs i with
  | nil => simp at e
  | cons x ds ih =>
    cases h with
    | cons a b =>
      cases i with
      | zero => simp at e; subst e; exact ⟨_, rfl, a⟩
      | succ i => simp at e; obtain ⟨v, h1, h2⟩ := ih b e; exact ⟨v, by simpa using h1, h2⟩
theorem Reps.append {K : PySem.W.Frag} {F : Hp} {vs ws : List V} {ds es : List D} (h : Reps K F vs ds) (h2 : Reps K F ws es) : Reps K F (vs ++ ws) (ds ++ es) := by
  induction ds generalizing vs with
  | nil => cases h; exact h2
  | cons d ds ih => cases h with | cons a b => exact .cons a (ih b)
theorem Reps.take {K : PySem.W.Frag} {F : Hp} {vs : List V} {ds : List D} (h : Reps K F vs ds) (n : Nat) : Reps K F (vs.take n) (ds.take n) := by
  induction ds generalizing vs n with
  | nil => cases h; simp; exact .nil
  | cons d ds ih => cases h with | cons a b => cases n with
    | zero => simp; exact .nil
    | succ n => simp; exact .cons a (ih b n)
theorem Reps.drop {K : PySem.W.Frag} {F : Hp} {vs : List V} {ds : List D} (h : Reps K F vs ds) (n : Nat) : Reps K F (vs.drop n) (ds.drop n) := by
  induction ds generalizing vs n with
  | nil => cases h; simp; exact .nil
  | cons d ds ih => cases h with | cons a b => cases n with
    | zero => simp; exact .cons a b
    | succ n => simp; exact ih b n
theorem Reps.reverse {K : PySem.W.Frag} {F : Hp} {vs : List V} {ds : List D} (h : Reps K F vs ds) : Reps K F vs.reverse ds.reverse := by
  induction ds generalizing vs with
  | nil => cases h; exact .nil
  | cons d ds ih => cases h with | cons a b => rw [List.reverse_cons, List.reverse_cons]; exact (ih b).append (.cons a .nil)
theorem Reps.of {K : PySem.W.Frag} {F : Hp} : ∀ {vs : List V} {ds : List D}, vs.length = ds.length → (∀ (i : Nat) v d, vs[i]? = some v → ds[i]? = some d → Rep K F v d) → Reps K F vs ds
  | [], [], _, _ => .nil
  | [], _ :: _, e, _ => by simp at e
  | _ :: _, [], e, _ => by simp at e
  | v :: vs, d :: ds, e, h => .cons (h 0 v d rfl rfl) (Reps.of (by simpa using e) fun i v d a b => h (i + 1) v d (by simpa using a) (by simpa using b))
mutual
inductive RepM (K : PySem.W.Frag) (F H : Hp) : M → V → List Addr → Prop
  | fz {d : D} {v : V} : Rep K F v d → RepM K F H (.fz d) v []
  | lst {p : Addr} {vs : List V} {ms : List M} {fp : List Addr} : H p = some (.lst vs) → F p = none → RepMs K F H ms vs fp → p ∉ fp → RepM K F H (.lst ms) (.ref p) (p :: fp)
  | tup {p : Addr} {vs : List V} {ms : List M} {fp : List Addr} : F p = some (.tup vs) → RepMs K F H ms vs fp → RepM K F H (.tup ms) (.ref p) fp
  | dK {p : Addr} {kvs : List (Key × V)} {ms : List (Key × M)} {fp : List Addr} : H p = some (.dK kvs) → F p = none → kvs.map (·.1) = ms.map (·.1) → RepMs K F H (ms.map (·.2)) (kvs.map (·.2)) fp → p ∉ fp → RepM K F H (.dK ms) (.ref p) (p :: fp)
  | dT {p : Addr} {kvs : List (List Key × V)} {ms : List (List Key × M)} {fp : List Addr} : H p = some (.dT kvs) → F p = none → kvs.map (·.1) = ms.map (·.1) → RepMs K F H (ms.map (·.2)) (kvs.map (·.2)) fp → p ∉ fp → RepM K F H (.dT ms) (.ref p) (p :: fp)
  | ins {p : Addr} {C : Str} {dx : Addr} {fs : List (Str × V)} {ms : List (Str × M)} {fp : List Addr} : H p = some (.ins (He.ga K C) dx fs) → F p = none → fs.map (·.1) = ms.map (·.1) → RepMs K F H (ms.map (·.2)) (fs.map (·.2)) fp → p ∉ fp → RepM K F H (.ins C ms) (.ref p) (p :: fp)
inductive RepMs (K : PySem.W.Frag) (F H : Hp) : List M → List V → List Addr → Prop
  | nil : RepMs K F H [] [] []
  | cons {m : M} {v : V} {ms : List M} {vs : List V} {fp fq : List Addr} : RepM K F H m v fp → RepMs K F H ms vs fq → (∀ b ∈ fp, b ∉ fq) → RepMs K F H (m :: ms) (v :: vs) (fp ++ fq)
end
theorem RepM.frame {K : PySem.W.Frag} {F H F' H' : Hp} {m : M} {v : V} {fp : List Addr} (h : RepM K F H m v fp) (e : Sub F F') (hH : ∀ b ∈ fp, H' b = H b) (hN : ∀ b ∈ fp, F' b = none) : RepM K F' H' m v fp := by
  refine RepM.rec (K := K) (F := F) (H := H) (motive_1 := fun m v fp _ => (∀ b ∈ fp, H' b = H b) → (∀ b ∈ fp, F' b = none) → RepM K F' H' m v fp) (motive_2 := fun ms vs fp _ => (∀ b ∈ fp, H' b = H b) → (∀ b ∈ fp, F' b = none) → RepMs K F' H' ms vs fp)
    ?_ ?_ ?_ ?_ ?_ ?_ ?_ ?_ h hH hN
  · exact fun r _ _ => .fz (r.mono e)
  · exact fun a b _ n ih hH hN => .lst (by rw [hH _ (List.mem_cons_self ..)]; exact a) (hN _ (List.mem_cons_self ..)) (ih (fun b hb => hH b (List.mem_cons_of_mem _ hb)) fun b hb => hN b (List.mem_cons_of_mem _ hb)) n
  · exact fun a _ ih hH hN => .tup (e _ _ a) (ih hH hN)
  · exact fun a b c _ n ih hH hN => .dK (by rw [hH _ (List.mem_cons_self ..)]; exact a) (hN _ (List.mem_cons_self ..)) c (ih (fun b hb => hH b (List.mem_cons_of_mem _ hb)) fun b hb => hN b (List.mem_cons_of_mem _ hb)) n
  · exact fun a b c _ n ih hH hN => .dT (by rw [hH _ (List.mem_cons_self ..)]; exact a) (hN _ (List.mem_cons_self ..)) c (ih (fun b hb => hH b (List.mem_cons_of_mem _ hb)) fun b hb => hN b (List.mem_cons_of_mem _ hb)) n
  · exact fun a b c _ n ih hH hN => .ins (by rw [hH _ (List.mem_cons_self ..)]; exact a) (hN _ (List.mem_cons_self ..)) c (ih (fun b hb => hH b (List.mem_cons_of_mem _ hb)) fun b hb => hN b (List.mem_cons_of_mem _ hb)) n
  · exact fun _ _ => .nil
  · exact fun _ _ dj i1 i2 hH hN => .cons (i1 (fun b hb => hH b (List.mem_append_left _ hb)) fun b hb => hN b (List.mem_append_left _ hb)) (i2 (fun b hb => hH b (List.mem_append_right _ hb)) fun b hb => hN b (List.mem_append_right _ hb)) dj
theorem RepMs.frame {K : PySem.W.Frag} {F H F' H' : Hp} {ms : List M} {vs : List V} {fp : List Addr} (h : RepMs K F H ms vs fp) (e : Sub F F') (hH : ∀ b ∈ fp, H' b = H b) (hN : ∀ b ∈ fp, F' b = none) : RepMs K F' H' ms vs fp := by
  induction ms generalizing vs fp with
  | nil => cases h; exact .nil
  | cons m ms ih => cases h with | cons a b dj =>
    exact .cons (a.frame e (fun b hb => hH b (List.mem_append_left _ hb)) fun b hb => hN b (List.mem_append_left _ hb)) (ih b (fun b hb => hH b (List.mem_append_right _ hb)) fun b hb => hN b (List.mem_append_right _ hb)) dj
theorem RepM.live {K : PySem.W.Frag} {F H : Hp} {m : M} {v : V} {fp : List Addr} (h : RepM K F H m v fp) : ∀ b ∈ fp, (∃ o, H b = some o) ∧ F b = none := by
  refine RepM.rec (K := K) (F := F) (H := H) (motive_1 := fun m v fp _ => ∀ b ∈ fp, (∃ o, H b = some o) ∧ F b = none) (motive_2 := fun ms vs fp _ => ∀ b ∈ fp, (∃ o, H b = some o) ∧ F b = none)
    ?_ ?_ ?_ ?_ ?_ ?_ ?_ ?_ h
  · exact fun _ b hb => by cases hb
  · exact fun a f _ n ih b hb => by
      rcases List.mem_cons.mp hb with rfl | hb
      · exact ⟨⟨_, a⟩, f⟩
      · exact ih b hb
  · exact fun a _ ih b hb => ih b hb
  · exact fun a f _ _ n ih b hb => by
      rcases List.mem_cons.mp hb with rfl | hb
      · exact ⟨⟨_, a⟩, f⟩
      · exact ih b hb
  · exact fun a f _ _ n ih b hb => by
      rcases List.mem_cons.mp hb with rfl | hb
      · exact ⟨⟨_, a⟩, f⟩
      · exact ih b hb
  · exact fun a f _ _ n ih b hb => by
      rcases List.mem_cons.mp hb with rfl | hb
      · exact ⟨⟨_, a⟩, f⟩
      · exact ih b hb
  · exact fun b hb => by cases hb
  · exact fun _ _ dj i1 i2 b hb => by
      rcases List.mem_append.mp hb with hb | hb
      · exact i1 b hb
      · exact i2 b hb
theorem RepMs.live {K : PySem.W.Frag} {F H : Hp} {ms : List M} {vs : List V} {fp : List Addr} (h : RepMs K F H ms vs fp) : ∀ b ∈ fp, (∃ o, H b = some o) ∧ F b = none := by
  induction ms generalizing vs fp with
  | nil => cases h; intro b hb; cases hb
  | cons m ms ih => cases h with | cons a b dj =>
    intro b hb
    rcases List.mem_append.mp hb with hb | hb
    · exact a.live b hb
    · exact ih (by assumption) b hb
theorem RepMs.length {K : PySem.W.Frag} {F H : Hp} {ms : List M} {vs : List V} {fp : List Addr} (h : RepMs K F H ms vs fp) : vs.length = ms.length := by
  induction ms generalizing vs fp with
  | nil => cases h; rfl
  | cons m ms ih => cases h with | cons a b dj => simp [ih b]
def NT (o : HO) : Prop := ∀ ps, o ≠ .tbl ps
/-- the kinds of objects that are owned -/
def Kin (o : HO) : Prop := (∃ xs, o = .lst xs) ∨ (∃ kvs, o = .dK kvs) ∨ (∃ kvs, o = .dT kvs) ∨ ∃ C dx fs, o = .ins C dx fs
theorem Kin.nt {o : HO} (h : Kin o) : NT o := fun ps e => by
  rcases h with ⟨_, h⟩ | ⟨_, h⟩ | ⟨_, h⟩ | ⟨_, _, _, h⟩ <;> rw [h] at e <;> cases e
theorem Kin.ntp {o : HO} (h : Kin o) : ∀ vs, o ≠ .tup vs := fun ps e => by
  rcases h with ⟨_, h⟩ | ⟨_, h⟩ | ⟨_, h⟩ | ⟨_, _, _, h⟩ <;> rw [h] at e <;> cases e
theorem Kin.nc {o : HO} (h : Kin o) (c : Addr) (q : Str) : o ≠ LamX.CodeO c q := fun e => by
  unfold LamX.CodeO at e
  rcases h with ⟨_, h⟩ | ⟨_, h⟩ | ⟨_, h⟩ | ⟨_, _, _, h⟩ <;> rw [h] at e <;> cases e
/-- all defs, of all laws, that make lambdas -/
def CN : List He.Defn := [("law", none), ("_law_web_door", none), ("blocks", none), ("port_columns", none), ("tracks", none), ("in_order", none), ("_law_glance", none), ("_law_spoilt_glance", none), ("_law_drawing_right", none), ("_law_cause", none), ("_law_by_hand", none)]
def hasD (K : PySem.W.Frag) (p : He.Defn) : Bool := decide (He.codeOf K p ≠ 0) && (K.lookup (He.codeOf K p)).isSome
/-- the lambdas' table of a def, with the name that its code objects bear -/
def tlOf (K : PySem.W.Frag) (p : He.Defn) : Addr × Str := ((He.cT K p).2, (p.1 ++ ".<locals>.") ++ "<lambda>")
def TLc (K : PySem.W.Frag) : List (Addr × Str) := (CN.filter (hasD K)).map (tlOf K)
/-- the tables of the defs that are there and make lambdas -/
def TL (K : PySem.W.Frag) : List (Addr × Str) := if ((TLc K).map (·.1)).Nodup then TLc K else []
/-- the head's look: just these defs make lambdas -/
def lamB (K : PySem.W.Frag) (tf : List He.Defn) : Bool := decide (TL K = tf.map (tlOf K))
theorem lamB_in {K : PySem.W.Frag} {tf : List He.Defn} (h : lamB K tf = true) {d : He.Defn} (hd : d ∈ tf) : tlOf K d ∈ TL K := by
  rw [of_decide_eq_true h]; exact List.mem_map_of_mem hd
theorem lamB_at {K : PySem.W.Frag} {tf : List He.Defn} (h : lamB K tf = true) {p : Addr × Str} (hp : p ∈ TL K) : ∃ d ∈ tf, p = tlOf K d := by
  rw [of_decide_eq_true h] at hp
  obtain ⟨d, hd, e⟩ := List.mem_map.mp hp
  exact ⟨d, hd, e.symm⟩
theorem RepM.kin {K : PySem.W.Frag} {F H : Hp} {m : M} {v : V} {fp : List Addr} (h : RepM K F H m v fp) : ∀ b ∈ fp, ∃ o, H b = some o ∧ Kin o := by
  refine RepM.rec (K := K) (F := F) (H := H) (motive_1 := fun m v fp _ => ∀ b ∈ fp, ∃ o, H b = some o ∧ Kin o) (motive_2 := fun ms vs fp _ => ∀ b ∈ fp, ∃ o, H b = some o ∧ Kin o)
    ?_ ?_ ?_ ?_ ?_ ?_ ?_ ?_ h
  · exact fun _ b hb => by cases hb
  · exact fun a f _ n ih b hb => by
      rcases List.mem_cons.mp hb with rfl | hb
      · exact ⟨_, a, .inl ⟨_, rfl⟩⟩
      · exact ih b hb
  · exact fun a _ ih b hb => ih b hb
  · exact fun a f _ _ n ih b hb => by
      rcases List.mem_cons.mp hb with rfl | hb
      · exact ⟨_, a, .inr (.inl ⟨_, rfl⟩)⟩
      · exact ih b hb
  · exact fun a f _ _ n ih b hb => by
      rcases List.mem_cons.mp hb with rfl | hb
      · exact ⟨_, a, .inr (.inr (.inl ⟨_, rfl⟩))⟩
      · exact ih b hb
  · exact fun a f _ _ n ih b hb => by
      rcases List.mem_cons.mp hb with rfl | hb
      · exact ⟨_, a, .inr (.inr (.inr ⟨_, _, _, rfl⟩))⟩
      · exact ih b hb
  · exact fun b hb => by cases hb
  · exact fun _ _ dj i1 i2 b hb => by
      rcases List.mem_append.mp hb with hb | hb
      · exact i1 b hb
      · exact i2 b hb
theorem RepMs.kin {K : PySem.W.Frag} {F H : Hp} {ms : List M} {vs : List V} {fp : List Addr} (h : RepMs K F H ms vs fp) : ∀ b ∈ fp, ∃ o, H b = some o ∧ Kin o := by
  induction ms generalizing vs fp with
  | nil => cases h; intro b hb; cases hb
  | cons m ms ih => cases h with | cons a b dj =>
    intro b hb
    rcases List.mem_append.mp hb with hb | hb
    · exact a.kin b hb
    · exact ih (by assumption) b hb
theorem RepM.nt {K : PySem.W.Frag} {F H : Hp} {m : M} {v : V} {fp : List Addr} (h : RepM K F H m v fp) {b : Addr} {o : HO} (hb : b ∈ fp) (ho : H b = some o) : NT o := by
  obtain ⟨u, hu, k⟩ := h.kin b hb
  rw [ho] at hu; cases hu
  exact k.nt
theorem RepMs.nt {K : PySem.W.Frag} {F H : Hp} {m : List M} {v : List V} {fp : List Addr} (h : RepMs K F H m v fp) {b : Addr} {o : HO} (hb : b ∈ fp) (ho : H b = some o) : NT o := by
  obtain ⟨u, hu, k⟩ := h.kin b hb
  rw [ho] at hu; cases hu
  exact k.nt
mutual
def frz : M → Option D
  | .fz d => some d
  | .lst ms => match frzs ms with
    | some ds => some (.lst ds)
    | none => none
  | .tup ms => match frzs ms with
    | some ds => some (.tup ds)
    | none => none
  | .dK kvs => match frzK kvs with
    | some ds => some (.dK ds)
    | none => none
  | .dT kvs => match frzT kvs with
    | some ds => some (.dT ds)
    | none => none
  | .ins C fs => match frzF fs with
    | some ds => some (.ins C ds)
    | none => none
def frzs : List M → Option (List D)
  | [] => some []
  | m :: ms => match frz m with
    | some d => match frzs ms with
      | some ds => some (d :: ds)
      | none => none
    | none => none
def frzK : List (Key × M) → Option (List (Key × D))
  | [] => some []
  | (k, m) :: ms => match frz m with
    | some d => match frzK ms with
      | some ds => some ((k, d) :: ds)
      | none => none
    | none => none
def frzT : List (List Key × M) → Option (List (List Key × D))
  | [] => some []
  | (k, m) :: ms => match frz m with
    | some d => match frzT ms with
      | some ds => some ((k, d) :: ds)
      | none => none
    | none => none
def frzF : List (Str × M) → Option (List (Str × D))
  | [] => some []
  | (k, m) :: ms => match frz m with
    | some d => match frzF ms with
      | some ds => some ((k, d) :: ds)
      | none => none
    | none => none
end
theorem frzK_vals : ∀ {kvs : List (Key × M)} {ds : List (Key × D)}, frzK kvs = some ds → kvs.map (·.1) = ds.map (·.1) ∧ frzs (kvs.map (·.2)) = some (ds.map (·.2))
  | [], ds, h => by rw [frzK] at h; cases h; exact ⟨rfl, by simp [frzs]⟩
  | (k, m) :: r, ds, h => by
    rw [frzK] at h
    cases e : frz m with
    | none => rw [e] at h; cases h
    | some d =>
      rw [e] at h
      cases e2 : frzK r with
      | none => rw [e2] at h; cases h
      | some es =>
        rw [e2] at h; cases h
        obtain ⟨a, b⟩ := frzK_vals e2
        exact ⟨by simp [a], by simp only [List.map_cons, frzs, e, b]⟩
theorem frzT_vals : ∀ {kvs : List (List Key × M)} {ds : List (List Key × D)}, frzT kvs = some ds → kvs.map (·.1) = ds.map (·.1) ∧ frzs (kvs.map (·.2)) = some (ds.map (·.2))
  | [], ds, h => by rw [frzT] at h; cases h; exact ⟨rfl, by simp [frzs]⟩
  | (k, m) :: r, ds, h => by
    rw [frzT] at h
    cases e : frz m with
    | none => rw [e] at h; cases h
    | some d =>
      rw [e] at h
      cases e2 : frzT r with
      | none => rw [e2] at h; cases h
      | some es =>
        rw [e2] at h; cases h
        obtain ⟨a, b⟩ := frzT_vals e2
        exact ⟨by simp [a], by simp only [List.map_cons, frzs, e, b]⟩
theorem frzF_vals : ∀ {kvs : List (Str × M)} {ds : List (Str × D)}, frzF kvs = some ds → kvs.map (·.1) = ds.map (·.1) ∧ frzs (kvs.map (·.2)) = some (ds.map (·.2))
  | [], ds, h => by rw [frzF] at h; cases h; exact ⟨rfl, by simp [frzs]⟩
  | (k, m) :: r, ds, h => by
    rw [frzF] at h
    cases e : frz m with
    | none => rw [e] at h; cases h
    | some d =>
      rw [e] at h
      cases e2 : frzF r with
      | none => rw [e2] at h; cases h
      | some es =>
        rw [e2] at h; cases h
        obtain ⟨a, b⟩ := frzF_vals e2
        exact ⟨by simp [a], by simp only [List.map_cons, frzs, e, b]⟩
theorem RepM.frozen {K : PySem.W.Frag} {F H F' : Hp} {m : M} {v : V} {fp : List Addr} {d : D} (h : RepM K F H m v fp) (e : Sub F F') (hF : ∀ b ∈ fp, F' b = H b) (hd : frz m = some d) : Rep K F' v d := by
  refine RepM.rec (K := K) (F := F) (H := H) (motive_1 := fun m v fp _ => ∀ d, (∀ b ∈ fp, F' b = H b) → frz m = some d → Rep K F' v d) (motive_2 := fun ms vs fp _ => ∀ ds, (∀ b ∈ fp, F' b = H b) → frzs ms = some ds → Reps K F' vs ds)
    ?_ ?_ ?_ ?_ ?_ ?_ ?_ ?_ h d hF hd
  · intro d v r d' _ hd
    rw [frz] at hd; cases hd
    exact r.mono e
  · intro p vs ms fp a b _ n ih d hF hd
    rw [frz] at hd
    cases e2 : frzs ms with
    | none => rw [e2] at hd; cases hd
    | some ds =>
      rw [e2] at hd; cases hd
      exact .lst (by rw [hF _ (List.mem_cons_self ..)]; exact a) (ih ds (fun b hb => hF b (List.mem_cons_of_mem _ hb)) e2)
  · intro p vs ms fp a _ ih d hF hd
    rw [frz] at hd
    cases e2 : frzs ms with
    | none => rw [e2] at hd; cases hd
    | some ds =>
      rw [e2] at hd; cases hd
      exact .tup (e _ _ a) (ih ds hF e2)
  · intro p kvs ms fp a b c _ n ih d hF hd
    rw [frz] at hd
    cases e2 : frzK ms with
    | none => rw [e2] at hd; cases hd
    | some ds =>
      rw [e2] at hd; cases hd
      obtain ⟨k1, k2⟩ := frzK_vals e2
      exact .dK (by rw [hF _ (List.mem_cons_self ..)]; exact a) (c.trans k1) (ih _ (fun b hb => hF b (List.mem_cons_of_mem _ hb)) k2)
  · intro p kvs ms fp a b c _ n ih d hF hd
    rw [frz] at hd
    cases e2 : frzT ms with
    | none => rw [e2] at hd; cases hd
    | some ds =>
      rw [e2] at hd; cases hd
      obtain ⟨k1, k2⟩ := frzT_vals e2
      exact .dT (by rw [hF _ (List.mem_cons_self ..)]; exact a) (c.trans k1) (ih _ (fun b hb => hF b (List.mem_cons_of_mem _ hb)) k2)
  · intro p C dx fs ms fp a b c _ n ih d hF hd
    rw [frz] at hd
    cases e2 : frzF ms with
    | none => rw [e2] at hd; cases hd
    | some ds =>
      rw [e2] at hd; cases hd
      obtain ⟨k1, k2⟩ := frzF_vals e2
      exact .ins (by rw [hF _ (List.mem_cons_self ..)]; exact a) (c.trans k1) (ih _ (fun b hb => hF b (List.mem_cons_of_mem _ hb)) k2)
  · intro ds _ hd
    rw [frzs] at hd; cases hd
    exact .nil
  · intro m v ms vs fp fq _ _ dj i1 i2 ds hF hd
    rw [frzs] at hd
    cases e1 : frz m with
    | none => rw [e1] at hd; cases hd
    | some d =>
      rw [e1] at hd
      cases e2 : frzs ms with
      | none => rw [e2] at hd; cases hd
      | some es =>
        rw [e2] at hd; cases hd
        exact .cons (i1 d (fun b hb => hF b (List.mem_append_left _ hb)) e1) (i2 es (fun b hb => hF b (List.mem_append_right _ hb)) e2)
/-- F with what H holds at fp -/
def addF (F H : Hp) (fp : List Addr) : Hp := fun b => if b ∈ fp then H b else F b
theorem addF_in {F H : Hp} {fp : List Addr} {b : Addr} (h : b ∈ fp) : addF F H fp b = H b := by unfold addF; rw [if_pos h]
theorem addF_out {F H : Hp} {fp : List Addr} {b : Addr} (h : b ∉ fp) : addF F H fp b = F b := by unfold addF; rw [if_neg h]
theorem addF_sub {F H : Hp} {fp : List Addr} (h : ∀ b ∈ fp, F b = none) : Sub F (addF F H fp) := fun b o e => by
  by_cases hb : b ∈ fp
  · rw [h b hb] at e; cases e
  · rw [addF_out hb]; exact e
theorem addF_in_H {F H : Hp} {fp : List Addr} (h : Sub F H) : Sub (addF F H fp) H := fun b o e => by
  by_cases hb : b ∈ fp
  · rw [addF_in hb] at e; exact e
  · rw [addF_out hb] at e; exact h b o e
/-- tables of code objects: F has none, those of H are the known ones -/
structure TOk (K : PySem.W.Frag) (F H : Hp) : Prop where
  nt : ∀ b ps, F b ≠ some (.tbl ps)
  tb : ∀ p ∈ TL K, LamX.TabS H p.1 p.2
  ot : ∀ b ps, H b = some (.tbl ps) → ∃ p ∈ TL K, p.1 = b
  cd : ∀ p ∈ TL K, ∀ ps, H p.1 = some (.tbl ps) → ∀ (pos : Pos) (cv : Value), codeAmong pos ps.toList = some cv → ∃ c, cv = .ref c ∧ F c = some (LamX.CodeO c p.2)
  tp : ∀ b vs, H b = some (.tup vs) → F b = some (.tup vs)
theorem TOk.sub {K : PySem.W.Frag} {F F' H : Hp} (t : TOk K F H) (s : Sub F F') (nt : ∀ b ps, F' b ≠ some (.tbl ps)) : TOk K F' H := ⟨nt, t.tb, t.ot, fun p hp ps h pos cv hc => let ⟨c, e1, e2⟩ := t.cd p hp ps h pos cv hc; ⟨c, e1, s _ _ e2⟩, fun b vs h => s _ _ (t.tp b vs h)⟩
structure TTr (K : PySem.W.Frag) (F H F' H' : Hp) : Prop where
  tbl : ∀ b ps, H b = some (.tbl ps) → ∃ ps', H' b = some (.tbl ps')
  ok : TOk K F H → TOk K F' H'
structure Ext (K : PySem.W.Frag) (F H : Hp) (A : Addr → Prop) (F' H' : Hp) (A' : Addr → Prop) : Prop where
  ff : Sub F F'
  keep : ∀ b o, H b = some o → ¬ A b → NT o → H' b = some o
  own : ∀ b, A' b → A b ∨ H b = none
  fz : ∀ b o, F' b = some o → F b = some o ∨ A b ∨ H b = none
  tt : TTr K F H F' H'
theorem TTr.same {K : PySem.W.Frag} {F F' H : Hp} (s : Sub F F') (nt : (∀ b ps, F b ≠ some (.tbl ps)) → ∀ b ps, F' b ≠ some (.tbl ps)) : TTr K F H F' H := ⟨fun _ ps h => ⟨ps, h⟩, fun t => t.sub s (nt t.nt)⟩
theorem Ext.refl {K : PySem.W.Frag} {F H : Hp} {A A' : Addr → Prop} (h : ∀ b, A' b → A b) : Ext K F H A F H A' := ⟨Sub.refl _, fun _ _ h _ _ => h, fun b a => .inl (h b a), fun _ _ h => .inl h, .same (Sub.refl _) fun h => h⟩
theorem Ext.back {K : PySem.W.Frag} {F H F' H' : Hp} {A A' : Addr → Prop} (e : Ext K F H A F' H' A') {b : Addr} (h : H' b = none) : A b ∨ H b = none := by
  by_cases a : A b
  · exact .inl a
  · cases q : H b with
    | none => exact .inr rfl
    | some o =>
      by_cases n : NT o
      · rw [e.keep b o q a n] at h; cases h
      · obtain ⟨ps, rfl⟩ : ∃ ps, o = .tbl ps := Classical.not_forall.mp n |>.imp fun ps z => Classical.not_not.mp z
        obtain ⟨ps', q'⟩ := e.tt.tbl b ps q
        rw [q'] at h; cases h
theorem TTr.trans {K : PySem.W.Frag} {F H F1 H1 F2 H2 : Hp} (a : TTr K F H F1 H1) (b : TTr K F1 H1 F2 H2) : TTr K F H F2 H2 := ⟨fun c ps h => let ⟨ps', h'⟩ := a.tbl c ps h; b.tbl c ps' h', fun t => b.ok (a.ok t)⟩
theorem Ext.trans {K : PySem.W.Frag} {F H F1 H1 F2 H2 : Hp} {A A1 B A2 C : Addr → Prop} (e1 : Ext K F H A F1 H1 A1) (e2 : Ext K F1 H1 B F2 H2 A2) (hB : ∀ b, B b → A1 b) (hC : ∀ b, C b → A2 b ∨ A1 b) : Ext K F H A F2 H2 C where
  ff := e1.ff.trans e2.ff
  keep := fun b o h a n => e2.keep b o (e1.keep b o h a n) (fun hb => by
    rcases e1.own b (hB b hb) with q | q
    · exact a q
    · rw [q] at h; cases h) n
  own := fun b c => by
    rcases hC b c with q | q
    · rcases e2.own b q with q | q
      · exact e1.own b (hB b q)
      · exact e1.back q
    · exact e1.own b q
  fz := fun b o h => by
    rcases e2.fz b o h with q | q | q
    · exact e1.fz b o q
    · exact .inr (e1.own b (hB b q))
    · exact .inr (e1.back q)
  tt := e1.tt.trans e2.tt
theorem Ext.weak {K : PySem.W.Frag} {F H F1 H1 : Hp} {A A1 C : Addr → Prop} (e1 : Ext K F H A F1 H1 A1) (hC : ∀ b, C b → A1 b) : Ext K F H A F1 H1 C := ⟨e1.ff, e1.keep, fun b c => e1.own b (hC b c), e1.fz, e1.tt⟩
/-- a larger set at the start -/
theorem Ext.wide {K : PySem.W.Frag} {F H F1 H1 : Hp} {A A1 C : Addr → Prop} (e1 : Ext K F H A F1 H1 A1) (hC : ∀ b, A b → C b) : Ext K F H C F1 H1 A1 :=
  ⟨e1.ff, fun b o h c => e1.keep b o h fun a => c (hC b a), fun b c => (e1.own b c).imp (hC b) id, fun b o h => (e1.fz b o h).imp id fun q => q.imp (hC b) id, e1.tt⟩
theorem pendM {K : PySem.W.Frag} {F1 H1 F2 H2 : Hp} {m : M} {v : V} {fp : List Addr} {B A2 : Addr → Prop} (h : RepM K F1 H1 m v fp) (hB : ∀ b ∈ fp, ¬ B b) (e : Ext K F1 H1 B F2 H2 A2) : RepM K F2 H2 m v fp ∧ ∀ b ∈ fp, ¬ A2 b := by
  have l := h.live
  refine ⟨h.frame e.ff (fun b hb => ?_) (fun b hb => ?_), fun b hb a => ?_⟩
  · obtain ⟨⟨o, ho⟩, _⟩ := l b hb
    rw [e.keep b o ho (hB b hb) (h.nt hb ho), ho]
  · obtain ⟨⟨o, ho⟩, hf⟩ := l b hb
    cases q : F2 b with
    | none => rfl
    | some u =>
      rcases e.fz b u q with z | z | z
      · rw [hf] at z; cases z
      · exact absurd z (hB b hb)
      · rw [ho] at z; cases z
  · obtain ⟨⟨o, ho⟩, _⟩ := l b hb
    rcases e.own b a with z | z
    · exact hB b hb z
    · rw [ho] at z; cases z
/-- only what is frozen grows -/
theorem Ext.same {K : PySem.W.Frag} {F F' H : Hp} {A A' : Addr → Prop} (ff : Sub F F') (own : ∀ b, A' b → A b ∨ H b = none) (fz : ∀ b o, F' b = some o → F b = some o ∨ A b ∨ H b = none) (nt : (∀ b ps, F b ≠ some (.tbl ps)) → ∀ b ps, F' b ≠ some (.tbl ps)) : Ext K F H A F' H A' :=
  ⟨ff, fun _ _ h _ _ => h, own, fz, .same ff nt⟩
theorem TTr.new {K : PySem.W.Frag} {F F' H : Hp} {p : Addr} {o : HO} (hp : H p = none) (ho : NT o) (ht : ∀ vs, o = .tup vs → F' p = some (.tup vs)) (s : Sub F F') (nt : (∀ b ps, F b ≠ some (.tbl ps)) → ∀ b ps, F' b ≠ some (.tbl ps)) : TTr K F H F' (upd H p o) :=
  ⟨fun b ps h => ⟨ps, by rw [upd_ne (ne_of_none h hp)]; exact h⟩, fun t => ⟨nt t.nt, fun q hq => (t.tb q hq).ext fun b u e => by rw [upd_ne (ne_of_none e hp)]; exact e, fun b ps e => by
    by_cases z : b = p
    · rw [z, upd_same] at e; exact (ho ps (Option.some.inj e)).elim
    · rw [upd_ne z] at e; exact t.ot b ps e, fun q hq ps h pos cv hc => by
    by_cases z : q.1 = p
    · rw [z, upd_same] at h; exact (ho ps (Option.some.inj h)).elim
    · rw [upd_ne z] at h
      obtain ⟨c, e1, e2⟩ := t.cd q hq ps h pos cv hc
      exact ⟨c, e1, s _ _ e2⟩, fun b vs e => by
    by_cases z : b = p
    · rw [z, upd_same] at e; rw [z]; exact ht vs (Option.some.inj e)
    · rw [upd_ne z] at e; exact s _ _ (t.tp b vs e)⟩⟩
/-- a new object comes -/
theorem Ext.new {K : PySem.W.Frag} {F H : Hp} {A : Addr → Prop} {p : Addr} {o : HO} (hp : H p = none) (ho : NT o := by exact fun _ h => by cases h) (ht : ∀ vs, o ≠ .tup vs := by exact fun _ h => by cases h) : Ext K F H A F (upd H p o) (fun b => A b ∨ b = p) where
  ff := Sub.refl _
  keep := fun b u h _ _ => by rw [upd_ne (ne_of_none h hp)]; exact h
  own := fun b h => h.imp id fun e => by rw [e]; exact hp
  fz := fun _ _ h => .inl h
  tt := .new hp ho (fun vs e => (ht vs e).elim) (Sub.refl _) fun h => h
/-- a new object comes and is frozen -/
theorem Ext.newF {K : PySem.W.Frag} {F H : Hp} {A : Addr → Prop} {p : Addr} {o : HO} (hF : Sub F H) (hp : H p = none) (ho : NT o := by exact fun _ h => by cases h) : Ext K F H A (upd F p o) (upd H p o) A where
  ff := fun b u h => by rw [upd_ne (ne_of_none (hF b u h) hp)]; exact h
  keep := fun b u h _ _ => by rw [upd_ne (ne_of_none h hp)]; exact h
  tt := .new hp ho (fun vs e => by rw [upd_same, e]) (fun b u h => by rw [upd_ne (ne_of_none (hF b u h) hp)]; exact h) fun h b ps e => by
    by_cases z : b = p
    · rw [z, upd_same] at e; cases e; exact ho _ rfl
    · rw [upd_ne z] at e; exact h b ps e
  own := fun b h => .inl h
  fz := fun b u h => by
    by_cases e : b = p
    · rw [e]; exact .inr (.inr hp)
    · rw [upd_ne e] at h; exact .inl h
theorem sub_upd {F H : Hp} {p : Addr} {o : HO} (hF : Sub F H) : Sub (upd F p o) (upd H p o) := fun b u h => by
  by_cases e : b = p
  · rw [e, upd_same] at h ⊢; exact h
  · rw [upd_ne e] at h ⊢; exact hF b u h
theorem sub_new {F H : Hp} {p : Addr} {o : HO} (hF : Sub F H) (hp : H p = none) : Sub F (upd H p o) := fun b u h => by
  rw [upd_ne (ne_of_none (hF b u h) hp)]; exact hF b u h
theorem sub_none {F H : Hp} {p : Addr} (hF : Sub F H) (hp : H p = none) : F p = none := by
  cases q : F p with
  | none => rfl
  | some o => rw [hF p o q] at hp; cases hp
structure REnv (K : PySem.W.Frag) (F H : Hp) (σ : St) (env : E) (fps : Nat → List Addr) : Prop where
  fr : Sub F H
  len : env.length = σ.length
  got : ∀ (i : Nat) (m : M), env[i]? = some (some m) → ∃ v, σ[i]? = some (some v) ∧ RepM K F H m v (fps i)
  nil : ∀ i, (∀ m, env[i]? ≠ some (some m)) → fps i = []
  dj : ∀ i j, i ≠ j → ∀ b ∈ fps i, b ∉ fps j
  tt : TOk K F H
def Own (fps : Nat → List Addr) (b : Addr) : Prop := ∃ i, b ∈ fps i
theorem REnv.live {K : PySem.W.Frag} {F H : Hp} {σ : St} {env : E} {fps : Nat → List Addr} (R : REnv K F H σ env fps) {b : Addr} (h : Own fps b) : (∃ o, H b = some o) ∧ F b = none := by
  obtain ⟨i, hi⟩ := h
  by_cases q : ∃ m, env[i]? = some (some m)
  · obtain ⟨m, e⟩ := q
    obtain ⟨v, _, r⟩ := R.got i m e
    exact r.live b hi
  · rw [R.nil i (fun m e => q ⟨m, e⟩)] at hi
    cases hi
theorem REnv.kin {K : PySem.W.Frag} {F H : Hp} {σ : St} {env : E} {fps : Nat → List Addr} (R : REnv K F H σ env fps) {b : Addr} (h : Own fps b) : ∃ o, H b = some o ∧ Kin o := by
  obtain ⟨i, hi⟩ := h
  by_cases q : ∃ m, env[i]? = some (some m)
  · obtain ⟨m, e⟩ := q
    obtain ⟨v, _, r⟩ := R.got i m e
    exact r.kin b hi
  · rw [R.nil i (fun m e => q ⟨m, e⟩)] at hi
    cases hi
/-- slots over a step that does not touch what they own -/
theorem REnv.frame {K : PySem.W.Frag} {F H F' H' : Hp} {σ : St} {env : E} {fps : Nat → List Addr} {B A2 : Addr → Prop} (R : REnv K F H σ env fps) (hB : ∀ b, Own fps b → ¬ B b) (e : Ext K F H B F' H' A2) (fr : Sub F' H') : REnv K F' H' σ env fps ∧ ∀ b, Own fps b → ¬ A2 b := by
  refine ⟨⟨fr, R.len, fun i m h => ?_, R.nil, R.dj, e.tt.ok R.tt⟩, fun b hb a => ?_⟩
  · obtain ⟨v, hv, r⟩ := R.got i m h
    exact ⟨v, hv, (pendM r (fun b hb => hB b ⟨i, hb⟩) e).1⟩
  · obtain ⟨⟨o, ho⟩, _⟩ := R.live hb
    rcases e.own b a with z | z
    · exact hB b hb z
    · rw [ho] at z; cases z
/-- one slot is stored -/
theorem REnv.store {K : PySem.W.Frag} {F H : Hp} {σ : St} {env : E} {fps : Nat → List Addr} {i : Nat} {m : M} {v : V} {fp : List Addr} (R : REnv K F H σ env fps) (hi : i < σ.length) (r : RepM K F H m v fp) (d : ∀ b ∈ fp, ¬ Own fps b) :
    REnv K F H (σ.set i (some v)) (env.set i (some m)) (fun j => if j = i then fp else fps j) := by
  refine ⟨R.fr, by simp [R.len], fun j n h => ?_, fun j h => ?_, fun a c hac b hb => ?_, R.tt⟩
  · by_cases e : j = i
    · subst e
      rw [List.getElem?_set_self (by rw [R.len]; exact hi)] at h; cases h
      exact ⟨v, List.getElem?_set_self hi, by simp only [if_true]; exact r⟩
    · rw [List.getElem?_set_ne (fun q => e q.symm)] at h
      obtain ⟨w, hw, rw'⟩ := R.got j n h
      refine ⟨w, by rw [List.getElem?_set_ne (fun q => e q.symm)]; exact hw, ?_⟩
      simp only [if_neg e]; exact rw'
  · by_cases e : j = i
    · subst e
      exact absurd (List.getElem?_set_self (by rw [R.len]; exact hi)) (h m)
    · simp only [if_neg e]
      exact R.nil j fun n q => h n (by rw [List.getElem?_set_ne (fun q => e q.symm)]; exact q)
  · by_cases e1 : a = i
    · subst e1
      simp only [if_true] at hb
      have e2 : ¬ c = a := fun q => hac q.symm
      simp only [if_neg e2]
      exact fun q => d b hb ⟨c, q⟩
    · simp only [if_neg e1] at hb
      by_cases e2 : c = i
      · subst e2
        simp only [if_true]
        exact fun q => d b q ⟨a, hb⟩
      · simp only [if_neg e2]
        exact R.dj a c hac b hb
/-- another reading of one slot's content, the slots as they are -/
theorem REnv.put {K : PySem.W.Frag} {F H : Hp} {σ : St} {env : E} {fps : Nat → List Addr} {i : Nat} {m : M} {v : V} {fp : List Addr} (R : REnv K F H σ env fps) (hv : σ[i]? = some (some v)) (r : RepM K F H m v fp) (d : ∀ b ∈ fp, ∀ j, j ≠ i → b ∉ fps j) :
    REnv K F H σ (env.set i (some m)) (fun j => if j = i then fp else fps j) := by
  have hi : i < σ.length := (List.getElem?_eq_some_iff.mp hv).1
  refine ⟨R.fr, by simp [R.len], fun j n h => ?_, fun j h => ?_, fun a c hac b hb => ?_, R.tt⟩
  · by_cases e : j = i
    · subst e
      rw [List.getElem?_set_self (by rw [R.len]; exact hi)] at h; cases h
      exact ⟨v, hv, by simp only [if_true]; exact r⟩
    · rw [List.getElem?_set_ne (fun q => e q.symm)] at h
      obtain ⟨w, hw, rw'⟩ := R.got j n h
      refine ⟨w, hw, ?_⟩
      simp only [if_neg e]; exact rw'
  · by_cases e : j = i
    · subst e
      exact absurd (List.getElem?_set_self (by rw [R.len]; exact hi)) (h m)
    · simp only [if_neg e]
      exact R.nil j fun n q => h n (by rw [List.getElem?_set_ne (fun q => e q.symm)]; exact q)
  · by_cases e1 : a = i
    · subst e1
      simp only [if_true] at hb
      have e2 : ¬ c = a := fun q => hac q.symm
      simp only [if_neg e2]
      exact d b hb c e2
    · simp only [if_neg e1] at hb
      by_cases e2 : c = i
      · subst e2
        simp only [if_true]
        exact fun q => d b q a e1 hb
      · simp only [if_neg e2]
        exact R.dj a c hac b hb
/-- a slot is forgotten -/
theorem REnv.drop {K : PySem.W.Frag} {F H : Hp} {σ : St} {env : E} {fps : Nat → List Addr} (R : REnv K F H σ env fps) (i : Nat) :
    REnv K F H σ (env.set i none) (fun j => if j = i then [] else fps j) := by
  refine ⟨R.fr, by simp [R.len], fun j n h => ?_, fun j h => ?_, fun a c hac b hb => ?_, R.tt⟩
  · by_cases e : j = i
    · subst e
      by_cases hi : j < env.length
      · rw [List.getElem?_set_self hi] at h; cases h
      · rw [List.getElem?_eq_none (by simpa using hi)] at h; cases h
    · rw [List.getElem?_set_ne (fun q => e q.symm)] at h
      obtain ⟨w, hw, rw'⟩ := R.got j n h
      refine ⟨w, hw, ?_⟩
      simp only [if_neg e]; exact rw'
  · by_cases e : j = i
    · simp only [if_pos e]
    · simp only [if_neg e]
      exact R.nil j fun n q => h n (by rw [List.getElem?_set_ne (fun q => e q.symm)]; exact q)
  · by_cases e1 : a = i
    · simp only [if_pos e1] at hb; cases hb
    · simp only [if_neg e1] at hb
      by_cases e2 : c = i
      · simp only [if_pos e2]; exact fun q => by cases q
      · simp only [if_neg e2]
        exact R.dj a c hac b hb
/-- more is frozen: what is owned by nobody here -/
theorem REnv.more {K : PySem.W.Frag} {F F' H : Hp} {σ : St} {env : E} {fps : Nat → List Addr} (R : REnv K F H σ env fps) (e : Sub F F') (fr : Sub F' H) (hn : ∀ b, Own fps b → F' b = none) (ht : ∀ b ps, F' b ≠ some (.tbl ps)) : REnv K F' H σ env fps :=
  ⟨fr, R.len, fun i m h => let ⟨v, hv, r⟩ := R.got i m h; ⟨v, hv, r.frame e (fun _ _ => rfl) fun b hb => hn b ⟨i, hb⟩⟩, R.nil, R.dj, R.tt.sub e ht⟩
theorem addF_nt {K : PySem.W.Frag} {F H : Hp} {m : M} {v : V} {fp : List Addr} (h : RepM K F H m v fp) (hF : ∀ b ps, F b ≠ some (.tbl ps)) : ∀ b ps, addF F H fp b ≠ some (.tbl ps) := fun b ps e => by
  by_cases hb : b ∈ fp
  · rw [addF_in hb] at e
    exact h.nt hb e ps rfl
  · rw [addF_out hb] at e
    exact hF b ps e
end Ink
set_option Elab.async false
set_option linter.all false
set_option maxRecDepth 100000
namespace Ink
open PySem L2
/-- an expression's result: a thing made on the way, or what a slot holds -/
inductive Av where
  | tm (m : M) | sl (i : Nat)
/-- an exception: its class, its own fields -/
structure Xc where
  cls : Str
  fs : Option (List (Str × D))
inductive Out (α : Type) where
  | ok (a : α) (env : E)
  | ex (x : Xc) (env : E)
inductive OutP where
  | ok (m : M) (ms : E)
  | ex (x : Xc) (ms : E)
abbrev FE := E → Option (Out Av)
abbrev FA := E → Option (Out (List Av))
abbrev FT := E → Option (Out Bool)
abbrev FP := List M → Option OutP
section
variable (K : PySem.W.Frag) (F H : Hp) (σ : St)
def RepA : Av → V → List Addr → Prop
  | .tm m, v, fp => RepM K F H m v fp
  | .sl i, v, fp => σ[i]? = some (some v) ∧ fp = []
def RepX (x : Xc) (cls : Value) (d : Option Addr) : Prop := cls = .ref (He.ga K x.cls) ∧ match x.fs, d with
  | none, none => True
  | some fs, some p => ∃ vs, H p = some (.xd vs) ∧ vs.map (·.1) = fs.map (·.1) ∧ Reps K F (vs.map (·.2)) (fs.map (·.2))
  | _, _ => False
structure RepAs (as : List Av) (vs : List V) (fpA : Nat → List Addr) : Prop where
  len : vs.length = as.length
  got : ∀ (j : Nat) (a : Av), as[j]? = some a → ∃ v, vs[j]? = some v ∧ RepA K F H σ a v (fpA j)
  nil : ∀ j, as.length ≤ j → fpA j = []
  dj : ∀ i j, i ≠ j → ∀ b ∈ fpA i, b ∉ fpA j
end
section
variable (K : PySem.W.Frag) (W : WX) (σ : St) (F H : Hp) (A : Addr → Prop)
/-- what is wanted behind a result -/
def PV (a : Av) (env' : E) (Q : VK) : Prop := ∀ v F' H' fps' fp, REnv K F' H' σ env' fps' → RepA K F' H' σ a v fp → (∀ b ∈ fp, ¬ Own fps' b) → Ext K F H A F' H' (fun b => Own fps' b ∨ b ∈ fp) → Q v H'
def PX (x : Xc) (env' : E) : Prop := ∀ cls d F' H' fps', REnv K F' H' σ env' fps' → RepX K F' H' x cls d → Ext K F H A F' H' (Own fps') → W cls d σ H'
def PVs (as : List Av) (env' : E) (Q : List V → Hp → Prop) : Prop := ∀ vs F' H' fps' fpA, REnv K F' H' σ env' fps' → RepAs K F' H' σ as vs fpA → (∀ b, Own fpA b → ¬ Own fps' b) → Ext K F H A F' H' (fun b => Own fps' b ∨ Own fpA b) → Q vs H'
def PB (b : Bool) (env' : E) (Q : Bool → Hp → Prop) : Prop := ∀ F' H' fps', REnv K F' H' σ env' fps' → Ext K F H A F' H' (Own fps') → Q b H'
def poE (o : Option (Out Av)) (Q : VK) : Prop := match o with
  | none => False
  | some (.ok a env') => PV K σ F H A a env' Q
  | some (.ex x env') => PX K W σ F H A x env'
def poA (o : Option (Out (List Av))) (Q : List V → Hp → Prop) : Prop := match o with
  | none => False
  | some (.ok a env') => PVs K σ F H A a env' Q
  | some (.ex x env') => PX K W σ F H A x env'
def poT (o : Option (Out Bool)) (Q : Bool → Hp → Prop) : Prop := match o with
  | none => False
  | some (.ok a env') => PB K σ F H A a env' Q
  | some (.ex x env') => PX K W σ F H A x env'
end
section
variable (K : PySem.W.Frag) (W : WX)
def rE (f : FE) : TE := fun σ H Q => ∃ F env fps, REnv K F H σ env fps ∧ poE K W σ F H (Own fps) (f env) Q
def rA (f : FA) : TA := fun σ H Q => ∃ F env fps, REnv K F H σ env fps ∧ poA K W σ F H (Own fps) (f env) Q
def rT (f : FT) : TT := fun σ H Q => ∃ F env fps, REnv K F H σ env fps ∧ poT K W σ F H (Own fps) (f env) Q
end
theorem PE_mono {X : Cx} {e : Expr} {t t' : TE} (h : PE X e t) (m : ∀ σ H Q, t' σ H Q → t σ H Q) : PE X e t' := ⟨fun pins s σ H Q I q => h.run pins s σ H Q I (m _ _ _ q)⟩
theorem PT_mono {X : Cx} {e : Expr} {t t' : TT} (h : PT X e t) (m : ∀ σ H Q, t' σ H Q → t σ H Q) : PT X e t' := ⟨fun pins s σ H Q I q => h.run pins s σ H Q I (m _ _ _ q)⟩
theorem PW_mono {X : Cx} {e : Expr} {t t' : TT} (h : PW X e t) (m : ∀ σ H Q, t' σ H Q → t σ H Q) : PW X e t' := ⟨fun wh pins s σ H Q I q => h.run wh pins s σ H Q I (m _ _ _ q)⟩
theorem PA_mono {X : Cx} {es : List Expr} {t t' : TA} (h : PA X es t) (m : ∀ σ H Q, t' σ H Q → t σ H Q) : PA X es t' := ⟨fun pos pins s σ H Q I q => h.run pos pins s σ H Q I (m _ _ _ q)⟩
theorem PS_mono {X : Cx} {st : Stmt} {t t' : TS} (h : PS X st t) (m : ∀ D σ H, t' D σ H → t D σ H) : PS X st t' := ⟨fun pins s σ H D I q => h.run pins s σ H D I (m _ _ _ q)⟩
theorem PSs_mono {X : Cx} {st : List Stmt} {t t' : TS} (h : PSs X st t) (m : ∀ D σ H, t' D σ H → t D σ H) : PSs X st t' := ⟨fun pins s σ H D I q => h.run pins s σ H D I (m _ _ _ q)⟩
theorem PI_mono {X : Cx} {tg it : Expr} {t t' : TI} (h : PI X tg it t) (m : ∀ σ H R, t' σ H R → t σ H R) : PI X tg it t' := ⟨fun pins s σ H R I q => h.run pins s σ H R I (m _ _ _ q)⟩
section
variable {K : PySem.W.Frag} {W : WX} {σ : St} {F H F1 H1 : Hp} {A A1 B : Addr → Prop}
theorem PX.wide {x : Xc} {env' : E} (p : PX K W σ F H A x env') (e : Ext K F H A F1 H1 A1) (hB : ∀ b, B b → A1 b) : PX K W σ F1 H1 B x env' :=
  fun cls d F' H' fps' R r e2 => p cls d F' H' fps' R r (e.trans e2 hB fun _ c => .inl c)
theorem poE.wide {o : Option (Out Av)} {Q : VK} (p : poE K W σ F H A o Q) (e : Ext K F H A F1 H1 A1) (hB : ∀ b, B b → A1 b) : poE K W σ F1 H1 B o Q := by
  cases o with
  | none => exact p
  | some o =>
    cases o with
    | ok a env' => exact fun v F' H' fps' fp R r d e2 => p v F' H' fps' fp R r d (e.trans e2 hB fun _ c => .inl c)
    | ex x env' => exact PX.wide p e hB
end
def bindO {α β : Type} (o : Option (Out α)) (k : α → E → Option (Out β)) : Option (Out β) := match o with
  | none => none
  | some (.ok a env) => k a env
  | some (.ex x env) => some (.ex x env)
@[simp] theorem bindO_none {α β : Type} (k : α → E → Option (Out β)) : bindO none k = none := rfl
@[simp] theorem bindO_ok {α β : Type} (a : α) (env : E) (k : α → E → Option (Out β)) : bindO (some (.ok a env)) k = k a env := rfl
@[simp] theorem bindO_ex {α β : Type} (x : Xc) (env : E) (k : α → E → Option (Out β)) : bindO (some (.ex x env)) k = some (.ex x env) := rfl
def cE (d : D) : FE := fun env => some (.ok (.tm (.fz d)) env)
def vE (i : Nat) : FE := fun env => match env[i]? with
  | some (some _) => some (.ok (.sl i) env)
  | _ => none
section
variable {X : Cx} {W : WX}
theorem Own.not_nil {fps : Nat → List Addr} : ∀ b ∈ ([] : List Addr), ¬ Own fps b := fun _ h => by cases h
theorem rE_c {K : PySem.W.Frag} {v : V} {d : D} (r : ∀ F, Rep K F v d) : ∀ σ H Q, rE K W (cE d) σ H Q → tC v σ H Q := fun σ H Q ⟨F, env, fps, R, p⟩ =>
  p v F H fps [] R (RepM.fz (r F)) Own.not_nil (Ext.refl fun b h => h.elim id fun q => by cases q)
theorem e_int {i : Int} {j pos} : PE X (.Constant (.int i) j pos) (rE X.K W (cE (.int i))) := PE_mono pe_int (rE_c fun _ => .int i)
theorem e_bl {b : Bool} {j pos} : PE X (.Constant (.bool b) j pos) (rE X.K W (cE (.bl b))) := PE_mono pe_bl (rE_c fun _ => .bl b)
theorem e_non {j pos} : PE X (.Constant .none j pos) (rE X.K W (cE .non)) := PE_mono pe_non (rE_c fun _ => .non)
theorem e_str {x : Str} {j pos} : PE X (.Constant (.str x) j pos) (rE X.K W (cE (.str x))) := PE_mono pe_str (rE_c fun _ => .str x)
theorem e_glob {x : Str} {v : V} {u : Value} {d : D} {pos : Pos} (hg : Gl X x) (hm : X.mg x = some u) (r : RelV v u) (q : ∀ F, Rep X.K F v d) (hd : (x == ("__debug__" : Str)) = false := by decide) : PE X (.Name x pos) (rE X.K W (cE d)) := PE_mono (pe_glob hg hm r hd) (rE_c q)
theorem rE_v {K : PySem.W.Frag} {i : Nat} : ∀ σ H Q, rE K W (vE i) σ H Q → tVar i σ H Q := fun σ H Q ⟨F, env, fps, R, p⟩ => by
  unfold vE at p
  split at p
  · rename_i m e
    obtain ⟨v, hv, _⟩ := R.got i m e
    exact ⟨v, hv, p v F H fps [] R ⟨hv, rfl⟩ Own.not_nil (Ext.refl fun b h => h.elim id fun q => by cases q)⟩
  · exact p.elim
theorem e_v (i : Nat) {x : Str} {pos : Pos} (hN : X.N[i]? = some x := by rfl) (hv : Vis X.env.scope x := by first | exact Or.inl rfl | exact Or.inr (Or.inl rfl) | exact Or.inr (Or.inr rfl)) (hd : (x == ("__debug__" : Str)) = false := by decide)
    (hcd : (x == ("__classdict__" : Str)) = false := by decide) : PE X (.Name x pos) (rE X.K W (vE i)) := PE_mono (pe_var hN hv hd hcd) rE_v
end
def takeA (a : Av) (env : E) : Option (M × E) := match a with
  | .tm m => some (m, env)
  | .sl i => match env[i]? with
    | some (some m) => match frz m with
      | some d => some (.fz d, env.set i (some (.fz d)))
      | none => none
    | _ => none
theorem take_sound {K : PySem.W.Frag} {F H : Hp} {σ : St} {env env' : E} {fps : Nat → List Addr} {a : Av} {v : V} {fp : List Addr} {m : M} (R : REnv K F H σ env fps) (hA : RepA K F H σ a v fp) (hd : ∀ b ∈ fp, ¬ Own fps b) (ht : takeA a env = some (m, env')) :
    ∃ F' fps' fp', REnv K F' H σ env' fps' ∧ RepM K F' H m v fp' ∧ (∀ b ∈ fp', ¬ Own fps' b) ∧ Ext K F H (fun b => Own fps b ∨ b ∈ fp) F' H (fun b => Own fps' b ∨ b ∈ fp') := by
  cases a with
  | tm n =>
    cases ht
    exact ⟨F, fps, fp, R, hA, hd, Ext.refl fun _ h => h⟩
  | sl i =>
    obtain ⟨hv, rfl⟩ := hA
    unfold takeA at ht
    cases e : env[i]? with
    | none => simp only [e] at ht; cases ht
    | some o =>
      cases o with
      | none => simp only [e] at ht; cases ht
      | some n =>
        simp only [e] at ht
        cases ez : frz n with
        | none => rw [ez] at ht; cases ht
        | some d =>
          rw [ez] at ht; cases ht
          obtain ⟨w, hw, r⟩ := R.got i n e
          rw [hv] at hw; cases hw
          have hl := r.live
          have s1 : Sub F (addF F H (fps i)) := addF_sub fun b hb => (hl b hb).2
          have s2 : Sub (addF F H (fps i)) H := addF_in_H R.fr
          have rz : Rep K (addF F H (fps i)) v d := r.frozen s1 (fun b hb => addF_in hb) ez
          have R0 := R.drop i
          have R1 : REnv K (addF F H (fps i)) H σ (env.set i none) (fun j => if j = i then [] else fps j) := R0.more s1 s2 (fun b hb => by
            obtain ⟨j, hj⟩ := hb
            by_cases ej : j = i
            · simp only [if_pos ej] at hj; cases hj
            · simp only [if_neg ej] at hj
              rw [addF_out (R.dj j i ej b hj)]
              exact (R.live ⟨j, hj⟩).2) (addF_nt r R.tt.nt)
          have R2 := R1.put hv (RepM.fz rz) (fun b hb => by cases hb)
          rw [List.set_set] at R2
          refine ⟨addF F H (fps i), _, [], R2, RepM.fz rz, (fun b hb => by cases hb), Ext.same s1 (fun b h => ?_) (fun b o h => ?_) (fun h => addF_nt r h)⟩
          · rcases h with ⟨j, hj⟩ | h
            · by_cases ej : j = i
              · simp only [if_pos ej] at hj; cases hj
              · simp only [if_neg ej] at hj
                exact .inl (.inl ⟨j, hj⟩)
            · cases h
          · by_cases hb : b ∈ fps i
            · exact .inr (.inl (.inl ⟨i, hb⟩))
            · rw [addF_out hb] at h; exact .inl h
def tk (f : FE) : FE := fun env => bindO (f env) fun a env1 => match takeA a env1 with
  | some (m, env2) => some (.ok (.tm m) env2)
  | none => none
theorem e_tk {X : Cx} {W : WX} {e : Expr} {f : FE} (h : PE X e (rE X.K W f)) : PE X e (rE X.K W (tk f)) := PE_mono h fun σ H Q ⟨F, env, fps, R, p⟩ => ⟨F, env, fps, R, by
  unfold tk at p
  cases ef : f env with
  | none => rw [ef] at p; exact p
  | some o =>
    cases o with
    | ex x env1 => rw [ef] at p; exact p
    | ok a env1 =>
      rw [ef] at p
      simp only [bindO_ok] at p
      cases et : takeA a env1 with
      | none => rw [et] at p; exact p.elim
      | some z =>
        obtain ⟨m, env2⟩ := z
        rw [et] at p
        intro v F' H' fps' fp R1 r d e1
        obtain ⟨F2, fps2, fp2, R2, r2, d2, e2⟩ := take_sound R1 r d et
        exact p v F2 H' fps2 fp2 R2 r2 d2 (e1.trans e2 (fun _ h => h) fun _ h => .inl h)⟩
def nilA : FA := fun env => some (.ok [] env)
def consA (f : FE) (g : FA) : FA := fun env => bindO (f env) fun a env1 => bindO (g env1) fun as env2 => some (.ok (a :: as) env2)
def fcons (fp : List Addr) (fpA : Nat → List Addr) : Nat → List Addr
  | 0 => fp
  | j + 1 => fpA j
theorem own_fcons {fp : List Addr} {fpA : Nat → List Addr} {b : Addr} : Own (fcons fp fpA) b ↔ b ∈ fp ∨ Own fpA b := by
  constructor
  · rintro ⟨j, hj⟩
    cases j with
    | zero => exact .inl hj
    | succ j => exact .inr ⟨j, hj⟩
  · rintro (h | ⟨j, hj⟩)
    · exact ⟨0, h⟩
    · exact ⟨j + 1, hj⟩
theorem RepAs.nil' {K : PySem.W.Frag} {F H : Hp} {σ : St} : RepAs K F H σ [] [] (fun _ => []) := ⟨rfl, fun j a h => by simp at h, fun _ _ => rfl, fun _ _ _ b hb => by cases hb⟩
theorem RepAs.cons' {K : PySem.W.Frag} {F H : Hp} {σ : St} {a : Av} {v : V} {fp : List Addr} {as : List Av} {vs : List V} {fpA : Nat → List Addr} (h : RepA K F H σ a v fp) (hs : RepAs K F H σ as vs fpA) (hd : ∀ b ∈ fp, ¬ Own fpA b) : RepAs K F H σ (a :: as) (v :: vs) (fcons fp fpA) := by
  refine ⟨by simp [hs.len], fun j c hc => ?_, fun j hj => ?_, fun i j hij b hb => ?_⟩
  · cases j with
    | zero => simp at hc; subst hc; exact ⟨v, rfl, h⟩
    | succ j => simp at hc; obtain ⟨w, h1, h2⟩ := hs.got j c hc; exact ⟨w, by simpa using h1, h2⟩
  · cases j with
    | zero => simp at hj
    | succ j => exact hs.nil j (by simpa using hj)
  · cases i with
    | zero =>
      cases j with
      | zero => exact absurd rfl hij
      | succ j => exact fun q => hd b hb ⟨j, q⟩
    | succ i =>
      cases j with
      | zero => exact fun q => hd b q ⟨i, hb⟩
      | succ j => exact hs.dj i j (fun q => hij (by rw [q])) b hb
theorem pendA {K : PySem.W.Frag} {F1 H1 F2 H2 : Hp} {σ : St} {a : Av} {v : V} {fp : List Addr} {B A2 : Addr → Prop} (h : RepA K F1 H1 σ a v fp) (hB : ∀ b ∈ fp, ¬ B b) (e : Ext K F1 H1 B F2 H2 A2) : RepA K F2 H2 σ a v fp ∧ ∀ b ∈ fp, ¬ A2 b := by
  cases a with
  | tm m => exact pendM h hB e
  | sl i => exact ⟨h, fun b hb => by rw [h.2] at hb; cases hb⟩
theorem a_nil {X : Cx} {W : WX} : PA X [] (rA X.K W nilA) := PA_mono pa_nil fun σ H Q ⟨F, env, fps, R, p⟩ =>
  p [] F H fps (fun _ => []) R .nil' (fun b ⟨_, h⟩ => by cases h) (Ext.refl fun b h => h.elim id fun ⟨_, q⟩ => by cases q)
theorem a_cons {X : Cx} {W : WX} {e : Expr} {es : List Expr} {f : FE} {g : FA} (he : PE X e (rE X.K W f)) (hs : PA X es (rA X.K W g)) (hst : starEach (e :: es) X.env = (false, eval e X.env) :: starEach es X.env := by rfl) : PA X (e :: es) (rA X.K W (consA f g)) := PA_mono (pa_cons he hs hst) fun σ H Q ⟨F, env, fps, R, p⟩ => by
  refine ⟨F, env, fps, R, ?_⟩
  unfold consA at p
  cases ef : f env with
  | none => rw [ef] at p; exact p
  | some o =>
    cases o with
    | ex x env1 => rw [ef] at p; exact p
    | ok a env1 =>
      rw [ef] at p
      simp only [bindO_ok] at p
      intro v F1 H1 fps1 fp R1 r d e1
      refine ⟨F1, env1, fps1, R1, ?_⟩
      cases eg : g env1 with
      | none => rw [eg] at p; exact p
      | some o2 =>
        cases o2 with
        | ex x env2 => rw [eg] at p; exact PX.wide p e1 fun _ h => .inl h
        | ok as env2 =>
          rw [eg] at p
          intro vs F2 H2 fps2 fpA R2 rs d2 e2
          obtain ⟨r2, dd⟩ := pendA r d e2
          refine p (v :: vs) F2 H2 fps2 (fcons fp fpA) R2 (RepAs.cons' r2 rs fun b hb q => dd b hb (.inr q)) (fun b hb q => ?_) (e1.trans e2 (fun _ h => .inl h) fun b h => ?_)
          · rcases own_fcons.mp hb with hb | hb
            · exact dd b hb (.inl q)
            · exact d2 b hb q
          · rcases h with h | h
            · exact .inl (.inl h)
            · rcases own_fcons.mp h with h | h
              · exact .inr (.inr h)
              · exact .inl (.inr h)
end Ink
set_option Elab.async false
set_option linter.all false
set_option maxRecDepth 100000
namespace Ink
open PySem L2
abbrev argS (vs : List V) : St := vs.map some
abbrev argE (ms : List M) : E := ms.map some
section
variable (K : PySem.W.Frag)
def poP (F H : Hp) (A : Addr → Prop) (vs : List V) (o : Option OutP) (Q : VK) (Ex : XK) : Prop := match o with
  | none => False
  | some (.ok m ms') => ∀ v F' H' fps' fp, REnv K F' H' (argS vs) ms' fps' → RepM K F' H' m v fp → (∀ b ∈ fp, ¬ Own fps' b) → Ext K F H A F' H' (fun b => Own fps' b ∨ b ∈ fp) → Q v H'
  | some (.ex x ms') => ∀ cls d F' H' fps', REnv K F' H' (argS vs) ms' fps' → RepX K F' H' x cls d → Ext K F H A F' H' (Own fps') → Ex cls d H'
/-- a promise by a mirror -/
def spOf (g : FP) : Sp := fun vs H Q Ex => ∃ F ms fps, REnv K F H (argS vs) (argE ms) fps ∧ poP K F H (Own fps) vs (g ms) Q Ex
end
def res (env : E) : List Av → Option (List M)
  | [] => some []
  | .tm m :: r => match res env r with
    | some ms => some (m :: ms)
    | none => none
  | .sl i :: r => match env[i]? with
    | some (some m) => match res env r with
      | some ms => some (m :: ms)
      | none => none
    | _ => none
def isFz : M → Bool
  | .fz _ => true
  | _ => false
def hasSl (i : Nat) : List Av → Bool
  | [] => false
  | .tm _ :: r => hasSl i r
  | .sl j :: r => (j == i) || hasSl i r
/-- no owned thing is handed over twice -/
def okA (env : E) : List Av → Bool
  | [] => true
  | .tm _ :: r => okA env r
  | .sl i :: r => (match env[i]? with
    | some (some m) => isFz m || !hasSl i r
    | _ => false) && okA env r
def back (env : E) : List Av → E → E
  | .tm _ :: r, _ :: ms => back env r ms
  | .sl i :: r, o :: ms => back (env.set i o) r ms
  | _, _ => env
def runP (g : FP) (as : List Av) (env : E) : Option (Out Av) := match res env as with
  | none => none
  | some ms => match okA env as with
    | false => none
    | true => match g ms with
      | none => none
      | some (.ok m ms') => some (.ok (.tm m) (back env as ms'))
      | some (.ex x ms') => some (.ex x (back env as ms'))
theorem res_spec {env : E} : ∀ {as : List Av} {ms : List M}, res env as = some ms → ms.length = as.length ∧ ∀ (j : Nat) (a : Av), as[j]? = some a → match a with
    | .tm m => ms[j]? = some m
    | .sl i => ∃ m, env[i]? = some (some m) ∧ ms[j]? = some m
  | [], ms, h => by rw [res] at h; cases h; exact ⟨rfl, fun j a q => by simp at q⟩
  | .tm m :: r, ms, h => by
    rw [res] at h
    cases e : res env r with
    | none => rw [e] at h; cases h
    | some ns =>
      rw [e] at h; cases h
      obtain ⟨l, g⟩ := res_spec e
      refine ⟨by simp [l], fun j a q => ?_⟩
      cases j with
      | zero => simp at q; subst q; rfl
      | succ j =>
        simp at q
        have z := g j a q
        cases a with
        | tm n => simpa using z
        | sl i => obtain ⟨n, z1, z2⟩ := z; exact ⟨n, z1, by simpa using z2⟩
  | .sl i :: r, ms, h => by
    rw [res] at h
    split at h
    · rename_i n en
      cases e : res env r with
      | none => rw [e] at h; cases h
      | some ns =>
        rw [e] at h; cases h
        obtain ⟨l, g⟩ := res_spec e
        refine ⟨by simp [l], fun j a q => ?_⟩
        cases j with
        | zero => simp at q; subst q; exact ⟨n, en, rfl⟩
        | succ j =>
          simp at q
          have z := g j a q
          cases a with
          | tm n => simpa using z
          | sl i => obtain ⟨n, z1, z2⟩ := z; exact ⟨n, z1, by simpa using z2⟩
    · cases h
theorem hasSl_of {i : Nat} : ∀ {as : List Av} {j : Nat}, as[j]? = some (.sl i) → hasSl i as = true
  | [], j, h => by simp at h
  | .tm _ :: r, 0, h => by simp at h
  | .tm _ :: r, j + 1, h => by simp at h; rw [hasSl]; exact hasSl_of h
  | .sl k :: r, 0, h => by simp at h; subst h; simp [hasSl]
  | .sl k :: r, j + 1, h => by simp at h; rw [hasSl, hasSl_of h]; simp
theorem okA_spec {env : E} : ∀ {as : List Av}, okA env as = true → ∀ (j k i : Nat), j < k → as[j]? = some (.sl i) → as[k]? = some (.sl i) → ∃ d, env[i]? = some (some (.fz d))
  | [], _, j, k, i, _, h, _ => by simp at h
  | .tm _ :: r, o, 0, k, i, _, h, _ => by simp at h
  | .tm _ :: r, o, j + 1, 0, i, l, h, h2 => by simp at l
  | .tm _ :: r, o, j + 1, k + 1, i, l, h, h2 => okA_spec (by rw [okA] at o; exact o) j k i (by omega) (by simpa using h) (by simpa using h2)
  | .sl s :: r, o, 0, 0, i, l, h, h2 => by simp at l
  | .sl s :: r, o, 0, k + 1, i, l, h, h2 => by
    simp at h h2
    subst h
    rw [okA] at o
    simp only [Bool.and_eq_true] at o
    obtain ⟨o, _⟩ := o
    split at o
    · rename_i m em
      rw [hasSl_of h2] at o
      cases m with
      | fz d => exact ⟨d, em⟩
      | _ => simp [isFz] at o
    · cases o
  | .sl s :: r, o, j + 1, 0, i, l, h, h2 => by simp at l
  | .sl s :: r, o, j + 1, k + 1, i, l, h, h2 => okA_spec (by rw [okA] at o; simp only [Bool.and_eq_true] at o; exact o.2) j k i (by omega) (by simpa using h) (by simpa using h2)
theorem back_length : ∀ (as : List Av) (ms env : E), (back env as ms).length = env.length
  | [], _, env => by simp [back]
  | .tm _ :: r, [], env => by simp [back]
  | .tm _ :: r, m :: ms, env => by rw [back]; exact back_length r ms env
  | .sl i :: r, [], env => by simp [back]
  | .sl i :: r, m :: ms, env => by rw [back, back_length r ms]; simp
theorem back_spec : ∀ (as : List Av) (ms env : E) (i : Nat), ms.length = as.length → i < env.length →
    (∃ (j : Nat) (o : Option M), as[j]? = some (Av.sl i) ∧ ms[j]? = some o ∧ (back env as ms)[i]? = some o) ∨ ((∀ j : Nat, as[j]? ≠ some (Av.sl i)) ∧ (back env as ms)[i]? = env[i]?)
  | [], ms, env, i, _, _ => .inr ⟨fun j h => by simp at h, by simp [back]⟩
  | .tm n :: r, [], env, i, l, _ => by simp at l
  | .sl s :: r, [], env, i, l, _ => by simp at l
  | .tm n :: r, m :: ms, env, i, l, hi => by
    rcases back_spec r ms env i (by simpa using l) hi with ⟨j, m', h1, h2, h3⟩ | ⟨h1, h2⟩
    · exact .inl ⟨j + 1, m', by simpa using h1, by simpa using h2, by rw [back]; exact h3⟩
    · refine .inr ⟨fun j h => ?_, by rw [back]; exact h2⟩
      cases j with
      | zero => simp at h
      | succ j => exact h1 j (by simpa using h)
  | .sl s :: r, m :: ms, env, i, l, hi => by
    rcases back_spec r ms (env.set s m) i (by simpa using l) (by simpa using hi) with ⟨j, m', h1, h2, h3⟩ | ⟨h1, h2⟩
    · exact .inl ⟨j + 1, m', by simpa using h1, by simpa using h2, by rw [back]; exact h3⟩
    · by_cases e : s = i
      · subst e
        exact .inl ⟨0, m, rfl, rfl, by rw [back, h2, List.getElem?_set_self hi]⟩
      · refine .inr ⟨fun j h => ?_, by rw [back, h2, List.getElem?_set_ne e]⟩
        cases j with
        | zero => simp at h; exact e h
        | succ j => exact h1 j (by simpa using h)
theorem argE_get {ms : List M} {j : Nat} {m : M} : (argE ms)[j]? = some (some m) ↔ ms[j]? = some m := by
  rw [List.getElem?_map]
  cases ms[j]? with
  | none => simp
  | some n => simp
theorem argS_get {vs : List V} {j : Nat} {v : V} : (argS vs)[j]? = some (some v) ↔ vs[j]? = some v := by
  rw [List.getElem?_map]
  cases vs[j]? with
  | none => simp
  | some n => simp
theorem RepM.fz_nil {K : PySem.W.Frag} {F H : Hp} {d : D} {v : V} {fp : List Addr} (h : RepM K F H (.fz d) v fp) : fp = [] := by cases h; rfl
/-- what the arguments own -/
def fpArg (as : List Av) (fps fpA : Nat → List Addr) (j : Nat) : List Addr := match as[j]? with
  | some (.tm _) => fpA j
  | some (.sl i) => fps i
  | none => []
section
variable {K : PySem.W.Frag} {F H : Hp} {σ : St} {env : E} {fps fpA : Nat → List Addr} {as : List Av} {vs : List V} {ms : List M}
theorem arg_own (hA : RepAs K F H σ as vs fpA) {b : Addr} (h : Own (fpArg as fps fpA) b) : Own fps b ∨ Own fpA b := by
  obtain ⟨j, hj⟩ := h
  unfold fpArg at hj
  split at hj
  · exact .inr ⟨j, hj⟩
  · exact .inl ⟨_, hj⟩
  · cases hj
theorem arg_env (R : REnv K F H σ env fps) (hA : RepAs K F H σ as vs fpA) (hd : ∀ b, Own fpA b → ¬ Own fps b) (hr : res env as = some ms) (ho : okA env as = true) : REnv K F H (argS vs) (argE ms) (fpArg as fps fpA) := by
  obtain ⟨l, g⟩ := res_spec hr
  refine ⟨R.fr, by simp [l, hA.len], fun j m h => ?_, fun j h => ?_, ?_, R.tt⟩
  · have hm := argE_get.mp h
    have hj : j < as.length := by rw [← l]; exact (List.getElem?_eq_some_iff.mp hm).1
    have ha := List.getElem?_eq_getElem hj
    obtain ⟨v, hv, r⟩ := hA.got j _ ha
    have z := g j _ ha
    refine ⟨v, argS_get.mpr hv, ?_⟩
    unfold fpArg
    rw [ha]
    generalize hx : as[j] = a at *
    cases a with
    | tm n => simp only at z; rw [hm] at z; cases z; exact r
    | sl i =>
      obtain ⟨n, z1, z2⟩ := z
      rw [hm] at z2; cases z2
      obtain ⟨w, hw, rr⟩ := R.got i m z1
      obtain ⟨r1, _⟩ := r
      rw [r1] at hw; cases hw
      exact rr
  · unfold fpArg
    split
    · rename_i m e
      have z := g j _ e
      exact absurd (argE_get.mpr z) (h m)
    · rename_i i e
      obtain ⟨m, _, z⟩ := g j _ e
      exact absurd (argE_get.mpr z) (h m)
    · rfl
  · have key : ∀ i j, i < j → ∀ b ∈ fpArg as fps fpA i, b ∉ fpArg as fps fpA j := by
      intro i j hij b hb hb2
      unfold fpArg at hb hb2
      split at hb
      · rename_i n en
        split at hb2
        · exact hA.dj i j (by omega) b hb hb2
        · exact hd b ⟨i, hb⟩ ⟨_, hb2⟩
        · cases hb2
      · rename_i s es
        split at hb2
        · exact hd b ⟨j, hb2⟩ ⟨_, hb⟩
        · rename_i t et
          by_cases e : s = t
          · subst e
            obtain ⟨d, q⟩ := okA_spec ho i j s hij es et
            obtain ⟨v, _, r⟩ := R.got s _ q
            rw [r.fz_nil] at hb; cases hb
          · exact R.dj s t e b hb hb2
        · cases hb2
      · cases hb
    intro i j hij b hb
    rcases Nat.lt_or_gt_of_ne hij with q | q
    · exact key i j q b hb
    · exact fun hb2 => key j i q b hb2 hb
/-- behind the call: the caller's slots -/
theorem arg_back {F' H' : Hp} {A' : Addr → Prop} {ms' : E} {fps' : Nat → List Addr} (R : REnv K F H σ env fps) (hA : RepAs K F H σ as vs fpA) (hd : ∀ b, Own fpA b → ¬ Own fps b) (hr : res env as = some ms)
    (R' : REnv K F' H' (argS vs) ms' fps') (ex : Ext K F H (Own (fpArg as fps fpA)) F' H' A') (hO : ∀ b, Own fps' b → A' b) :
    ∃ fpsN, REnv K F' H' σ (back env as ms') fpsN ∧ (∀ b, Own fpsN b → Own fps' b ∨ (Own fps b ∧ ¬ Own (fpArg as fps fpA) b)) := by
  obtain ⟨l, g⟩ := res_spec hr
  have l' : ms'.length = as.length := by
    have q := R'.len
    rw [List.length_map] at q
    rw [q, hA.len]
  -- where a slot stands among the arguments
  have hx : ∀ i, ∃ fp, (∀ m, (back env as ms')[i]? = some (some m) → ∃ v, σ[i]? = some (some v) ∧ RepM K F' H' m v fp) ∧ ((∀ m, (back env as ms')[i]? ≠ some (some m)) → fp = []) ∧
      ((∃ j : Nat, as[j]? = some (Av.sl i) ∧ fp = fps' j) ∨ ((∀ j : Nat, as[j]? ≠ some (Av.sl i)) ∧ fp = fps i)) := by
    intro i
    by_cases hi : i < env.length
    · rcases back_spec as ms' env i l' hi with ⟨j, m, h1, h2, h3⟩ | ⟨h1, h2⟩
      · refine ⟨fps' j, fun n hn => ?_, fun hn => R'.nil j fun n q => hn n (by rw [h3, ← h2, q]), .inl ⟨j, h1, rfl⟩⟩
        rw [h3] at hn; cases hn
        obtain ⟨v, hv, r⟩ := R'.got j n h2
        obtain ⟨w, hw, q⟩ := hA.got j _ h1
        rw [argS_get.mp hv] at hw; cases hw
        exact ⟨v, q.1, r⟩
      · refine ⟨fps i, fun n hn => ?_, fun hn => R.nil i fun m q => hn m (by rw [h2]; exact q), .inr ⟨h1, rfl⟩⟩
        rw [h2] at hn
        obtain ⟨v, hv, r⟩ := R.got i n hn
        refine ⟨v, hv, (pendM r (fun b hb q => ?_) ex).1⟩
        obtain ⟨j, hj⟩ := q
        unfold fpArg at hj
        split at hj
        · exact hd b ⟨j, hj⟩ ⟨i, hb⟩
        · rename_i s es
          by_cases e : s = i
          · subst e; exact h1 j es
          · exact R.dj s i e b hj hb
        · cases hj
    · have hn : (back env as ms')[i]? = none := List.getElem?_eq_none (by rw [back_length]; omega)
      refine ⟨fps i, (fun m h => by rw [hn] at h; cases h), (fun _ => R.nil i fun m q => by rw [List.getElem?_eq_none (by omega)] at q; cases q), .inr ⟨fun j h => ?_, rfl⟩⟩
      obtain ⟨m, q, _⟩ := g j _ h
      exact hi (List.getElem?_eq_some_iff.mp q).1
  have notArg : ∀ i, (∀ j : Nat, as[j]? ≠ some (Av.sl i)) → ∀ b ∈ fps i, ¬ Own (fpArg as fps fpA) b := by
    intro i h1 b hb ⟨j, hj⟩
    unfold fpArg at hj
    split at hj
    · exact hd b ⟨j, hj⟩ ⟨i, hb⟩
    · rename_i s es
      by_cases e : s = i
      · subst e; exact h1 j es
      · exact R.dj s i e b hj hb
    · cases hj
  refine ⟨fun i => Classical.choose (hx i), ⟨R'.fr, by rw [back_length]; exact R.len, fun i m h => (Classical.choose_spec (hx i)).1 m h, fun i h => (Classical.choose_spec (hx i)).2.1 h, fun i k hik b hb hb2 => ?_, R'.tt⟩, fun b ⟨i, hb⟩ => ?_⟩
  · have live : ∀ c i, c ∈ fps i → ∃ o, H c = some o := fun c i h => (R.live ⟨i, h⟩).1
    have cross : ∀ (i k j : Nat), (∀ j : Nat, as[j]? ≠ some (Av.sl i)) → b ∈ fps i → b ∈ fps' j → False := by
      intro i k j h1 hb hb2
      rcases ex.own b (hO b ⟨j, hb2⟩) with q | q
      · exact notArg i h1 b hb q
      · obtain ⟨o, ho⟩ := live b i hb
        rw [ho] at q; cases q
    rcases (Classical.choose_spec (hx i)).2.2 with ⟨j, h1, e1⟩ | ⟨h1, e1⟩
    · rcases (Classical.choose_spec (hx k)).2.2 with ⟨j2, h2, e2⟩ | ⟨h2, e2⟩
      · rw [e1] at hb; rw [e2] at hb2
        refine R'.dj j j2 (fun q => ?_) b hb hb2
        subst q
        rw [h1] at h2; cases h2; exact hik rfl
      · rw [e1] at hb; rw [e2] at hb2
        exact cross k i j h2 hb2 hb
    · rcases (Classical.choose_spec (hx k)).2.2 with ⟨j2, h2, e2⟩ | ⟨h2, e2⟩
      · rw [e1] at hb; rw [e2] at hb2
        exact cross i k j2 h1 hb hb2
      · rw [e1] at hb; rw [e2] at hb2
        exact R.dj i k hik b hb hb2
  · rcases (Classical.choose_spec (hx i)).2.2 with ⟨j, h1, e1⟩ | ⟨h1, e1⟩
    · simp only [e1] at hb; exact .inl ⟨j, hb⟩
    · simp only [e1] at hb; exact .inr ⟨⟨i, hb⟩, notArg i h1 b hb⟩
theorem prim_sound {W : WX} {g : FP} {Q : VK} (R : REnv K F H σ env fps) (hA : RepAs K F H σ as vs fpA) (hd : ∀ b, Own fpA b → ¬ Own fps b)
    (post : poE K W σ F H (fun b => Own fps b ∨ Own fpA b) (runP g as env) Q) : spOf K g vs H Q (fun cls d H' => W cls d σ H') := by
  unfold runP at post
  cases hr : res env as with
  | none => rw [hr] at post; exact post.elim
  | some ms =>
    rw [hr] at post
    simp only at post
    cases ho : okA env as with
    | false => rw [ho] at post; exact post.elim
    | true =>
      rw [ho] at post
      simp only at post
      refine ⟨F, ms, fpArg as fps fpA, arg_env R hA hd hr ho, ?_⟩
      cases hg : g ms with
      | none => rw [hg] at post; exact post.elim
      | some o =>
        rw [hg] at post
        cases o with
        | ok m ms' =>
          simp only at post
          intro v F' H' fps' fp R' r dd ex
          obtain ⟨fpsN, RN, hN⟩ := arg_back R hA hd hr R' ex fun b h => .inl h
          refine post v F' H' fpsN fp RN r (fun b hb q => ?_) ⟨ex.ff, fun b o h n => ex.keep b o h fun a => n (arg_own hA a), fun b h => ?_, fun b o h => (ex.fz b o h).imp id fun q => q.imp (fun a => arg_own hA a) id, ex.tt⟩
          · rcases hN b q with q | ⟨q, n⟩
            · exact dd b hb q
            · rcases ex.own b (.inr hb) with z | z
              · exact n z
              · obtain ⟨⟨o, ho⟩, _⟩ := R.live q
                rw [ho] at z; cases z
          · rcases h with h | h
            · rcases hN b h with q | ⟨q, n⟩
              · exact (ex.own b (.inl q)).imp (fun a => arg_own hA a) id
              · exact .inl (.inl q)
            · exact (ex.own b (.inr h)).imp (fun a => arg_own hA a) id
        | ex x ms' =>
          simp only at post
          intro cls d F' H' fps' R' r ex
          obtain ⟨fpsN, RN, hN⟩ := arg_back R hA hd hr R' ex fun b h => h
          refine post cls d F' H' fpsN RN r ⟨ex.ff, fun b o h n => ex.keep b o h fun a => n (arg_own hA a), fun b h => ?_, fun b o h => (ex.fz b o h).imp id fun q => q.imp (fun a => arg_own hA a) id, ex.tt⟩
          rcases hN b h with q | ⟨q, n⟩
          · exact (ex.own b q).imp (fun a => arg_own hA a) id
          · exact .inl (.inl q)
end
end Ink
set_option Elab.async false
set_option linter.all false
set_option maxRecDepth 100000
namespace Ink
open PySem L2
section
variable {K : PySem.W.Frag} {W : WX} {σ : St} {H : Hp}
theorem rE_imp {f : FE} {Q Q' : VK} (h : ∀ v H', Q v H' → Q' v H') (p : rE K W f σ H Q) : rE K W f σ H Q' := by
  obtain ⟨F, env, fps, R, p⟩ := p
  refine ⟨F, env, fps, R, ?_⟩
  cases o : f env with
  | none => rw [o] at p; exact p
  | some z =>
    rw [o] at p
    cases z with
    | ok a e => exact fun v F' H' fps' fp a b c d => h _ _ (p v F' H' fps' fp a b c d)
    | ex x e => exact p
theorem rA_imp {f : FA} {Q Q' : List V → Hp → Prop} (h : ∀ v H', Q v H' → Q' v H') (p : rA K W f σ H Q) : rA K W f σ H Q' := by
  obtain ⟨F, env, fps, R, p⟩ := p
  refine ⟨F, env, fps, R, ?_⟩
  cases o : f env with
  | none => rw [o] at p; exact p
  | some z =>
    rw [o] at p
    cases z with
    | ok a e => exact fun v F' H' fps' fp a b c d => h _ _ (p v F' H' fps' fp a b c d)
    | ex x e => exact p
theorem ra_nil {Q : List V → Hp → Prop} (p : rA K W nilA σ H Q) : Q [] H := by
  obtain ⟨F, env, fps, R, p⟩ := p
  exact p [] F H fps (fun _ => []) R .nil' (fun b ⟨_, h⟩ => by cases h) (Ext.refl fun b h => h.elim id fun ⟨_, q⟩ => by cases q)
theorem ra_cons {f : FE} {g : FA} {Q : List V → Hp → Prop} (p : rA K W (consA f g) σ H Q) : rE K W f σ H fun x H1 => rA K W g σ H1 fun xs H2 => Q (x :: xs) H2 := by
  obtain ⟨F, env, fps, R, p⟩ := p
  refine ⟨F, env, fps, R, ?_⟩
  unfold consA at p
  cases ef : f env with
  | none => rw [ef] at p; exact p
  | some o =>
    cases o with
    | ex x env1 => rw [ef] at p; exact p
    | ok a env1 =>
      rw [ef] at p
      simp only [bindO_ok] at p
      intro v F1 H1 fps1 fp R1 r d e1
      refine ⟨F1, env1, fps1, R1, ?_⟩
      cases eg : g env1 with
      | none => rw [eg] at p; exact p
      | some o2 =>
        cases o2 with
        | ex x env2 => rw [eg] at p; exact PX.wide p e1 fun _ h => .inl h
        | ok as env2 =>
          rw [eg] at p
          intro vs F2 H2 fps2 fpA R2 rs d2 e2
          obtain ⟨r2, dd⟩ := pendA r d e2
          refine p (v :: vs) F2 H2 fps2 (fcons fp fpA) R2 (RepAs.cons' r2 rs fun b hb q => dd b hb (.inr q)) (fun b hb q => ?_) (e1.trans e2 (fun _ h => .inl h) fun b h => ?_)
          · rcases own_fcons.mp hb with hb | hb
            · exact dd b hb (.inl q)
            · exact d2 b hb q
          · rcases h with h | h
            · exact .inl (.inl h)
            · rcases own_fcons.mp h with h | h
              · exact .inr (.inr h)
              · exact .inl (.inr h)
end
/-- a call by a mirror of what is called -/
def callE (g : FP) (fa : FA) : FE := fun env => bindO (fa env) fun as env1 => runP g as env1
theorem r_call {K : PySem.W.Frag} {W : WX} {σ : St} {H : Hp} {g : FP} {fa : FA} {Q : VK} (p : rE K W (callE g fa) σ H Q) : rA K W fa σ H fun vs H1 => spOf K g vs H1 Q (fun c d H' => W c d σ H') := by
  obtain ⟨F, env, fps, R, p⟩ := p
  refine ⟨F, env, fps, R, ?_⟩
  unfold callE at p
  cases ef : fa env with
  | none => rw [ef] at p; exact p
  | some o =>
    cases o with
    | ex x env1 => rw [ef] at p; exact p
    | ok as env1 =>
      rw [ef] at p
      simp only [bindO_ok] at p
      intro vs F1 H1 fps1 fpA R1 r d e1
      exact prim_sound R1 r d (poE.wide p e1 fun b h => h)
/-- readers: the things stay as they are -/
def g1 (h : M → Option M) : FP := fun ms => match ms with
  | [a] => match h a with
    | some m => some (.ok m [some a])
    | none => none
  | _ => none
def g2 (h : M → M → Option M) : FP := fun ms => match ms with
  | [a, b] => match h a b with
    | some m => some (.ok m [some a, some b])
    | none => none
  | _ => none
def g3 (h : M → M → M → Option M) : FP := fun ms => match ms with
  | [a, b, c] => match h a b c with
    | some m => some (.ok m [some a, some b, some c])
    | none => none
  | _ => none
section
variable {K : PySem.W.Frag} {F H : Hp} {vs : List V} {ms : List M} {fps : Nat → List Addr} {Q : VK} {Ex : XK}
theorem sp_flat {v : V} {d : D} (R : REnv K F H (argS vs) (argE ms) fps) (r : Rep K F v d) (p : poP K F H (Own fps) vs (some (.ok (.fz d) (argE ms))) Q Ex) : Q v H :=
  p v F H fps [] R (.fz r) Own.not_nil (Ext.refl fun b h => h.elim id fun q => by cases q)
theorem reps_ms {ws : List V} {ds : List D} (r : Reps K F ws ds) : RepMs K F H (ds.map .fz) ws [] := by
  induction ds generalizing ws with
  | nil => cases r; exact .nil
  | cons d ds ih =>
    cases r with
    | cons a b => exact RepMs.cons (fp := []) (.fz a) (ih b) (fun b hb => by cases hb)
theorem sp_lst {ws : List V} {ds : List D} (R : REnv K F H (argS vs) (argE ms) fps) (r : Reps K F ws ds) (p : poP K F H (Own fps) vs (some (.ok (.lst (ds.map .fz)) (argE ms))) Q Ex) : ∀ q, H q = none → Q (.ref q) (upd H q (.lst ws)) := fun q hq => by
  have e : Ext K F H (fun _ => False) F (upd H q (.lst ws)) (fun b => False ∨ b = q) := Ext.new hq
  have no : ∀ b, Own fps b → ¬ b = q := fun b hb e => by
    obtain ⟨⟨o, ho⟩, _⟩ := R.live hb
    rw [e, hq] at ho; cases ho
  obtain ⟨R', _⟩ := R.frame (fun b _ h => h) e (sub_new R.fr hq)
  refine p (.ref q) F _ fps [q] R' (.lst upd_same (sub_none R.fr hq) (reps_ms r) (by simp)) (fun b hb h => no b h (by simpa using hb)) ?_
  exact (Ext.new hq).weak fun b h => h.imp id fun z => by simpa using z
theorem sp_tup {ws : List V} {ds : List D} (R : REnv K F H (argS vs) (argE ms) fps) (r : Reps K F ws ds) (p : poP K F H (Own fps) vs (some (.ok (.fz (.tup ds)) (argE ms))) Q Ex) : ∀ q, H q = none → Q (.ref q) (upd H q (.tup ws)) := fun q hq => by
  have e : Ext K F H (fun _ => False) (upd F q (.tup ws)) (upd H q (.tup ws)) (fun _ => False) := Ext.newF R.fr hq
  obtain ⟨R', _⟩ := R.frame (fun b _ h => h) e (sub_upd R.fr)
  refine p (.ref q) _ _ fps [] R' (.fz (.tup upd_same (r.mono e.ff))) Own.not_nil ?_
  exact (Ext.newF R.fr hq).weak fun b h => h.elim id fun q => by cases q
theorem args1 {x : V} (R : REnv K F H (argS [x]) (argE ms) fps) : ∃ a, ms = [a] ∧ RepM K F H a x (fps 0) := by
  match ms, R.len with
  | [a], _ =>
    obtain ⟨v, hv, r⟩ := R.got 0 a rfl
    cases hv
    exact ⟨a, rfl, r⟩
theorem args2 {x y : V} (R : REnv K F H (argS [x, y]) (argE ms) fps) : ∃ a b, ms = [a, b] ∧ RepM K F H a x (fps 0) ∧ RepM K F H b y (fps 1) := by
  match ms, R.len with
  | [a, b], _ =>
    obtain ⟨v, hv, r⟩ := R.got 0 a rfl
    cases hv
    obtain ⟨w, hw, r2⟩ := R.got 1 b rfl
    cases hw
    exact ⟨a, b, rfl, r, r2⟩
end
section
variable {K : PySem.W.Frag} {F H : Hp}
theorem rep_int {v : V} {i : Int} (h : Rep K F v (.int i)) : v = .int i := by cases h; rfl
theorem rep_bl {v : V} {i : Bool} (h : Rep K F v (.bl i)) : v = .bl i := by cases h; rfl
theorem rep_str {v : V} {i : Str} (h : Rep K F v (.str i)) : v = .str i := by cases h; rfl
theorem rep_non {v : V} (h : Rep K F v .non) : v = .non := by cases h; rfl
theorem repm_fz {d : D} {v : V} {fp : List Addr} (h : RepM K F H (.fz d) v fp) : Rep K F v d := by cases h; assumption
theorem repm_lst {ms : List M} {v : V} {fp : List Addr} (h : RepM K F H (.lst ms) v fp) : ∃ p vs fq, v = .ref p ∧ H p = some (.lst vs) ∧ F p = none ∧ RepMs K F H ms vs fq ∧ p ∉ fq ∧ fp = p :: fq := by
  cases h with
  | lst a f b n => exact ⟨_, _, _, rfl, a, f, b, n, rfl⟩
/-- the items of a list that holds plain data -/
def unfz : List M → Option (List D)
  | [] => some []
  | .fz d :: r => match unfz r with
    | some ds => some (d :: ds)
    | none => none
  | _ => none
def lstD : M → Option (List D)
  | .fz (.lst ds) => some ds
  | .lst ms => unfz ms
  | _ => none
/-- .. of a list or a tuple -/
def seqD : M → Option (List D)
  | .fz (.lst ds) => some ds
  | .fz (.tup ds) => some ds
  | .lst ms => unfz ms
  | _ => none
theorem unfz_map (ds : List D) : unfz (ds.map M.fz) = some ds := by
  induction ds with
  | nil => rfl
  | cons d ds ih => simp only [List.map_cons, unfz, ih]
theorem unfz_reps : ∀ {ms : List M} {vs : List V} {fp : List Addr} {ds : List D}, RepMs K F H ms vs fp → unfz ms = some ds → Reps K F vs ds
  | [], _, _, _, .nil, e => by rw [unfz] at e; cases e; exact .nil
  | .fz d :: r, _, _, ds, .cons a b _, e => by
    rw [unfz] at e
    cases q : unfz r with
    | none => rw [q] at e; cases e
    | some es => rw [q] at e; cases e; exact .cons (repm_fz a) (unfz_reps b q)
  | .lst _ :: r, _, _, ds, .cons a b _, e => by simp [unfz] at e
  | .tup _ :: r, _, _, ds, .cons a b _, e => by simp [unfz] at e
  | .dK _ :: r, _, _, ds, .cons a b _, e => by simp [unfz] at e
  | .dT _ :: r, _, _, ds, .cons a b _, e => by simp [unfz] at e
  | .ins _ _ :: r, _, _, ds, .cons a b _, e => by simp [unfz] at e
theorem lstD_rep {m : M} {v : V} {fp : List Addr} {ds : List D} (s : Sub F H) (h : RepM K F H m v fp) (e : lstD m = some ds) : ∃ p vs, v = .ref p ∧ H p = some (.lst vs) ∧ Reps K F vs ds := by
  cases m with
  | fz d =>
    cases d with
    | lst es =>
      cases e
      cases repm_fz h with
      | lst a b => exact ⟨_, _, rfl, s _ _ a, b⟩
    | _ => cases e
  | lst ms =>
    cases h with
    | lst a f b n => exact ⟨_, _, rfl, a, unfz_reps b e⟩
  | _ => cases e
theorem seqD_rep {m : M} {v : V} {fp : List Addr} {ds : List D} (s : Sub F H) (h : RepM K F H m v fp) (e : seqD m = some ds) : ∃ p vs, v = .ref p ∧ (SqL K H p vs ∨ SqT K H p vs) ∧ Reps K F vs ds := by
  cases m with
  | fz d =>
    cases d with
    | lst es =>
      cases e
      cases repm_fz h with
      | lst a b => exact ⟨_, _, rfl, .inl (SqL.of (s _ _ a)), b⟩
    | tup es =>
      cases e
      cases repm_fz h with
      | tup a b => exact ⟨_, _, rfl, .inr (SqT.of (s _ _ a)), b⟩
    | _ => cases e
  | lst ms =>
    cases h with
    | lst a f b n => exact ⟨_, _, rfl, .inl (SqL.of a), unfz_reps b e⟩
  | _ => cases e
theorem tup_rep {ds : List D} {v : V} (s : Sub F H) (h : Rep K F v (.tup ds)) : ∃ p vs, v = .ref p ∧ SqT K H p vs ∧ Reps K F vs ds := by
  cases h with
  | tup a b => exact ⟨_, _, rfl, SqT.of (s _ _ a), b⟩
end
def Op2 (K : PySem.W.Frag) (g : FP) (r : R2) : Prop := ∀ x y H Q Ex, spOf K g [x, y] H Q Ex → r x y H Q
def OpC (K : PySem.W.Frag) (g : FP) (r : List V → Hp → VK → Prop) : Prop := ∀ vs H Q Ex, spOf K g vs H Q Ex → r vs H Q
abbrev arg1 (fa : FE) : FA := consA fa nilA
abbrev arg2 (fa fb : FE) : FA := consA fa (consA fb nilA)
abbrev arg3 (fa fb fc : FE) : FA := consA fa (consA fb (consA fc nilA))
section
variable {X : Cx} {W : WX} {a b c : Expr} {fa fb fc : FE} {g : FP} {pos : Pos}
theorem r_two {K : PySem.W.Frag} {r : R2} (hp : Op2 K g r) : ∀ σ H Q, rE K W (callE g (arg2 fa fb)) σ H Q → tOp r (rE K W fa) (rE K W fb) σ H Q := fun σ H Q p =>
  rE_imp (fun x H1 p1 => rE_imp (fun y H2 p2 => hp x y H2 Q _ (ra_nil p2)) (ra_cons p1)) (ra_cons (r_call p))
theorem e_op {op : Operator} {r : R2} (ho : OpR X (binaryOp op) r) (hp : Op2 X.K g r) (ha : PE X a (rE X.K W fa)) (hb : PE X b (rE X.K W fb)) : PE X (.BinOp a op b pos) (rE X.K W (callE g (arg2 fa fb))) := PE_mono (pe_op ho ha hb) (r_two hp)
theorem e_cmp {op : CmpOp} {r : R2} (ho : OpR X (compareOp op) r) (hp : Op2 X.K g r) (ha : PE X a (rE X.K W fa)) (hb : PE X b (rE X.K W fb)) (hm : behindInMarks op b = false) : PE X (.Compare a [op] [b] pos) (rE X.K W (callE g (arg2 fa fb))) := PE_mono (pe_cmpR ho ha hb hm) (r_two hp)
theorem e_ix {r : R2} (ho : IxR X r) (hp : Op2 X.K g r) (ha : PE X a (rE X.K W fa)) (hb : PE X b (rE X.K W fb)) (hs : PlainIx b) : PE X (.Subscript a b pos) (rE X.K W (callE g (arg2 fa fb))) := PE_mono (pe_ix ho ha hb hs) (r_two hp)
variable {e : Expr} {es : List Expr} {f : FA} {x : Str} {p : Pos} {id T : String}
theorem e_callB {r : List V → Hp → VK → Prop} (hc : CallR X (.builtin id) r) (hp : OpC X.K g r) (hg : Gl X x) (hm : X.mg x = none) (hv : bootBuiltins x = some (.builtin id)) (ha : PA X (e :: es) (rA X.K W f)) (hn : x ≠ "__name__" := by decide) (hdb : (x == ("__debug__" : Str)) = false := by decide)
    (he : starEach (e :: es) X.env = (false, eval e X.env) :: starEach es X.env := by rfl) (hpl : (backTo pos (starEach es X.env)).any (·.1) = false := by rfl) : PE X (.Call (.Name x p) (e :: es) [] pos) (rE X.K W (callE g f)) :=
  PE_mono (pe_callB hc hg hm hv ha hn hdb he hpl) fun σ H Q q => rA_imp (fun vs H1 z => hp vs H1 Q _ z) (r_call q)
theorem e_callTy {r : List V → Hp → VK → Prop} (hc : CallR X (.type T) r) (hp : OpC X.K g r) (hg : Gl X x) (hm : X.mg x = none) (hv : bootBuiltins x = some (.type T)) (ha : PA X (e :: es) (rA X.K W f)) (hn : x ≠ "__name__" := by decide) (hdb : (x == ("__debug__" : Str)) = false := by decide)
    (he : starEach (e :: es) X.env = (false, eval e X.env) :: starEach es X.env := by rfl) (hpl : (backTo pos (starEach es X.env)).any (·.1) = false := by rfl) : PE X (.Call (.Name x p) (e :: es) [] pos) (rE X.K W (callE g f)) :=
  PE_mono (pe_callTy hc hg hm hv ha hn hdb he hpl) fun σ H Q q => rA_imp (fun vs H1 z => hp vs H1 Q _ z) (r_call q)
end
def intM (c : Int → Int → Bool) (f : Int → Int → D) : M → M → Option M
  | .fz (.int i), .fz (.int j) => match c i j with
    | true => some (.fz (f i j))
    | false => none
  | _, _ => none
section
variable {K : PySem.W.Frag}
theorem g2_at {h : M → M → Option M} {x y : V} {H : Hp} {Q : VK} {Ex : XK} (p : spOf K (g2 h) [x, y] H Q Ex) : ∃ F a b m fps, REnv K F H (argS [x, y]) (argE [a, b]) fps ∧ RepM K F H a x (fps 0) ∧ RepM K F H b y (fps 1) ∧ h a b = some m ∧ poP K F H (Own fps) [x, y] (some (.ok m [some a, some b])) Q Ex := by
  obtain ⟨F, ms, fps, R, p⟩ := p
  obtain ⟨a, b, rfl, r1, r2⟩ := args2 R
  unfold g2 at p
  simp only at p
  cases e : h a b with
  | none => rw [e] at p; exact p.elim
  | some m => rw [e] at p; exact ⟨F, a, b, m, fps, R, r1, r2, e, p⟩
theorem g1_at {h : M → Option M} {vs : List V} {H : Hp} {Q : VK} {Ex : XK} (p : spOf K (g1 h) vs H Q Ex) : ∃ x F a m fps, vs = [x] ∧ REnv K F H (argS [x]) (argE [a]) fps ∧ RepM K F H a x (fps 0) ∧ h a = some m ∧ poP K F H (Own fps) [x] (some (.ok m [some a])) Q Ex := by
  obtain ⟨F, ms, fps, R, p⟩ := p
  unfold g1 at p
  have l := R.len
  split at p
  · rename_i a
    simp at l
    match vs, l with
    | [x], _ =>
      obtain ⟨a', e', r⟩ := args1 R
      cases e'
      cases e : h a with
      | none => rw [e] at p; exact p.elim
      | some m => rw [e] at p; exact ⟨x, F, a, m, fps, rfl, R, r, e, p⟩
  · exact p.elim
theorem g2_atC {h : M → M → Option M} {vs : List V} {H : Hp} {Q : VK} {Ex : XK} (p : spOf K (g2 h) vs H Q Ex) : ∃ x y F a b m fps, vs = [x, y] ∧ REnv K F H (argS [x, y]) (argE [a, b]) fps ∧ RepM K F H a x (fps 0) ∧ RepM K F H b y (fps 1) ∧ h a b = some m ∧ poP K F H (Own fps) [x, y] (some (.ok m [some a, some b])) Q Ex := by
  have q := p
  obtain ⟨F, ms, fps, R, p⟩ := p
  unfold g2 at p
  have l := R.len
  split at p
  · rename_i a b
    simp at l
    match vs, l with
    | [x, y], _ =>
      obtain ⟨F, a, b, m, fps, h⟩ := g2_at q
      exact ⟨x, y, F, a, b, m, fps, rfl, h⟩
  · exact p.elim
theorem intM_at {c : Int → Int → Bool} {f : Int → Int → D} {a b m : M} (e : intM c f a b = some m) : ∃ i j, a = .fz (.int i) ∧ b = .fz (.int j) ∧ c i j = true ∧ m = .fz (f i j) := by
  unfold intM at e
  split at e
  · rename_i i j
    cases hc : c i j with
    | false => rw [hc] at e; cases e
    | true => rw [hc] at e; cases e; exact ⟨i, j, rfl, rfl, hc, rfl⟩
  · cases e
theorem op2_int {c : Int → Int → Bool} {f : Int → Int → D} {C : Int → Int → Prop} {gV : Int → Int → V} (hc : ∀ i j, c i j = true → C i j) (hr : ∀ i j F, Rep K F (gV i j) (f i j)) : Op2 K (g2 (intM c f)) (rI C gV) := fun x y H Q Ex p => by
  obtain ⟨F, a, b, m, fps, R, r1, r2, e, p⟩ := g2_at p
  obtain ⟨i, j, rfl, rfl, h, rfl⟩ := intM_at e
  obtain rfl := rep_int (repm_fz r1)
  obtain rfl := rep_int (repm_fz r2)
  exact ⟨i, j, rfl, rfl, hc i j h, sp_flat R (hr i j F) p⟩
theorem op2_int0 {f : Int → Int → D} {gV : Int → Int → V} (hr : ∀ i j F, Rep K F (gV i j) (f i j)) : Op2 K (g2 (intM (fun _ _ => true) f)) (rI0 gV) := fun x y H Q Ex p => by
  obtain ⟨F, a, b, m, fps, R, r1, r2, e, p⟩ := g2_at p
  obtain ⟨i, j, rfl, rfl, h, rfl⟩ := intM_at e
  obtain rfl := rep_int (repm_fz r1)
  obtain rfl := rep_int (repm_fz r2)
  exact ⟨i, j, rfl, rfl, sp_flat R (hr i j F) p⟩
end
abbrev subG : FP := g2 (intM (fun _ _ => true) fun i j => .int (i - j))
def mulC (i j : Int) : Bool := (decide (-(2 ^ 64) < i) && decide (i < 2 ^ 64)) || (decide (-(2 ^ 64) < j) && decide (j < 2 ^ 64))
def divC (_ j : Int) : Bool := decide (0 < j) && decide (j < 1208925819614629174706176)
def modC (_ j : Int) : Bool := decide (0 < j)
def powC (i j : Int) : Bool := decide (0 ≤ j) && (decide (j ≤ 1000000) && decide (i.natAbs < 2 ^ 64))
abbrev fdivG : FP := g2 (intM divC fun i j => .int (i / j))
abbrev modG : FP := g2 (intM modC fun i j => .int (i % j))
abbrev powG : FP := g2 (intM powC fun i j => .int (i ^ j.toNat))
abbrev ltG : FP := g2 (intM (fun _ _ => true) fun i j => .bl (decide (i < j)))
abbrev leG : FP := g2 (intM (fun _ _ => true) fun i j => .bl (decide (i ≤ j)))
abbrev gtG : FP := g2 (intM (fun _ _ => true) fun i j => .bl (decide (j < i)))
abbrev geG : FP := g2 (intM (fun _ _ => true) fun i j => .bl (decide (j ≤ i)))
section
variable {X : Cx} {W : WX} {a b : Expr} {fa fb : FE} {pos : Pos}
theorem e_sub (ha : PE X a (rE X.K W fa)) (hb : PE X b (rE X.K W fb)) : PE X (.BinOp a .Sub b pos) (rE X.K W (callE subG (arg2 fa fb))) := e_op op_sub (op2_int0 fun i j F => .int _) ha hb
theorem e_fdiv (ha : PE X a (rE X.K W fa)) (hb : PE X b (rE X.K W fb)) : PE X (.BinOp a .FloorDiv b pos) (rE X.K W (callE fdivG (arg2 fa fb))) := e_op op_fdivW (op2_int (fun i j h => by
    have h : (0 : Int) < j ∧ j < 1208925819614629174706176 := by simpa [divC] using h
    have h2 : j.natAbs < 2 ^ 80 := by omega
    exact wide_div h.1 h2 (by omega) (by omega)) fun i j F => .int _) ha hb
theorem e_mod (ha : PE X a (rE X.K W fa)) (hb : PE X b (rE X.K W fb)) : PE X (.BinOp a .Mod b pos) (rE X.K W (callE modG (arg2 fa fb))) := e_op op_mod (op2_int (fun i j h => by simpa [modC] using h) fun i j F => .int _) ha hb
theorem e_pow (ha : PE X a (rE X.K W fa)) (hb : PE X b (rE X.K W fb)) : PE X (.BinOp a .Pow b pos) (rE X.K W (callE powG (arg2 fa fb))) := e_op op_pow (op2_int (fun i j h => by
  simp only [powC, Bool.and_eq_true, decide_eq_true_eq] at h; exact h) fun i j F => .int _) ha hb
theorem e_lt (ha : PE X a (rE X.K W fa)) (hb : PE X b (rE X.K W fb)) : PE X (.Compare a [.Lt] [b] pos) (rE X.K W (callE ltG (arg2 fa fb))) := e_cmp op_lt (op2_int0 fun i j F => .bl _) ha hb (nomark _)
theorem e_le (ha : PE X a (rE X.K W fa)) (hb : PE X b (rE X.K W fb)) : PE X (.Compare a [.LtE] [b] pos) (rE X.K W (callE leG (arg2 fa fb))) := e_cmp op_le (op2_int0 fun i j F => .bl _) ha hb (nomark _)
theorem e_gt (ha : PE X a (rE X.K W fa)) (hb : PE X b (rE X.K W fb)) : PE X (.Compare a [.Gt] [b] pos) (rE X.K W (callE gtG (arg2 fa fb))) := e_cmp op_gt (op2_int0 fun i j F => .bl _) ha hb (nomark _)
end
def absM : M → Option M
  | .fz (.int i) => some (.fz (.int (if i < 0 then -i else i)))
  | _ => none
def addM : M → M → Option M
  | .fz (.int i), .fz (.int j) => some (.fz (.int (i + j)))
  | .fz (.str s), .fz (.str t) => if s.length + t.length ≤ sizeLine then some (.fz (.str (s ++ t))) else none
  | .fz (.tup s), .fz (.tup t) => if s.length + t.length ≤ sizeLine then some (.fz (.tup (s ++ t))) else none
  | a, b => match lstD a with
    | some s => match lstD b with
      | some t => if s.length + t.length ≤ sizeLine then some (.lst ((s ++ t).map .fz)) else none
      | none => none
    | none => none
abbrev addG : FP := g2 addM
section
variable {X : Cx} {W : WX} {a b : Expr} {fa fb : FE} {pos : Pos}
theorem op2_add {K : PySem.W.Frag} : Op2 K addG (fun x y H Q => rI0 (fun i j => .int (i + j)) x y H Q ∨ ((∃ i j, x = .str i ∧ y = .str j ∧ i.length + j.length ≤ sizeLine ∧ Q (.str (i ++ j)) H) ∨ (rCatA K x y H Q ∨ rCat x y H Q))) := fun x y H Q Ex p => by
  obtain ⟨F, a, b, m, fps, R, r1, r2, e, p⟩ := g2_at p
  unfold addM at e
  split at e
  · cases e
    obtain rfl := rep_int (repm_fz r1)
    obtain rfl := rep_int (repm_fz r2)
    exact .inl ⟨_, _, rfl, rfl, sp_flat R (.int _) p⟩
  · split at e
    · rename_i hl
      cases e
      obtain rfl := rep_str (repm_fz r1)
      obtain rfl := rep_str (repm_fz r2)
      exact .inr (.inl ⟨_, _, rfl, rfl, hl, sp_flat R (.str _) p⟩)
    · cases e
  · split at e
    · rename_i s t hl
      cases e
      obtain ⟨p1, vs1, rfl, q1, rs1⟩ := tup_rep R.fr (repm_fz r1)
      obtain ⟨p2, vs2, rfl, q2, rs2⟩ := tup_rep R.fr (repm_fz r2)
      refine .inr (.inr (.inl ⟨p1, p2, vs1, vs2, rfl, rfl, q1, q2, by rw [rs1.length, rs2.length]; exact hl, fun z => ?_, fun z1 z2 => ?_, fun z1 z2 => sp_tup R (rs1.append rs2) p⟩))
      · subst z
        have hs : s = [] := List.eq_nil_of_length_eq_zero rs1.length.symm
        subst hs
        exact sp_flat R (repm_fz r2) p
      · subst z2
        have hs : t = [] := List.eq_nil_of_length_eq_zero rs2.length.symm
        subst hs
        rw [List.append_nil] at p
        exact sp_flat R (repm_fz r1) p
    · cases e
  · cases e1 : lstD a with
    | none => rw [e1] at e; cases e
    | some s =>
      rw [e1] at e
      cases e2 : lstD b with
      | none => rw [e2] at e; cases e
      | some t =>
        rw [e2] at e
        simp only at e
        split at e
        · rename_i hl
          cases e
          obtain ⟨p1, vs1, rfl, q1, rs1⟩ := lstD_rep R.fr r1 e1
          obtain ⟨p2, vs2, rfl, q2, rs2⟩ := lstD_rep R.fr r2 e2
          exact .inr (.inr (.inr ⟨p1, p2, vs1, vs2, rfl, rfl, q1, q2, by rw [rs1.length, rs2.length]; exact hl, sp_lst R (rs1.append rs2) p⟩))
        · cases e
theorem e_add (ha : PE X a (rE X.K W fa)) (hb : PE X b (rE X.K W fb)) : PE X (.BinOp a .Add b pos) (rE X.K W (callE addG (arg2 fa fb))) := e_op (op_add.or (op_add_str.or (op_catA.or op_cat))) op2_add ha hb
end
def ixM : M → M → Option M
  | .fz (.str s), .fz (.int i) => if s.length ≤ sizeLine then match atI s.cps.toList i with
      | some c => some (.fz (.str ⟨#[c]⟩))
      | none => none
    else none
  | a, .fz (.int i) => match seqD a with
    | some ds => match atI ds i with
      | some d => some (.fz d)
      | none => none
    | none => none
  | _, _ => none
theorem atI_reps {K : PySem.W.Frag} {F : Hp} {vs : List V} {ds : List D} {i : Int} {d : D} (r : Reps K F vs ds) (h : atI ds i = some d) : ∃ v, atI vs i = some v ∧ Rep K F v d := by
  unfold atI at h ⊢
  rw [r.length]
  cases e : ixN ds.length i with
  | none => rw [e] at h; cases h
  | some j =>
    rw [e] at h
    exact r.get h
abbrev ixG : FP := g2 ixM
section
variable {X : Cx} {W : WX} {a b : Expr} {fa fb : FE} {pos : Pos}
theorem op2_ix {K : PySem.W.Frag} : Op2 K ixG (rIx K) := fun x y H Q Ex p => by
  obtain ⟨F, a, b, m, fps, R, r1, r2, e, p⟩ := g2_at p
  unfold ixM at e
  split at e
  · split at e
    · rename_i hl
      split at e
      · rename_i hc
        cases e
        obtain rfl := rep_str (repm_fz r1)
        obtain rfl := rep_int (repm_fz r2)
        exact .inr (.inr ⟨_, _, _, rfl, rfl, hl, hc, sp_flat R (.str _) p⟩)
      · cases e
    · cases e
  · rename_i i _
    cases e1 : seqD a with
    | none => rw [e1] at e; cases e
    | some ds =>
      rw [e1] at e
      simp only at e
      cases e2 : atI ds i with
      | none => rw [e2] at e; cases e
      | some d =>
        rw [e2] at e; cases e
        obtain rfl := rep_int (repm_fz r2)
        obtain ⟨q, vs, rfl, hq, rs⟩ := seqD_rep R.fr r1 e1
        obtain ⟨v, hv, rv⟩ := atI_reps rs e2
        rcases hq with hq | hq
        · exact .inl ⟨q, vs, i, v, rfl, rfl, hq, hv, sp_flat R rv p⟩
        · exact .inr (.inl ⟨q, vs, i, v, rfl, rfl, hq, hv, sp_flat R rv p⟩)
  · cases e
end
def lenM : M → Option M
  | .fz (.str s) => if s.length ≤ sizeLine then some (.fz (.int s.length)) else none
  | .lst ms => some (.fz (.int ms.length))
  | .fz (.lst ds) => some (.fz (.int ds.length))
  | .fz (.tup ds) => some (.fz (.int ds.length))
  | _ => none
abbrev lenG : FP := g1 lenM
section
variable {X : Cx} {W : WX} {e : Expr} {fa : FE} {p pos : Pos}
theorem opc_len {K : PySem.W.Frag} : OpC K lenG (fun xs H Q => ∃ x n, xs = [x] ∧ LenV K x H n ∧ Q (.int n) H) := fun vs H Q Ex p => by
  obtain ⟨x, F, a, m, fps, rfl, R, r, h, p⟩ := g1_at p
  unfold lenM at h
  split at h
  · split at h
    · rename_i hl
      cases h
      obtain rfl := rep_str (repm_fz r)
      exact ⟨_, _, rfl, ⟨hl, rfl⟩, sp_flat R (.int _) p⟩
    · cases h
  · cases h
    obtain ⟨_, _, _, rfl, q, f, b, n, _⟩ := repm_lst r
    exact ⟨_, _, rfl, .inl ⟨_, SqL.of q, rfl⟩, sp_flat R (by rw [b.length]; exact .int _) p⟩
  · cases h
    cases repm_fz r with
    | lst q b => exact ⟨_, _, rfl, .inl ⟨_, SqL.of (R.fr _ _ q), rfl⟩, sp_flat R (by rw [b.length]; exact .int _) p⟩
  · cases h
    cases repm_fz r with
    | tup q b => exact ⟨_, _, rfl, .inr ⟨_, SqT.of (R.fr _ _ q), rfl⟩, sp_flat R (by rw [b.length]; exact .int _) p⟩
  · cases h
theorem e_len (hg : Gl X "len") (hm : X.mg "len" = none) (ha : PE X e (rE X.K W fa)) (hs : starEach [e] X.env = (false, eval e X.env) :: starEach [] X.env := by rfl) : PE X (.Call (.Name "len" p) [e] [] pos) (rE X.K W (callE lenG (arg1 fa))) :=
  e_callB call_len opc_len hg hm PySem.boot_len (a_cons ha a_nil hs) (he := hs)
theorem opc_abs {K : PySem.W.Frag} : OpC K (g1 absM) (fun xs H Q => ∃ i, xs = [.int i] ∧ Q (.int (if i < 0 then -i else i)) H) := fun vs H Q Ex p => by
  obtain ⟨x, F, a, m, fps, rfl, R, r, h, p⟩ := g1_at p
  unfold absM at h
  split at h
  · cases h
    obtain rfl := rep_int (repm_fz r)
    exact ⟨_, rfl, sp_flat R (.int _) p⟩
  · cases h
theorem e_abs (hg : Gl X "abs") (hm : X.mg "abs" = none) (ha : PE X e (rE X.K W fa)) (hs : starEach [e] X.env = (false, eval e X.env) :: starEach [] X.env := by rfl) : PE X (.Call (.Name "abs" p) [e] [] pos) (rE X.K W (callE (g1 absM) (arg1 fa))) :=
  e_callB call_abs opc_abs hg hm (by decide +kernel) (a_cons ha a_nil hs) (he := hs)
end
end Ink
set_option Elab.async false
set_option linter.all false
set_option maxRecDepth 100000
namespace Ink
open PySem L2
inductive Fl where
  | nx (env : E) | rt (m : M) (env : E) | bk (env : E) | ct (env : E) | ex (x : Xc) (env : E)
abbrev FS := E → Option Fl
abbrev FG := M → E → Option E
def Pin (P : List Nat) (σ σ' : St) : Prop := ∀ i ∈ P, σ'[i]? = σ[i]?
theorem Pin.refl {P : List Nat} {σ : St} : Pin P σ σ := fun _ _ => rfl
theorem Pin.trans {P : List Nat} {σ σ1 σ2 : St} (a : Pin P σ σ1) (b : Pin P σ1 σ2) : Pin P σ σ2 := fun i h => (b i h).trans (a i h)
/-- only slots of S were stored -/
def Chg (S : List Nat) (σ σ' : St) : Prop := σ'.length = σ.length ∧ ∀ i, S.contains i = false → σ'[i]? = σ[i]?
theorem Chg.refl {S : List Nat} {σ : St} : Chg S σ σ := ⟨rfl, fun _ _ => rfl⟩
theorem Chg.trans {S : List Nat} {σ σ1 σ2 : St} (a : Chg S σ σ1) (b : Chg S σ1 σ2) : Chg S σ σ2 := ⟨b.1.trans a.1, fun i h => (b.2 i h).trans (a.2 i h)⟩
theorem Chg.set {S : List Nat} {σ : St} {i : Nat} {v : Option V} (h : S.contains i = true) : Chg S σ (σ.set i v) := ⟨List.length_set, fun j hj => by
  rw [List.getElem?_set_ne]
  intro e
  subst e
  rw [h] at hj; cases hj⟩
def apart (S P : List Nat) : Bool := S.all fun i => !P.contains i
theorem Chg.pin {S P : List Nat} {σ σ' : St} (h : Chg S σ σ') (hs : apart S P = true) : Pin P σ σ' := fun i hi => h.2 i (by
  cases e : S.contains i with
  | false => rfl
  | true =>
    have := List.all_eq_true.mp hs i (by simpa using e)
    simp at this
    exact absurd hi this)
section
variable (K : PySem.W.Frag) (W : WX) (P : List Nat) (σ : St) (F H : Hp) (A : Addr → Prop)
def PNC (S : List Nat) (env' : E) (k : St → Hp → Prop) : Prop := ∀ σ' F' H' fps', REnv K F' H' σ' env' fps' → Chg S σ σ' → Ext K F H A F' H' (Own fps') → k σ' H'
def PN (env' : E) (k : St → Hp → Prop) : Prop := ∀ σ' F' H' fps', REnv K F' H' σ' env' fps' → Pin P σ σ' → Ext K F H A F' H' (Own fps') → k σ' H'
def PR (m : M) (env' : E) (k : VK) : Prop := ∀ v σ' F' H' fps' fp, REnv K F' H' σ' env' fps' → RepM K F' H' m v fp → (∀ b ∈ fp, ¬ Own fps' b) → Pin P σ σ' → Ext K F H A F' H' (fun b => Own fps' b ∨ b ∈ fp) → k v H'
def PXS (x : Xc) (env' : E) : Prop := ∀ cls d σ' F' H' fps', REnv K F' H' σ' env' fps' → RepX K F' H' x cls d → Pin P σ σ' → Ext K F H A F' H' (Own fps') → W cls d σ' H'
def poS (o : Option Fl) (D : Ends) : Prop := match o with
  | none => False
  | some (.nx env') => PN K P σ F H A env' D.nx
  | some (.bk env') => PN K P σ F H A env' D.bk
  | some (.ct env') => PN K P σ F H A env' D.ct
  | some (.rt m env') => PR K P σ F H A m env' D.rt
  | some (.ex x env') => PXS K W P σ F H A x env'
end
def rS (K : PySem.W.Frag) (W : WX) (P : List Nat) (f : FS) : TS := fun D σ H => ∃ F env fps, REnv K F H σ env fps ∧ poS K W P σ F H (Own fps) (f env) D
section
variable {K : PySem.W.Frag} {W : WX} {P : List Nat} {σ σ1 : St} {F H F1 H1 : Hp} {A A1 B : Addr → Prop}
theorem PN.wide {env' : E} {k : St → Hp → Prop} (p : PN K P σ F H A env' k) (pn : Pin P σ σ1) (e : Ext K F H A F1 H1 A1) (hB : ∀ b, B b → A1 b) : PN K P σ1 F1 H1 B env' k :=
  fun σ' F' H' fps' R q e2 => p σ' F' H' fps' R (pn.trans q) (e.trans e2 hB fun _ c => .inl c)
theorem PR.wide {m : M} {env' : E} {k : VK} (p : PR K P σ F H A m env' k) (pn : Pin P σ σ1) (e : Ext K F H A F1 H1 A1) (hB : ∀ b, B b → A1 b) : PR K P σ1 F1 H1 B m env' k :=
  fun v σ' F' H' fps' fp R r d q e2 => p v σ' F' H' fps' fp R r d (pn.trans q) (e.trans e2 hB fun _ c => .inl c)
theorem PXS.wide {x : Xc} {env' : E} (p : PXS K W P σ F H A x env') (pn : Pin P σ σ1) (e : Ext K F H A F1 H1 A1) (hB : ∀ b, B b → A1 b) : PXS K W P σ1 F1 H1 B x env' :=
  fun cls d σ' F' H' fps' R r q e2 => p cls d σ' F' H' fps' R r (pn.trans q) (e.trans e2 hB fun _ c => .inl c)
theorem PXS.px {x : Xc} {env' : E} (p : PXS K W P σ F H A x env') : PX K W σ F H A x env' := fun cls d F' H' fps' R r e => p cls d σ F' H' fps' R r .refl e
theorem poS.wide {o : Option Fl} {D : Ends} (p : poS K W P σ F H A o D) (pn : Pin P σ σ1) (e : Ext K F H A F1 H1 A1) (hB : ∀ b, B b → A1 b) : poS K W P σ1 F1 H1 B o D := by
  cases o with
  | none => exact p
  | some o =>
    cases o with
    | nx e2 => exact PN.wide p pn e hB
    | bk e2 => exact PN.wide p pn e hB
    | ct e2 => exact PN.wide p pn e hB
    | rt m e2 => exact PR.wide p pn e hB
    | ex x e2 => exact PXS.wide p pn e hB
end
def skipS : FS := fun env => some (.nx env)
def seqS (f g : FS) : FS := fun env => match f env with
  | some (.nx env1) => g env1
  | o => o
section
variable {X : Cx} {W : WX} {P : List Nat} {st : Stmt} {rest : List Stmt} {f g : FS}
theorem s_nil : PSs X [] (rS X.K W P skipS) := PSs_mono pss_nil fun D σ H ⟨F, env, fps, R, p⟩ => p σ F H fps R .refl (Ext.refl fun _ h => h)
theorem s_cons (h1 : PS X st (rS X.K W P f)) (h2 : PSs X rest (rS X.K W P g)) : PSs X (st :: rest) (rS X.K W P (seqS f g)) := PSs_mono (pss_cons h1 h2) fun D σ H ⟨F, env, fps, R, p⟩ => by
  refine ⟨F, env, fps, R, ?_⟩
  unfold seqS at p
  cases e : f env with
  | none => rw [e] at p; exact p
  | some o =>
    rw [e] at p
    cases o with
    | nx env1 => exact fun σ1 F1 H1 fps1 R1 q e1 => ⟨F1, env1, fps1, R1, poS.wide p q e1 fun _ h => h⟩
    | bk env1 => exact p
    | ct env1 => exact p
    | rt m env1 => exact p
    | ex x env1 => exact p
theorem s_one (h1 : PS X st (rS X.K W P f)) : PSs X [st] (rS X.K W P f) := pss_one h1
end
def boolA (a : Av) (env : E) : Option Bool := match a with
  | .tm (.fz (.bl b)) => some b
  | .sl i => match env[i]? with
    | some (some (.fz (.bl b))) => some b
    | _ => none
  | _ => none
def tst (f : FE) : FT := fun env => bindO (f env) fun a env1 => match boolA a env1 with
  | some b => some (.ok b env1)
  | none => none
theorem boolA_rep {K : PySem.W.Frag} {F H : Hp} {σ : St} {env : E} {fps : Nat → List Addr} {a : Av} {v : V} {fp : List Addr} {b : Bool} (R : REnv K F H σ env fps) (r : RepA K F H σ a v fp) (h : boolA a env = some b) : v = .bl b := by
  unfold boolA at h
  split at h
  · cases h
    exact rep_bl (repm_fz r)
  · split at h
    · rename_i e
      cases h
      obtain ⟨w, hw, rr⟩ := R.got _ _ e
      obtain ⟨q, _⟩ := r
      rw [q] at hw; cases hw
      exact rep_bl (repm_fz rr)
    · cases h
  · cases h
section
variable {X : Cx} {W : WX} {e a b c : Expr} {f : FE} {rest : List Expr} {ta tb : FT} {pos : Pos}
theorem r_tst {K : PySem.W.Frag} : ∀ σ H Q, rT K W (tst f) σ H Q → rE K W f σ H fun x H1 => ∃ k, x = .bl k ∧ Q k H1 := fun σ H Q ⟨F, env, fps, R, p⟩ => by
  refine ⟨F, env, fps, R, ?_⟩
  unfold tst at p
  cases ef : f env with
  | none => rw [ef] at p; exact p
  | some o =>
    rw [ef] at p
    cases o with
    | ex x env1 => exact p
    | ok a env1 =>
      simp only [bindO_ok] at p
      intro v F1 H1 fps1 fp R1 r d e1
      cases eb : boolA a env1 with
      | none => rw [eb] at p; exact p.elim
      | some b =>
        rw [eb] at p
        exact ⟨b, boolA_rep R1 r eb, p F1 H1 fps1 R1 (e1.weak fun _ h => .inl h)⟩
theorem t_val (h : PE X e (rE X.K W f)) (he : ∀ whole, isTrue e X.env whole = (do let v ← whole; standAt e.pos; holding [v] (truthy v)) := by intro _; rfl) : PT X e (rT X.K W (tst f)) := PT_mono (pt_val h he) r_tst
def andT (f g : FT) : FT := fun env => bindO (f env) fun b env1 => match b with
  | true => g env1
  | false => some (.ok false env1)
def orT (f g : FT) : FT := fun env => bindO (f env) fun b env1 => match b with
  | true => some (.ok true env1)
  | false => g env1
def notT (f : FT) : FT := fun env => bindO (f env) fun b env1 => some (.ok (!b) env1)
theorem poT_wide {K : PySem.W.Frag} {σ : St} {F H F1 H1 : Hp} {A A1 B : Addr → Prop} {o : Option (Out Bool)} {Q : Bool → Hp → Prop} (p : poT K W σ F H A o Q) (e : Ext K F H A F1 H1 A1) (hB : ∀ b, B b → A1 b) : poT K W σ F1 H1 B o Q := by
  cases o with
  | none => exact p
  | some o =>
    cases o with
    | ok a env' => exact fun F' H' fps' R e2 => p F' H' fps' R (e.trans e2 hB fun _ c => .inl c)
    | ex x env' => exact PX.wide p e hB
theorem t_and1 (h : PT X a (rT X.K W ta)) : PW X (.BoolOp .And [a] pos) (rT X.K W ta) := pw_and1 h
theorem t_or1 (h : PT X a (rT X.K W ta)) : PW X (.BoolOp .Or [a] pos) (rT X.K W ta) := pw_or1 h
theorem t_and (h : PT X a (rT X.K W ta)) (h2 : PW X (.BoolOp .And (b :: rest) pos) (rT X.K W tb)) : PW X (.BoolOp .And (a :: b :: rest) pos) (rT X.K W (andT ta tb)) := PW_mono (pw_and h h2) fun σ H Q ⟨F, env, fps, R, p⟩ => by
  refine ⟨F, env, fps, R, ?_⟩
  unfold andT at p
  cases ef : ta env with
  | none => rw [ef] at p; exact p
  | some o =>
    rw [ef] at p
    cases o with
    | ex x env1 => exact p
    | ok k env1 =>
      simp only [bindO_ok] at p
      intro F1 H1 fps1 R1 e1
      cases k with
      | true => exact iteT' ⟨F1, env1, fps1, R1, poT_wide p e1 fun _ h => h⟩
      | false => exact iteF' (p F1 H1 fps1 R1 e1)
where
  iteT' {A B : Prop} (h : A) : if true = true then A else B := by rw [if_pos rfl]; exact h
  iteF' {A B : Prop} (h : B) : if false = true then A else B := by rw [if_neg Bool.false_ne_true]; exact h
theorem ifT {A B : Prop} (h : A) : if true = true then A else B := by rw [if_pos rfl]; exact h
theorem ifF {A B : Prop} (h : B) : if false = true then A else B := by rw [if_neg Bool.false_ne_true]; exact h
theorem t_or (h : PT X a (rT X.K W ta)) (h2 : PW X (.BoolOp .Or (b :: rest) pos) (rT X.K W tb)) : PW X (.BoolOp .Or (a :: b :: rest) pos) (rT X.K W (orT ta tb)) := PW_mono (pw_or h h2) fun σ H Q ⟨F, env, fps, R, p⟩ => by
  refine ⟨F, env, fps, R, ?_⟩
  unfold orT at p
  cases ef : ta env with
  | none => rw [ef] at p; exact p
  | some o =>
    rw [ef] at p
    cases o with
    | ex x env1 => exact p
    | ok k env1 =>
      simp only [bindO_ok] at p
      intro F1 H1 fps1 R1 e1
      cases k with
      | true => exact ifT (p F1 H1 fps1 R1 e1)
      | false => exact ifF ⟨F1, env1, fps1, R1, poT_wide p e1 fun _ h => h⟩
theorem t_not (h : PT X a (rT X.K W ta)) : PT X (.UnaryOp .Not a pos) (rT X.K W (notT ta)) := PT_mono (pt_not h) fun σ H Q ⟨F, env, fps, R, p⟩ => by
  refine ⟨F, env, fps, R, ?_⟩
  unfold notT at p
  cases ef : ta env with
  | none => rw [ef] at p; exact p
  | some o =>
    rw [ef] at p
    cases o with
    | ex x env1 => exact p
    | ok k env1 => exact p
end
def ifS (c : FT) (f g : FS) : FS := fun env => match c env with
  | none => none
  | some (.ok true env1) => f env1
  | some (.ok false env1) => g env1
  | some (.ex x env1) => some (.ex x env1)
def bindS {α : Type} (o : Option (Out α)) (k : α → E → Option Fl) : Option Fl := match o with
  | none => none
  | some (.ok a env1) => k a env1
  | some (.ex x env1) => some (.ex x env1)
/-- return e: a thing made on the way -/
def retS (f : FE) : FS := fun env => bindS (f env) fun a env1 => match a with
  | .tm m => some (.rt m env1)
  | .sl _ => none
/-- return x, x a local: the thing goes out with it -/
def retV (i : Nat) : FS := fun env => match env[i]? with
  | some (some m) => some (.rt m (env.set i none))
  | _ => none
def retN : FS := fun env => some (.rt (.fz .non) env)
def exprS (f : FE) : FS := fun env => bindS (f env) fun _ env1 => some (.nx env1)
/-- target = e -/
def asgS (f : FE) (g : FG) : FS := fun env => bindS (f env) fun a env1 => match a with
  | .tm m => match g m env1 with
    | some env2 => some (.nx env2)
    | none => none
  | .sl _ => none
section
variable {X : Cx} {W : WX} {P : List Nat} {c e : Expr} {a b : List Stmt} {fc : FT} {fa fb : FS} {f : FE} {pos : Pos}
theorem s_if (hc : PT X c (rT X.K W fc)) (ha : PSs X a (rS X.K W P fa)) (hb : PSs X b (rS X.K W P fb)) : PS X (.If c a b pos) (rS X.K W P (ifS fc fa fb)) := PS_mono (ps_if hc ha hb) fun D σ H ⟨F, env, fps, R, p⟩ => by
  refine ⟨F, env, fps, R, ?_⟩
  unfold ifS at p
  cases ef : fc env with
  | none => rw [ef] at p; exact p
  | some o =>
    rw [ef] at p
    cases o with
    | ex x env1 => exact PXS.px p
    | ok k env1 =>
      intro F1 H1 fps1 R1 e1
      cases k with
      | true => exact ifT ⟨F1, env1, fps1, R1, poS.wide p .refl e1 fun _ h => h⟩
      | false => exact ifF ⟨F1, env1, fps1, R1, poS.wide p .refl e1 fun _ h => h⟩
theorem s_ret (he : PE X e (rE X.K W f)) : PS X (.Return (some e) pos) (rS X.K W P (retS f)) := PS_mono (ps_ret he) fun D σ H ⟨F, env, fps, R, p⟩ => by
  refine ⟨F, env, fps, R, ?_⟩
  unfold retS at p
  cases ef : f env with
  | none => rw [ef] at p; exact p
  | some o =>
    rw [ef] at p
    cases o with
    | ex x env1 => exact PXS.px p
    | ok a env1 =>
      cases a with
      | sl i => exact p.elim
      | tm m => exact fun v F1 H1 fps1 fp R1 r d e1 => p v σ F1 H1 fps1 fp R1 r d .refl e1
theorem s_retv {i : Nat} {x : Str} {pos' : Pos} (he : PE X (.Name x pos') (tVar i)) : PS X (.Return (some (.Name x pos')) pos) (rS X.K W P (retV i)) := PS_mono (ps_ret he) fun D σ H ⟨F, env, fps, R, p⟩ => by
  unfold retV at p
  split at p
  · rename_i m em
    obtain ⟨v, hv, r⟩ := R.got i m em
    refine ⟨v, hv, p v σ F H _ (fps i) (R.drop i) r (fun b hb ⟨j, hj⟩ => ?_) .refl (Ext.refl fun b h => ?_)⟩
    · by_cases ej : j = i
      · simp only [if_pos ej] at hj; cases hj
      · simp only [if_neg ej] at hj
        exact R.dj j i ej b hj hb
    · rcases h with ⟨j, hj⟩ | h
      · by_cases ej : j = i
        · simp only [if_pos ej] at hj; cases hj
        · simp only [if_neg ej] at hj; exact ⟨j, hj⟩
      · exact ⟨i, h⟩
  · exact p.elim
theorem s_expr (he : PE X e (rE X.K W f)) (hs : swapsWith e none pos.line X.env = pure false := by rfl) : PS X (.Expr e pos) (rS X.K W P (exprS f)) := PS_mono (ps_expr he hs) fun D σ H ⟨F, env, fps, R, p⟩ => by
  refine ⟨F, env, fps, R, ?_⟩
  unfold exprS at p
  cases ef : f env with
  | none => rw [ef] at p; exact p
  | some o =>
    rw [ef] at p
    cases o with
    | ex x env1 => exact PXS.px p
    | ok a env1 => exact fun v F1 H1 fps1 fp R1 r d e1 => p σ F1 H1 fps1 R1 .refl (e1.weak fun _ h => .inl h)
end
def rG (K : PySem.W.Frag) (S : List Nat) (g : FG) : TG := fun v σ H Q => ∃ F env fps m fp, REnv K F H σ env fps ∧ RepM K F H m v fp ∧ (∀ b ∈ fp, ¬ Own fps b) ∧ ∃ env', g m env = some env' ∧ PNC K σ F H (fun b => Own fps b ∨ b ∈ fp) S env' Q
theorem PG_mono {X : Cx} {e : Expr} {t t' : TG} (h : PG X e t) (m : ∀ v σ H Q, t' v σ H Q → t v σ H Q) : PG X e t' := ⟨fun pins s σ H v u Q I r q => h.run pins s σ H v u Q I r (m _ _ _ _ q)⟩
theorem PNC.wide {K : PySem.W.Frag} {S : List Nat} {σ σ1 : St} {F H F1 H1 : Hp} {A A1 B : Addr → Prop} {env' : E} {k : St → Hp → Prop} (p : PNC K σ F H A S env' k) (pn : Chg S σ σ1) (e : Ext K F H A F1 H1 A1) (hB : ∀ b, B b → A1 b) : PNC K σ1 F1 H1 B S env' k :=
  fun σ' F' H' fps' R q e2 => p σ' F' H' fps' R (pn.trans q) (e.trans e2 hB fun _ c => .inl c)
def nmG (i : Nat) : FG := fun m env => some (env.set i (some m))
/-- (a, b, ..) from plain data -/
def eachG : List FG → List M → E → Option E
  | [], [], env => some env
  | g :: gs, d :: ds, env => match g d env with
    | some env1 => eachG gs ds env1
    | none => none
  | _, _, _ => none
def tupG (gs : List FG) : FG := fun m env => match m with
  | .fz (.tup ds) => eachG gs (ds.map M.fz) env
  | .tup ms => eachG gs ms env
  | _ => none
theorem pendMs {K : PySem.W.Frag} {F1 H1 F2 H2 : Hp} {m : List M} {v : List V} {fp : List Addr} {B A2 : Addr → Prop} (h : RepMs K F1 H1 m v fp) (hB : ∀ b ∈ fp, ¬ B b) (e : Ext K F1 H1 B F2 H2 A2) : RepMs K F2 H2 m v fp ∧ ∀ b ∈ fp, ¬ A2 b := by
  have l := h.live
  refine ⟨h.frame e.ff (fun b hb => ?_) (fun b hb => ?_), fun b hb a => ?_⟩
  · obtain ⟨⟨o, ho⟩, _⟩ := l b hb
    rw [e.keep b o ho (hB b hb) (h.nt hb ho), ho]
  · obtain ⟨⟨o, ho⟩, hf⟩ := l b hb
    cases q : F2 b with
    | none => rfl
    | some u =>
      rcases e.fz b u q with z | z | z
      · rw [hf] at z; cases z
      · exact absurd z (hB b hb)
      · rw [ho] at z; cases z
  · obtain ⟨⟨o, ho⟩, _⟩ := l b hb
    rcases e.own b a with z | z
    · exact hB b hb z
    · rw [ho] at z; cases z
theorem RepMs.ofD {K : PySem.W.Frag} {F H : Hp} : ∀ {vs : List V} {ds : List D}, Reps K F vs ds → RepMs K F H (ds.map M.fz) vs []
  | _, _, .nil => .nil
  | _, _, .cons a b => .cons (fp := []) (fq := []) (RepM.fz a) (RepMs.ofD b) fun b hb => by cases hb
def rGs (K : PySem.W.Frag) (S : List Nat) (gs : List FG) : TGs := fun vs σ H Q => ∃ F env fps ms fp, REnv K F H σ env fps ∧ RepMs K F H ms vs fp ∧ (∀ b ∈ fp, ¬ Own fps b) ∧ ∃ env', eachG gs ms env = some env' ∧ PNC K σ F H (fun b => Own fps b ∨ b ∈ fp) S env' Q
theorem PGs_mono {X : Cx} {e : List Expr} {t t' : TGs} (h : PGs X e t) (m : ∀ v σ H Q, t' v σ H Q → t v σ H Q) : PGs X e t' := ⟨fun pins s σ H v u Q I r q => h.run pins s σ H v u Q I r (m _ _ _ _ q)⟩
section
variable {X : Cx} {S : List Nat} {i : Nat} {x : Str} {pos : Pos}
theorem store_len {K : PySem.W.Frag} {F H : Hp} {σ : St} {env : E} {fps : Nat → List Addr} (R : REnv K F H σ env fps) {i : Nat} {m : M} {v : V} {fp : List Addr} (r : RepM K F H m v fp) (d : ∀ b ∈ fp, ¬ Own fps b) :
    ∃ fps', REnv K F H (σ.set i (some v)) (env.set i (some m)) fps' ∧ ∀ b, Own fps' b → Own fps b ∨ b ∈ fp := by
  by_cases hi : i < σ.length
  · refine ⟨_, R.store hi r d, fun b ⟨j, hj⟩ => ?_⟩
    by_cases e : j = i
    · simp only [if_pos e] at hj; exact .inr hj
    · simp only [if_neg e] at hj; exact .inl ⟨j, hj⟩
  · have e1 : σ.set i (some v) = σ := List.set_eq_of_length_le (by omega)
    have e2 : env.set i (some m) = env := List.set_eq_of_length_le (by rw [R.len]; omega)
    rw [e1, e2]
    exact ⟨fps, R, fun b h => .inl h⟩
theorem r_name {K : PySem.W.Frag} (hp : S.contains i = true) : ∀ v σ H Q, rG K S (nmG i) v σ H Q → gName i v σ H Q := fun v σ H Q ⟨F, env, fps, m, fp, R, r, d, env', e, p⟩ => by
  cases e
  obtain ⟨fps', R', ho⟩ := store_len (i := i) R r d
  exact p _ F H fps' R' (Chg.set hp) (Ext.refl fun b h => ho b h)
theorem g_name (hN : X.N.Nodup) (hi : X.N[i]? = some x) (hx : Loc X.env.scope x) (hp : S.contains i = true := by rfl) (hf : X.fn x = true ∨ X.env.scope.names.lookup x = some .local := by first | exact .inl rfl | exact .inr rfl | assumption) : PG X (.Name x pos) (rG X.K S (nmG i)) := PG_mono (pg_name hN hi hx hf) (r_name hp)
theorem gs_nil : PGs X [] (rGs X.K S []) := PGs_mono pgs_nil fun vs σ H Q ⟨F, env, fps, ms, fp, R, r, d, env', e, p⟩ => by
  cases ms with
  | nil => cases r; cases e; exact ⟨rfl, p σ F H fps R .refl (Ext.refl fun _ h => .inl h)⟩
  | cons d ds => cases e
theorem gs_cons {e : Expr} {es : List Expr} {g : FG} {gs : List FG} (h1 : PG X e (rG X.K S g)) (h2 : PGs X es (rGs X.K S gs)) (hs : (assignEach (e :: es) X.env).map (·.2) = assign e X.env :: (assignEach es X.env).map (·.2) := by rfl) : PGs X (e :: es) (rGs X.K S (g :: gs)) :=
  PGs_mono (pgs_cons h1 h2 hs) fun vs σ H Q ⟨F, env, fps, ms, fp, R, r, d, env', e, p⟩ => by
  cases ms with
  | nil => cases e
  | cons m ms =>
    cases r with
    | @cons _ _ _ _ f1 f2 rv rs dj =>
      unfold eachG at e
      cases eg : g m env with
      | none => rw [eg] at e; cases e
      | some env1 =>
        rw [eg] at e
        refine ⟨_, _, rfl, F, env, fps, m, f1, R, rv, fun b hb => d b (List.mem_append_left _ hb), env1, eg, fun σ1 F1 H1 fps1 R1 q e1 => ?_⟩
        obtain ⟨rs1, n1⟩ := pendMs rs (B := fun b => Own fps b ∨ b ∈ f1) (fun b hb h => h.elim (d b (List.mem_append_right _ hb)) fun z => dj b z hb) e1
        have e2 : Ext X.K F H (fun b => (Own fps b ∨ b ∈ f1) ∨ b ∈ f2) F1 H1 (fun b => Own fps1 b ∨ b ∈ f2) := ⟨e1.ff, fun b o h n => e1.keep b o h fun z => n (.inl z), fun b h => h.elim (fun z => (e1.own b z).elim (fun y => .inl (.inl y)) .inr) fun z => .inl (.inr z), fun b o h => (e1.fz b o h).elim .inl fun z => z.elim (fun y => .inr (.inl (.inl y))) fun y => .inr (.inr y), e1.tt⟩
        exact ⟨F1, env1, fps1, ms, f2, R1, rs1, n1, env', e, PNC.wide p q (e2.wide fun b h => by
          rcases h with (h | h) | h
          · exact .inl h
          · exact .inr (List.mem_append_left _ h)
          · exact .inr (List.mem_append_right _ h)) fun _ h => h⟩
theorem eachG_len {env' : E} : ∀ (gs : List FG) (ds : List M) (env : E), eachG gs ds env = some env' → ds.length = gs.length
  | [], [], _, _ => rfl
  | [], _ :: _, _, h => by cases h
  | _ :: _, [], _, h => by cases h
  | g :: gs, d :: ds, env, h => by
    unfold eachG at h
    cases eg : g d env with
    | none => rw [eg] at h; cases h
    | some env1 => rw [eg] at h; simp [eachG_len gs ds env1 h]
theorem g_tup {es : List Expr} {k n : Nat} {gs : List FG} (hc : X.calm = true) (h : PGs X es (rGs X.K S gs)) (hl : gs.length = n := by rfl)
    (hn : (assignEach es X.env).length = n := by rfl) (hst : (assignEach es X.env).findIdx? (·.1) = none := by rfl) : PG X (.Tuple es k pos) (rG X.K S (tupG gs)) := PG_mono (pg_tup hc h hn hst) fun v σ H Q ⟨F, env, fps, m, fp, R, r, d, env', e, p⟩ => by
  unfold tupG at e
  split at e
  · rename_i ds
    have hz := r.fz_nil
    subst hz
    obtain ⟨a, vs, rfl, q, rs⟩ := tup_rep R.fr (repm_fz r)
    refine ⟨a, vs, rfl, q, by rw [rs.length, ← hl, ← eachG_len gs _ env e, List.length_map], F, env, fps, _, [], R, RepMs.ofD rs, d, env', e, p⟩
  · rename_i ms
    cases r with
    | @tup pa vs _ fq a rs =>
      refine ⟨pa, vs, rfl, SqT.of (R.fr _ _ a), by rw [rs.length, ← hl, ← eachG_len gs _ env e], F, env, fps, _, _, R, rs, d, env', e, p⟩
  · cases e
end
section
variable {X : Cx} {W : WX} {P S : List Nat} {e tg : Expr} {f : FE} {g : FG} {pos : Pos} {i : Nat} {x : Str} {pos' : Pos}
theorem r_asg {K : PySem.W.Frag} (hsp : apart S P = true) : ∀ D σ H, rS K W P (asgS f g) D σ H → tAsg (rE K W f) (rG K S g) D σ H := fun D σ H ⟨F, env, fps, R, p⟩ => by
  refine ⟨F, env, fps, R, ?_⟩
  unfold asgS at p
  cases ef : f env with
  | none => rw [ef] at p; exact p
  | some o =>
    rw [ef] at p
    cases o with
    | ex x env1 => exact PXS.px p
    | ok a env1 =>
      cases a with
      | sl i => exact p.elim
      | tm m =>
        intro v F1 H1 fps1 fp R1 r d e1
        simp only [bindS] at p
        cases eg : g m env1 with
        | none => rw [eg] at p; exact p.elim
        | some env2 =>
          rw [eg] at p
          refine ⟨F1, env1, fps1, m, fp, R1, r, d, env2, eg, fun σ2 F2 H2 fps2 R2 q e2 => p σ2 F2 H2 fps2 R2 (q.pin hsp) (e1.trans e2 (fun _ h => h) fun _ h => .inl h)⟩
theorem s_asg (he : PE X e (rE X.K W f)) (hg : PG X tg (rG X.K S g)) (hsp : apart S P = true := by rfl) (hs : swapsWithSole [tg] e pos.line X.env = pure false := by rfl) (hw : swappedStores [tg] e X.env = pure none := by rfl)
    (h1 : (assignEach [tg] X.env).map (·.2) = [assign tg X.env] := by rfl) : PS X (.Assign [tg] e pos) (rS X.K W P (asgS f g)) := PS_mono (ps_asg he hg hs hw h1) (r_asg hsp)
theorem s_set (hN : X.N.Nodup) (hi : X.N[i]? = some x) (hx : Loc X.env.scope x) (he : PE X e (rE X.K W f)) (hp : apart [i] P = true := by rfl) (hs : swapsWith e (some (.Name x pos')) pos.line X.env = pure false := by rfl) (hf : X.fn x = true ∨ X.env.scope.names.lookup x = some .local := by first | exact .inl rfl | exact .inr rfl | assumption) :
    PS X (.Assign [.Name x pos'] e pos) (rS X.K W P (asgS f (nmG i))) := PS_mono (ps_set hN hi hx he hs hf) fun D σ H q =>
  rE_imp (fun v H' z => r_name (S := [i]) (by simp) v σ H' D.nx z) (r_asg hp D σ H q)
end
end Ink
set_option Elab.async false
set_option linter.all false
set_option maxRecDepth 100000
namespace Ink
open PySem L2
abbrev FI := E → Option (Out (List D))
/-- an iterator over plain data -/
def ItD (K : PySem.W.Frag) (J : It) (F : Hp) (ds : List D) : Prop := ∀ F' H, Sub F F' → Sub F' H → TOk K F' H → (∀ i, ds.length ≤ i → J.stop i H) ∧
  ∀ (i : Nat) (d : D), ds[i]? = some d → J.go i H ∧ ∀ x H', J.yld i H x H' → ∃ F'', Sub F'' H' ∧ Rep K F'' x d ∧ Ext K F' H (fun _ => False) F'' H' (fun _ => False)
section
variable (K : PySem.W.Frag) (W : WX) (σ : St) (F H : Hp) (A : Addr → Prop)
def PJ (ds : List D) (env' : E) (R : It → Hp → Prop) : Prop := ∀ J F' H' fps', REnv K F' H' σ env' fps' → ItD K J F' ds → Ext K F H A F' H' (Own fps') → R J H'
def poI (o : Option (Out (List D))) (R : It → Hp → Prop) : Prop := match o with
  | none => False
  | some (.ok ds env') => PJ K σ F H A ds env' R
  | some (.ex x env') => PX K W σ F H A x env'
end
def rI (K : PySem.W.Frag) (W : WX) (f : FI) : TI := fun σ H R => ∃ F env fps, REnv K F H σ env fps ∧ poI K W σ F H (Own fps) (f env) R
def loopD (g : FG) (fb : FS) : List D → E → Option Fl
  | [], env => some (.nx env)
  | d :: ds, env => match g (.fz d) env with
    | none => none
    | some env1 => match fb env1 with
      | some (.nx env2) => loopD g fb ds env2
      | some (.ct env2) => loopD g fb ds env2
      | some (.bk env2) => some (.nx env2)
      | o => o
def forS (fi : FI) (g : FG) (fb : FS) : FS := fun env => bindS (fi env) fun ds env1 => loopD g fb ds env1
theorem Ext.unit {F H F' H' : Hp} {A : Addr → Prop} (e : Ext K F H (fun _ => False) F' H' (fun _ => False)) : Ext K F H A F' H' A :=
  ⟨e.ff, fun b o h _ => e.keep b o h id, fun b h => .inl h, fun b o h => (e.fz b o h).imp id fun q => q.elim False.elim .inr, e.tt⟩
section
variable {X : Cx} {W : WX} {P S : List Nat} {tg iter : Expr} {body : List Stmt} {fi : FI} {g : FG} {fb : FS} {pos : Pos}
theorem s_for (hp : PassesOwn (model X.prog X.w) X.A X.env X.xe) (hc : X.calm = true) (hi : PI X tg iter (rI X.K W fi)) (hg : PG X tg (rG X.K S g)) (hb : PSs X body (rS X.K W P fb)) (hsp : apart S P = true := by rfl) (hs : ∀ x, foldedSetIterable iter X.env x = pure x := by intro _; rfl) : PS X (.For tg iter body [] pos) (rS X.K W P (forS fi g fb)) := PS_mono (ps_for hp hc hi hg hb hs) fun D σ0 H0 ⟨F0, env0, fps0, R0, p⟩ => by
  refine ⟨F0, env0, fps0, R0, ?_⟩
  unfold forS at p
  cases ef : fi env0 with
  | none => rw [ef] at p; exact p
  | some o =>
    rw [ef] at p
    cases o with
    | ex x env1 => exact PXS.px p
    | ok ds env1 =>
      intro J F1 H1 fps1 R1 hJ e1
      simp only [bindS] at p
      let Wv : Nat → Nat → St → Hp → Prop := fun i m σ' H' => m = ds.length - i ∧ i ≤ ds.length ∧ ∃ F' env' fps', REnv X.K F' H' σ' env' fps' ∧ Sub F1 F' ∧ Pin P σ0 σ' ∧ Ext X.K F0 H0 (Own fps0) F' H' (Own fps') ∧ poS X.K W P σ0 F0 H0 (Own fps0) (loopD g fb (ds.drop i) env') D
      refine ⟨Wv, ⟨ds.length, by omega, Nat.zero_le _, F1, env1, fps1, R1, Sub.refl _, .refl, e1, by simpa using p⟩, ?_⟩
      rintro i m σ' H' ⟨rfl, hi, F', env', fps', R', hF, pin, ext, po⟩
      obtain ⟨hstop, hgo⟩ := hJ F' H' hF R'.fr R'.tt
      by_cases hlt : i < ds.length
      · have hd : ds[i]? = some ds[i] := List.getElem?_eq_getElem hlt
        obtain ⟨go, yl⟩ := hgo i _ hd
        refine .inr ⟨go, Wv (i + 1) (ds.length - (i + 1)), fun σ2 H2 q => ⟨_, by omega, q⟩, fun x H2 hy => ?_⟩
        obtain ⟨F2, s2, rx, e2⟩ := yl x H2 hy
        have e2' : Ext X.K F' H' (Own fps') F2 H2 (Own fps') := e2.unit
        obtain ⟨R2, _⟩ := R'.frame (fun b _ h => h) e2 s2
        rw [List.drop_eq_getElem_cons hlt, loopD] at po
        cases eg : g (.fz ds[i]) env' with
        | none => rw [eg] at po; exact po.elim
        | some env2 =>
          rw [eg] at po
          refine ⟨F2, env', fps', .fz ds[i], [], R2, .fz rx, Own.not_nil, env2, eg, fun σ3 F3 H3 fps3 R3 pin3 e3 => ?_⟩
          have e3' : Ext X.K F0 H0 (Own fps0) F3 H3 (Own fps3) := (ext.trans e2' (fun _ h => h) (C := Own fps') fun _ h => .inl h).trans (e3.wide (C := Own fps') fun b h => h.elim id fun z => by cases z) (fun _ h => h) fun _ h => .inl h
          have pin3' : Pin P σ0 σ3 := pin.trans (pin3.pin hsp)
          have sub3 : Sub F1 F3 := hF.trans (e2.ff.trans e3.ff)
          refine ⟨F3, env2, fps3, R3, ?_⟩
          cases eb : fb env2 with
          | none => simp only [eb] at po; exact po
          | some fl =>
            simp only [eb] at po
            cases fl with
            | nx env3 => exact fun σ4 F4 H4 fps4 R4 q e4 => ⟨rfl, hlt, F4, env3, fps4, R4, sub3.trans e4.ff, pin3'.trans q, e3'.trans e4 (fun _ h => h) fun _ h => .inl h, po⟩
            | ct env3 => exact fun σ4 F4 H4 fps4 R4 q e4 => ⟨rfl, hlt, F4, env3, fps4, R4, sub3.trans e4.ff, pin3'.trans q, e3'.trans e4 (fun _ h => h) fun _ h => .inl h, po⟩
            | bk env3 => exact PN.wide po pin3' e3' fun _ h => h
            | rt v env3 => exact PR.wide po pin3' e3' fun _ h => h
            | ex x env3 => exact PXS.wide po pin3' e3' fun _ h => h
      · have e : i = ds.length := by omega
        subst e
        refine .inl ⟨hstop _ (Nat.le_refl _), ?_⟩
        rw [List.drop_length, loopD] at po
        exact po σ' F' H' fps' R' pin ext
end
def whileN (c : FT) (b : FS) : Nat → E → Option Fl
  | 0, _ => none
  | n + 1, env => match c env with
    | none => none
    | some (.ex x env1) => some (.ex x env1)
    | some (.ok false env1) => some (.nx env1)
    | some (.ok true env1) => match b env1 with
      | some (.nx env2) => whileN c b n env2
      | some (.ct env2) => whileN c b n env2
      | some (.bk env2) => some (.nx env2)
      | o => o
open Classical in
noncomputable def whileS (c : FT) (b : FS) : FS := fun env => if h : ∃ n, (whileN c b n env).isSome = true then whileN c b (Classical.choose h) env else none
theorem whileN_mono {c : FT} {b : FS} : ∀ {n : Nat} {env : E} {fl : Fl}, whileN c b n env = some fl → ∀ k, whileN c b (n + k) env = some fl
  | 0, _, _, h, _ => by cases h
  | n + 1, env, fl, h, k => by
    rw [show n + 1 + k = (n + k) + 1 by omega]
    rw [whileN] at h ⊢
    cases e : c env with
    | none => rw [e] at h; cases h
    | some o =>
      rw [e] at h
      cases o with
      | ex x env1 => exact h
      | ok k1 env1 =>
        cases k1 with
        | false => exact h
        | true =>
          simp only at h ⊢
          cases eb : b env1 with
          | none => rw [eb] at h; cases h
          | some f =>
            rw [eb] at h
            cases f with
            | nx env2 => exact whileN_mono h k
            | ct env2 => exact whileN_mono h k
            | bk env2 => exact h
            | rt m env2 => exact h
            | ex x env2 => exact h
theorem whileN_det {c : FT} {b : FS} {n k : Nat} {env : E} {fl fl' : Fl} (h : whileN c b n env = some fl) (h' : whileN c b k env = some fl') : fl = fl' := by
  have a := whileN_mono h k
  have b' := whileN_mono h' n
  rw [show k + n = n + k by omega, a] at b'
  exact Option.some.inj b'
theorem whileS_eq {c : FT} {b : FS} {n : Nat} {env : E} {fl : Fl} (h : whileN c b n env = some fl) : whileS c b env = some fl := by
  have hx : ∃ n, (whileN c b n env).isSome = true := ⟨n, by rw [h]; rfl⟩
  unfold whileS
  rw [dif_pos hx]
  have hs := Classical.choose_spec hx
  cases q : whileN c b (Classical.choose hx) env with
  | none => rw [q] at hs; cases hs
  | some fl' => rw [whileN_det q h]
theorem whileS_at {c : FT} {b : FS} {env : E} {fl : Fl} (h : whileS c b env = some fl) : ∃ n, whileN c b n env = some fl := by
  unfold whileS at h
  split at h
  · exact ⟨_, h⟩
  · cases h
section
variable {X : Cx} {W : WX} {P : List Nat} {c : Expr} {body : List Stmt} {fc : FT} {fb : FS} {pos : Pos}
theorem s_while (hp : PassesOwn (model X.prog X.w) X.A X.env X.xe) (hc : PT X c (rT X.K W fc)) (hb : PSs X body (rS X.K W P fb)) : PS X (.While c body [] pos) (rS X.K W P (whileS fc fb)) := PS_mono (ps_while hp hc hb) fun D σ0 H0 ⟨F0, env0, fps0, R0, p⟩ => by
  cases ef : whileS fc fb env0 with
  | none => rw [ef] at p; exact p.elim
  | some fl =>
    rw [ef] at p
    obtain ⟨n, hn⟩ := whileS_at ef
    let Wv : Nat → St → Hp → Prop := fun m σ' H' => ∃ F' env' fps', REnv X.K F' H' σ' env' fps' ∧ Pin P σ0 σ' ∧ Ext X.K F0 H0 (Own fps0) F' H' (Own fps') ∧ whileN fc fb m env' = some fl
    refine ⟨Wv, ⟨n, F0, env0, fps0, R0, .refl, Ext.refl fun _ h => h, hn⟩, ?_⟩
    rintro m σ' H' ⟨F', env', fps', R', pin, ext, hw⟩
    refine ⟨F', env', fps', R', ?_⟩
    cases m with
    | zero => cases hw
    | succ m =>
      rw [whileN] at hw
      cases ec : fc env' with
      | none => rw [ec] at hw; cases hw
      | some o =>
        simp only [ec] at hw
        cases o with
        | ex x env1 =>
          cases hw
          exact (PXS.wide p pin ext fun _ h => h).px
        | ok k env1 =>
          intro F1 H1 fps1 R1 e1
          have ext1 : Ext X.K F0 H0 (Own fps0) F1 H1 (Own fps1) := ext.trans e1 (fun _ h => h) fun _ h => .inl h
          cases k with
          | false =>
            cases hw
            exact ifF (p σ' F1 H1 fps1 R1 pin ext1)
          | true =>
            simp only at hw
            refine ifT ⟨Wv m, fun σ2 H2 q => ⟨m, Nat.lt_succ_self _, q⟩, F1, env1, fps1, R1, ?_⟩
            cases eb : fb env1 with
            | none => rw [eb] at hw; cases hw
            | some fl1 =>
              rw [eb] at hw
              cases fl1 with
              | nx env2 => exact fun σ2 F2 H2 fps2 R2 q e2 => ⟨F2, env2, fps2, R2, pin.trans q, ext1.trans e2 (fun _ h => h) fun _ h => .inl h, hw⟩
              | ct env2 => exact fun σ2 F2 H2 fps2 R2 q e2 => ⟨F2, env2, fps2, R2, pin.trans q, ext1.trans e2 (fun _ h => h) fun _ h => .inl h, hw⟩
              | bk env2 => cases hw; exact PN.wide p pin ext1 fun _ h => h
              | rt v env2 => cases hw; exact PR.wide p pin ext1 fun _ h => h
              | ex x env2 => cases hw; exact PXS.wide p pin ext1 fun _ h => h
end
def fzOnly : M → Option M
  | .fz d => some (.fz d)
  | _ => none
def outA (asg : List Nat) : Nat → List M → E → E
  | i, m :: ms, o :: env => (if asg.contains i then fzOnly m else o) :: outA asg (i + 1) ms env
  | i, m :: ms, [] => (if asg.contains i then fzOnly m else none) :: outA asg (i + 1) ms []
  | _, [], _ => []
def fnM (np nl : Nat) (asg : List Nat) (body : FS) : FP := fun ms => if ms.length = np then match body (argE ms ++ List.replicate nl none) with
    | some (.nx env') => some (.ok (.fz .non) (outA asg 0 ms env'))
    | some (.rt m env') => some (.ok m (outA asg 0 ms env'))
    | some (.ex x env') => some (.ex x (outA asg 0 ms env'))
    | _ => none
  else none
theorem outA_length {asg : List Nat} : ∀ (i : Nat) (ms : List M) (env : E), (outA asg i ms env).length = ms.length
  | _, [], env => by cases env <;> simp [outA]
  | i, _ :: ms, [] => by rw [outA]; simp [outA_length (i + 1) ms []]
  | i, m :: ms, o :: env => by rw [outA]; simp [outA_length (i + 1) ms env]
theorem fzOnly_at {n m : M} (h : fzOnly n = some m) : ∃ d, m = .fz d ∧ n = .fz d := by
  cases n with
  | fz d => cases h; exact ⟨d, rfl, rfl⟩
  | _ => cases h
theorem outA_get {asg : List Nat} : ∀ (i : Nat) (ms : List M) (env : E) (j : Nat) (m : M), (outA asg i ms env)[j]? = some (some m) → (asg.contains (i + j) = true ∧ ∃ d, m = .fz d ∧ ms[j]? = some (.fz d)) ∨ (asg.contains (i + j) = false ∧ j < ms.length ∧ env[j]? = some (some m))
  | _, [], env, j, m, h => by cases env <;> simp [outA] at h
  | i, n :: ms, [], 0, m, h => by
    rw [outA] at h
    simp only [List.getElem?_cons_zero, Option.some.injEq] at h
    by_cases c : asg.contains i = true
    · rw [if_pos c] at h
      obtain ⟨d, e1, e2⟩ := fzOnly_at h
      exact .inl ⟨c, d, e1, by rw [e2]; rfl⟩
    · rw [if_neg c] at h; cases h
  | i, n :: ms, [], j + 1, m, h => by
    rw [outA] at h
    simp only [List.getElem?_cons_succ] at h
    rcases outA_get (i + 1) ms [] j m h with ⟨a, d, b, c⟩ | ⟨a, b, c⟩
    · exact .inl ⟨by rw [show i + (j + 1) = i + 1 + j by omega]; exact a, d, b, by simpa using c⟩
    · simp at c
  | i, n :: ms, o :: env, 0, m, h => by
    rw [outA] at h
    simp only [List.getElem?_cons_zero, Option.some.injEq] at h
    by_cases c : asg.contains i = true
    · rw [if_pos c] at h
      obtain ⟨d, e1, e2⟩ := fzOnly_at h
      exact .inl ⟨c, d, e1, by rw [e2]; rfl⟩
    · rw [if_neg c] at h
      exact .inr ⟨by simpa using c, by simp, by simp [h]⟩
  | i, n :: ms, o :: env, j + 1, m, h => by
    rw [outA] at h
    simp only [List.getElem?_cons_succ] at h
    rcases outA_get (i + 1) ms env j m h with ⟨a, d, b, c⟩ | ⟨a, b, c⟩
    · exact .inl ⟨by rw [show i + (j + 1) = i + 1 + j by omega]; exact a, d, b, by simpa using c⟩
    · exact .inr ⟨by rw [show i + (j + 1) = i + 1 + j by omega]; exact a, by simp; omega, by simpa using c⟩
theorem outA_put {asg : List Nat} {m : M} : ∀ (k : Nat) (ms : List M) (env : E) (i : Nat), i < ms.length → asg.contains (k + i) = false → env[i]? = some (some m) → (outA asg k ms env)[i]? = some (some m)
  | _, [], _, i, h, _, _ => by simp at h
  | _, _ :: _, [], i, _, _, e => by simp at e
  | k, n :: ms, o :: env, 0, h, hc, he => by
    rw [outA]
    rw [Nat.add_zero] at hc
    simp only [List.getElem?_cons_zero, Option.some.injEq] at he ⊢
    rw [if_neg (by rw [hc]; exact Bool.false_ne_true)]
    exact he
  | k, n :: ms, o :: env, i + 1, h, hc, he => by
    rw [outA]
    simp only [List.getElem?_cons_succ] at he ⊢
    exact outA_put (k + 1) ms env i (by simpa using h) (by rw [show k + 1 + i = k + (i + 1) by omega]; exact hc) he
/-- the parameters that no statement stores -/
def pinsOf (np : Nat) (asg : List Nat) : List Nat := (List.range np).filter fun i => !asg.contains i
theorem fn_body {K : PySem.W.Frag} {np nl : Nat} {asg : List Nat} {body : FS} {N : List Str} {vs : List V} {H : Hp} {Q : VK} {Ex : XK} (hN : N.length = np + nl) (h : spOf K (fnM np nl asg body) vs H Q Ex) :
    vs.length = np ∧ rS K (fun cls d _ H' => Ex cls d H') (pinsOf np asg) body { nx := fun _ H' => Q .non H', rt := Q } (L2.start N vs) H := by
  obtain ⟨F, ms, fps, R, p⟩ := h
  unfold fnM at p
  split at p
  · rename_i hl
    have hv : vs.length = np := by
      have q := R.len
      simp at q
      omega
    refine ⟨hv, F, argE ms ++ List.replicate nl none, fps, ?_, ?_⟩
    · have es : L2.start N vs = argS vs ++ List.replicate nl none := by
        unfold L2.start
        rw [hN, hv, Nat.add_sub_cancel_left]
      rw [es]
      refine ⟨R.fr, by simp; omega, fun i m e => ?_, fun i e => R.nil i fun m q => ?_, R.dj, R.tt⟩
      · by_cases hi : i < ms.length
        · rw [List.getElem?_append_left (by simpa using hi)] at e
          obtain ⟨v, q, r⟩ := R.got i m e
          exact ⟨v, by rw [List.getElem?_append_left (by simp; omega)]; exact q, r⟩
        · rw [List.getElem?_append_right (by simpa using hi), List.getElem?_replicate] at e
          split at e <;> cases e
      · have hi : i < ms.length := by simpa using (List.getElem?_eq_some_iff.mp q).1
        exact e m (by rw [List.getElem?_append_left (by simpa using hi)]; exact q)
    · have es : L2.start N vs = argS vs ++ List.replicate nl none := by
        unfold L2.start
        rw [hN, hv, Nat.add_sub_cancel_left]
      -- what stands behind the body
      have key : ∀ {σ' : St} {F' H' : Hp} {env' : E} {fps' : Nat → List Addr}, REnv K F' H' σ' env' fps' → Pin (pinsOf np asg) (L2.start N vs) σ' → Sub F F' → ∃ fpsO, REnv K F' H' (argS vs) (outA asg 0 ms env') fpsO ∧ ∀ b, Own fpsO b → Own fps' b := by
        intro σ' F' H' env' fps' R' pin sub
        have pin' : ∀ i, i < np → asg.contains i = false → ∀ v, σ'[i]? = some (some v) → vs[i]? = some v := fun i hi hc v e => by
          have q := pin i (by simp [pinsOf, hi, List.mem_range]; simpa using hc)
          rw [es, List.getElem?_append_left (by simp; omega)] at q
          rw [q] at e
          exact argS_get.mp e
        have lo := outA_length (asg := asg) 0 ms env'
        refine ⟨fun i => if asg.contains i = true ∨ np ≤ i then [] else fps' i, ⟨R'.fr, by rw [lo]; simp; omega, fun i m e => ?_, fun i e => ?_, fun i j hij b hb => ?_, R'.tt⟩, fun b ⟨i, hb⟩ => ?_⟩
        · rcases outA_get 0 ms env' i m e with ⟨c, d, rfl, hm⟩ | ⟨c, hi, hm⟩
          · rw [Nat.zero_add] at c
            obtain ⟨v, hv', r⟩ := R.got i _ (argE_get.mpr hm)
            refine ⟨v, hv', ?_⟩
            rw [if_pos (.inl c)]
            exact .fz ((repm_fz r).mono sub)
          · rw [Nat.zero_add] at c
            obtain ⟨v, hv', r⟩ := R'.got i m hm
            refine ⟨v, argS_get.mpr (pin' i (by omega) c v hv'), ?_⟩
            rw [if_neg (by rw [c]; simp; omega)]
            exact r
        · by_cases c : asg.contains i = true ∨ np ≤ i
          · simp only [if_pos c]
          · simp only [if_neg c]
            refine R'.nil i fun m q => ?_
            simp only [not_or, Bool.not_eq_true] at c
            exact e m (outA_put 0 ms env' i (by omega) (by rw [Nat.zero_add]; exact c.1) q)
        · split at hb
          · cases hb
          · split
            · exact fun q => by cases q
            · exact R'.dj i j hij b hb
        · simp only at hb
          split at hb
          · cases hb
          · exact ⟨i, hb⟩
      cases eb : body (argE ms ++ List.replicate nl none) with
      | none => rw [eb] at p; exact p
      | some fl =>
        rw [eb] at p
        cases fl with
        | bk e => exact p.elim
        | ct e => exact p.elim
        | nx e =>
          intro σ' F' H' fps' R' pin ext
          obtain ⟨fpsO, RO, hO⟩ := key R' pin ext.ff
          exact p .non F' H' fpsO [] RO (.fz .non) Own.not_nil (ext.weak fun b h => h.elim (hO b) fun z => by cases z)
        | rt m e =>
          intro v σ' F' H' fps' fp R' r d pin ext
          obtain ⟨fpsO, RO, hO⟩ := key R' pin ext.ff
          exact p v F' H' fpsO fp RO r (fun b hb q => d b hb (hO b q)) (ext.weak fun b h => h.imp (hO b) id)
        | ex x e =>
          intro cls d σ' F' H' fps' R' r pin ext
          obtain ⟨fpsO, RO, hO⟩ := key R' pin ext.ff
          exact p cls d F' H' fpsO RO r (ext.weak hO)
  · exact p.elim
end Ink
set_option Elab.async false
set_option linter.all false
set_option maxRecDepth 100000
namespace Ink
open PySem L2
theorem RepMs.append {K : PySem.W.Frag} {F H : Hp} : ∀ {ms : List M} {vs : List V} {fp : List Addr} {ns : List M} {ws : List V} {fq : List Addr}, RepMs K F H ms vs fp → RepMs K F H ns ws fq → (∀ b ∈ fp, b ∉ fq) → RepMs K F H (ms ++ ns) (vs ++ ws) (fp ++ fq)
  | [], _, _, _, _, _, .nil, h2, _ => h2
  | m :: ms, _, _, ns, ws, fq, .cons (fp := a) (fq := c) h h1 d, h2, dj => by
    have ih := RepMs.append h1 h2 fun b hb => dj b (List.mem_append_right _ hb)
    rw [List.append_assoc]
    exact .cons h ih fun b hb q => by
      rcases List.mem_append.mp q with q | q
      · exact d b hb q
      · exact dj b (List.mem_append_left _ hb) q
theorem Ext.put {K : PySem.W.Frag} {F H : Hp} {p : Addr} {o : HO} {A : Addr → Prop} (hA : A p) {u0 : HO} (hu : H p = some u0 := by assumption) (hk : Kin u0 := by first | exact .inl ⟨_, rfl⟩ | exact .inr (.inl ⟨_, rfl⟩) | exact .inr (.inr (.inl ⟨_, rfl⟩)) | exact .inr (.inr (.inr ⟨_, _, _, rfl⟩))) (ho : NT o := by exact fun _ h => by cases h) (ht : ∀ vs, o ≠ .tup vs := by exact fun _ h => by cases h) : Ext K F H A F (upd H p o) A where
  ff := Sub.refl _
  keep := fun b u h n _ => by rw [upd_ne (fun e => n (by rw [e]; exact hA))]; exact h
  own := fun _ h => .inl h
  fz := fun _ _ h => .inl h
  tt := ⟨fun b ps h => ⟨ps, by
    rw [upd_ne (fun e => by rw [e, hu] at h; exact hk.nt ps (Option.some.inj h))]; exact h⟩, fun t => ⟨t.nt, fun p' hp' => by
    obtain ⟨ps, h1, h2, h3⟩ := t.tb p' hp'
    exact ⟨ps, by rw [upd_ne (fun e => by rw [e, hu] at h1; exact hk.nt ps (Option.some.inj h1))]; exact h1, h2, fun pos cv hc => by
      obtain ⟨c, e1, e2⟩ := h3 pos cv hc
      exact ⟨c, e1, by rw [upd_ne (fun e => by rw [e, hu] at e2; exact hk.nc _ _ (Option.some.inj e2))]; exact e2⟩⟩, fun b ps e => by
    by_cases z : b = p
    · rw [z, upd_same] at e; exact (ho ps (Option.some.inj e)).elim
    · rw [upd_ne z] at e; exact t.ot b ps e, fun q hq ps h pos cv hc => by
    by_cases z : q.1 = p
    · rw [z, upd_same] at h; exact (ho ps (Option.some.inj h)).elim
    · rw [upd_ne z] at h; exact t.cd q hq ps h pos cv hc, fun b vs e => by
    by_cases z : b = p
    · rw [z, upd_same] at e; exact (ht vs (Option.some.inj e)).elim
    · rw [upd_ne z] at e; exact t.tp b vs e⟩⟩
theorem Ext.putO {K : PySem.W.Frag} {F H : Hp} {σ : St} {env : E} {fps : Nat → List Addr} (R : REnv K F H σ env fps) {p : Addr} {o : HO} (h : Own fps p) (ho : NT o := by exact fun _ h => by cases h) (ht : ∀ vs, o ≠ .tup vs := by exact fun _ h => by cases h) : Ext K F H (Own fps) F (upd H p o) (Own fps) := by
  obtain ⟨u, hu, k⟩ := R.kin h
  exact Ext.put h hu k ho ht
theorem sub_put {F H : Hp} {p : Addr} {o : HO} (s : Sub F H) (h : F p = none) : Sub F (upd H p o) := fun b u e => by
  rw [upd_ne (ne_of_none e h)]; exact s b u e
theorem lst_append {K : PySem.W.Frag} {F H : Hp} {ms : List M} {p : Addr} {fp : List Addr} {m : M} {v : V} {fq : List Addr} (h : RepM K F H (.lst ms) (.ref p) fp) (r : RepM K F H m v fq) (d : ∀ b ∈ fp, b ∉ fq) :
    ∃ vs, H p = some (.lst vs) ∧ vs.length = ms.length ∧ p ∈ fp ∧ F p = none ∧ RepM K F (upd H p (.lst (vs ++ [v]))) (.lst (ms ++ [m])) (.ref p) (fp ++ fq) := by
  obtain ⟨p', vs, f1, e, h1, h2, h3, h4, rfl⟩ := repm_lst h
  cases e
  have np : p ∉ fq := d p (List.mem_cons_self ..)
  have hne : ∀ b ∈ f1 ++ fq, b ≠ p := fun b hb e => by
    subst e
    rcases List.mem_append.mp hb with q | q
    · exact h4 q
    · exact np q
  refine ⟨vs, h1, h3.length, List.mem_cons_self .., h2, ?_⟩
  refine RepM.lst upd_same h2 (fp := f1 ++ fq) ?_ fun q => hne p q rfl
  have a : RepMs K F H (ms ++ [m]) (vs ++ [v]) (f1 ++ (fq ++ [])) := h3.append (.cons r .nil fun b _ q => by cases q) fun b hb q => d b (List.mem_cons_of_mem _ hb) (by simpa using q)
  rw [List.append_nil] at a
  exact a.frame (Sub.refl _) (fun b hb => upd_ne (hne b hb)) fun b hb => (a.live b hb).2
def wipeE (env : E) : List Nat → E
  | [] => env
  | v :: vs => (wipeE env vs).set v none
theorem REnv.forget {K : PySem.W.Frag} {F H : Hp} {σ : St} {env : E} {fps : Nat → List Addr} (R : REnv K F H σ env fps) (i : Nat) :
    REnv K F H (σ.set i none) (env.set i none) (fun j => if j = i then [] else fps j) := by
  have D := R.drop i
  refine ⟨D.fr, by simp [R.len], fun j m h => ?_, D.nil, D.dj, D.tt⟩
  obtain ⟨v, hv, r⟩ := D.got j m h
  have e : j ≠ i := fun e => by
    subst e
    by_cases hi : j < env.length
    · rw [List.getElem?_set_self hi] at h; cases h
    · rw [List.getElem?_eq_none (by simpa using hi)] at h; cases h
  exact ⟨v, by rw [List.getElem?_set_ne (fun q => e q.symm)]; exact hv, r⟩
theorem REnv.wipe {K : PySem.W.Frag} {F H : Hp} {σ : St} {env : E} : ∀ (vs : List Nat) {fps : Nat → List Addr}, REnv K F H σ env fps → ∃ fps', REnv K F H (L2.wipe σ vs) (wipeE env vs) fps' ∧ ∀ b, Own fps' b → Own fps b
  | [], fps, R => ⟨fps, R, fun _ h => h⟩
  | v :: vs, fps, R => by
    obtain ⟨fps1, R1, h1⟩ := REnv.wipe vs R
    refine ⟨_, R1.forget v, fun b ⟨j, hj⟩ => h1 b ?_⟩
    by_cases e : j = v
    · simp only [if_pos e] at hj; cases hj
    · simp only [if_neg e] at hj; exact ⟨j, hj⟩
theorem REnv.unwipe {K : PySem.W.Frag} {F H : Hp} {σ : St} {env : E} {vs : List Nat} {fps : Nat → List Addr} (R : REnv K F H (L2.wipe σ vs) env fps) : REnv K F H σ env fps :=
  ⟨R.fr, by rw [R.len, wipe_length], fun i m h => let ⟨v, hv, r⟩ := R.got i m h; ⟨v, (wipe_some hv).1, r⟩, R.nil, R.dj, R.tt⟩
theorem wipe_in {σ : St} : ∀ {vs : List Nat} {i : Nat}, i ∈ vs → i < σ.length → (L2.wipe σ vs)[i]? = some none
  | v :: vs, i, h, hi => by
    unfold L2.wipe
    by_cases e : v = i
    · subst e
      exact List.getElem?_set_self (by rw [wipe_length]; exact hi)
    · rw [List.getElem?_set_ne e]
      exact wipe_in (by
        rcases List.mem_cons.mp h with q | q
        · exact absurd q.symm e
        · exact q) hi
theorem wipe_chg {σ σ' : St} {S vs : List Nat} (h : Chg S (L2.wipe σ vs) σ') (hs : S.all (fun i => vs.contains i) = true) : L2.wipe σ' vs = L2.wipe σ vs := by
  apply List.ext_getElem?
  intro i
  have hl : σ'.length = σ.length := by rw [h.1, wipe_length]
  by_cases hv : i ∈ vs
  · by_cases hi : i < σ.length
    · rw [wipe_in hv hi, wipe_in hv (by omega)]
    · rw [List.getElem?_eq_none (by rw [wipe_length]; omega), List.getElem?_eq_none (by rw [wipe_length]; omega)]
  · rw [wipe_out hv]
    apply h.2
    cases e : S.contains i with
    | false => rfl
    | true =>
      have := List.all_eq_true.mp hs i (by simpa using e)
      exact absurd (by simpa using this) hv
abbrev W0 : WX := fun _ _ _ _ => False
def yesT : FT := fun env => some (.ok true env)
def compD (g : FG) (ft : FT) (fe : FE) (own : List Nat) : List D → E → Option (List M × E)
  | [], env => some ([], env)
  | d :: ds, env => match g (.fz d) env with
    | none => none
    | some env1 => match ft env1 with
      | some (.ok false env2) => compD g ft fe own ds (wipeE env2 own)
      | some (.ok true env2) => match fe env2 with
        | some (.ok (.tm m) env3) => match compD g ft fe own ds (wipeE env3 own) with
          | some (ms, env4) => some (m :: ms, env4)
          | none => none
        | _ => none
      | _ => none
def compE (fi : FI) (g : FG) (ft : FT) (fe : FE) (own : List Nat) : FE := fun env => bindO (fi env) fun ds env1 => if ds.length ≤ sizeLine then match compD g ft fe own ds (wipeE env1 own) with
    | some (ms, env2) => some (.ok (.tm (.lst ms)) env2)
    | none => none
  else none
section
variable {K : PySem.W.Frag} {W : WX} {fi : FI} {g : FG} {ft : FT} {fe : FE} {own S : List Nat}
theorem r_lc (hS : S.all (fun i => own.contains i) = true) : ∀ σ H Q, rE K W (compE fi g ft fe own) σ H Q → tLc (rI K W fi) (rG K S g) (rT K W0 ft) (rE K W0 fe) own σ H Q := fun σ H Q ⟨F, env, fps, R, po⟩ => by
  refine ⟨F, env, fps, R, ?_⟩
  unfold compE at po
  cases ef : fi env with
  | none => rw [ef] at po; exact po
  | some o =>
    rw [ef] at po
    cases o with
    | ex x env1 => exact po
    | ok ds env1 =>
      simp only [bindO_ok] at po
      intro J F1 H1 fps1 R1 hJ e1 L hL
      split at po
      · rename_i hsz
        cases ec : compD g ft fe own ds (wipeE env1 own) with
        | none => rw [ec] at po; exact po.elim
        | some z =>
          obtain ⟨msAll, envF⟩ := z
          rw [ec] at po
          let Wv : Nat → Nat → Hp → Prop := fun i m H' => m = ds.length - i ∧ i ≤ ds.length ∧ ∃ F' env' fps' acc fpD ms', REnv K F' H' (L2.wipe σ own) env' fps' ∧ Sub F1 F' ∧ RepM K F' H' (.lst acc) (.ref L) fpD ∧ (∀ b ∈ fpD, ¬ Own fps' b) ∧ acc.length ≤ i ∧
            Ext K F H (Own fps) F' H' (fun b => Own fps' b ∨ b ∈ fpD) ∧ compD g ft fe own (ds.drop i) env' = some (ms', envF) ∧ acc ++ ms' = msAll
          refine ⟨Wv, ⟨ds.length, by omega, Nat.zero_le _, ?_⟩, ?_⟩
          · have en : Ext K F1 H1 (fun _ => False) F1 (upd H1 L (.lst [])) (fun b => False ∨ b = L) := Ext.new hL
            obtain ⟨fpsw, Rw, hw⟩ := R1.wipe own
            obtain ⟨R2, n2⟩ := Rw.frame (fun b _ h => h) en (sub_new R1.fr hL)
            refine ⟨F1, wipeE env1 own, fpsw, [], [L], msAll, R2, Sub.refl _, .lst upd_same (sub_none R1.fr hL) .nil (by simp), fun b hb q => n2 b q (.inr (by simpa using hb)), Nat.le_refl _, ?_, by simpa using ec, rfl⟩
            exact e1.trans (Ext.new (A := Own fps1) hL) (fun _ h => h) fun b h => .inl (h.imp (hw b) fun z => by simpa using z)
          · rintro i m H' ⟨rfl, hi, F', env', fps', acc, fpD, ms', R', hF, rL, dL, hl, ext, hc, ha⟩
            obtain ⟨hstop, hgo⟩ := hJ F' H' hF R'.fr R'.tt
            by_cases hlt : i < ds.length
            · have hd : ds[i]? = some ds[i] := List.getElem?_eq_getElem hlt
              obtain ⟨go, yl⟩ := hgo i _ hd
              refine .inr ⟨go, Wv (i + 1) (ds.length - (i + 1)), fun H2 q => ⟨_, by omega, q⟩, fun x H2 hy => ?_⟩
              obtain ⟨F2, s2, rx, e2⟩ := yl x H2 hy
              obtain ⟨R2, _⟩ := R'.frame (fun b _ h => h) e2 s2
              have e2' : Ext K F' H' (fun b => Own fps' b ∨ b ∈ fpD) F2 H2 (fun b => Own fps' b ∨ b ∈ fpD) := e2.unit
              obtain ⟨rL2, _⟩ := pendM rL (fun b _ h => h) e2
              have ext2 := ext.trans e2' (fun _ h => h) (C := fun b => Own fps' b ∨ b ∈ fpD) fun _ h => .inl h
              rw [List.drop_eq_getElem_cons hlt, compD] at hc
              cases eg : g (.fz ds[i]) env' with
              | none => rw [eg] at hc; cases hc
              | some env2 =>
                rw [eg] at hc
                simp only at hc
                refine ⟨F2, env', fps', .fz ds[i], [], R2, .fz rx, Own.not_nil, env2, eg, fun σ3 F3 H3 fps3 R3 chg e3 => ?_⟩
                have e3' : Ext K F2 H2 (Own fps') F3 H3 (Own fps3) := e3.wide fun b h => h.elim id fun z => by cases z
                obtain ⟨rL3, dL3⟩ := pendM rL2 dL e3'
                have ext3 : Ext K F H (Own fps) F3 H3 (fun b => Own fps3 b ∨ b ∈ fpD) := ext2.trans e3' (fun _ h => .inl h) fun _ h => h.imp id .inr
                have hwp := wipe_chg chg hS
                refine ⟨hwp, F3, env2, fps3, R3, ?_⟩
                cases et : ft env2 with
                | none => rw [et] at hc; cases hc
                | some o =>
                  rw [et] at hc
                  cases o with
                  | ex x env3 => cases hc
                  | ok b env3 =>
                    intro F4 H4 fps4 R4 e4
                    obtain ⟨rL4, dL4⟩ := pendM rL3 dL3 e4
                    have ext4 : Ext K F H (Own fps) F4 H4 (fun b => Own fps4 b ∨ b ∈ fpD) := ext3.trans e4 (fun _ h => .inl h) fun _ h => h.imp id .inr
                    have sub4 : Sub F1 F4 := hF.trans (e2.ff.trans (e3.ff.trans e4.ff))
                    cases b with
                    | false =>
                      refine ifF ?_
                      obtain ⟨fpsw, Rw, hw⟩ := R4.wipe own
                      rw [hwp] at Rw
                      exact ⟨rfl, hlt, F4, _, fpsw, acc, fpD, ms', Rw, sub4, rL4, fun b hb q => dL4 b hb (hw b q), by omega, ext4.weak fun b h => h.imp (hw b) id, hc, ha⟩
                    | true =>
                      refine ifT ⟨F4, env3, fps4, R4, ?_⟩
                      simp only at hc
                      cases ee : fe env3 with
                      | none => rw [ee] at hc; cases hc
                      | some o =>
                        rw [ee] at hc
                        cases o with
                        | ex x env4 => cases hc
                        | ok a env4 =>
                          cases a with
                          | sl k => cases hc
                          | tm mm =>
                            simp only at hc
                            cases ed : compD g ft fe own (ds.drop (i + 1)) (wipeE env4 own) with
                            | none => rw [ed] at hc; cases hc
                            | some z =>
                              obtain ⟨ms5, env5⟩ := z
                              rw [ed] at hc
                              cases hc
                              intro y F5 H5 fps5 fp5 R5 r5 d5 e5
                              have r5 : RepM K F5 H5 mm y fp5 := r5
                              obtain ⟨rL5, dL5⟩ := pendM rL4 dL4 e5
                              obtain ⟨vs, hD5, hlen, hin, hfn, rN⟩ := lst_append rL5 r5 fun b hb q => dL5 b hb (.inr q)
                              have ext5 : Ext K F H (Own fps) F5 H5 (fun b => Own fps5 b ∨ b ∈ fpD ++ fp5) := ext4.trans e5 (fun _ h => .inl h) fun b h => by
                                rcases h with h | h
                                · exact .inl (.inl h)
                                · rcases List.mem_append.mp h with h | h
                                  · exact .inr (.inr h)
                                  · exact .inl (.inr h)
                              refine ⟨vs, hD5, by omega, rfl, hlt, ?_⟩
                              obtain ⟨fpsw, Rw, hw⟩ := R5.wipe own
                              rw [hwp] at Rw
                              have ep : Ext K F5 H5 (fun b => b = L) F5 (upd H5 L (.lst (vs ++ [y]))) (fun b => b = L) := Ext.put rfl
                              obtain ⟨R6, _⟩ := Rw.frame (B := fun b => b = L) (fun b hb e => by subst e; exact dL5 b hin (.inl (hw b hb))) ep (sub_put R5.fr hfn)
                              refine ⟨F5, _, fpsw, acc ++ [mm], fpD ++ fp5, ms5, R6, sub4.trans e5.ff, rN, fun b hb q => ?_, by simp; omega, ?_, ed, by simp [← ha]⟩
                              · rcases List.mem_append.mp hb with hb | hb
                                · exact dL5 b hb (.inl (hw b q))
                                · exact d5 b hb (hw b q)
                              · exact ext5.trans (Ext.put (A := fun b => Own fps5 b ∨ b ∈ fpD ++ fp5) (.inr (List.mem_append_left _ hin))) (fun _ h => h) fun b h => .inl (h.imp (hw b) id)
            · have e : i = ds.length := by omega
              subst e
              rw [List.drop_length, compD] at hc
              cases hc
              rw [List.append_nil] at ha
              subst ha
              exact .inl ⟨hstop _ (Nat.le_refl _), po (.ref L) F' H' fps' fpD R'.unwipe rL dL ext⟩
      · exact po.elim
end
section
variable {X : Cx} {W : WX} {elt tg iter : Expr} {ifs : List Expr} {scope : Scope} {own : List (Str × Nat)} {pos : Pos} {fi : FI} {g : FG} {ft : FT} {fe : FE} {S : List Nat}
theorem e_lc (hc : X.calm = true) (hN : X.N.Nodup) (hi : PI X tg iter (rI X.K W fi)) (ok : BlkOk X.N X.env.scope scope own)
    (hg : ∀ (s : Shared) (H : Hp) (C : Addr) (cl : List (Str × Addr)) (fp : List Addr), PG (X.blk s H scope (compEnvC scope cl C X.env) fp) tg (rG X.K S g)) (ht : ∀ (s : Shared) (H : Hp) (C : Addr) (cl : List (Str × Addr)) (fp : List Addr), PTs (X.blk s H scope (compEnvC scope cl C X.env) fp) ifs (rT X.K W0 ft))
    (he : ∀ (s : Shared) (H : Hp) (C : Addr) (cl : List (Str × Addr)) (fp : List Addr), PE (X.blk s H scope (compEnvC scope cl C X.env) fp) elt (rE X.K W0 fe)) (hS : S.all (fun i => (own.map (·.2)).contains i) = true := by rfl) (hs : ∀ x, foldedSetIterable iter X.env x = pure x := by intro _; rfl) :
    PE X (.ListComp elt [⟨tg, iter, ifs, 0⟩] scope pos) (rE X.K W (compE fi g ft fe (own.map (·.2)))) := PE_mono (pe_lc hc hN hi ok hg ht he hs) (r_lc hS)
theorem s_setLc {P : List Nat} {i : Nat} {y : Str} {py spos : Pos} (hc : X.calm = true) (hN : X.N.Nodup) (hy : X.N[i]? = some y) (hyl : X.env.scope.names.lookup y = some .local)
    (hsw : swapsWith (.ListComp elt [⟨tg, iter, ifs, 0⟩] scope pos) (some (.Name y py)) spos.line X.env = pure true) (hi : PI X tg iter (rI X.K W fi)) (ok : BlkOk X.N X.env.scope scope own)
    (hg : ∀ (s : Shared) (H : Hp) (C : Addr) (cl : List (Str × Addr)) (fp : List Addr), PG (X.blk s H scope (compEnvC scope cl C X.env) fp) tg (rG X.K S g)) (ht : ∀ (s : Shared) (H : Hp) (C : Addr) (cl : List (Str × Addr)) (fp : List Addr), PTs (X.blk s H scope (compEnvC scope cl C X.env) fp) ifs (rT X.K W0 ft))
    (he : ∀ (s : Shared) (H : Hp) (C : Addr) (cl : List (Str × Addr)) (fp : List Addr), PE (X.blk s H scope (compEnvC scope cl C X.env) fp) elt (rE X.K W0 fe)) (hS : S.all (fun i => (own.map (·.2)).contains i) = true := by rfl) (hp : apart [i] P = true := by rfl) (hs : ∀ x, foldedSetIterable iter X.env x = pure x := by intro _; rfl) :
    PS X (.Assign [.Name y py] (.ListComp elt [⟨tg, iter, ifs, 0⟩] scope pos) spos) (rS X.K W P (asgS (compE fi g ft fe (own.map (·.2))) (nmG i))) := PS_mono (ps_setLc hc hN hy hyl hsw hi ok hg ht he hs) fun D σ H q =>
  r_lc hS σ H _ (rE_imp (fun v H' z => r_name (S := [i]) (by simp) v σ H' D.nx z) (r_asg hp D σ H q))
theorem ts_nil {K : PySem.W.Frag} (hK : X.K = K) : PTs X [] (rT K W0 yesT) := ⟨fun pins s σ H Q I ⟨F, env, fps, R, p⟩ => pts_nil.run pins s σ H Q I (p F H fps R (Ext.refl fun _ h => h))⟩
end
section
variable {K : PySem.W.Frag} {F : Hp}
theorem it_list {p : Addr} {vs : List V} {ds : List D} (h : F p = some (.lst vs)) (r : Reps K F vs ds) : ItD K (Itl K p) F ds := fun F' H s1 s2 _ => by
  have q : SqL K H p vs := SqL.of (s2 _ _ (s1 _ _ h))
  refine ⟨fun i hi => ⟨vs, q, by rw [r.length]; exact hi⟩, fun i d hd => ?_⟩
  obtain ⟨v, hv, rv⟩ := r.get hd
  refine ⟨⟨vs, v, q, hv⟩, fun x H' ⟨e, y⟩ => ?_⟩
  subst e
  have := y vs q
  rw [hv] at this; cases this
  exact ⟨F', s2, rv.mono s1, Ext.refl fun _ h => h⟩
theorem it_tup {p : Addr} {vs : List V} {ds : List D} (h : SqT K F p vs) (r : Reps K F vs ds) : ItD K (Itt K p) F ds := fun F' H s1 s2 _ => by
  have q : SqT K H p vs := s2.sqt (s1.sqt h)
  refine ⟨fun i hi => ⟨vs, q, by rw [r.length]; exact hi⟩, fun i d hd => ?_⟩
  obtain ⟨v, hv, rv⟩ := r.get hd
  refine ⟨⟨vs, v, q, hv⟩, fun x H' ⟨e, y⟩ => ?_⟩
  subst e
  have := y vs q
  rw [hv] at this; cases this
  exact ⟨F', s2, rv.mono s1, Ext.refl fun _ h => h⟩
theorem it_range (lo : Int) (n : Nat) : ItD K (Itr lo n) F ((List.range n).map fun k => .int (lo + (k : Nat))) := fun F' H s1 s2 _ => by
  refine ⟨fun i hi => show n ≤ i by simpa using hi, fun i d hd => ?_⟩
  rw [List.getElem?_map] at hd
  by_cases hi : i < n
  · rw [List.getElem?_eq_getElem (by simpa using hi)] at hd
    simp at hd
    subst hd
    exact ⟨hi, fun x H' ⟨e, y⟩ => by subst e y; exact ⟨F', s2, .int _, Ext.refl fun _ h => h⟩⟩
  · rw [List.getElem?_eq_none (by simpa using hi)] at hd
    cases hd
theorem it_str (x : Str) : ItD K (Its x) F (x.cps.toList.map fun c => .str ⟨#[c]⟩) := fun F' H s1 s2 _ => by
  refine ⟨fun i hi => show x.cps.size ≤ i by simpa using hi, fun i d hd => ?_⟩
  rw [List.getElem?_map] at hd
  cases e : x.cps.toList[i]? with
  | none => rw [e] at hd; cases hd
  | some c =>
    rw [e] at hd
    cases hd
    have hi : i < x.cps.size := by simpa using (List.getElem?_eq_some_iff.mp e).1
    refine ⟨hi, fun y H' ⟨e1, c', e2, e3⟩ => ?_⟩
    subst e1 e3
    have : x.cps[i]? = some c := by rw [← Array.getElem?_toList]; exact e
    rw [this] at e2; cases e2
    exact ⟨F', s2, .str _, Ext.refl fun _ h => h⟩
end
def overE (it : M → Option (List D)) (f : FE) : FI := fun env => bindO (tk f env) fun a env1 => match a with
  | .tm m => match it m with
    | some ds => some (.ok ds env1)
    | none => none
  | .sl _ => none
section
variable {X : Cx} {W : WX} {tg l : Expr} {f : FE}
/-- the common part: a taken value, frozen -/
theorem r_over {K : PySem.W.Frag} {it : M → Option (List D)} : ∀ σ H R, rI K W (overE it f) σ H R → rE K W (tk f) σ H fun x H1 => ∃ F env fps m fp ds, REnv K F H1 σ env fps ∧ RepM K F H1 m x fp ∧ (∀ b ∈ fp, ¬ Own fps b) ∧ it m = some ds ∧ PJ K σ F H1 (fun b => Own fps b ∨ b ∈ fp) ds env R := fun σ H R ⟨F, env, fps, R0, p⟩ => by
  refine ⟨F, env, fps, R0, ?_⟩
  unfold overE at p
  cases ef : tk f env with
  | none => rw [ef] at p; exact p
  | some o =>
    rw [ef] at p
    cases o with
    | ex x env1 => exact p
    | ok a env1 =>
      cases a with
      | sl i => exact p.elim
      | tm m =>
        simp only [bindO_ok] at p
        cases ei : it m with
        | none => rw [ei] at p; exact p.elim
        | some ds =>
          rw [ei] at p
          intro v F1 H1 fps1 fp R1 r d e1
          exact ⟨F1, env1, fps1, m, fp, ds, R1, r, d, ei, fun J F' H' fps' R' hJ e2 => p J F' H' fps' R' hJ (e1.trans e2 (fun _ h => h) fun _ h => .inl h)⟩
theorem freeze_at {K : PySem.W.Frag} {F H : Hp} {σ : St} {env : E} {fps : Nat → List Addr} {m : M} {v : V} {fp : List Addr} {d : D} (R : REnv K F H σ env fps) (r : RepM K F H m v fp) (dj : ∀ b ∈ fp, ¬ Own fps b) (h : frz m = some d) :
    ∃ F', Sub F' H ∧ Rep K F' v d ∧ REnv K F' H σ env fps ∧ Ext K F H (fun b => Own fps b ∨ b ∈ fp) F' H (Own fps) := by
  have hl := r.live
  have s1 : Sub F (addF F H fp) := addF_sub fun b hb => (hl b hb).2
  have s2 : Sub (addF F H fp) H := addF_in_H R.fr
  refine ⟨addF F H fp, s2, r.frozen s1 (fun b hb => addF_in hb) h, R.more s1 s2 (fun b hb => ?_) (addF_nt r R.tt.nt), Ext.same s1 (fun b h => .inl (.inl h)) (fun b o h => ?_) (fun h => addF_nt r h)⟩
  · rw [addF_out (fun q => dj b q hb)]
    exact (R.live hb).2
  · by_cases hb : b ∈ fp
    · exact .inr (.inl (.inr hb))
    · rw [addF_out hb] at h; exact .inl h
/-- range(n), range(a, b) -/
def intA (a : Av) (env : E) : Option Int := match a with
  | .tm (.fz (.int i)) => some i
  | .sl k => match env[k]? with
    | some (some (.fz (.int i))) => some i
    | _ => none
  | _ => none
theorem intA_rep {K : PySem.W.Frag} {F H : Hp} {σ : St} {env : E} {fps : Nat → List Addr} {a : Av} {v : V} {fp : List Addr} {b : Int} (R : REnv K F H σ env fps) (r : RepA K F H σ a v fp) (h : intA a env = some b) : v = .int b := by
  unfold intA at h
  split at h
  · cases h
    exact rep_int (repm_fz r)
  · split at h
    · rename_i e
      cases h
      obtain ⟨w, hw, rr⟩ := R.got _ _ e
      obtain ⟨q, _⟩ := r
      rw [q] at hw; cases hw
      exact rep_int (repm_fz rr)
    · cases h
  · cases h
def fits (i : Int) : Bool := decide (-(2 ^ 62) ≤ i) && decide (i < 2 ^ 62)
def rangeD (lo hi : Int) : List D := (List.range (hi - lo).toNat).map fun k => .int (lo + (k : Nat))
def rng1 (f : FE) : FI := fun env => bindO (f env) fun a env1 => match intA a env1 with
  | some n => if fits n then some (.ok (rangeD 0 n) env1) else none
  | none => none
def rng2 (f g : FE) : FI := fun env => bindO (f env) fun a env1 => bindO (g env1) fun b env2 => match intA a env2 with
  | some i => match intA b env2 with
    | some j => if fits i && fits j then some (.ok (rangeD i j) env2) else none
    | none => none
  | none => none
theorem i_range1 {a : Expr} {p pos : Pos} (hg : Gl X "range") (hm : X.mg "range" = none) (h : PE X a (rE X.K W f)) (hs : starEach [a] X.env = [(false, eval a X.env)] := by rfl) : PI X tg (.Call (.Name "range" p) [a] [] pos) (rI X.K W (rng1 f)) := PI_mono (pi_range1 hg hm (a_cons h a_nil hs) hs) fun σ H R ⟨F, env, fps, R0, p⟩ => by
  refine ⟨F, env, fps, R0, ?_⟩
  unfold rng1 at p
  unfold consA
  cases ef : f env with
  | none => rw [ef] at p; exact p
  | some o =>
    rw [ef] at p
    cases o with
    | ex x env1 => exact p
    | ok a env1 =>
      simp only [bindO_ok] at p ⊢
      intro vs F1 H1 fps1 fpA R1 rs d e1
      cases ei : intA a env1 with
      | none => rw [ei] at p; exact p.elim
      | some n =>
        simp only [ei] at p
        obtain ⟨v, hv, r⟩ := rs.got 0 a rfl
        obtain rfl := intA_rep R1 r ei
        have l := rs.len
        match vs, hv, l with
        | [w], hv, _ =>
          cases hv
          split at p
          · rename_i hf
            simp only [fits, Bool.and_eq_true, decide_eq_true_eq] at hf
            refine ⟨n, rfl, hf.1, hf.2, p _ F1 H1 fps1 R1 ?_ (e1.weak fun _ h => .inl h)⟩
            have := it_range (K := X.K) (F := F1) 0 n.toNat
            rw [rangeD, Int.sub_zero]
            exact this
          · exact p.elim
end
structure Fn (P : Program) (w : World) (K : PySem.W.Frag) (mg : Str → Option Value) (base : Heap) (k : Nat) (x : Str) (ps : List Str) (g : FP) : Prop where
  ex : ∃ f fd, FnOk P w K mg base (L2.CX P w) k f fd ps (spOf K g) ∧ mg x = some (.ref f) ∧ PySem.W.keepIn K (.ref f) = true ∧ Binds K fd ps []
theorem e_call {X : Cx} {W : WX} {k : Nat} {x : Str} {ps : List Str} {g : FP} {e : Expr} {es : List Expr} {f : FA} {p pos : Pos} (G : Fn X.prog X.w X.K X.mg X.base k x ps g) (hr : Room k X.A) (hg : Gl X x) (t : Takes X W) (ha : PA X (e :: es) (rA X.K W f))
    (hdb : (x == ("__debug__" : Str)) = false := by decide) (he : starEach (e :: es) X.env = (false, eval e X.env) :: starEach es X.env := by rfl) (hpl : (backTo pos (starEach es X.env)).any (·.1) = false := by rfl) : PE X (.Call (.Name x p) (e :: es) [] pos) (rE X.K W (callE g f)) := by
  obtain ⟨fa, fd, F, hm, hk, hb⟩ := G.ex
  exact PE_mono (pe_callS F hr hg hm hk hb (fun σ => passAt t σ) ha hdb he hpl) fun σ H Q q => r_call q
theorem fn_mk {P : Program} {w : World} {K : PySem.W.Frag} {mg : Str → Option Value} {base : Heap} {x qual : Str} {params : Arguments} {body : List Stmt} {scope : Scope} {f : Addr} {fd : FuncData} {N ps : List Str} {k np nl : Nat} {asg : List Nat} {fb : FS}
    (F : FunD K x qual params body scope [] [] f fd) (S : FnScope N ps scope) (hN : N.length = np + nl) (hp : ps.length = np) (hm : mg x = some (.ref f))
    (hbd : ∀ (kV doc pm : Value) (an : Option Addr) (cdv ct : Value) (us : List Value), us.length = ps.length → bindArgs (PySem.W.fnOf x qual params body scope .none kV doc pm an cdv ct) ⟨us, []⟩ = pure (ps.zip us))
    (hb : ∀ (cdv : Value) (A : Around) (outer : List Env) (s : Shared) (H : Hp) (Ex : XK), Room k (A.deeper (PyProof.Rows.envOfC qual scope s.heap.objs.size f cdv)) → PSs (cxOf (L2.CX P w) P w K mg base N qual scope f cdv A outer s H Ex) body (rS K (fun cls d _ H' => Ex cls d H') (pinsOf np asg) fb)) :
    Fn P w K mg base (k + 1) x ps (fnM np nl asg fb) :=
  ⟨f, fd, F.ok S (fun vs H Q Ex h => by rw [(fn_body hN h).1, hp]) (fun cdv A outer s H vs Q Ex hr h => ⟨_, hb cdv A outer s H Ex hr, (fn_body hN h).2⟩), hm, F.kp, F.bindsN hbd⟩
end Ink
set_option Elab.async false
set_option linter.all false
set_option maxRecDepth 100000
namespace Ink
open PySem L2
def tms : List Av → Option (List M)
  | [] => some []
  | .tm m :: r => match tms r with
    | some ms => some (m :: ms)
    | none => none
  | .sl _ :: _ => none
def lstE (fa : FA) : FE := fun env => bindO (fa env) fun as env1 => match tms as with
  | some ms => if ms.length ≤ sizeLine then some (.ok (.tm (.lst ms)) env1) else none
  | none => none
def tupE (fa : FA) : FE := fun env => bindO (fa env) fun as env1 => match tms as with
  | some ms => match unfz ms with
    | some ds => if ds.length ≤ sizeLine then some (.ok (.tm (.fz (.tup ds))) env1) else none
    | none => if ms.length ≤ sizeLine then some (.ok (.tm (.tup ms)) env1) else none
  | none => none
theorem RepAs.tail {K : PySem.W.Frag} {F H : Hp} {σ : St} {a : Av} {as : List Av} {vs : List V} {fpA : Nat → List Addr} (h : RepAs K F H σ (a :: as) vs fpA) : ∃ v ws, vs = v :: ws ∧ RepA K F H σ a v (fpA 0) ∧ RepAs K F H σ as ws (fun j => fpA (j + 1)) := by
  have l := h.len
  match vs, l with
  | v :: ws, _ =>
    obtain ⟨w, hw, r⟩ := h.got 0 a rfl
    cases hw
    refine ⟨v, ws, rfl, r, ⟨by simpa using h.len, fun j c hc => ?_, fun j hj => h.nil (j + 1) (by simpa using hj), fun i j hij b hb => h.dj (i + 1) (j + 1) (by omega) b hb⟩⟩
    obtain ⟨w, h1, h2⟩ := h.got (j + 1) c (by simpa using hc)
    exact ⟨w, by simpa using h1, h2⟩
theorem tms_reps {K : PySem.W.Frag} {F H : Hp} {σ : St} : ∀ {as : List Av} {vs : List V} {fpA : Nat → List Addr} {ms : List M}, RepAs K F H σ as vs fpA → tms as = some ms → ∃ fp, RepMs K F H ms vs fp ∧ ∀ b ∈ fp, Own fpA b
  | [], vs, fpA, ms, h, e => by
    rw [tms] at e; cases e
    have l := h.len
    match vs, l with
    | [], _ => exact ⟨[], .nil, fun b hb => by cases hb⟩
  | .sl _ :: r, _, _, _, _, e => by rw [tms] at e; cases e
  | .tm m :: r, vs, fpA, ms, h, e => by
    rw [tms] at e
    cases er : tms r with
    | none => rw [er] at e; cases e
    | some ns =>
      rw [er] at e; cases e
      obtain ⟨v, ws, rfl, ra, rs⟩ := h.tail
      obtain ⟨fp, rm, ho⟩ := tms_reps rs er
      refine ⟨fpA 0 ++ fp, .cons ra rm fun b hb q => ?_, fun b hb => ?_⟩
      · obtain ⟨j, hj⟩ := ho b q
        exact h.dj 0 (j + 1) (by omega) b hb hj
      · rcases List.mem_append.mp hb with q | q
        · exact ⟨0, q⟩
        · obtain ⟨j, hj⟩ := ho b q
          exact ⟨j + 1, hj⟩
theorem RepMs.frozen {K : PySem.W.Frag} {F H F' : Hp} : ∀ {ms : List M} {vs : List V} {fp : List Addr} {ds : List D}, RepMs K F H ms vs fp → Sub F F' → (∀ b ∈ fp, F' b = H b) → frzs ms = some ds → Reps K F' vs ds
  | [], _, _, ds, .nil, _, _, e => by rw [frzs] at e; cases e; exact .nil
  | m :: ms, _, _, ds, .cons a b d, s, hF, e => by
    rw [frzs] at e
    cases e1 : frz m with
    | none => rw [e1] at e; cases e
    | some x =>
      rw [e1] at e
      cases e2 : frzs ms with
      | none => rw [e2] at e; cases e
      | some xs =>
        rw [e2] at e; cases e
        exact .cons (a.frozen s (fun b hb => hF b (List.mem_append_left _ hb)) e1) (b.frozen s (fun b hb => hF b (List.mem_append_right _ hb)) e2)
section
variable {X : Cx} {W : WX} {es : List Expr} {fa : FA} {pos : Pos}
theorem e_lst (h : PA X es (rA X.K W fa)) : PE X (.List es pos) (rE X.K W (lstE fa)) := PE_mono (pe_lst h) fun σ H Q ⟨F, env, fps, R, p⟩ => by
  refine ⟨F, env, fps, R, ?_⟩
  unfold lstE at p
  cases ef : fa env with
  | none => rw [ef] at p; exact p
  | some o =>
    rw [ef] at p
    cases o with
    | ex x env1 => exact p
    | ok as env1 =>
      simp only [bindO_ok] at p
      cases et : tms as with
      | none => rw [et] at p; exact p.elim
      | some ms =>
        simp only [et] at p
        split at p
        · rename_i hl
          intro vs F1 H1 fps1 fpA R1 rs d e1
          obtain ⟨fp, rm, ho⟩ := tms_reps rs et
          refine ⟨by rw [rm.length]; exact hl, fun q hq => ?_⟩
          have en : Ext X.K F1 H1 (fun _ => False) F1 (upd H1 q (.lst vs)) (fun b => False ∨ b = q) := Ext.new hq
          obtain ⟨R2, n2⟩ := R1.frame (fun b _ h => h) en (sub_new R1.fr hq)
          have nq : ∀ b ∈ fp, b ≠ q := fun b hb e => by
            obtain ⟨⟨o, ho⟩, _⟩ := rm.live b hb
            rw [e, hq] at ho; cases ho
          have rm2 : RepMs X.K F1 (upd H1 q (.lst vs)) ms vs fp := rm.frame (Sub.refl _) (fun b hb => upd_ne (nq b hb)) fun b hb => (rm.live b hb).2
          refine p (.ref q) F1 _ fps1 (q :: fp) R2 (.lst upd_same (sub_none R1.fr hq) rm2 fun h => nq q h rfl) (fun b hb z => ?_) ?_
          · rcases List.mem_cons.mp hb with e | hb
            · exact n2 b z (.inr e)
            · exact d b (ho b hb) z
          · exact e1.trans (Ext.new (A := fun b => Own fps1 b ∨ Own fpA b) hq) (fun _ h => h) fun b h => by
              rcases h with h | h
              · exact .inl (.inl (.inl h))
              · rcases List.mem_cons.mp h with e | h
                · exact .inl (.inr e)
                · exact .inl (.inl (.inr (ho b h)))
        · exact p.elim
theorem e_tup {k : Nat} (h : PA X es (rA X.K W fa)) : PE X (.Tuple es k pos) (rE X.K W (tupE fa)) := PE_mono (pe_tup h) fun σ H Q ⟨F, env, fps, R, p⟩ => by
  refine ⟨F, env, fps, R, ?_⟩
  unfold tupE at p
  cases ef : fa env with
  | none => rw [ef] at p; exact p
  | some o =>
    rw [ef] at p
    cases o with
    | ex x env1 => exact p
    | ok as env1 =>
      simp only [bindO_ok] at p
      cases et : tms as with
      | none => rw [et] at p; exact p.elim
      | some ms =>
        simp only [et] at p
        cases ed : unfz ms with
        | none =>
          simp only [ed] at p
          split at p
          · rename_i hl
            intro vs F1 H1 fps1 fpA R1 rs d e1
            obtain ⟨fp, rm, ho⟩ := tms_reps rs et
            refine ⟨by rw [rm.length]; exact hl, fun q hq => ?_⟩
            have en : Ext X.K F1 H1 (fun _ => False) (upd F1 q (.tup vs)) (upd H1 q (.tup vs)) (fun _ => False) := Ext.newF R1.fr hq
            obtain ⟨R2, n2⟩ := R1.frame (fun b _ h => h) en (sub_upd R1.fr)
            have nq : ∀ b ∈ fp, b ≠ q := fun b hb e => by
              obtain ⟨⟨o, ho⟩, _⟩ := rm.live b hb
              rw [e, hq] at ho; cases ho
            have rm2 : RepMs X.K (upd F1 q (.tup vs)) (upd H1 q (.tup vs)) ms vs fp := rm.frame en.ff (fun b hb => upd_ne (nq b hb)) fun b hb => by rw [upd_ne (nq b hb)]; exact (rm.live b hb).2
            exact p (.ref q) (upd F1 q (.tup vs)) _ fps1 fp R2 (.tup upd_same rm2) (fun b hb z => d b (ho b hb) z) (e1.trans (Ext.newF (A := fun b => Own fps1 b ∨ Own fpA b) R1.fr hq) (fun _ h => h) fun b h => .inl (h.imp id (ho b)))
          · exact p.elim
        | some ds =>
          simp only [ed] at p
          split at p
          · rename_i hl
            intro vs F1 H1 fps1 fpA R1 rs d e1
            obtain ⟨fp, rm, ho⟩ := tms_reps rs et
            have rd : Reps X.K F1 vs ds := unfz_reps rm ed
            refine ⟨by rw [rd.length]; exact hl, fun q hq => ?_⟩
            have en : Ext X.K F1 H1 (fun _ => False) (upd F1 q (.tup vs)) (upd H1 q (.tup vs)) (fun _ => False) := Ext.newF R1.fr hq
            obtain ⟨R2, _⟩ := R1.frame (fun b _ h => h) en (sub_upd R1.fr)
            refine p (.ref q) _ _ fps1 [] R2 (.fz (.tup upd_same (rd.mono en.ff))) Own.not_nil ?_
            exact (e1.trans en.unit (B := Own fps1) (C := Own fps1) (fun _ h => .inl h) fun _ h => .inl h).weak fun b h => h.elim id fun z => by cases z
          · exact p.elim
end
def chainE (p q : Int → Int → Bool) (fa fb fc : FE) : FE := fun env => bindO (fa env) fun a env1 => bindO (fb env1) fun b env2 => match intA a env2 with
  | some i => match intA b env2 with
    | some j => match p i j with
      | true => bindO (fc env2) fun c env3 => match intA c env3 with
        | some k => some (.ok (.tm (.fz (.bl (q j k)))) env3)
        | none => none
      | false => some (.ok (.tm (.fz (.bl false))) env2)
    | none => none
  | none => none
section
variable {X : Cx} {W : WX} {a b c : Expr} {fa fb fc : FE} {pos : Pos}
theorem r_chain {K : PySem.W.Frag} {p q : Int → Int → Bool} : ∀ σ H Q, rE K W (chainE p q fa fb fc) σ H Q → tChain (rI0 fun i j => .bl (p i j)) (rI0 fun i j => .bl (q i j)) (rE K W fa) (rE K W fb) (rE K W fc) σ H Q := fun σ H Q ⟨F, env, fps, R, po⟩ => by
  refine ⟨F, env, fps, R, ?_⟩
  unfold chainE at po
  cases ef : fa env with
  | none => rw [ef] at po; exact po
  | some o =>
    rw [ef] at po
    cases o with
    | ex x env1 => exact po
    | ok a env1 =>
      simp only [bindO_ok] at po
      intro v F1 H1 fps1 fp R1 r d e1
      refine ⟨F1, env1, fps1, R1, ?_⟩
      cases eg : fb env1 with
      | none => rw [eg] at po; exact po
      | some o2 =>
        rw [eg] at po
        cases o2 with
        | ex x env2 => exact PX.wide po e1 fun _ h => .inl h
        | ok b env2 =>
          simp only [bindO_ok] at po
          intro w F2 H2 fps2 fp2 R2 r2 d2 e2
          obtain ⟨r', _⟩ := pendA r d e2
          cases ei : intA a env2 with
          | none => rw [ei] at po; exact po.elim
          | some i =>
            simp only [ei] at po
            cases ej : intA b env2 with
            | none => rw [ej] at po; exact po.elim
            | some j =>
              simp only [ej] at po
              obtain rfl := intA_rep R2 r' ei
              obtain rfl := intA_rep R2 r2 ej
              have e12 : Ext K F H (Own fps) F2 H2 (Own fps2) := (e1.trans e2 (fun _ h => .inl h) (C := Own fps2) fun _ h => .inl (.inl h))
              refine ⟨i, j, rfl, rfl, p i j, rfl, ?_⟩
              cases hp : p i j with
              | false =>
                simp only [hp] at po
                exact ifF (po (.bl false) F2 H2 fps2 [] R2 (RepM.fz (.bl false)) Own.not_nil (e12.weak fun b h => h.elim id fun z => by cases z))
              | true =>
                simp only [hp] at po
                refine ifT ⟨F2, env2, fps2, R2, ?_⟩
                cases ec : fc env2 with
                | none => rw [ec] at po; exact po
                | some o3 =>
                  rw [ec] at po
                  cases o3 with
                  | ex x env3 => exact PX.wide po e12 fun _ h => h
                  | ok c env3 =>
                    simp only [bindO_ok] at po
                    intro z F3 H3 fps3 fp3 R3 r3 d3 e3
                    cases ek : intA c env3 with
                    | none => rw [ek] at po; exact po.elim
                    | some k =>
                      simp only [ek] at po
                      obtain rfl := intA_rep R3 r3 ek
                      exact ⟨j, k, rfl, rfl, po (.bl (q j k)) F3 H3 fps3 [] R3 (RepM.fz (.bl _)) Own.not_nil (e12.trans e3 (fun _ h => h) fun b h => .inl (.inl (h.elim id fun z => by cases z)))⟩
theorem e_chain {op op' : CmpOp} {p q : Int → Int → Bool} (ho : OpR X (compareOp op) (rI0 fun i j => .bl (p i j))) (ho' : OpR X (compareOp op') (rI0 fun i j => .bl (q i j))) (ha : PE X a (rE X.K W fa)) (hb : PE X b (rE X.K W fb)) (hc : PE X c (rE X.K W fc))
    (hm : lastMarks [op, op'] [b, c] = false := by with_unfolding_all rfl) : PE X (.Compare a [op, op'] [b, c] pos) (rE X.K W (chainE p q fa fb fc)) := PE_mono (pe_chain ho ho' ha hb hc hm) r_chain
end
def andE (fa fb : FE) : FE := fun env => bindO (fa env) fun a env1 => match boolA a env1 with
  | some true => fb env1
  | some false => some (.ok (.tm (.fz (.bl false))) env1)
  | none => none
def orE (fa fb : FE) : FE := fun env => bindO (fa env) fun a env1 => match boolA a env1 with
  | some true => some (.ok (.tm (.fz (.bl true))) env1)
  | some false => fb env1
  | none => none
def notE (fa : FE) : FE := fun env => bindO (fa env) fun a env1 => match boolA a env1 with
  | some b => some (.ok (.tm (.fz (.bl (!b)))) env1)
  | none => none
def ifE (c : FT) (fa fb : FE) : FE := fun env => bindO (c env) fun b env1 => match b with
  | true => fa env1
  | false => fb env1
section
variable {X : Cx} {W : WX} {a b c : Expr} {rest : List Expr} {fa fb : FE} {fc : FT} {pos : Pos}
theorem e_one {op} (h : PE X a (rE X.K W fa)) : PE X (.BoolOp op [a] pos) (rE X.K W fa) := pe_one h
theorem e_and (ha : PE X a (rE X.K W fa)) (hb : PE X (.BoolOp .And (b :: rest) pos) (rE X.K W fb)) : PE X (.BoolOp .And (a :: b :: rest) pos) (rE X.K W (andE fa fb)) := PE_mono (pe_and ha hb) fun σ H Q ⟨F, env, fps, R, po⟩ => by
  refine ⟨F, env, fps, R, ?_⟩
  unfold andE at po
  cases ef : fa env with
  | none => rw [ef] at po; exact po
  | some o =>
    rw [ef] at po
    cases o with
    | ex x env1 => exact po
    | ok a env1 =>
      simp only [bindO_ok] at po
      intro v F1 H1 fps1 fp R1 r d e1
      cases eb : boolA a env1 with
      | none => rw [eb] at po; exact po.elim
      | some k =>
        simp only [eb] at po
        refine ⟨k, boolA_rep R1 r eb, ?_⟩
        cases k with
        | true => exact ifT ⟨F1, env1, fps1, R1, poE.wide po e1 fun _ h => .inl h⟩
        | false => exact ifF (po (.bl false) F1 H1 fps1 [] R1 (RepM.fz (.bl false)) Own.not_nil (e1.weak fun b h => .inl (h.elim id fun z => by cases z)))
theorem e_not (ha : PE X a (rE X.K W fa)) : PE X (.UnaryOp .Not a pos) (rE X.K W (notE fa)) := PE_mono (pe_not ha) fun σ H Q ⟨F, env, fps, R, po⟩ => by
  refine ⟨F, env, fps, R, ?_⟩
  unfold notE at po
  cases ef : fa env with
  | none => rw [ef] at po; exact po
  | some o =>
    rw [ef] at po
    cases o with
    | ex x env1 => exact po
    | ok a env1 =>
      simp only [bindO_ok] at po
      intro v F1 H1 fps1 fp R1 r d e1
      cases eb : boolA a env1 with
      | none => rw [eb] at po; exact po.elim
      | some k =>
        simp only [eb] at po
        exact ⟨k, boolA_rep R1 r eb, po (.bl (!k)) F1 H1 fps1 [] R1 (RepM.fz (.bl _)) Own.not_nil (e1.weak fun b h => .inl (h.elim id fun z => by cases z))⟩
theorem e_if (hc : PT X c (rT X.K W fc)) (ha : PE X a (rE X.K W fa)) (hb : PE X b (rE X.K W fb)) : PE X (.IfExp c a b pos) (rE X.K W (ifE fc fa fb)) := PE_mono (pe_ifExp hc ha hb) fun σ H Q ⟨F, env, fps, R, po⟩ => by
  refine ⟨F, env, fps, R, ?_⟩
  unfold ifE at po
  cases ef : fc env with
  | none => rw [ef] at po; exact po
  | some o =>
    rw [ef] at po
    cases o with
    | ex x env1 => exact po
    | ok k env1 =>
      simp only [bindO_ok] at po
      intro F1 H1 fps1 R1 e1
      cases k with
      | true => exact ifT ⟨F1, env1, fps1, R1, poE.wide po e1 fun _ h => h⟩
      | false => exact ifF ⟨F1, env1, fps1, R1, poE.wide po e1 fun _ h => h⟩
end
def isNon : M → Bool
  | .fz .non => true
  | _ => false
theorem isNon_rep {K : PySem.W.Frag} {F H : Hp} {m : M} {v : V} {fp : List Addr} (r : RepM K F H m v fp) : decide (v = .non) = isNon m := by
  cases r with
  | fz h => cases h <;> simp [isNon]
  | lst => simp [isNon]
  | tup => simp [isNon]
  | dK => simp [isNon]
  | dT => simp [isNon]
  | ins => simp [isNon]
def isNM (a b : M) : Option M := match b with
  | .fz .non => some (.fz (.bl (isNon a)))
  | _ => none
def notNM (a b : M) : Option M := match b with
  | .fz .non => some (.fz (.bl (!isNon a)))
  | _ => none
section
variable {X : Cx} {W : WX} {a b : Expr} {fa fb : FE} {pos : Pos}
theorem e_isN (ha : PE X a (rE X.K W fa)) (hb : PE X b (rE X.K W fb)) : PE X (.Compare a [.Is] [b] pos) (rE X.K W (callE (g2 isNM) (arg2 fa fb))) := e_cmp op_isN (fun x y H Q Ex p => by
  obtain ⟨F, a, b, m, fps, R, r1, r2, e, p⟩ := g2_at p
  unfold isNM at e
  split at e
  · cases e
    exact ⟨rep_non (repm_fz r2), sp_flat R (by rw [isNon_rep r1]; exact .bl _) p⟩
  · cases e) ha hb (nomark _)
end
mutual
def toPD : D → Option PyData
  | .non => some .none
  | .bl b => some (.bool b)
  | .int i => some (.int i)
  | .str x => some (.str x)
  | .lst ds => match toPDs ds with
    | some ps => some (.list ps)
    | none => none
  | .tup ds => match toPDs ds with
    | some ps => some (.tuple ps)
    | none => none
  | .dK _ => none
  | .dT _ => none
  | .scr _ => none
  | .ins _ _ => none
  | .lam _ => none
  | .dLK _ => none
  | .dLT _ => none
  | .nst _ _ => none
def toPDs : List D → Option (List PyData)
  | [] => some []
  | d :: ds => match toPD d with
    | some p => match toPDs ds with
      | some ps => some (p :: ps)
      | none => none
    | none => none
end
mutual
def toPM : M → Option PyData
  | .fz d => toPD d
  | .lst ms => match toPMs ms with
    | some ps => some (.list ps)
    | none => none
  | .tup ms => match toPMs ms with
    | some ps => some (.tuple ps)
    | none => none
  | .dK _ => none
  | .dT _ => none
  | .ins _ _ => none
def toPMs : List M → Option (List PyData)
  | [] => some []
  | d :: ds => match toPM d with
    | some p => match toPMs ds with
      | some ps => some (p :: ps)
      | none => none
    | none => none
end
section
variable {K : PySem.W.Frag} {F H : Hp}
theorem dp_of (s : Sub F H) {v : V} {d : D} (h : Rep K F v d) : ∀ p, toPD d = some p → Dp K H v p :=
  Rep.rec (K := K) (F := F) (motive_1 := fun v d _ => ∀ p, toPD d = some p → Dp K H v p) (motive_2 := fun vs ds _ => ∀ ps, toPDs ds = some ps → DpAll K H vs ps)
    (fun p e => by rw [toPD] at e; cases e; exact .non) (fun b p e => by rw [toPD] at e; cases e; exact .bl b) (fun i p e => by rw [toPD] at e; cases e; exact .int i) (fun x p e => by rw [toPD] at e; cases e; exact .str x)
    (fun {q vs ds} a _ ih p e => by
      rw [toPD] at e
      cases e2 : toPDs ds with
      | none => rw [e2] at e; cases e
      | some ps => rw [e2] at e; cases e; exact .lst (SqL.of (s _ _ a)) (ih ps e2))
    (fun {q vs ds} a _ ih p e => by
      rw [toPD] at e
      cases e2 : toPDs ds with
      | none => rw [e2] at e; cases e
      | some ps => rw [e2] at e; cases e; exact .tup (SqT.of (s _ _ a)) (ih ps e2))
    (fun _ _ _ _ p e => by rw [toPD] at e; cases e) (fun _ _ _ _ p e => by rw [toPD] at e; cases e) (fun _ p e => by rw [toPD] at e; cases e) (fun _ _ _ _ p e => by rw [toPD] at e; cases e) (fun _ _ p e => by rw [toPD] at e; cases e) (fun _ _ _ _ p e => by rw [toPD] at e; cases e) (fun _ _ _ _ p e => by rw [toPD] at e; cases e) (fun _ _ _ _ p e => by rw [toPD] at e; cases e)
    (fun ps e => by rw [toPDs] at e; cases e; exact .nil)
    (fun {v vs d ds} _ _ i1 i2 ps e => by
      rw [toPDs] at e
      cases e1 : toPD d with
      | none => rw [e1] at e; cases e
      | some p =>
        rw [e1] at e
        cases e2 : toPDs ds with
        | none => rw [e2] at e; cases e
        | some qs => rw [e2] at e; cases e; exact .cons (i1 p e1) (i2 qs e2)) h
theorem dpm_of (s : Sub F H) {m : M} {v : V} {fp : List Addr} (h : RepM K F H m v fp) : ∀ p, toPM m = some p → Dp K H v p :=
  RepM.rec (K := K) (F := F) (H := H) (motive_1 := fun m v _ _ => ∀ p, toPM m = some p → Dp K H v p) (motive_2 := fun ms vs _ _ => ∀ ps, toPMs ms = some ps → DpAll K H vs ps)
    (fun r p e => by rw [toPM] at e; exact dp_of s r p e)
    (fun {q vs ms fp} a _ _ _ ih p e => by
      rw [toPM] at e
      cases e2 : toPMs ms with
      | none => rw [e2] at e; cases e
      | some ps => rw [e2] at e; cases e; exact .lst (SqL.of a) (ih ps e2))
    (fun {q vs ms fp} a _ ih p e => by
      rw [toPM] at e
      cases e2 : toPMs ms with
      | none => rw [e2] at e; cases e
      | some ps => rw [e2] at e; cases e; exact .tup (SqT.of (s _ _ a)) (ih ps e2))
    (fun _ _ _ _ _ _ p e => by rw [toPM] at e; cases e) (fun _ _ _ _ _ _ p e => by rw [toPM] at e; cases e) (fun _ _ _ _ _ _ p e => by rw [toPM] at e; cases e)
    (fun ps e => by rw [toPMs] at e; cases e; exact .nil)
    (fun {m v ms vs fp fq} _ _ _ i1 i2 ps e => by
      rw [toPMs] at e
      cases e1 : toPM m with
      | none => rw [e1] at e; cases e
      | some p =>
        rw [e1] at e
        cases e2 : toPMs ms with
        | none => rw [e2] at e; cases e
        | some qs => rw [e2] at e; cases e; exact .cons (i1 p e1) (i2 qs e2)) h
end
/-- == : of numbers, texts, truths at once; else by their data -/
def eqB : M → M → Option Bool
  | .fz (.int i), .fz (.int j) => some (decide (i = j))
  | .fz (.str s), .fz (.str t) => some (decide (s = t))
  | .fz (.bl a), .fz (.bl b) => some (decide (a = b))
  | a, b => match toPM a with
    | some p => match toPM b with
      | some q => if SeqAt.shaped p && SeqAt.shaped q then some (PyData.eqv p q) else none
      | none => none
    | none => none
def eqM (a b : M) : Option M := match eqB a b with
  | some k => some (.fz (.bl k))
  | none => none
def neM (a b : M) : Option M := match eqB a b with
  | some k => some (.fz (.bl (!k)))
  | none => none
theorem eqB_at {K : PySem.W.Frag} {F H : Hp} {a b : M} {x y : V} {fa fb : List Addr} {k : Bool} (s : Sub F H) (r1 : RepM K F H a x fa) (r2 : RepM K F H b y fb) (h : eqB a b = some k) : (scal x y = true ∧ k = decide (x = y)) ∨ ∃ p q, Dp K H x p ∧ Dp K H y q ∧ SeqAt.shaped p = true ∧ SeqAt.shaped q = true ∧ k = PyData.eqv p q := by
  unfold eqB at h
  split at h
  · cases h
    obtain rfl := rep_int (repm_fz r1)
    obtain rfl := rep_int (repm_fz r2)
    exact .inl ⟨rfl, by simp⟩
  · cases h
    obtain rfl := rep_str (repm_fz r1)
    obtain rfl := rep_str (repm_fz r2)
    exact .inl ⟨rfl, by simp⟩
  · cases h
    obtain rfl := rep_bl (repm_fz r1)
    obtain rfl := rep_bl (repm_fz r2)
    exact .inl ⟨rfl, by simp⟩
  · cases e1 : toPM a with
    | none => rw [e1] at h; cases h
    | some p =>
      simp only [e1] at h
      cases e2 : toPM b with
      | none => rw [e2] at h; cases h
      | some q =>
        simp only [e2] at h
        split at h
        · rename_i hs
          cases h
          simp only [Bool.and_eq_true] at hs
          exact .inr ⟨p, q, dpm_of s r1 p e1, dpm_of s r2 q e2, hs.1, hs.2, rfl⟩
        · cases h
section
variable {X : Cx} {W : WX} {a b : Expr} {fa fb : FE} {pos : Pos}
theorem e_eq (hu : X.A.units + 64 < cLine) (ha : PE X a (rE X.K W fa)) (hb : PE X b (rE X.K W fb)) : PE X (.Compare a [.Eq] [b] pos) (rE X.K W (callE (g2 eqM) (arg2 fa fb))) := e_cmp (op_eq.or (op_eqD hu)) (fun x y H Q Ex p => by
  obtain ⟨F, a, b, m, fps, R, r1, r2, e, p⟩ := g2_at p
  unfold eqM at e
  cases ek : eqB a b with
  | none => rw [ek] at e; cases e
  | some k =>
    rw [ek] at e; cases e
    have q := sp_flat R (Rep.bl k) p
    rcases eqB_at R.fr r1 r2 ek with ⟨h, rfl⟩ | ⟨d, e, h1, h2, h3, h4, rfl⟩
    · exact .inl ⟨h, q⟩
    · exact .inr ⟨d, e, h1, h2, h3, h4, q⟩) ha hb (nomark _)
theorem e_ne (hu : X.A.units + 64 < cLine) (ha : PE X a (rE X.K W fa)) (hb : PE X b (rE X.K W fb)) : PE X (.Compare a [.NotEq] [b] pos) (rE X.K W (callE (g2 neM) (arg2 fa fb))) := e_cmp (op_ne.or (op_neD hu)) (fun x y H Q Ex p => by
  obtain ⟨F, a, b, m, fps, R, r1, r2, e, p⟩ := g2_at p
  unfold neM at e
  cases ek : eqB a b with
  | none => rw [ek] at e; cases e
  | some k =>
    rw [ek] at e; cases e
    have q := sp_flat R (Rep.bl (!k)) p
    rcases eqB_at R.fr r1 r2 ek with ⟨h, rfl⟩ | ⟨d, e, h1, h2, h3, h4, rfl⟩
    · exact .inl ⟨h, q⟩
    · exact .inr ⟨d, e, h1, h2, h3, h4, q⟩) ha hb (nomark _)
end
end Ink
set_option Elab.async false
set_option linter.all false
set_option maxRecDepth 100000
namespace Ink
open PySem L2
def cutL {α : Type} (xs : List α) (lo hi : Option Int) : List α := (xs.drop (HT.sIx xs.length 0 lo)).take (HT.sIx xs.length xs.length hi - HT.sIx xs.length 0 lo)
theorem cut_reps {K : PySem.W.Frag} {F : Hp} {vs : List V} {ds : List D} (r : Reps K F vs ds) (lo hi : Option Int) : Reps K F (cutV vs lo hi) (cutL ds lo hi) := by
  unfold cutV cutL
  rw [r.length]
  exact (r.drop _).take _
theorem cut_ints {K : PySem.W.Frag} {F : Hp} (ns : List Int) (lo hi : Option Int) : Reps K F (cutV (ns.map V.int) lo hi) ((cutL ns lo hi).map D.int) := by
  have e : cutV (ns.map V.int) lo hi = (cutL ns lo hi).map V.int := by
    unfold cutV cutL
    rw [List.length_map, ← List.map_drop, ← List.map_take]
  rw [e]
  induction cutL ns lo hi with
  | nil => exact .nil
  | cons n ns ih => exact .cons (.int n) ih
def sliceM (m : M) (lo hi : Option Int) : Option M := match m with
  | .fz (.str s) => if s.length ≤ sizeLine then some (.fz (.str (cutS s lo hi))) else none
  | .fz (.tup ds) => some (.fz (.tup (cutL ds lo hi)))
  | .fz (.scr ns) => some (.lst ((cutL ns lo hi).map fun n => .fz (.int n)))
  | m => match lstD m with
    | some ds => some (.lst ((cutL ds lo hi).map .fz))
    | none => none
def rSl (K : PySem.W.Frag) : V → Option Int → Option Int → Hp → VK → Prop := fun x lo hi H Q => rSlS x lo hi H Q ∨ (rSlA K x lo hi H Q ∨ rSlL K x lo hi H Q)
theorem slice_at {K : PySem.W.Frag} {F H : Hp} {vs : List V} {ms : List M} {fps : Nat → List Addr} {Q : VK} {Ex : XK} {m z : M} {x : V} {fp : List Addr} {lo hi : Option Int} (R : REnv K F H (argS vs) (argE ms) fps) (r : RepM K F H m x fp) (h : sliceM m lo hi = some z)
    (p : poP K F H (Own fps) vs (some (.ok z (argE ms))) Q Ex) : rSl K x lo hi H Q := by
  unfold sliceM at h
  split at h
  · split at h
    · rename_i hl
      cases h
      obtain rfl := rep_str (repm_fz r)
      exact .inl ⟨_, rfl, hl, sp_flat R (.str _) p⟩
    · cases h
  · rename_i ds
    cases h
    obtain ⟨q, ws, rfl, hq, rs⟩ := tup_rep R.fr (repm_fz r)
    refine .inr (.inl ⟨q, ws, rfl, hq, fun ⟨h1, h2⟩ => ?_, fun _ => sp_tup R (cut_reps rs lo hi) p⟩)
    have e : cutL ds lo hi = ds := by
      unfold cutL
      rw [rs.length] at h1 h2
      rw [h1, h2]
      simp
    rw [e] at p
    exact sp_flat R (repm_fz r) p
  · cases h
    cases repm_fz r with
    | scr hq =>
      rename_i ns pp
      refine .inr (.inr ⟨pp, _, rfl, R.fr.sql hq, ?_⟩)
      have e : ((cutL ns lo hi).map fun n => M.fz (.int n)) = ((cutL ns lo hi).map D.int).map M.fz := by rw [List.map_map]; rfl
      rw [e] at p
      exact sp_lst R (cut_ints ns lo hi) p
  · rename_i m' _ _ _
    cases e1 : lstD m with
    | none => rw [e1] at h; cases h
    | some ds =>
      rw [e1] at h; cases h
      obtain ⟨q, ws, rfl, hq, rs⟩ := lstD_rep R.fr r e1
      exact .inr (.inr ⟨q, ws, rfl, SqL.of hq, sp_lst R (cut_reps rs lo hi) p⟩)
def sl00 : FP := g1 fun m => sliceM m none none
def sl10 : FP := g2 fun m a => match a with
  | .fz (.int i) => sliceM m (some i) none
  | _ => none
def sl01 : FP := g2 fun m a => match a with
  | .fz (.int i) => sliceM m none (some i)
  | _ => none
def slice11E (fe fl fu : FE) : FE := fun env => bindO (fe env) fun a env1 => bindO (fl env1) fun b env2 => match intA b env2 with
  | some i => bindO (fu env2) fun c env3 => match intA c env3 with
    | some j => runP (g1 fun m => sliceM m (some i) (some j)) [a] env3
    | none => none
  | none => none
section
variable {X : Cx} {W : WX} {e l u : Expr} {fe fl fu : FE} {p2 pos : Pos}
theorem sl_any : SlR X (rSl X.K) := sl_str.or (sl_tupA.or sl_list)
theorem e_slice10 (he : PE X e (rE X.K W fe)) (hl : PE X l (rE X.K W fl)) : PE X (.Subscript e (.Slice (some l) none none p2) pos) (rE X.K W (callE sl10 (arg2 fe fl))) := PE_mono (pe_slice sl_any he (po_some hl) po_none) fun σ H Q p =>
  rE_imp (fun x H1 p1 => rE_imp (fun y H2 p2 => by
    obtain ⟨F, a, b, m, fps, R, r1, r2, h, p⟩ := g2_at (ra_nil p2)
    split at h
    · obtain rfl := rep_int (repm_fz r2)
      exact ⟨_, rfl, slice_at R r1 h p⟩
    · cases h) (ra_cons p1)) (ra_cons (r_call p))
theorem e_slice01 (he : PE X e (rE X.K W fe)) (hu : PE X u (rE X.K W fu)) : PE X (.Subscript e (.Slice none (some u) none p2) pos) (rE X.K W (callE sl01 (arg2 fe fu))) := PE_mono (pe_slice sl_any he po_none (po_some hu)) fun σ H Q p =>
  rE_imp (fun x H1 p1 => rE_imp (fun y H2 p2 => by
    obtain ⟨F, a, b, m, fps, R, r1, r2, h, p⟩ := g2_at (ra_nil p2)
    split at h
    · obtain rfl := rep_int (repm_fz r2)
      exact ⟨_, rfl, slice_at R r1 h p⟩
    · cases h) (ra_cons p1)) (ra_cons (r_call p))
theorem e_slice11 (he : PE X e (rE X.K W fe)) (hl : PE X l (rE X.K W fl)) (hu : PE X u (rE X.K W fu)) : PE X (.Subscript e (.Slice (some l) (some u) none p2) pos) (rE X.K W (slice11E fe fl fu)) := PE_mono (pe_slice sl_any he (po_some hl) (po_some hu)) fun σ H Q ⟨F, env, fps, R, po⟩ => by
  refine ⟨F, env, fps, R, ?_⟩
  unfold slice11E at po
  cases ef : fe env with
  | none => rw [ef] at po; exact po
  | some o =>
    rw [ef] at po
    cases o with
    | ex x env1 => exact po
    | ok a env1 =>
      simp only [bindO_ok] at po
      intro v F1 H1 fps1 fp R1 r d e1
      refine ⟨F1, env1, fps1, R1, ?_⟩
      cases eg : fl env1 with
      | none => rw [eg] at po; exact po
      | some o2 =>
        rw [eg] at po
        cases o2 with
        | ex x env2 => exact PX.wide po e1 fun _ h => .inl h
        | ok b env2 =>
          simp only [bindO_ok] at po
          intro w F2 H2 fps2 fp2 R2 r2 d2 e2
          obtain ⟨r', d'⟩ := pendA r d e2
          cases ei : intA b env2 with
          | none => rw [ei] at po; exact po.elim
          | some i =>
            simp only [ei] at po
            refine ⟨i, intA_rep R2 r2 ei, F2, env2, fps2, R2, ?_⟩
            have e12 : Ext X.K F H (Own fps) F2 H2 (fun b => Own fps2 b ∨ b ∈ fp) := e1.trans e2 (fun _ h => .inl h) fun b h => h.elim (fun h => .inl (.inl h)) fun h => .inr (.inr h)
            cases ec : fu env2 with
            | none => rw [ec] at po; exact po
            | some o3 =>
              rw [ec] at po
              cases o3 with
              | ex x env3 => exact PX.wide po e12 fun _ h => .inl h
              | ok c env3 =>
                simp only [bindO_ok] at po
                intro z F3 H3 fps3 fp3 R3 r3 d3 e3
                cases ek : intA c env3 with
                | none => rw [ek] at po; exact po.elim
                | some j =>
                  simp only [ek] at po
                  obtain ⟨r'', d''⟩ := pendA r' (fun b hb q => d' b hb (.inl q)) e3
                  refine ⟨j, intA_rep R3 r3 ek, ?_⟩
                  have e13 : Ext X.K F H (Own fps) F3 H3 (fun b => Own fps3 b ∨ b ∈ fp) := e12.trans e3 (fun _ h => .inl h) fun b h => h.elim (fun h => .inl (.inl h)) fun h => .inr (.inr h)
                  have sp := prim_sound (g := g1 fun m => sliceM m (some i) (some j)) R3 (RepAs.cons' r'' .nil' fun b hb ⟨_, q⟩ => by cases q) (fun b hb q => by
                    rcases own_fcons.mp hb with hb | ⟨_, hb⟩
                    · exact d'' b hb (.inl q)
                    · cases hb) (poE.wide po e13 fun b h => h.imp id fun h => by
                    rcases own_fcons.mp h with h | ⟨_, h⟩
                    · exact h
                    · cases h)
                  obtain ⟨x', F4, a4, m4, fps4, e4, R4, r4, h4, p4⟩ := g1_at sp
                  cases e4
                  exact slice_at R4 r4 h4 p4
end
def flatD : D → Bool
  | .non => true
  | .bl _ => true
  | .int _ => true
  | .str _ => true
  | _ => false
def eqD : D → D → Bool
  | .non, .non => true
  | .bl a, .bl b => a == b
  | .bl a, .int b => (if a then 1 else 0) == b
  | .int a, .bl b => a == (if b then 1 else 0)
  | .int a, .int b => a == b
  | .str a, .str b => a == b
  | _, _ => false
theorem flat_rep {K : PySem.W.Frag} {F : Hp} {v : V} {d : D} (r : Rep K F v d) (h : flatD d = true) : flatV v = true := by
  cases r <;> first | rfl | cases h
theorem eq_rep {K : PySem.W.Frag} {F : Hp} {v w : V} {d e : D} (r : Rep K F v d) (r2 : Rep K F w e) (h : flatD d = true) (h2 : flatD e = true) : eqV v w = eqD d e := by
  cases r <;> first | (cases h; done) | (cases r2 <;> first | rfl | (cases h2; done))
theorem in_rep {K : PySem.W.Frag} {F : Hp} {x : V} {d : D} (r : Rep K F x d) (h : flatD d = true) : ∀ {vs : List V} {ds : List D}, Reps K F vs ds → ds.all flatD = true → vs.all flatV = true ∧ inV x vs = ds.any fun e => eqD e d
  | _, _, .nil, _ => ⟨rfl, rfl⟩
  | _, _, .cons a b, hf => by
    rw [List.all_cons, Bool.and_eq_true] at hf
    obtain ⟨h1, h2⟩ := in_rep r h b hf.2
    refine ⟨by rw [List.all_cons, flat_rep a hf.1, h1]; rfl, ?_⟩
    unfold inV at h2 ⊢
    rw [List.any_cons, List.any_cons, h2, eq_rep a r hf.1 h]
def inB : M → M → Option Bool
  | .fz (.str ⟨⟨[c]⟩⟩), .fz (.str t) => some (decide (c ∈ t.cps.toList))
  | .fz d, b => if flatD d then match seqD b with
      | some ds => if ds.all flatD then some (ds.any fun e => eqD e d) else none
      | none => none
    else none
  | _, _ => none
def inM (neg : Bool) (a b : M) : Option M := match inB a b with
  | some k => some (.fz (.bl (if neg then !k else k)))
  | none => none
theorem inB_at {K : PySem.W.Frag} {F H : Hp} {a b : M} {x y : V} {fa fb : List Addr} {k : Bool} (s : Sub F H) (r1 : RepM K F H a x fa) (r2 : RepM K F H b y fb) (h : inB a b = some k) :
    (∃ (c : Nat) (z : Str), x = .str ⟨#[c]⟩ ∧ y = .str z ∧ k = decide (c ∈ z.cps.toList)) ∨ ∃ p xs, y = .ref p ∧ (SqL K H p xs ∨ SqT K H p xs) ∧ flatV x = true ∧ xs.all flatV = true ∧ k = inV x xs := by
  unfold inB at h
  split at h
  · rename_i c t
    cases h
    obtain rfl := rep_str (repm_fz r1)
    obtain rfl := rep_str (repm_fz r2)
    exact .inl ⟨c, t, rfl, rfl, rfl⟩
  · rename_i d _
    split at h
    · rename_i hf
      cases e1 : seqD b with
      | none => rw [e1] at h; cases h
      | some ds =>
        simp only [e1] at h
        split at h
        · rename_i ha
          cases h
          obtain ⟨p, vs, rfl, hq, rs⟩ := seqD_rep s r2 e1
          obtain ⟨h1, h2⟩ := in_rep (repm_fz r1) hf rs ha
          exact .inr ⟨p, vs, rfl, hq, flat_rep (repm_fz r1) hf, h1, h2.symm⟩
        · cases h
    · cases h
  · cases h
def intM1 : M → Option M
  | .fz (.int i) => some (.fz (.int i))
  | .fz (.bl b) => some (.fz (.int (if b then 1 else 0)))
  | _ => none
def listM : M → Option M := fun m => match seqD m with
  | some ds => some (.lst (ds.map .fz))
  | none => none
def tupleM : M → Option M := fun m => match m with
  | .fz (.tup ds) => some (.fz (.tup ds))
  | m => match lstD m with
    | some ds => some (.fz (.tup ds))
    | none => none
def bools : List D → Option (List Bool)
  | [] => some []
  | .bl b :: r => match bools r with
    | some bs => some (b :: bs)
    | none => none
  | _ => none
def allM (all : Bool) : M → Option M := fun m => match lstD m with
  | some ds => match bools ds with
    | some bs => some (.fz (.bl (if all then bs.all id else bs.any id)))
    | none => none
  | none => none
theorem bools_reps {K : PySem.W.Frag} {F : Hp} : ∀ {vs : List V} {ds : List D} {bs : List Bool}, Reps K F vs ds → bools ds = some bs → vs = bs.map V.bl
  | _, [], bs, .nil, e => by rw [bools] at e; cases e; rfl
  | _, .bl b :: r, bs, .cons a t, e => by
    rw [bools] at e
    cases e2 : bools r with
    | none => rw [e2] at e; cases e
    | some cs => rw [e2] at e; cases e; rw [rep_bl a, bools_reps t e2]; rfl
  | _, .non :: _, _, _, e => by simp [bools] at e
  | _, .int _ :: _, _, _, e => by simp [bools] at e
  | _, .str _ :: _, _, _, e => by simp [bools] at e
  | _, .lst _ :: _, _, _, e => by simp [bools] at e
  | _, .tup _ :: _, _, _, e => by simp [bools] at e
  | _, .dK _ :: _, _, _, e => by simp [bools] at e
  | _, .dT _ :: _, _, _, e => by simp [bools] at e
  | _, .scr _ :: _, _, _, e => by simp [bools] at e
  | _, .ins _ _ :: _, _, _, e => by simp [bools] at e
  | _, .lam _ :: _, _, _, e => by simp [bools] at e
  | _, .dLK _ :: _, _, _, e => by simp [bools] at e
  | _, .dLT _ :: _, _, _, e => by simp [bools] at e
  | _, .nst _ _ :: _, _, _, e => by simp [bools] at e
section
variable {X : Cx} {W : WX} {e e2 : Expr} {fa fb : FE} {p pos : Pos}
theorem opc_all {K : PySem.W.Frag} : OpC K (g1 (allM true)) (rAll K) := fun vs H Q Ex p => by
  obtain ⟨x, F, a, m, fps, rfl, R, r, h, p⟩ := g1_at p
  unfold allM at h
  cases e1 : lstD a with
  | none => rw [e1] at h; cases h
  | some ds =>
    simp only [e1] at h
    cases e2 : bools ds with
    | none => rw [e2] at h; cases h
    | some bs =>
      simp only [e2] at h
      cases h
      obtain ⟨q, vs, rfl, hq, rs⟩ := lstD_rep R.fr r e1
      exact ⟨q, bs, rfl, by rw [← bools_reps rs e2]; exact SqL.of hq, sp_flat R (.bl _) p⟩
theorem e_all (hc : X.calm = true) (hg : Gl X "all") (hm : X.mg "all" = none) (ha : PE X e (rE X.K W fa)) (hs : starEach [e] X.env = (false, eval e X.env) :: starEach [] X.env := by rfl) : PE X (.Call (.Name "all" p) [e] [] pos) (rE X.K W (callE (g1 (allM true)) (arg1 fa))) :=
  e_callB (cr_all hc) opc_all hg hm (by decide +kernel) (a_cons ha a_nil hs) (he := hs)
theorem e_int1 (hg : Gl X "int") (hm : X.mg "int" = none) (ha : PE X e (rE X.K W fa)) (hs : starEach [e] X.env = (false, eval e X.env) :: starEach [] X.env := by rfl) : PE X (.Call (.Name "int" p) [e] [] pos) (rE X.K W (callE (g1 intM1) (arg1 fa))) :=
  e_callTy call_int1 (fun vs H Q Ex p => by
    obtain ⟨x, F, a, m, fps, rfl, R, r, h, p⟩ := g1_at p
    unfold intM1 at h
    split at h
    · cases h
      obtain rfl := rep_int (repm_fz r)
      exact .inl ⟨_, rfl, sp_flat R (.int _) p⟩
    · cases h
      obtain rfl := rep_bl (repm_fz r)
      exact .inr ⟨_, rfl, sp_flat R (.int _) p⟩
    · cases h) hg hm (by decide +kernel) (a_cons ha a_nil hs) (he := hs)
theorem e_tuple (hg : Gl X "tuple") (hm : X.mg "tuple" = none) (ha : PE X e (rE X.K W fa)) (hs : starEach [e] X.env = (false, eval e X.env) :: starEach [] X.env := by rfl) : PE X (.Call (.Name "tuple" p) [e] [] pos) (rE X.K W (callE (g1 tupleM) (arg1 fa))) :=
  e_callTy call_tuple_of (fun vs H Q Ex p => by
    obtain ⟨x, F, a, m, fps, rfl, R, r, h, p⟩ := g1_at p
    unfold tupleM at h
    split at h
    · cases h
      obtain ⟨q, vs, rfl, hq, rs⟩ := tup_rep R.fr (repm_fz r)
      exact ⟨q, vs, rfl, .inr ⟨hq, sp_flat R (repm_fz r) p⟩⟩
    · cases e1 : lstD a with
      | none => rw [e1] at h; cases h
      | some ds =>
        simp only [e1] at h
        cases h
        obtain ⟨q, vs, rfl, hq, rs⟩ := lstD_rep R.fr r e1
        exact ⟨q, vs, rfl, .inl ⟨SqL.of hq, sp_tup R rs p⟩⟩) hg hm (by decide +kernel) (a_cons ha a_nil hs) (he := hs)
def maxM : M → M → Option M := intM (fun _ _ => true) fun i j => .int (if j > i then j else i)
def minM : M → M → Option M := intM (fun _ _ => true) fun i j => .int (if j < i then j else i)
theorem e_max2 (hc : X.calm = true) (hg : Gl X "max") (hm : X.mg "max" = none) (ha : PE X e (rE X.K W fa)) (hb : PE X e2 (rE X.K W fb)) (hs : starEach [e, e2] X.env = (false, eval e X.env) :: starEach [e2] X.env := by rfl) (hs2 : starEach [e2] X.env = (false, eval e2 X.env) :: starEach [] X.env := by rfl) (hpl : (backTo pos (starEach [e2] X.env)).any (·.1) = false := by rfl) : PE X (.Call (.Name "max" p) [e, e2] [] pos) (rE X.K W (callE (g2 maxM) (arg2 fa fb))) :=
  e_callB (call_max2 hc) (fun vs H Q Ex p => by
    obtain ⟨x, y, F, a, b, m, fps, rfl, R, r1, r2, h, p⟩ := g2_atC p
    obtain ⟨i, j, rfl, rfl, _, rfl⟩ := intM_at h
    obtain rfl := rep_int (repm_fz r1)
    obtain rfl := rep_int (repm_fz r2)
    exact ⟨i, j, rfl, sp_flat R (.int _) p⟩) hg hm (by decide +kernel) (a_cons ha (a_cons hb a_nil hs2) hs) (he := hs) (hpl := hpl)
theorem e_min2 (hc : X.calm = true) (hg : Gl X "min") (hm : X.mg "min" = none) (ha : PE X e (rE X.K W fa)) (hb : PE X e2 (rE X.K W fb)) (hs : starEach [e, e2] X.env = (false, eval e X.env) :: starEach [e2] X.env := by rfl) (hs2 : starEach [e2] X.env = (false, eval e2 X.env) :: starEach [] X.env := by rfl) (hpl : (backTo pos (starEach [e2] X.env)).any (·.1) = false := by rfl) : PE X (.Call (.Name "min" p) [e, e2] [] pos) (rE X.K W (callE (g2 minM) (arg2 fa fb))) :=
  e_callB (call_min2 hc) (fun vs H Q Ex p => by
    obtain ⟨x, y, F, a, b, m, fps, rfl, R, r1, r2, h, p⟩ := g2_atC p
    obtain ⟨i, j, rfl, rfl, _, rfl⟩ := intM_at h
    obtain rfl := rep_int (repm_fz r1)
    obtain rfl := rep_int (repm_fz r2)
    exact ⟨i, j, rfl, sp_flat R (.int _) p⟩) hg hm (by decide +kernel) (a_cons ha (a_cons hb a_nil hs2) hs) (he := hs) (hpl := hpl)
end
end Ink
set_option Elab.async false
set_option linter.all false
set_option maxRecDepth 100000
namespace Ink
open PySem PySem.Spec PyProof.Rows L2
section
variable {X : Cx} {pins : List (Addr × Obj)} {σ : L2.St} {H1 : Hp} {s1 : Shared} {tg : Expr} {R : It → Hp → Prop} {a : Addr} {xs : List V}
theorem tl_list (I1 : Inv X pins σ H1 s1) (hq : SqL X.K H1 a xs) (q : R (Itl X.K a) H1) : wpAny (model X.prog X.w) X.A (pyIter (.ref a)) (PIE X pins σ tg R) X.xe s1 := by
  obtain ⟨its, rv, p, hz⟩ := I1.list hq
  refine wpAny_pyIter_list p.isList ⟨s1.heap.objs.size, [s1.heap.objs.size], _, _, H1, rfl, I1.kept (t' := s1.toks) fun b o e => Heap.get?_push_of_some _ e, turn_list a _, ⟨_, Heap.get?_push_size _ rfl, rfl, rfl⟩, fun b hb => ?_, q⟩
  obtain rfl : b = s1.heap.objs.size := by simpa using hb
  exact I1.fpOk (Nat.le_refl _) (I1.hok.fresh (Nat.le_refl _))
theorem tl_tup (I1 : Inv X pins σ H1 s1) (hq : SqT X.K H1 a xs) (q : R (Itt X.K a) H1) : wpAny (model X.prog X.w) X.A (pyIter (.ref a)) (PIE X pins σ tg R) X.xe s1 := by
  obtain ⟨its, rv, p, hz⟩ := I1.tuple hq
  refine wpAny_pyIter_tuple (show s1.heap.IsTuple a its.toArray from p) ⟨s1.heap.objs.size, [s1.heap.objs.size], _, _, H1, rfl, I1.kept (t' := s1.toks) fun b o e => Heap.get?_push_of_some _ e, turn_tuple a _, ⟨_, Heap.get?_push_size _ rfl, rfl, rfl⟩, fun b hb => ?_, q⟩
  obtain rfl : b = s1.heap.objs.size := by simpa using hb
  exact I1.fpOk (Nat.le_refl _) (I1.hok.fresh (Nat.le_refl _))
theorem tl_str {x : Str} {t : Tok} (I1 : Inv X pins σ H1 s1) (q : R (Its x) H1) : wpAny (model X.prog X.w) X.A (pyIter (.str x t)) (PIE X pins σ tg R) X.xe s1 := by
  cases ha : x.cps.all (· < 128)
  · exact wpAny_pyIter_wide ha (pi_one (tk := s1.toks) I1 _ (turn_str _ x t "str_iterator" (.inr rfl)) ⟨_, Heap.get?_push_size _ rfl, rfl, rfl⟩ q)
  · exact wpAny_pyIter_ascii ha (pi_one (tk := s1.toks) I1 _ (turn_str _ x t "str_ascii_iterator" (.inl rfl)) ⟨_, Heap.get?_push_size _ rfl, rfl, rfl⟩ q)
end
/-- a list, a tuple or a text -/
def iSeq (K : PySem.W.Frag) (te : TE) : TI := fun σ H R => te σ H fun x H1 => (∃ a xs, x = .ref a ∧ SqL K H1 a xs ∧ R (Itl K a) H1) ∨ (∃ a xs, x = .ref a ∧ SqT K H1 a xs ∧ R (Itt K a) H1) ∨ ∃ z, x = .str z ∧ R (Its z) H1
theorem pi_seq {X : Cx} {tg l : Expr} {tl : TE} (hl : PE X l tl) : PI X tg l (iSeq X.K tl) := ⟨fun pins s σ H R I h => thn (hl.run pins s σ H _ I h) fun v s1 ⟨x, H1, I1, r1, q1⟩ => by
  rcases q1 with ⟨a, xs, rfl, hq, q⟩ | ⟨a, xs, rfl, hq, q⟩ | ⟨z, rfl, q⟩
  · cases r1; exact tl_list I1 hq q
  · cases r1; exact tl_tup I1 hq q
  · obtain ⟨t, rfl⟩ := r1; exact tl_str I1 q⟩
def enumD (k : Int) : List D → List D
  | [] => []
  | d :: ds => .tup [.int k, d] :: enumD (k + 1) ds
/-- what a loop walks -/
def itemsA (m : M) : Option (List D) := match frz m with
  | some (.lst ds) => some ds
  | some (.tup ds) => some ds
  | some (.str x) => some (x.cps.toList.map fun c => .str ⟨#[c]⟩)
  | _ => none
def itemsE (k : Int) (m : M) : Option (List D) := match frz m with
  | some (.lst ds) => some (enumD k ds)
  | some (.tup ds) => some (enumD k ds)
  | _ => none
section
variable {X : Cx} {W : WX} {tg l : Expr} {f : FE}
theorem i_seq (h : PE X l (rE X.K W f)) : PI X tg l (rI X.K W (overE itemsA f)) := PI_mono (pi_seq (e_tk h)) fun σ H R p => rE_imp (fun x H1 ⟨F, env, fps, m, fp, ds, R1, r, d, ei, pj⟩ => by
  unfold itemsA at ei
  split at ei
  · rename_i ds1 ef
    cases ei
    obtain ⟨F1, s1, rd, R2, e⟩ := freeze_at R1 r d ef
    cases rd with
    | lst a b => exact .inl ⟨_, _, rfl, SqL.of (s1 _ _ a), pj _ F1 H1 fps R2 (it_list a b) e⟩
  · rename_i ds1 ef
    cases ei
    obtain ⟨F1, s1, rd, R2, e⟩ := freeze_at R1 r d ef
    cases rd with
    | tup a b => exact .inr (.inl ⟨_, _, rfl, SqT.of (s1 _ _ a), pj _ F1 H1 fps R2 (it_tup (SqT.of a) b) e⟩)
  · rename_i x1 ef
    cases ei
    obtain ⟨F1, s1, rd, R2, e⟩ := freeze_at R1 r d ef
    obtain rfl := rep_str rd
    exact .inr (.inr ⟨_, rfl, pj _ F1 H1 fps R2 (it_str _) e⟩)
  · cases ei) (r_over σ H R p)
end
end Ink
set_option Elab.async false
set_option linter.all false
set_option maxRecDepth 100000
namespace Ink
open PySem L2
inductive Kd where
  | non | bl | int | str | lst | tup | dct
  deriving DecidableEq
def kdName : Kd → String
  | .non => "NoneType" | .bl => "bool" | .int => "int" | .str => "str" | .lst => "list" | .tup => "tuple" | .dct => "dict"
def kdSub (k t : Kd) : Bool := decide (k = t) || (decide (k = .bl) && decide (t = .int))
theorem kd_kit (k t : Kd) (h : t ≠ .non) : kitB (kdName k) (kdName t) = some (kdSub k t) := by
  cases t with
  | non => exact absurd rfl h
  | _ => cases k <;> decide +kernel
def kdD : D → Kd
  | .non => .non | .bl _ => .bl | .int _ => .int | .str _ => .str | .lst _ => .lst | .tup _ => .tup | .dK _ => .dct | .dT _ => .dct | .scr _ => .lst | .ins _ _ => .non | .lam _ => .non | .dLK _ => .non | .dLT _ => .non | .nst _ _ => .non
def kdM : M → Option Kd
  | .fz (.scr _) => none
  | .fz (.ins _ _) => none
  | .fz (.lam _) => none
  | .fz (.dLK _) => none
  | .fz (.dLT _) => none
  | .fz (.nst _ _) => none
  | .fz d => some (kdD d)
  | .lst _ => some .lst
  | .tup _ => some .tup
  | .dK _ => some .dct
  | .dT _ => some .dct
  | .ins _ _ => none
theorem kd_ty {K : PySem.W.Frag} {F H : Hp} {m : M} {v : V} {fp : List Addr} {k : Kd} (s : Sub F H) (r : RepM K F H m v fp) (h : kdM m = some k) : TyX K H v (.type (kdName k)) := by
  cases r with
  | fz q =>
    cases q with
    | non => cases h; exact .base .non
    | bl b => cases h; exact .base (.bl b)
    | int i => cases h; exact .base (.int i)
    | str x => cases h; exact .base (.str x)
    | lst a _ => cases h; exact .base (.lst (s _ _ a))
    | tup a _ =>
      cases h
      exact .base (.tup (s _ _ a))
    | dK a _ _ => cases h; exact .base (.dK (s _ _ a))
    | dT a _ _ => cases h; exact .base (.dT (s _ _ a))
    | scr _ => cases h
    | ins _ _ _ => cases h
    | lam _ _ => cases h
    | dLK _ _ _ => cases h
    | dLT _ _ _ => cases h
    | nst _ _ _ => cases h
  | lst a _ _ _ => cases h; exact .base (.lst a)
  | tup a _ => cases h; exact .base (.tup (s _ _ a))
  | dK a _ _ _ _ => cases h; exact .base (.dK a)
  | dT a _ _ _ _ => cases h; exact .base (.dT a)
  | ins _ _ _ _ _ => cases h
def resA (env : E) (a : Av) : Option M := match a with
  | .tm m => some m
  | .sl i => match env[i]? with
    | some (some m) => some m
    | _ => none
theorem resA_rep {K : PySem.W.Frag} {F H : Hp} {σ : St} {env : E} {fps : Nat → List Addr} {a : Av} {v : V} {fp : List Addr} {m : M} (R : REnv K F H σ env fps) (r : RepA K F H σ a v fp) (h : resA env a = some m) : ∃ fq, RepM K F H m v fq := by
  cases a with
  | tm n => cases h; exact ⟨fp, r⟩
  | sl i =>
    unfold resA at h
    simp only at h
    split at h
    · rename_i n e
      cases h
      obtain ⟨w, hw, rr⟩ := R.got i _ e
      obtain ⟨q, _⟩ := r
      rw [q] at hw; cases hw
      exact ⟨_, rr⟩
    · cases h
def isiE (ts : List Kd) (f : FE) : FE := fun env => bindO (f env) fun a env1 => match resA env1 a with
  | some m => match kdM m with
    | some k => some (.ok (.tm (.fz (.bl (ts.any fun t => kdSub k t)))) env1)
    | none => none
  | none => none
section
variable {X : Cx} {W : WX} {e : Expr} {f : FE} {p p1 p2 p3 pos : Pos}
theorem isi_any {K : PySem.W.Frag} {k : Kd} : ∀ (ts : List Kd), (∀ t ∈ ts, t ≠ .non) → PySem.W.kitAny K (.type (kdName k)) (ts.map fun t => .type (kdName t)) = some (ts.any fun t => kdSub k t)
  | [], _ => rfl
  | t :: ts, h => by
    refine kitAny_cons (kit_ty (kd_kit k t (h t (List.mem_cons_self ..)))) (fun e => ?_) fun e => by simp [e]
    rw [List.any_cons, e, Bool.false_or]
    exact isi_any ts fun t ht => h t (List.mem_cons_of_mem _ ht)
theorem e_isi (t : Kd) (ht : t ≠ .non) {x : Str} (hg : Gl X "isinstance") (hm : X.mg "isinstance" = none) (hg2 : Gl X x) (hm2 : X.mg x = none) (hv : bootBuiltins x = some (.type (kdName t))) (he : PE X e (rE X.K W f)) (hn : x ≠ "__name__" := by decide) (hd : (x == ("__debug__" : Str)) = false := by decide)
    (hs : starEach [e, .Name x p1] X.env = (false, eval e X.env) :: starEach [.Name x p1] X.env := by rfl) (hs2 : starEach [.Name x p1] X.env = (false, eval (.Name x p1) X.env) :: starEach [] X.env := by rfl) (hpl : (backTo pos (starEach [.Name x p1] X.env)).any (·.1) = false := by rfl) :
    PE X (.Call (.Name "isinstance" p) [e, .Name x p1] [] pos) (rE X.K W (isiE [t] f)) :=
  PE_mono (pe_callB call_isi hg hm (by decide +kernel) (pa_cons he (pa_cons (pe_bltn hg2 hm2 hv (v := .ty (kdName t)) rfl hn hd) pa_nil hs2) hs) (he := hs) (hpl := hpl)) fun σ H Q ⟨F, env, fps, R, po⟩ => by
  refine ⟨F, env, fps, R, ?_⟩
  unfold isiE at po
  cases ef : f env with
  | none => rw [ef] at po; exact po
  | some o =>
    rw [ef] at po
    cases o with
    | ex x env1 => exact po
    | ok a env1 =>
      simp only [bindO_ok] at po
      intro v F1 H1 fps1 fp R1 r d e1
      cases er : resA env1 a with
      | none => rw [er] at po; exact po.elim
      | some m =>
        simp only [er] at po
        cases ek : kdM m with
        | none => rw [ek] at po; exact po.elim
        | some k =>
          simp only [ek] at po
          obtain ⟨fq, rm⟩ := resA_rep R1 r er
          refine ⟨v, .ty (kdName t), _, _, kdSub k t, rfl, .ty _, kd_ty R1.fr rm ek, kit_ty (kd_kit k t ht), ?_⟩
          have := po (.bl (kdSub k t)) F1 H1 fps1 [] R1 (RepM.fz (by simpa using Rep.bl (K := X.K) (F := F1) (kdSub k t))) Own.not_nil (e1.weak fun b h => .inl (h.elim id fun z => by cases z))
          exact this
theorem e_isi2 (t u : Kd) (ht : t ≠ .non) (hu : u ≠ .non) {x y : Str} {kk : Nat} (hg : Gl X "isinstance") (hm : X.mg "isinstance" = none) (hg2 : Gl X x) (hm2 : X.mg x = none) (hv : bootBuiltins x = some (.type (kdName t))) (hg3 : Gl X y) (hm3 : X.mg y = none) (hv3 : bootBuiltins y = some (.type (kdName u))) (he : PE X e (rE X.K W f))
    (hn : x ≠ "__name__" := by decide) (hd : (x == ("__debug__" : Str)) = false := by decide) (hn3 : y ≠ "__name__" := by decide) (hd3 : (y == ("__debug__" : Str)) = false := by decide)
    (hs : starEach [e, .Tuple [.Name x p1, .Name y p2] kk p3] X.env = (false, eval e X.env) :: starEach [.Tuple [.Name x p1, .Name y p2] kk p3] X.env := by rfl) (hs2 : starEach [.Tuple [.Name x p1, .Name y p2] kk p3] X.env = (false, eval (.Tuple [.Name x p1, .Name y p2] kk p3) X.env) :: starEach [] X.env := by rfl) (hpl : (backTo pos (starEach [.Tuple [.Name x p1, .Name y p2] kk p3] X.env)).any (·.1) = false := by rfl)
    (hs4 : starEach [.Name x p1, .Name y p2] X.env = (false, eval (.Name x p1) X.env) :: starEach [.Name y p2] X.env := by rfl) (hs5 : starEach [.Name y p2] X.env = (false, eval (.Name y p2) X.env) :: starEach [] X.env := by rfl) :
    PE X (.Call (.Name "isinstance" p) [e, .Tuple [.Name x p1, .Name y p2] kk p3] [] pos) (rE X.K W (isiE [t, u] f)) :=
  PE_mono (pe_callB call_isiT hg hm (by decide +kernel) (pa_cons he (pa_cons (pe_tup (pa_cons (pe_bltn hg2 hm2 hv (v := .ty (kdName t)) rfl hn hd) (pa_cons (pe_bltn hg3 hm3 hv3 (v := .ty (kdName u)) rfl hn3 hd3) pa_nil hs5) hs4)) pa_nil hs2) hs) (he := hs) (hpl := hpl)) fun σ H Q ⟨F, env, fps, R, po⟩ => by
  refine ⟨F, env, fps, R, ?_⟩
  unfold isiE at po
  cases ef : f env with
  | none => rw [ef] at po; exact po
  | some o =>
    rw [ef] at po
    cases o with
    | ex x env1 => exact po
    | ok a env1 =>
      simp only [bindO_ok] at po
      intro v F1 H1 fps1 fp R1 r d e1
      cases er : resA env1 a with
      | none => rw [er] at po; exact po.elim
      | some m =>
        simp only [er] at po
        cases ek : kdM m with
        | none => rw [ek] at po; exact po.elim
        | some k =>
          simp only [ek] at po
          obtain ⟨fq, rm⟩ := resA_rep R1 r er
          refine ⟨by show 2 ≤ sizeLine; decide, fun q hq => ?_⟩
          have en : Ext X.K F1 H1 (fun _ => False) (upd F1 q (.tup [.ty (kdName t), .ty (kdName u)])) (upd H1 q (.tup [.ty (kdName t), .ty (kdName u)])) (fun _ => False) := Ext.newF R1.fr hq
          obtain ⟨R2, _⟩ := R1.frame (fun b _ h => h) en (sub_upd R1.fr)
          obtain ⟨rm2, _⟩ := pendM rm (fun b _ h => h) en
          refine ⟨v, q, [.ty (kdName t), .ty (kdName u)], _, [.type (kdName t), .type (kdName u)], _, rfl, upd_same, .cons (.ty _) (.cons (.ty _) .nil), kd_ty R2.fr rm2 ek, isi_any [t, u] (by simp [ht, hu]), ?_⟩
          exact po (.bl _) _ _ fps1 [] R2 (RepM.fz (.bl _)) Own.not_nil ((e1.trans (en.unit (A := fun b => Own fps1 b ∨ b ∈ fp)) (fun _ h => h) (C := fun b => Own fps1 b ∨ b ∈ fp) fun _ h => .inl h).weak fun b h => .inl (h.elim id fun z => by cases z))
end
def tyM (T : Kd) (m : M) : Bool := match T, m with
  | .str, .fz (.str _) => true
  | .lst, .fz (.lst _) => true
  | .lst, .lst _ => true
  | .dct, .fz (.dK _) => true
  | .dct, .fz (.dT _) => true
  | .dct, .dK _ => true
  | .dct, .dT _ => true
  | _, _ => false
theorem tyM_rep {K : PySem.W.Frag} {F H : Hp} {m : M} {v : V} {fp : List Addr} {T : Kd} (s : Sub F H) (r : RepM K F H m v fp) (h : tyM T m = true) : tyV K (kdName T) v H := by
  unfold tyM at h
  split at h
  · obtain rfl := rep_str (repm_fz r); rfl
  · cases repm_fz r with
    | lst a _ => exact .inl ⟨rfl, _, SqL.of (s _ _ a)⟩
  · cases r with
    | lst a _ _ _ => exact .inl ⟨rfl, _, SqL.of a⟩
  · cases repm_fz r with
    | dK a _ _ => exact .inr (.inr (.inl ⟨rfl, .inl ⟨_, s _ _ a⟩⟩))
  · cases repm_fz r with
    | dT a _ _ => exact .inr (.inr (.inl ⟨rfl, .inr ⟨_, s _ _ a⟩⟩))
  · cases r with
    | dK a _ _ _ _ => exact .inr (.inr (.inl ⟨rfl, .inl ⟨_, a⟩⟩))
  · cases r with
    | dT a _ _ _ _ => exact .inr (.inr (.inl ⟨rfl, .inr ⟨_, a⟩⟩))
  · cases h
def bmE (T : Kd) (g : FP) (fo : FE) (fa : FA) : FE := fun env => bindO (fo env) fun a env1 => match resA env1 a with
  | some m => match tyM T m with
    | true => bindO (fa env1) fun as env2 => runP g (a :: as) env2
    | false => none
  | none => none
section
variable {X : Cx} {W : WX} {o e : Expr} {es : List Expr} {fo : FE} {fa : FA} {g : FP} {name : Str} {apos cpos : Pos} {id : String} {r : V → List V → Hp → VK → Prop} {T : Kd}
def OpMt (K : PySem.W.Frag) (g : FP) (r : V → List V → Hp → VK → Prop) : Prop := ∀ x vs H Q Ex, spOf K g (x :: vs) H Q Ex → r x vs H Q
theorem r_bm {K : PySem.W.Frag} (hp : OpMt K g r) : ∀ σ H Q, rE K W (bmE T g fo fa) σ H Q → tBM K (kdName T) r (rE K W fo) (rA K W fa) σ H Q := fun σ H Q ⟨F, env, fps, R, po⟩ => by
  refine ⟨F, env, fps, R, ?_⟩
  unfold bmE at po
  cases ef : fo env with
  | none => rw [ef] at po; exact po
  | some z =>
    rw [ef] at po
    cases z with
    | ex x env1 => exact po
    | ok a env1 =>
      simp only [bindO_ok] at po
      intro v F1 H1 fps1 fp R1 ra d e1
      cases er : resA env1 a with
      | none => rw [er] at po; exact po.elim
      | some m =>
        simp only [er] at po
        cases et : tyM T m with
        | false => rw [et] at po; exact po.elim
        | true =>
          simp only [et] at po
          obtain ⟨fq, rm⟩ := resA_rep R1 ra er
          refine ⟨tyM_rep R1.fr rm et, F1, env1, fps1, R1, ?_⟩
          cases eg : fa env1 with
          | none => rw [eg] at po; exact po
          | some z2 =>
            rw [eg] at po
            cases z2 with
            | ex x env2 => exact PX.wide po e1 fun _ h => .inl h
            | ok as env2 =>
              simp only [bindO_ok] at po
              intro vs F2 H2 fps2 fpA R2 rs d2 e2
              obtain ⟨r2, dd⟩ := pendA ra d e2
              refine hp v vs H2 Q _ (prim_sound R2 (RepAs.cons' r2 rs fun b hb q => dd b hb (.inr q)) (fun b hb q => ?_) (poE.wide po (e1.trans e2 (fun _ h => .inl h) (C := fun b => Own fps2 b ∨ Own (fcons fp fpA) b) fun b h => ?_) fun _ h => h))
              · rcases own_fcons.mp hb with hb | hb
                · exact dd b hb (.inl q)
                · exact d2 b hb q
              · rcases h with h | h
                · exact .inl (.inl h)
                · rcases own_fcons.mp h with h | h
                  · exact .inr (.inr h)
                  · exact .inl (.inr h)
theorem e_bm (pa : PlainAttrs (kdName T)) (slot : Slot (kdName T) name id) (hty : typeOf (.builtin id) = pure (.type "method_descriptor")) (hm : MtR X id r) (hp : OpMt X.K g r) (ho : PE X o (rE X.K W fo)) (ha : PA X (e :: es) (rA X.K W fa))
    (hbase : attributeBase o name X.env (eval o X.env) = eval o X.env := by rfl)
    (hfew : ((backTo cpos (starEach (e :: es) X.env)).all (fun x => !x.1) && (backToKw cpos (keywordEach [] X.env)).all (fun x => x.1.isSome)
      && decide ((e :: es).length + ([] : List Keyword).length + (if ([] : List Keyword).isEmpty then 0 else 1) < 30)) = true := by rfl)
    (hline : (apos.endLine == cpos.line) = true := by rfl) (hs : starEach (e :: es) X.env = (false, eval e X.env) :: starEach es X.env := by rfl) (hplain : (backTo cpos (starEach es X.env)).any (·.1) = false := by rfl) :
    PE X (.Call (.Attribute o name apos) (e :: es) [] cpos) (rE X.K W (bmE T g fo fa)) := PE_mono (pe_bm pa slot hty hm ho ha hbase hfew hline hs hplain) (r_bm hp)
end
theorem args_upd {K : PySem.W.Frag} {F H : Hp} {vs : List V} {env : E} {fps : Nat → List Addr} {i : Nat} {m : M} {p : Addr} {fp : List Addr} {o : HO} (R : REnv K F H (argS vs) env fps) (hv : vs[i]? = some (.ref p)) (hp : p ∈ fps i) (hF : F p = none)
    (r : RepM K F (upd H p o) m (.ref p) fp) (hfp : ∀ b ∈ fp, ∀ j, j ≠ i → b ∉ fps j) (ho : NT o := by exact fun _ h => by cases h) (ht : ∀ vs, o ≠ .tup vs := by exact fun _ h => by cases h) : REnv K F (upd H p o) (argS vs) (env.set i (some m)) (fun j => if j = i then fp else fps j) := by
  have R0 := R.drop i
  obtain ⟨u0, hu0, hk0⟩ := R.kin ⟨i, hp⟩
  have e : Ext K F H (fun b => b = p) F (upd H p o) (fun b => b = p) := Ext.put rfl hu0 hk0 ho ht
  obtain ⟨R1, _⟩ := R0.frame (B := fun b => b = p) (fun b ⟨j, hj⟩ hb => by
    subst hb
    by_cases ej : j = i
    · simp only [if_pos ej] at hj; cases hj
    · simp only [if_neg ej] at hj
      exact R.dj i j (fun q => ej q.symm) b hp hj) e (sub_put R.fr hF)
  have R2 := R1.put (i := i) (argS_get.mpr hv) r (fun b hb j hj q => by
    simp only [if_neg hj] at q
    exact hfp b hb j hj q)
  rw [List.set_set] at R2
  refine ⟨R2.fr, R2.len, fun j n h => ?_, fun j h => ?_, fun a c hac b hb => ?_, R2.tt⟩
  · obtain ⟨v, h1, h2⟩ := R2.got j n h
    by_cases ej : j = i
    · simp only [if_pos ej] at h2 ⊢; exact ⟨v, h1, h2⟩
    · simp only [if_neg ej] at h2 ⊢; exact ⟨v, h1, h2⟩
  · have := R2.nil j h
    by_cases ej : j = i
    · simp only [if_pos ej] at this ⊢; exact this
    · simp only [if_neg ej] at this ⊢; exact this
  · have := R2.dj a c hac b
    by_cases ea : a = i
    · by_cases ec : c = i
      · exact absurd (ea.trans ec.symm) hac
      · simp only [if_pos ea, if_neg ec] at this hb ⊢; exact this hb
    · by_cases ec : c = i
      · simp only [if_neg ea, if_pos ec] at this hb ⊢; exact this hb
      · simp only [if_neg ea, if_neg ec] at this hb ⊢; exact this hb
/-- xs.append(y) -/
def appG : FP := fun ms => match ms with
  | [.lst xs, y] => if xs.length < sizeLine then some (.ok (.fz .non) [some (.lst (xs ++ [y])), none]) else none
  | _ => none
theorem opm_append {K : PySem.W.Frag} : OpMt K appG rAppend := fun x vs H Q Ex p => by
  obtain ⟨F, ms, fps, R, p⟩ := p
  unfold appG at p
  split at p
  · rename_i xs y
    split at p
    · rename_i hl
      have l := R.len
      simp at l
      match vs, l with
      | [w], _ =>
        obtain ⟨v0, h0, r0⟩ := R.got 0 _ rfl
        cases h0
        obtain ⟨v1, h1, r1⟩ := R.got 1 _ rfl
        cases h1
        obtain ⟨q, ws, fq, rfl, _⟩ := repm_lst r0
        have dj : ∀ b ∈ fps 0, b ∉ fps 1 := R.dj 0 1 (by omega)
        obtain ⟨ws, hq, hlen, hin, hFq, rN⟩ := lst_append r0 r1 dj
        refine ⟨q, ws, w, rfl, rfl, hq, by omega, ?_⟩
        have R1 := R.drop 1
        have R2 := args_upd (i := 0) (m := .lst (xs ++ [y])) (fp := fps 0 ++ fps 1) R1 rfl (by simp; exact hin) hFq rN (fun b hb j hj z => by
          by_cases e1 : j = 1
          · simp only [if_pos e1] at z; cases z
          · simp only [if_neg e1] at z
            rcases List.mem_append.mp hb with hb | hb
            · exact R.dj 0 j (fun q => hj q.symm) b hb z
            · exact R.dj 1 j (fun q => e1 q.symm) b hb z)
        refine p .non F _ _ [] R2 (.fz .non) Own.not_nil ?_
        refine (Ext.putO R ⟨0, hin⟩).weak fun b h => ?_
        rcases h with ⟨j, hj⟩ | h
        · by_cases e0 : j = 0
          · simp only [if_pos e0] at hj
            rcases List.mem_append.mp hj with z | z
            · exact ⟨0, z⟩
            · exact ⟨1, z⟩
          · simp only [if_neg e0] at hj
            by_cases e1 : j = 1
            · simp only [if_pos e1] at hj; cases hj
            · simp only [if_neg e1] at hj; exact ⟨j, hj⟩
        · cases h
    · exact p.elim
  · exact p.elim
section
variable {X : Cx} {W : WX} {o e : Expr} {fo fe : FE} {apos cpos : Pos}
theorem e_append (ho : PE X o (rE X.K W fo)) (he : PE X e (rE X.K W fe)) (hbase : attributeBase o "append" X.env (eval o X.env) = eval o X.env := by rfl)
    (hfew : ((backTo cpos (starEach [e] X.env)).all (fun x => !x.1) && (backToKw cpos (keywordEach [] X.env)).all (fun x => x.1.isSome)
      && decide (([e]).length + ([] : List Keyword).length + (if ([] : List Keyword).isEmpty then 0 else 1) < 30)) = true := by rfl)
    (hline : (apos.endLine == cpos.line) = true := by rfl) (hs : starEach [e] X.env = (false, eval e X.env) :: starEach [] X.env := by rfl) (hplain : (backTo cpos (starEach [] X.env)).any (·.1) = false := by rfl) :
    PE X (.Call (.Attribute o "append" apos) [e] [] cpos) (rE X.K W (bmE .lst appG fo (arg1 (tk fe)))) := e_bm (T := .lst) PySem.F.plainAttrs_list PySem.F.slot_list_append PySem.F.type_list_append mt_append opm_append ho (a_cons (e_tk he) a_nil hs) hbase hfew hline hs hplain
end
theorem RepMs.set {K : PySem.W.Frag} {F H : Hp} : ∀ {ms : List M} {vs : List V} {fp : List Addr} {j : Nat} {m : M} {v : V} {fq : List Addr}, RepMs K F H ms vs fp → RepM K F H m v fq → (∀ b ∈ fq, b ∉ fp) → ∃ fr, RepMs K F H (ms.set j m) (vs.set j v) fr ∧ ∀ b ∈ fr, b ∈ fp ∨ b ∈ fq
  | [], _, _, j, m, v, fq, .nil, _, _ => ⟨[], .nil, fun b hb => by cases hb⟩
  | n :: ms, _, _, 0, m, v, fq, .cons (fp := f1) (fq := f2) a b d, r, dj => ⟨fq ++ f2, .cons r b fun b hb q => dj b hb (List.mem_append_right _ q), fun b hb => (List.mem_append.mp hb).elim .inr fun q => .inl (List.mem_append_right _ q)⟩
  | n :: ms, _, _, j + 1, m, v, fq, .cons (fp := f1) (fq := f2) a b d, r, dj => by
    obtain ⟨fr, h1, h2⟩ := RepMs.set (j := j) b r fun b hb q => dj b hb (List.mem_append_right _ q)
    refine ⟨f1 ++ fr, .cons a h1 fun b hb q => ?_, fun b hb => ?_⟩
    · rcases h2 b q with q | q
      · exact d b hb q
      · exact dj b q (List.mem_append_left _ hb)
    · rcases List.mem_append.mp hb with q | q
      · exact .inl (List.mem_append_left _ q)
      · exact (h2 b q).imp (List.mem_append_right _) fun z => z
def setG : FP := fun ms => match ms with
  | [v, .lst xs, .fz (.int i)] => match ixN xs.length i with
    | some j => some (.ok (.fz .non) [none, some (.lst (xs.set j v)), some (.fz (.int i))])
    | none => none
  | _ => none
theorem op_set {K : PySem.W.Frag} {v o i : V} {H : Hp} {Q : Hp → Prop} {Ex : XK} (p : spOf K setG [v, o, i] H (fun _ H1 => Q H1) Ex) : rSetL o i v H Q := by
  obtain ⟨F, ms, fps, R, p⟩ := p
  unfold setG at p
  split at p
  · rename_i y xs k
    cases ei : ixN xs.length k with
    | none => rw [ei] at p; exact p.elim
    | some j =>
      simp only [ei] at p
      obtain ⟨v0, h0, r0⟩ := R.got 0 _ rfl
      cases h0
      obtain ⟨v1, h1, r1⟩ := R.got 1 _ rfl
      cases h1
      obtain ⟨v2, h2, r2⟩ := R.got 2 _ rfl
      cases h2
      obtain rfl := rep_int (repm_fz r2)
      obtain ⟨q, ws, fq, rfl, hq, hF, rs, nq, hfp⟩ := repm_lst r1
      have dj : ∀ b ∈ fps 0, b ∉ fps 1 := R.dj 0 1 (by omega)
      refine ⟨q, ws, k, j, rfl, rfl, hq, by rw [rs.length]; exact ei, ?_⟩
      obtain ⟨fr, rN, hfr⟩ := rs.set (j := j) r0 fun b hb z => dj b hb (by rw [hfp]; exact List.mem_cons_of_mem _ z)
      have hnq : ∀ b ∈ fr, b ≠ q := fun b hb e => by
        subst e
        rcases hfr b hb with z | z
        · exact nq z
        · exact dj b z (by rw [hfp]; exact List.mem_cons_self ..)
      have rM : RepM K F (upd H q (.lst (ws.set j v))) (.lst (xs.set j y)) (.ref q) (q :: fr) := .lst upd_same hF (rN.frame (Sub.refl _) (fun b hb => upd_ne (hnq b hb)) fun b hb => (rN.live b hb).2) fun z => hnq q z rfl
      have R1 := R.drop 0
      have R2 := args_upd (i := 1) (m := .lst (xs.set j y)) (fp := q :: fr) R1 rfl (by simp [hfp]) hF rM (fun b hb a ha z => by
        by_cases e1 : a = 0
        · simp only [if_pos e1] at z; cases z
        · simp only [if_neg e1] at z
          rcases List.mem_cons.mp hb with rfl | hb
          · exact R.dj 1 a (fun q => ha q.symm) b (by rw [hfp]; exact List.mem_cons_self ..) z
          · rcases hfr b hb with hb | hb
            · exact R.dj 1 a (fun q => ha q.symm) b (by rw [hfp]; exact List.mem_cons_of_mem _ hb) z
            · exact R.dj 0 a (fun q => e1 q.symm) b hb z)
      refine p .non F _ _ [] R2 (.fz .non) Own.not_nil ?_
      refine (Ext.putO R ⟨1, by rw [hfp]; exact List.mem_cons_self ..⟩).weak fun b h => ?_
      rcases h with ⟨a, ha⟩ | h
      · by_cases e0 : a = 1
        · simp only [if_pos e0] at ha
          rcases List.mem_cons.mp ha with rfl | z
          · exact ⟨1, by rw [hfp]; exact List.mem_cons_self ..⟩
          · rcases hfr b z with z | z
            · exact ⟨1, by rw [hfp]; exact List.mem_cons_of_mem _ z⟩
            · exact ⟨0, z⟩
        · simp only [if_neg e0] at ha
          by_cases e1 : a = 0
          · simp only [if_pos e1] at ha; cases ha
          · simp only [if_neg e1] at ha; exact ⟨a, ha⟩
      · cases h
  · exact p.elim
def setS (fe fo fi : FE) : FS := fun env => bindS (callE setG (arg3 fe fo fi) env) fun _ env1 => some (.nx env1)
end Ink
set_option Elab.async false
set_option linter.all false
set_option maxRecDepth 100000
namespace Ink
open PySem L2
theorem get_list {X : Cx} : PGet X (rIxL X.K) := fun pins s σ H o i ov iv Q I ro ri h => by
  obtain ⟨p, xs, k, v, rfl, rfl, hq, he, q⟩ := h
  cases ro
  obtain ⟨t, rfl⟩ := ri
  obtain ⟨its, r, pl, hz⟩ := I.list hq
  obtain ⟨j, h1, h2, h3, h4, h5⟩ := atI_get he
  obtain ⟨w, ew, rw'⟩ := r.get h2
  have hl := r.length
  have hn := line63
  have fin : EP X pins σ Q w s := ⟨v, H, I, rw', q⟩
  by_cases h0 : 0 ≤ k
  · have hj : k.toNat = j := by
      rw [seqIndex_of h0 h5] at h1
      exact Option.some.inj h1
    exact wpAny_getItem_list pl.isList h0 (by omega) (by rw [hj]; simpa using ew) fin
  · have hj : (k + (its.toArray.size : Int)).toNat = j := by
      rw [seqIndex_neg (by omega) h4] at h1
      rw [List.size_toArray, ← hl]
      exact Option.some.inj h1
    exact wpAny_getItem_list_neg pl.isList (by omega) (by rw [List.size_toArray] <;> omega) (by omega) (by rw [hj]; simpa using ew) fin
/-- the int at a place of an owned list -/
def ixInt (m : M) (i : Int) : Option Int := match m with
  | .lst ms => match atI ms i with
    | some (.fz (.int x)) => some x
    | _ => none
  | _ => none
def augIx (f : Int → Int → Int) (fo fi fe : FE) : FS := fun env => bindS (fo env) fun a env1 => bindS (fi env1) fun b env2 => match intA b env2 with
  | some i => match resA env2 a with
    | some m => match ixInt m i with
      | some x => bindS (fe env2) fun c env3 => match intA c env3 with
        | some y => bindS (runP setG [.tm (.fz (.int (f x y))), a, b] env3) fun _ env4 => some (.nx env4)
        | none => none
      | none => none
    | none => none
  | none => none
theorem ixInt_rep {K : PySem.W.Frag} {F H : Hp} {m : M} {v : V} {fp : List Addr} {i x : Int} (r : RepM K F H m v fp) (h : ixInt m i = some x) : ∃ p vs, v = .ref p ∧ H p = some (.lst vs) ∧ atI vs i = some (.int x) := by
  unfold ixInt at h
  split at h
  · rename_i ms
    obtain ⟨p, vs, fq, rfl, hp, hF, rs, _⟩ := repm_lst r
    split at h
    · rename_i z ez
      cases h
      refine ⟨p, vs, rfl, hp, ?_⟩
      unfold atI at ez ⊢
      rw [rs.length]
      cases ej : ixN ms.length i with
      | none => rw [ej] at ez; cases ez
      | some j =>
        rw [ej] at ez
        have gen : ∀ {ms : List M} {vs : List V} {fp : List Addr} {j : Nat}, RepMs K F H ms vs fp → ms[j]? = some (.fz (.int x)) → vs[j]? = some (.int x) := by
          intro ms
          induction ms with
          | nil => intro vs fp j _ e; simp at e
          | cons m ms ih =>
            intro vs fp j r e
            cases r with
            | cons a b d =>
              cases j with
              | zero => simp at e; subst e; rw [rep_int (repm_fz a)]; rfl
              | succ j => simp at e; simpa using ih b e
        exact gen rs ez
    · cases h
  · cases h
section
variable {X : Cx} {W : WX} {P : List Nat} {o i e : Expr} {fo fi fe : FE} {pos tpos : Pos} {op : Operator} {f : Int → Int → Int}
theorem s_augix (hop : PIp X op (rI0 fun i j => .int (f i j))) (ho : PE X o (rE X.K W fo)) (hi : PE X i (rE X.K W fi)) (he : PE X e (rE X.K W fe)) (ha : ∀ ov iv new, augStore i ov iv new = (do holding [new, ov, iv] (setItem ov iv new); release [new, ov, iv] []; pure .next) := by intros; rfl) :
    PS X (.AugAssign (.Subscript o i tpos) op e pos) (rS X.K W P (augIx f fo fi fe)) := PS_mono (ps_augS ho hi get_list he hop set_list ha) fun D σ H ⟨F, env, fps, R, po⟩ => by
  refine ⟨F, env, fps, R, ?_⟩
  unfold augIx at po
  cases ef : fo env with
  | none => rw [ef] at po; exact po
  | some z =>
    rw [ef] at po
    cases z with
    | ex x env1 => exact PXS.px po
    | ok a env1 =>
      simp only [bindS] at po
      intro ov F1 H1 fps1 fp R1 r d e1
      refine ⟨F1, env1, fps1, R1, ?_⟩
      cases eg : fi env1 with
      | none => rw [eg] at po; exact po
      | some z2 =>
        rw [eg] at po
        cases z2 with
        | ex x env2 => exact PX.wide (PXS.px po) e1 fun _ h => .inl h
        | ok b env2 =>
          simp only at po
          intro iv F2 H2 fps2 fp2 R2 r2 d2 e2
          obtain ⟨ra, da⟩ := pendA r d e2
          have e12 : Ext X.K F H (Own fps) F2 H2 (fun b => Own fps2 b ∨ (b ∈ fp ∨ b ∈ fp2)) := e1.trans e2 (fun _ h => .inl h) fun b h => by
            rcases h with h | h | h
            · exact .inl (.inl h)
            · exact .inr (.inr h)
            · exact .inl (.inr h)
          cases ei : intA b env2 with
          | none => rw [ei] at po; exact po.elim
          | some k =>
            simp only [ei] at po
            cases em : resA env2 a with
            | none => rw [em] at po; exact po.elim
            | some m =>
              simp only [em] at po
              cases ex : ixInt m k with
              | none => rw [ex] at po; exact po.elim
              | some x =>
                simp only [ex] at po
                have hiv := intA_rep R2 r2 ei
                obtain ⟨fq, rm⟩ := resA_rep R2 ra em
                obtain ⟨p, vs, rfl, hp, hat⟩ := ixInt_rep rm ex
                subst hiv
                refine ⟨p, vs, k, .int x, rfl, rfl, SqL.of hp, hat, F2, env2, fps2, R2, ?_⟩
                cases ec : fe env2 with
                | none => rw [ec] at po; exact po
                | some z3 =>
                  rw [ec] at po
                  cases z3 with
                  | ex xx env3 => exact PX.wide (PXS.px po) e12 fun _ h => .inl h
                  | ok c env3 =>
                    simp only at po
                    intro yv F3 H3 fps3 fp3 R3 r3 d3 e3
                    cases ey : intA c env3 with
                    | none => rw [ey] at po; exact po.elim
                    | some y =>
                      simp only [ey] at po
                      obtain rfl := intA_rep R3 r3 ey
                      obtain ⟨ra3, da3⟩ := pendA ra (fun b hb q => da b hb (.inl q)) e3
                      obtain ⟨rb3, db3⟩ := pendA r2 d2 e3
                      refine ⟨x, y, rfl, rfl, ?_⟩
                      have hab : ∀ b ∈ fp, b ∉ fp2 := fun b hb q => da b hb (.inr q)
                      have rs := RepAs.cons' (a := .tm (.fz (.int (f x y)))) (fp := []) (RepM.fz (K := X.K) (F := F3) (H := H3) (.int (f x y))) (RepAs.cons' ra3 (RepAs.cons' rb3 .nil' fun b hb ⟨_, q⟩ => by cases q) fun b hb q => by
                        rcases own_fcons.mp q with q | ⟨_, q⟩
                        · exact hab b hb q
                        · cases q) fun b hb => by cases hb
                      have ow : ∀ b, Own (fcons [] (fcons fp (fcons fp2 fun _ => []))) b → b ∈ fp ∨ b ∈ fp2 := fun b h => by
                        rcases own_fcons.mp h with h | h
                        · cases h
                        · rcases own_fcons.mp h with h | h
                          · exact .inl h
                          · rcases own_fcons.mp h with h | ⟨_, h⟩
                            · exact .inr h
                            · cases h
                      have e13 : Ext X.K F H (Own fps) F3 H3 (fun b => Own fps3 b ∨ (b ∈ fp ∨ b ∈ fp2)) := e12.trans e3 (fun _ h => .inl h) fun b h => by
                        rcases h with h | h
                        · exact .inl (.inl h)
                        · exact .inr (.inr h)
                      refine op_set (prim_sound (W := W) R3 rs (fun b hb q => ?_) ?_)
                      · rcases ow b hb with hb | hb
                        · exact da3 b hb (.inl q)
                        · exact db3 b hb (.inl q)
                      · cases er : runP setG [.tm (.fz (.int (f x y))), a, b] env3 with
                        | none => rw [er] at po; exact po
                        | some z4 =>
                          rw [er] at po
                          cases z4 with
                          | ex xx env4 => exact PX.wide (PXS.px po) e13 fun b h => h.imp id (ow b)
                          | ok rr env4 => exact fun v F4 H4 fps4 fp4 R4 _ _ e4 => po σ F4 H4 fps4 R4 .refl (e13.trans e4 (fun b h => h.imp id (ow b)) fun b h => .inl (.inl h))
end
def iaddM : M → M → Option M
  | .fz (.int i), .fz (.int j) => some (.fz (.int (i + j)))
  | .fz (.str s), .fz (.str t) => if s.length + t.length ≤ sizeLine then some (.fz (.str (s ++ t))) else none
  | _, _ => none
def augNm (i : Nat) (g : FP) (fe : FE) : FS := fun env => match env[i]? with
  | some (some _) => bindS (fe env) fun a env1 => bindS (runP g [.sl i, a] env1) fun r env2 => match r with
    | .tm m => some (.nx (env2.set i (some m)))
    | .sl _ => none
  | _ => none
section
variable {X : Cx} {W : WX} {P : List Nat} {e : Expr} {fe : FE} {pos pos' : Pos} {op : Operator} {g : FP} {r : R2} {i : Nat} {x : Str}
theorem s_aug (hN : X.N.Nodup) (hi : X.N[i]? = some x) (hx : Loc X.env.scope x) (hop : PIp X op r) (hp : Op2 X.K g r) (he : PE X e (rE X.K W fe)) (hpn : apart [i] P = true := by rfl) (hf : X.fn x = true ∨ X.env.scope.names.lookup x = some .local := by first | exact .inl rfl | exact .inr rfl | assumption) :
    PS X (.AugAssign (.Name x pos') op e pos) (rS X.K W P (augNm i g fe)) := PS_mono (ps_aug hN hi hx he hop hf) fun D σ H ⟨F, env, fps, R, po⟩ => by
  unfold augNm at po
  split at po
  · rename_i m em
    obtain ⟨xv, hxv, _⟩ := R.got i m em
    refine ⟨xv, hxv, F, env, fps, R, ?_⟩
    cases ef : fe env with
    | none => rw [ef] at po; exact po
    | some z =>
      rw [ef] at po
      cases z with
      | ex x env1 => exact PXS.px po
      | ok a env1 =>
        simp only [bindS] at po
        intro yv F1 H1 fps1 fp R1 ra d e1
        have rs := RepAs.cons' (a := .sl i) (fp := []) (show RepA X.K F1 H1 σ (.sl i) xv [] from ⟨hxv, rfl⟩) (RepAs.cons' ra .nil' fun b hb ⟨_, q⟩ => by cases q) fun b hb => by cases hb
        have ow : ∀ b, Own (fcons [] (fcons fp fun _ => [])) b → b ∈ fp := fun b h => by
          rcases own_fcons.mp h with h | h
          · cases h
          · rcases own_fcons.mp h with h | ⟨_, h⟩
            · exact h
            · cases h
        refine hp xv yv H1 _ _ (prim_sound (W := W) R1 rs (fun b hb q => d b (ow b hb) q) ?_)
        cases er : runP g [.sl i, a] env1 with
        | none => rw [er] at po; exact po
        | some z4 =>
          rw [er] at po
          cases z4 with
          | ex xx env4 => exact PX.wide (PXS.px po) e1 fun b h => h.imp id (ow b)
          | ok rr env4 =>
            cases rr with
            | sl k => exact po.elim
            | tm mm =>
              intro v F4 H4 fps4 fp4 R4 rv d4 e4
              obtain ⟨fps5, R5, h5⟩ := store_len (i := i) R4 rv d4
              refine po _ F4 H4 fps5 R5 ((Chg.set (S := [i]) (by simp)).pin hpn) (e1.trans e4 (fun b h => h.imp id (ow b)) fun b h => .inl (h5 b h))
  · exact po.elim
theorem op2_iadd {K : PySem.W.Frag} : Op2 K (g2 iaddM) (fun x y H Q => rI0 (fun i j => .int (i + j)) x y H Q ∨ ∃ i j, x = .str i ∧ y = .str j ∧ i.length + j.length ≤ sizeLine ∧ Q (.str (i ++ j)) H) := fun x y H Q Ex p => by
  obtain ⟨F, a, b, m, fps, R, r1, r2, e, p⟩ := g2_at p
  unfold iaddM at e
  split at e
  · cases e
    obtain rfl := rep_int (repm_fz r1)
    obtain rfl := rep_int (repm_fz r2)
    exact .inl ⟨_, _, rfl, rfl, sp_flat R (.int _) p⟩
  · split at e
    · rename_i hl
      cases e
      obtain rfl := rep_str (repm_fz r1)
      obtain rfl := rep_str (repm_fz r2)
      exact .inr ⟨_, _, rfl, rfl, hl, sp_flat R (.str _) p⟩
    · cases e
  · cases e
theorem pip_add : PIp X .Add (fun x y H Q => rI0 (fun i j => .int (i + j)) x y H Q ∨ ∃ i j, x = .str i ∧ y = .str j ∧ i.length + j.length ≤ sizeLine ∧ Q (.str (i ++ j)) H) := OpR.or (f := inplaceOp .Add) iop_add iop_add_str
theorem s_augadd (hN : X.N.Nodup) (hi : X.N[i]? = some x) (hx : Loc X.env.scope x) (he : PE X e (rE X.K W fe)) (hpn : apart [i] P = true := by rfl) (hf : X.fn x = true ∨ X.env.scope.names.lookup x = some .local := by first | exact .inl rfl | exact .inr rfl | assumption) :
    PS X (.AugAssign (.Name x pos') .Add e pos) (rS X.K W P (augNm i (g2 iaddM) fe)) := s_aug hN hi hx pip_add op2_iadd he hpn hf
end
def parS (i j : Nat) (fa : FA) : FS := fun env => bindS (fa env) fun as env1 => match tms as with
  | some [m, n] => some (.nx ((env1.set i (some m)).set j (some n)))
  | _ => none
section
variable {X : Cx} {W : WX} {P : List Nat} {a b : Expr} {fa : FA} {pos px py pt pt2 : Pos} {kt k2 : Nat} {i j : Nat} {x y : Str}
theorem s_par (hc : X.calm = true) (hN : X.N.Nodup) (hi : X.N[i]? = some x) (hj : X.N[j]? = some y) (hij : i ≠ j) (hx : X.env.scope.names.lookup x = some .local) (hy : X.env.scope.names.lookup y = some .local) (ha : PA X [a, b] (rA X.K W fa))
    (hw : swappedStores [.Tuple [.Name x px, .Name y py] kt pt] (.Tuple [a, b] k2 pt2) X.env = pure (some [x, y]) := by rfl) (hp : apart [i, j] P = true := by rfl)
    (hs : swapsWithSole [.Tuple [.Name x px, .Name y py] kt pt] (.Tuple [a, b] k2 pt2) pos.line X.env = pure false := by rfl) :
    PS X (.Assign [.Tuple [.Name x px, .Name y py] kt pt] (.Tuple [a, b] k2 pt2) pos) (rS X.K W P (parS i j fa)) := PS_mono (ps_par hc hN hi hj hij hx hy ha hw hs) fun D σ H ⟨F, env, fps, R, po⟩ => by
  refine ⟨F, env, fps, R, ?_⟩
  unfold parS at po
  cases ef : fa env with
  | none => rw [ef] at po; exact po
  | some z =>
    rw [ef] at po
    cases z with
    | ex x env1 => exact PXS.px po
    | ok as env1 =>
      simp only [bindS] at po
      intro vs F1 H1 fps1 fpA R1 rs d e1
      split at po
      · rename_i m n et
        obtain ⟨fp, rm, ho⟩ := tms_reps rs et
        cases rm with
        | cons r1 rr dj =>
          cases rr with
          | cons r2 rn _ =>
            cases rn
            rename_i v f1 w f2 _
            refine ⟨v, w, rfl, ?_⟩
            obtain ⟨fps2, R2, h2⟩ := store_len (i := i) R1 r1 fun b hb q => d b (ho b (List.mem_append_left _ hb)) q
            obtain ⟨fps3, R3, h3⟩ := store_len (i := j) R2 r2 fun b hb q => by
              rcases h2 b q with q | q
              · exact d b (ho b (List.mem_append_right _ (by simp [hb]))) q
              · exact dj b q (by simp [hb])
            refine po _ F1 H1 fps3 R3 (((Chg.set (S := [i, j]) (by simp)).trans (Chg.set (by simp))).pin hp) (e1.weak fun b h => ?_)
            rcases h3 b h with h | h
            · rcases h2 b h with h | h
              · exact .inl h
              · exact .inr (ho b (List.mem_append_left _ h))
            · exact .inr (ho b (List.mem_append_right _ (by simp [h])))
      · exact po.elim
end
end Ink
set_option Elab.async false
set_option linter.all false
set_option maxRecDepth 100000
namespace Ink
open PySem L2
def stepS (acc : List Str) (x : Str) : List Str := if acc.any (· == x) then acc else acc ++ [x]
def ddS (xs : List Str) : List Str := xs.foldl stepS []
theorem stepS_any (acc : List Str) (v k : Str) : (stepS acc v).any (· == k) = (acc.any (· == k) || decide (k = v)) := by
  unfold stepS
  by_cases h : acc.any (· == v) = true
  · rw [if_pos h]
    by_cases e : k = v
    · subst e; rw [h]; simp
    · simp [e]
  · rw [if_neg h, List.any_append]
    by_cases e : k = v
    · subst e; simp
    · have hb : (v == k) = false := beq_eq_false_iff_ne.mpr fun q => e q.symm
      simp [hb, e]
theorem stepS_length (acc : List Str) (v : Str) : (stepS acc v).length = if acc.any (· == v) then acc.length else acc.length + 1 := by
  unfold stepS
  split <;> simp
theorem ddS_take_succ {xs : List Str} {i : Nat} {x : Str} (h : xs[i]? = some x) : ddS (xs.take (i + 1)) = stepS (ddS (xs.take i)) x := by
  unfold ddS
  rw [List.take_add_one, h, List.foldl_append]
  rfl
theorem foldS_le : ∀ (xs acc : List Str), (xs.foldl stepS acc).length ≤ acc.length + xs.length
  | [], acc => by simp
  | x :: xs, acc => by
    have a := foldS_le xs (stepS acc x)
    have b := stepS_length acc x
    rw [List.foldl_cons, List.length_cons]
    split at b <;> omega
theorem ddS_le (xs : List Str) : (ddS xs).length ≤ xs.length := by
  have a := foldS_le xs []
  unfold ddS
  simpa using a
section
variable {prog : Program} {w : World} {A : Around} {R : Result → Shared → Prop} {I : Addr} {fp wr : List Addr} {G : Array GenState → Array GenState → Prop} {n : Nat} {P : Nat → Value → Prop} {Sx : Nat → Shared → Prop}
theorem loopTexts (Wk : WalksS prog w A.in1 I fp wr G n P Sx) (S : Addr) (hS : S ∉ fp) (xs : List Str) (hn : xs.length = n) (hb : n + 1 < scanBound) (hv : ∀ i v, P i v → ∃ t x, xs[i]? = some x ∧ v = .str x t) :
    ∀ (k i : Nat) (s : Shared), n - i = k → i ≤ n → Sx i s → s.heap.SetOf (PySem.strKind prog w) S (fun q => (ddS (xs.take i)).any (· == q)) (ddS (xs.take i)).length →
      (∀ s1, Moved (S :: wr) G s s1 → s1.heap.SetOf (PySem.strKind prog w) S (fun q => (ddS xs).any (· == q)) (ddS xs).length → R (.ok (.ret .none)) s1) →
      codeAny (model prog w) A (.builtin "set.update.loop" ⟨[.ref S, .ref I], []⟩) R s := by
  have nw : S ∉ wr := fun h => hS (Wk.sub _ h)
  have up : ∀ b ∈ wr, b ∈ S :: wr := fun b hb => List.mem_cons_of_mem _ hb
  intro k
  induction k with
  | zero =>
    intro i s hk hi st so hR
    obtain rfl : i = n := by omega
    rw [← hn, List.take_length] at so
    refine codeAny_builtin PyProof.Rows.F.entry_set_update_loop ?_
    rw [Around.under_plainId PyProof.Rows.F.plain_set_update_loop _]
    show wpAny _ A.in1 (pyNext (.ref I) >>= _) _ _ s
    refine wpAny_bind (Wk.done s _ _ st fun s1 hm => ?_)
    show wpAny _ A.in1 (ret Value.none) _ _ s1
    refine wpAny_pure (hR s1 (hm.mono up) ?_)
    obtain ⟨o, es, ep, t, ho, rest⟩ := so
    exact ⟨o, es, ep, t, hm.heap S _ nw ho, rest⟩
  | succ k ih =>
    intro i s hk hi st so hR
    have hlt : i < n := by omega
    refine codeAny_builtin PyProof.Rows.F.entry_set_update_loop ?_
    rw [Around.under_plainId PyProof.Rows.F.plain_set_update_loop _]
    show wpAny _ A.in1 (pyNext (.ref I) >>= _) _ _ s
    refine wpAny_bind (Wk.item i s _ _ hlt st fun v s1 hP st1 hm => ?_)
    obtain ⟨t, x, hx, rfl⟩ := hv i v hP
    have so1 : s1.heap.SetOf (PySem.strKind prog w) S (fun q => (ddS (xs.take i)).any (· == q)) (ddS (xs.take i)).length := by
      obtain ⟨o, es, ep, tb, ho, rest⟩ := so
      exact ⟨o, es, ep, tb, hm.heap S _ nw ho, rest⟩
    show wpAny _ A.in1 (holding [Value.str x t] (setAdd S (.str x t)) >>= _) _ _ s1
    refine wpAny_bind (wpAny_holding ?_)
    unfold setAdd
    refine wpAny_holding (wpAny_bind ((PySem.strKind prog w).pyHash (k := x) (strKind_is _ _ _ _) ?_))
    have room : (ddS (xs.take i)).length + 1 < scanBound := by
      have a := ddS_le (xs.take i)
      have b : (xs.take i).length ≤ i := by rw [List.length_take]; exact Nat.min_le_left _ _
      omega
    refine wpAny_setAddHashed_of (knd := PySem.strKind prog w) (s := { s1 with toks := s1.toks + 1 }) (strKind_is _ _ _ _) rfl so1 room fun h2 hsb so2 => ?_
    have so3 : h2.SetOf (PySem.strKind prog w) S (fun q => (ddS (xs.take (i + 1))).any (· == q)) (ddS (xs.take (i + 1))).length :=
      PyProof.Rows.SetOf_congr so2 (fun q => by rw [ddS_take_succ hx, stepS_any]) (by rw [ddS_take_succ hx, stepS_length])
    refine wpAny_pure ⟨plainId_quiet PyProof.Rows.F.plain_set_update_loop _, ih (i + 1) _ (by omega) hlt (Wk.frame _ s1 _ _ st1 (Nat.le_succ _) fun b hb o e => ?_) so3 fun s2 hm2 so4 => ?_⟩
    · rw [hsb.2 b (fun q : b = S => hS (by rw [← q]; exact hb))]; exact e
    · refine hR s2 (Moved.trans Wk.gtrans ((hm.mono up).then_heap (Nat.le_succ _) fun b o hb e => ?_) hm2) so4
      rw [hsb.2 b (fun q : b = S => hb (by rw [q]; exact List.mem_cons_self))]; exact e
end
abbrev emptySet (led : Bool) : Obj := { cls := .type "set", dict := none, data := .set #[] 0 (.fresh 0 0 led) }
section
variable {prog : Program} {w : World} {A : Around} {E : Value → Shared → Prop} {s : Shared}
set_option maxHeartbeats 3200000 in
theorem set_texts {l : Addr} {items : Array Value} {xs : List Str} {Q : Value → Shared → Prop} (hh : A.handled = none) (hl : s.heap.IsTuple l items) (hi : ∀ (i : Nat) (v : Value), items[i]? = some v → ∃ t x, xs[i]? = some x ∧ v = .str x t) (hn : xs.length = items.size) (hb : items.size + 1 < scanBound)
    (h : ∀ (h2 : Heap) (tk : Nat), h2.SetOf (PySem.strKind prog w) s.heap.objs.size (fun q => (ddS xs).any (· == q)) (ddS xs).length → (∀ b o, b < s.heap.objs.size → s.heap.get? b = some o → h2.get? b = some o) → Q (.ref s.heap.objs.size) { s with heap := h2, toks := tk }) :
    wpAny (model prog w) A (call (.type "set") [.ref l]) Q E s := by
  obtain ⟨c, tl, hmro⟩ := PySem.F.called_set.mro
  have hmade := PySem.F.called_set.made
  have hsub := PySem.F.called_set.sub
  refine wpAny_call (codeAny_of_tree ?_)
  show wpAny _ _ (callAny (.type "set") _) _ _ _
  refine wpAny_pure ⟨Code.quiet_builtin _ (by decide +kernel), codeAny_builtin PySem.F.entry_type_call ?_⟩
  rw [Around.under_plain (weight_type_call_type "set" [.ref l] []) rfl]
  have h1 := PySem.F.called_set.notType
  have h2 := PySem.F.called_set.canCreate
  have hct := PySem.F.typeCall_set_1 (.ref l)
  repeat (any_goals (first | assumption | wp_step))
  refine codeAny_mono (code_set_new_1 (.ref l) (E := E) (Q₁ := fun obj t => ∃ led : Bool, obj = .ref s.heap.objs.size ∧ t = { s with heap := s.heap.push (emptySet led) }) fun led => ⟨led, rfl, rfl⟩) fun r t hr => ?_
  cases r with
  | error e => exact hr
  | ok fl =>
    cases fl with
    | ret obj =>
      obtain ⟨led, rfl, rfl⟩ := hr
      have gS : (s.heap.push (emptySet led)).get? s.heap.objs.size = some (emptySet led) := Heap.get?_push_size _ rfl
      have hT : Shared.TypeIs { s with heap := s.heap.push (emptySet led) } (.ref s.heap.objs.size) "set" := ⟨_, gS, rfl⟩
      have hli := PySem.F.called_set.init.lookup
      have hbi := PySem.F.called_set.init.bind (.ref s.heap.objs.size)
      repeat (any_goals (first | assumption | wp_step))
      refine codeAny_mono (codeAny_call_builtin (R := wants (fun r t => r = .none ∧ ∃ h2 tk, t = { s with heap := h2, toks := tk } ∧ h2.SetOf (PySem.strKind prog w) s.heap.objs.size (fun q => (ddS xs).any (· == q)) (ddS xs).length ∧
          (∀ b o, b < s.heap.objs.size → s.heap.get? b = some o → h2.get? b = some o)) E) PySem.F.called_set.init.plain PySem.F.entry_set_init (check_set_init_1 hT ?_)) fun r2 t2 hr2 => ?_
      · obtain ⟨⟨ocls, odict, odata, oslots⟩, hol, hcl, nl, hdl⟩ := hl
        simp only at hcl hdl
        subst hcl hdl
        have hol2 : (s.heap.push (emptySet led)).get? l = some { cls := .type "tuple", dict := odict, data := .seq items nl, slots := oslots } := Heap.get?_push_of_some _ hol
        have hsls := PySem.F.sub_tuple_set
        have hslf := PySem.F.sub_tuple_frozenset
        have hne : (Value.type "tuple" == Value.type "dict") = false := by decide
        have hl1 : (s.heap.push (emptySet led)).IsTuple l items := ⟨_, hol2, rfl, nl, rfl⟩
        unfold Builtin.«set.__init__» noKeywords Builtin.Frozenset.updateFrom
        generalize hPI : pyIter = PI
        wp_walk
        subst hPI
        refine wpAny_pyIter_tuple hl1 (wpAny_bind (wpAny_runValue ?_))
        have lS : l < s.heap.objs.size := Heap.lt_size hol
        have neI : l ≠ (s.heap.push (emptySet led)).objs.size := by rw [Heap.size_push]; exact Nat.ne_of_lt (Nat.lt_succ_of_lt lS)
        have nSf : s.heap.objs.size ∉ [(s.heap.push (emptySet led)).objs.size, l] := by
          rw [Heap.size_push]
          simp only [List.mem_cons, List.mem_singleton, List.not_mem_nil, or_false, not_or]
          exact ⟨Nat.ne_of_lt (Nat.lt_succ_self _), Nat.ne_of_gt lS⟩
        refine loopTexts ((Walks.tuple (by simp [hh]) _ l neI items).toS) s.heap.objs.size nSf xs hn hb hi (items.size - 0) 0 _ (by omega) (Nat.zero_le _) ⟨⟨_, Heap.get?_push_size _ rfl, rfl, rfl⟩, (hl1.push _)⟩ ?hS0 ?hR
        case hS0 =>
          have g2 : ((s.heap.push (emptySet led)).push { cls := .type "tuple_iterator", data := .fields #[.ref l, .int 0 0] }).get? s.heap.objs.size = some (emptySet led) := Heap.get?_push_of_some _ gS
          exact PyProof.Rows.SetOf_congr ((PyProof.Rows.setObjOf_fresh (knd := PySem.strKind prog w) led).setOf g2 (by unfold scanBound; omega)) (fun _ => rfl) rfl
        case hR =>
          intro t1 hm so
          obtain ⟨h3, g3, d3, tk3, os3⟩ := t1
          obtain rfl : g3 = s.gens := hm.gens
          obtain rfl : d3 = s.drawn := hm.drawn
          obtain rfl : os3 = s.os := hm.os
          show wpAny _ _ _ _ _ _
          refine wpAny_pure ?_
          show wpAny _ _ (ret Value.none) _ _ _
          refine wpAny_pure ⟨rfl, h3, tk3, rfl, so, fun b o hb e => ?_⟩
          have n1 : b ≠ s.heap.objs.size := Nat.ne_of_lt hb
          have n2 : b ≠ (s.heap.push (emptySet led)).objs.size := by rw [Heap.size_push]; exact Nat.ne_of_lt (Nat.lt_succ_of_lt hb)
          exact hm.heap b o (by simp only [List.mem_cons, List.mem_singleton, List.not_mem_nil, or_false, not_or]; exact ⟨n1, n2⟩) (Heap.get?_push_of_some _ (Heap.get?_push_of_some _ e))
      · cases r2 with
        | error e => exact hr2
        | ok fl2 =>
          cases fl2 with
          | ret r =>
            obtain ⟨rfl, h3, tk, rfl, so, hk⟩ := hr2
            repeat (any_goals (first | assumption | wp_step))
            exact h _ _ so hk
          | _ => exact hr2.elim
    | _ => exact hr.elim
end
def strsD : List D → Option (List Str)
  | [] => some []
  | .str x :: r => match strsD r with
    | some xs => some (x :: xs)
    | none => none
  | _ => none
theorem strsD_map (xs : List Str) : strsD (xs.map D.str) = some xs := by
  induction xs with
  | nil => rfl
  | cons x xs ih => simp only [List.map_cons, strsD, ih]
theorem strsD_reps {K : PySem.W.Frag} {F : Hp} : ∀ {vs : List V} {ds : List D} {xs : List Str}, Reps K F vs ds → strsD ds = some xs → vs = xs.map V.str
  | _, [], xs, .nil, e => by rw [strsD] at e; cases e; rfl
  | _, .str b :: r, xs, .cons a t, e => by
    rw [strsD] at e
    cases e2 : strsD r with
    | none => rw [e2] at e; cases e
    | some cs => rw [e2] at e; cases e; rw [rep_str a, strsD_reps t e2]; rfl
  | _, .non :: _, _, _, e => by simp [strsD] at e
  | _, .int _ :: _, _, _, e => by simp [strsD] at e
  | _, .bl _ :: _, _, _, e => by simp [strsD] at e
  | _, .lst _ :: _, _, _, e => by simp [strsD] at e
  | _, .tup _ :: _, _, _, e => by simp [strsD] at e
  | _, .dK _ :: _, _, _, e => by simp [strsD] at e
  | _, .dT _ :: _, _, _, e => by simp [strsD] at e
  | _, .scr _ :: _, _, _, e => by simp [strsD] at e
  | _, .ins _ _ :: _, _, _, e => by simp [strsD] at e
  | _, .lam _ :: _, _, _, e => by simp [strsD] at e
  | _, .dLK _ :: _, _, _, e => by simp [strsD] at e
  | _, .dLT _ :: _, _, _, e => by simp [strsD] at e
  | _, .nst _ _ :: _, _, _, e => by simp [strsD] at e
/-- len(set(t)), t a tuple of texts -/
def lenSetE (f : FE) : FE := fun env => bindO (f env) fun a env1 => match resA env1 a with
  | some (.fz (.tup ds)) => match strsD ds with
    | some xs => if xs.length ≤ 4000 then some (.ok (.tm (.fz (.int (ddS xs).length))) env1) else none
    | none => none
  | _ => none
theorem e_lenset {X : Cx} {W : WX} {a : Expr} {f : FE} {p p2 q pos : Pos} (hc : X.calm = true) (hg : Gl X "len") (hm : X.mg "len" = none) (hg2 : Gl X "set") (hm2 : X.mg "set" = none) (ha : PE X a (rE X.K W f))
    (na : starEach [a] X.env = (false, eval a X.env) :: starEach [] X.env := by rfl) : PE X (.Call (.Name "len" p) [.Call (.Name "set" p2) [a] [] q] [] pos) (rE X.K W (lenSetE f)) := ⟨fun pins s σ H Q I h => by
  obtain ⟨F, env, fps, R, po⟩ := h
  refine PyProof.Rows.Call_ (ld_blt I hg hm boot_len ?_)
  refine PyProof.Rows.callWith_builtin1 (PyProof.Rows.args_cons ?_ rfl) rfl rfl
  refine PyProof.Rows.Call_ (ld_blt I hg2 hm2 PyProof.Rows.boot_set ?_)
  have key : rE X.K W f σ H (fun x H1 => ∃ l, ∃ xs : List Str, x = .ref l ∧ SqT X.K H1 l (xs.map V.str) ∧ xs.length ≤ 4000 ∧ Q (.int (ddS xs).length) H1) := by
    refine ⟨F, env, fps, R, ?_⟩
    unfold lenSetE at po
    cases ef : f env with
    | none => rw [ef] at po; exact po
    | some z =>
      rw [ef] at po
      cases z with
      | ex x env1 => exact po
      | ok b env1 =>
        simp only [bindO_ok] at po
        intro v F1 H1 fps1 fp R1 r d e1
        cases er : resA env1 b with
        | none => rw [er] at po; exact po.elim
        | some m =>
          rw [er] at po
          split at po
          · rename_i ds em
            cases em
            obtain ⟨fq, rm⟩ := resA_rep R1 r er
            cases es : strsD ds with
            | none => rw [es] at po; exact po.elim
            | some xs =>
              simp only [es] at po
              split at po
              · rename_i hl
                obtain ⟨q, vs, rfl, hq, rs⟩ := tup_rep R1.fr (repm_fz rm)
                exact ⟨q, xs, rfl, by rw [← strsD_reps rs es]; exact hq, hl, po _ F1 H1 fps1 [] R1 (RepM.fz (.int _)) Own.not_nil (e1.weak fun b h => .inl (h.elim id fun z => by cases z))⟩
              · exact po.elim
          · exact po.elim
  refine PyProof.Rows.callWith_type1 (PyProof.Rows.args_cons (thn (ha.run pins s σ H _ I key) fun v s1 ⟨x, H1, I1, r1, q1⟩ => PyProof.Rows.args_nil ?_) na) na rfl
  obtain ⟨l, xs, rfl, hq, hl, q1⟩ := q1
  cases r1
  obtain ⟨its, rv, pl, hz⟩ := I1.tuple hq
  have hlen : its.toArray.size = xs.length := by rw [List.size_toArray, ← rv.length, List.length_map]
  refine set_texts (xs := xs) (I1.ok.hd hc) pl (fun i v hv => ?_) hlen.symm (by rw [hlen]; unfold scanBound; omega) fun h2 tk so hk => ?_
  · have hv2 : its[i]? = some v := by simpa using hv
    have hi : i < xs.length := by
      have := (List.getElem?_eq_some_iff.mp hv2).1
      rw [← hlen]; simpa using this
    obtain ⟨u, hu, t, ru⟩ := rv.get (i := i) (x := .str xs[i]) (by simp [hi])
    rw [hv2] at hu; cases hu
    exact ⟨t, xs[i], List.getElem?_eq_getElem hi, ru⟩
  · refine PyProof.Rows.args_nil ?_
    obtain ⟨o, es, ep, t, ho, hex, hd, _, _, _, hf, hn⟩ := so
    have I2 : Inv X pins σ H1 { s1 with heap := h2, toks := tk } := I1.kept fun b o e => hk b o (Heap.lt_size e) e
    have hle := ddS_le xs
    exact call_len_set ho hex hd hf (by rw [hn]; omega) ⟨.int (ddS xs).length, H1, I2.tok _, ⟨_, by rw [hn]⟩, q1⟩⟩
end Ink
set_option Elab.async false
set_option linter.all false
set_option maxRecDepth 100000
namespace Ink
open PySem L2
def repL {α : Type} (n : Nat) (xs : List α) : List α := (List.replicate n xs).flatten
def repS (z : Str) (n : Nat) : Str := ⟨(repL n z.cps.toList).toArray⟩
theorem repL_reps {K : PySem.W.Frag} {F : Hp} {vs : List V} {ds : List D} (r : Reps K F vs ds) : ∀ n : Nat, Reps K F (List.replicate n vs).flatten (repL n ds)
  | 0 => .nil
  | n + 1 => by
    unfold repL
    rw [List.replicate_succ, List.flatten_cons, List.replicate_succ, List.flatten_cons]
    exact r.append (repL_reps r n)
theorem foldl_cps (a : Array Nat) : ∀ (k : Nat) (acc : List Nat), List.foldl (fun x y => x ++ y) acc.toArray (List.replicate k a) = (acc ++ (List.replicate k a.toList).flatten).toArray
  | 0, acc => by simp
  | k + 1, acc => by
    rw [List.replicate_succ, List.foldl_cons]
    have e : acc.toArray ++ a = (acc ++ a.toList).toArray := by
      apply Array.ext'
      simp
    rw [e, foldl_cps a k]
    simp [List.replicate_succ]
theorem op_mulstr {X : Cx} : OpR X (binaryOp .Mult) (fun x y H Q => ∃ z n, x = .str z ∧ y = .int n ∧ 0 ≤ n ∧ n ≤ 1000 ∧ z.length ≤ 1000 ∧ Q (.str (repS z n.toNat)) H) := fun pins s σ H x y v u Q I rx ry h => by
  obtain ⟨z, n, rfl, rfl, h0, h1, hz, q⟩ := h
  obtain ⟨t, rfl⟩ := rx
  obtain ⟨t2, rfl⟩ := ry
  have hmul : z.length * n.toNat ≤ 1000 * 1000 := Nat.mul_le_mul hz (by omega)
  have hlenR : (repL n.toNat z.cps.toList).length = n.toNat * z.length := by
    unfold repL
    rw [PyProof.Rows.lm_len_rep_flat]
    show n.toNat * z.cps.toList.length = n.toNat * z.cps.size
    simp
  refine PySem.P.mul_str ?_ (fun _ _ => ?_) (fun _ _ => ?_) ?_
  · rw [decide_eq_false (by omega), decide_eq_false (by omega)]; rfl
  · intro hgt
    have : (2 ^ 63 - 1) / n ≥ (2 ^ 63 - 1) / 1000 := by
      rename_i hn1 _
      apply Int.le_ediv_of_mul_le (by omega)
      have : (2 ^ 63 - 1 : Int) / 1000 * n ≤ (2 ^ 63 - 1) / 1000 * 1000 := Int.mul_le_mul_of_nonneg_left (by omega) (by decide)
      have h2 : (2 ^ 63 - 1 : Int) / 1000 * 1000 ≤ 2 ^ 63 - 1 := Int.ediv_mul_le _ (by decide)
      omega
    have h3 : ((2 : Int) ^ 63 - 1) / 1000 ≥ 1000 := by decide
    omega
  · unfold Builtin.Str.tooLong
    rw [sizeLine_eq]
    exact decide_eq_false (by omega)
  · by_cases hn : n < 1
    · rw [if_pos hn]
      have e : n.toNat = 0 := by omega
      have e2 : repS z n.toNat = Str.empty := by rw [e]; rfl
      rw [e2] at q
      exact ⟨by decide, .str Str.empty, H, I.tok _, ⟨_, rfl⟩, q⟩
    · rw [if_neg hn]
      by_cases hc : (n == 1 || z.length == 0) = true
      · rw [if_pos hc]
        have e2 : repS z n.toNat = z := by
          simp only [Bool.or_eq_true, beq_iff_eq] at hc
          rcases hc with hc | hc
          · subst hc
            obtain ⟨a⟩ := z
            unfold repS repL
            simp
          · obtain ⟨a⟩ := z
            have ha : a = #[] := Array.eq_empty_of_size_eq_zero hc
            subst ha
            unfold repS repL
            simp
        rw [e2] at q
        exact ⟨.str z, H, I, ⟨_, rfl⟩, q⟩
      · rw [if_neg hc]
        have e3 : (⟨(List.replicate n.toNat z.cps).foldl (fun x y => x ++ y) #[]⟩ : Str) = repS z n.toNat := by
          have := foldl_cps z.cps n.toNat []
          rw [List.nil_append] at this
          unfold repS repL
          rw [← this]
        refine ⟨?_, .str (repS z n.toNat), H, I.tok _, ⟨_, by rw [← e3]⟩, q⟩
        show Array.size _ ≤ sizeLine
        have : (⟨(List.replicate n.toNat z.cps).foldl (fun x y => x ++ y) #[]⟩ : Str).cps.size = (repS z n.toNat).cps.size := by rw [e3]
        rw [this]
        show (repL n.toNat z.cps.toList).toArray.size ≤ sizeLine
        rw [List.size_toArray, hlenR, sizeLine_eq]
        have : n.toNat * z.length = z.length * n.toNat := Nat.mul_comm _ _
        omega
/-- t * n where the answer is t itself -/
theorem tup_mul_same (l : Addr) (items : Array Value) (n : Nat) (dd : Option Addr) (sl : Array (Option Value)) (x : Int) (u : Tok) (c0 : (decide (x < -(2 ^ 63)) || decide (x ≥ 2 ^ 63)) = false) (c1 : (items.isEmpty || x == 1) = true) :
    Meets (Builtin.«tuple.__mul__» ⟨[.ref l, .int x u], []⟩) (fun _ R s => s.heap.get? l = some { cls := .type "tuple", dict := dd, data := .seq items n, slots := sl } ∧ R (.ok (.ret (Value.ref l))) s) :=
  .of_wp fun prog w A R s h => by
    obtain ⟨hp, g, d, tk, os⟩ := s
    obtain ⟨hl, h⟩ := h
    have f1 := AutoSeq1.idx_int
    wp_walk using AutoSeq1.wpAny_loadPart' hl
    repeat (first
      | (refine wpAny_ite_false (decide_eq_false (by rw [c0]; exact Bool.false_ne_true)) ?_; wp_walk using AutoSeq1.wpAny_loadPart' hl)
      | (refine wpAny_ite_true (decide_eq_true c1) ?_; wp_walk using AutoSeq1.wpAny_loadPart' hl))
    exact ⟨_, rfl, h⟩
theorem op_tupsame {X : Cx} : OpR X (binaryOp .Mult) (fun x y H Q => ∃ l k xs, x = .ref l ∧ y = .int k ∧ SqT X.K H l xs ∧ (xs = [] ∨ k = 1) ∧ -1000 ≤ k ∧ k ≤ 1000 ∧ Q (.ref l) H) := fun pins s σ H x y v u Q I rx ry h => by
  obtain ⟨l, k, xs, rfl, rfl, hT, hne, h1, h2, q⟩ := h
  cases rx
  obtain ⟨t, rfl⟩ := ry
  obtain ⟨its, r, ⟨⟨cls, dd, data, sl⟩, ho, hc, n, hd⟩, hs⟩ := I.tuple hT
  simp only at hc hd
  subst hc hd
  have c0 : (decide (k < -(2 ^ 63)) || decide (k ≥ 2 ^ 63)) = false := by rw [decide_eq_false (by omega), decide_eq_false (by omega)]; rfl
  have c1 : (its.toArray.isEmpty || k == 1) = true := by
    rcases hne with e | e
    · subst e
      have : its = [] := List.eq_nil_of_length_eq_zero (by rw [← r.length]; rfl)
      subst this
      rfl
    · subst e; simp
  exact wpAny_binaryOp_repeat_ref (T := "tuple") (U := "int") (by decide) ⟨_, ho, rfl⟩ (fun s2 => typeIs_int s2 k t) noFill_tuple_mul PySem.F.fills_int_mul PySem.F.slot_int_rmul repeat_tuple PySem.F.slot_int_index.lookup
    (call_meets PySem.F.slot_int_rmul (typeIs_int s k t) PySem.F.entry_int_rmul (PySem.F.args_int_rmul_2 _ _) (int_rmul_tuple k t l its.toArray n dd sl)
      ⟨ho, rfl, ⟨_, ho, rfl⟩, call_meets PySem.F.slot_tuple_mul ⟨_, ho, rfl⟩ PySem.F.entry_tuple_mul (PySem.F.args_tuple_mul_2 _ _) (tup_mul_same l its.toArray n dd sl k t c0 c1) ⟨ho, ⟨.ref l, H, I, rfl, q⟩⟩⟩)
def mulM : M → M → Option M
  | .fz (.int i), .fz (.int j) => match mulC i j with
    | true => some (.fz (.int (i * j)))
    | false => none
  | .fz (.str z), .fz (.int n) => if 0 ≤ n ∧ n ≤ 1000 ∧ z.length ≤ 1000 then some (.fz (.str (repS z n.toNat))) else none
  | .fz (.tup ds), .fz (.int k) => if ds = [] ∨ k = 1 then (if -1000 ≤ k ∧ k ≤ 1000 then some (.fz (.tup ds)) else none) else if 2 ≤ k ∧ k ≤ 1000 ∧ ds.length ≤ 1000 then some (.fz (.tup (repL k.toNat ds))) else none
  | a, .fz (.int k) => match lstD a with
    | some ds => if -1000 ≤ k ∧ k ≤ 1000000 ∧ ds.length * k.toNat ≤ sizeLine then some (.lst ((repL k.toNat ds).map .fz)) else none
    | none => none
  | _, _ => none
abbrev mulG : FP := g2 mulM
theorem op2_mul {K : PySem.W.Frag} : Op2 K mulG (fun x y H Q => L2.rI CMul (fun i j => .int (i * j)) x y H Q ∨ ((∃ z n, x = .str z ∧ y = .int n ∧ 0 ≤ n ∧ n ≤ 1000 ∧ z.length ≤ 1000 ∧ Q (.str (repS z n.toNat)) H) ∨
    ((∃ l k xs, x = .ref l ∧ y = .int k ∧ SqT K H l xs ∧ (xs = [] ∨ k = 1) ∧ -1000 ≤ k ∧ k ≤ 1000 ∧ Q (.ref l) H) ∨ (rRepT K x y H Q ∨ rRep x y H Q)))) := fun x y H Q Ex p => by
  obtain ⟨F, a, b, m, fps, R, r1, r2, e, p⟩ := g2_at p
  unfold mulM at e
  split at e
  · rename_i i j
    cases hc : mulC i j with
    | false => rw [hc] at e; cases e
    | true =>
      rw [hc] at e; cases e
      obtain rfl := rep_int (repm_fz r1)
      obtain rfl := rep_int (repm_fz r2)
      refine .inl ⟨_, _, rfl, rfl, ?_, sp_flat R (.int _) p⟩
      simp only [mulC, Bool.or_eq_true, Bool.and_eq_true, decide_eq_true_eq] at hc
      exact hc
  · split at e
    · rename_i hl
      cases e
      obtain rfl := rep_str (repm_fz r1)
      obtain rfl := rep_int (repm_fz r2)
      exact .inr (.inl ⟨_, _, rfl, rfl, hl.1, hl.2.1, hl.2.2, sp_flat R (.str _) p⟩)
    · cases e
  · rename_i ds k
    obtain ⟨q, vs, rfl, hq, rs⟩ := tup_rep R.fr (repm_fz r1)
    obtain rfl := rep_int (repm_fz r2)
    split at e
    · rename_i hs
      split at e
      · rename_i hk
        cases e
        refine .inr (.inr (.inl ⟨q, k, vs, rfl, rfl, hq, ?_, hk.1, hk.2, sp_flat R (repm_fz r1) p⟩))
        rcases hs with hs | hs
        · subst hs
          exact .inl (List.eq_nil_of_length_eq_zero (by rw [rs.length]; rfl))
        · exact .inr hs
      · cases e
    · rename_i hs
      split at e
      · rename_i hk
        cases e
        refine .inr (.inr (.inr (.inl ⟨q, k, vs, rfl, rfl, hq, fun z => hs (.inl ?_), hk.1, hk.2.1, by rw [rs.length]; exact hk.2.2, sp_tup R (repL_reps rs _) p⟩)))
        subst z
        exact List.eq_nil_of_length_eq_zero (by rw [← rs.length]; rfl)
      · cases e
  · rename_i k _ _ _
    cases e1 : lstD a with
    | none => rw [e1] at e; cases e
    | some ds =>
      simp only [e1] at e
      split at e
      · rename_i hk
        cases e
        obtain ⟨q, vs, rfl, hq, rs⟩ := lstD_rep R.fr r1 e1
        obtain rfl := rep_int (repm_fz r2)
        exact .inr (.inr (.inr (.inr ⟨q, k, vs, rfl, rfl, hq, by omega, by omega, by rw [rs.length]; exact hk.2.2, sp_lst R (repL_reps rs _) p⟩)))
      · cases e
  · cases e
theorem e_mul {X : Cx} {W : WX} {a b : Expr} {fa fb : FE} {pos : Pos} (ha : PE X a (rE X.K W fa)) (hb : PE X b (rE X.K W fb)) : PE X (.BinOp a .Mult b pos) (rE X.K W (callE mulG (arg2 fa fb))) := e_op (op_mul.or (op_mulstr.or (op_tupsame.or (op_repT.or op_rep)))) op2_mul ha hb
end Ink
set_option Elab.async false
set_option linter.all false
set_option maxRecDepth 100000
namespace Ink
open PySem PySem.Spec PyProof.Rows L2 LamX
abbrev noTab : Obj := { cls := .none, data := .fields #[] }
theorem law_run {P : Program} {w : World} {K : PySem.W.Frag} {mg mb : Str → Option Value} {CX : CXT} {fa a : Addr} {cs : List (Addr × Addr)} {s1 : Shared} {vs : List Value} {ns : List Int}
    (kin : K.In s1.heap) (gl : s1.heap.Ns mainGlobals mg) (bu : s1.heap.Ns builtinsNs mb) (bb : ∀ x : Str, x ≠ "__name__" → mb x = bootBuiltins x) (lim : s1.heap.NoLimit) (gens : s1.gens = #[])
    (tab : ∀ p ∈ cs, s1.heap.get? p.2 = some noTab) (ntab : ∀ p ∈ cs, K.lookup p.2 = none) (cod : ∀ p ∈ cs, PySem.W.CodeHd s1.heap p.1 p.2)
    (bm : ∃ (m : Addr) (ob : Obj), mg "__builtins__" = some (.ref m) ∧ m ≠ builtinsNs ∧ s1.heap.get? m = some ob ∧ ob.cls = .type "module" ∧ ob.dict = some builtinsNs ∧ ob.data = .plain)
    (scr : s1.heap.get? a = some { cls := .type "list", data := .seq vs.toArray }) (hin : IntsAre vs ns) (len : ns.length ≤ sizeLine)
    (run : ∀ (base : Heap) (H : Hp), K.In base → base.Ns mainGlobals mg → (∀ p ∈ cs, TabB base mg p.1 p.2) → (∀ p ∈ cs, H p.2 = some (.tbl #[])) → (∀ b ps, H b = some (.tbl ps) → ∃ p ∈ cs, p.2 = b) → SqL K H a (ns.map V.int) → Env0 P w K mg base callerA [] s1 H →
      codeAny (model P w) callerA (.call (.ref fa) ⟨[.ref a], []⟩) (CR CX [] P w H s1 (fun v _ => v = .bl true) (fun _ _ _ => False)) s1)
    (nox : ∀ H e s', CX [] H s1 (fun _ _ _ => False) e s' → False) :
    codeAny (model P w) callerA (.call (.ref fa) ⟨[.ref a], []⟩) (fun r s' => r = .ok (.ret (.bool true)) ∧ OldK s1.heap s'.heap ∧ s'.os = s1.os ∧ AllBare s'.gens) s1 := by
  classical
  obtain ⟨ta, hta⟩ : ∃ ta, ta = cs.map (·.2) := ⟨_, rfl⟩
  have mem : ∀ p ∈ cs, p.2 ∈ ta := fun p hp => by rw [hta]; exact List.mem_map.mpr ⟨p, hp, rfl⟩
  have mem' : ∀ b ∈ ta, ∃ p ∈ cs, p.2 = b := fun b hb => by rw [hta] at hb; exact List.mem_map.mp hb
  have tobj : ∀ b ∈ ta, s1.heap.get? b = some noTab := fun b hb => by
    obtain ⟨p, hp, rfl⟩ := mem' b hb
    exact tab p hp
  have ant : a ∉ ta := fun z => by
    have q := tobj a z
    rw [scr] at q
    have y : (Data.seq vs.toArray _ : Data) = .fields #[] := congrArg Obj.data (Option.some.inj q)
    cases y
  have rv := vals_ints hin
  have lv := hin.length
  obtain ⟨so, hso⟩ : ∃ so : Obj, so = { cls := .type "list", data := .seq vs.toArray } := ⟨_, rfl⟩
  obtain ⟨H, hH⟩ : ∃ H : Hp, H = fun b => if b ∈ ta then some (.tbl #[]) else if b = a ∧ K.lookup a = none then some (.frz so (.lst (ns.map V.int))) else none := ⟨_, rfl⟩
  have Ht : ∀ b ∈ ta, H b = some (.tbl #[]) := fun b hb => by rw [hH]; exact if_pos hb
  have Ha : K.lookup a = none → H a = some (.frz so (.lst (ns.map V.int))) := fun h => by rw [hH]; exact (if_neg ant).trans (if_pos ⟨rfl, h⟩)
  have Hn : ∀ b, b ∉ ta → ¬ (b = a ∧ K.lookup a = none) → H b = none := fun b h1 h2 => by rw [hH]; exact (if_neg h1).trans (if_neg h2)
  have Hc : ∀ b u, H b = some u → (b ∈ ta ∧ u = .tbl #[]) ∨ (b = a ∧ K.lookup a = none ∧ u = .frz so (.lst (ns.map V.int))) := fun b u e => by
    by_cases h1 : b ∈ ta
    · rw [Ht b h1] at e; exact .inl ⟨h1, (Option.some.inj e).symm⟩
    · by_cases h2 : b = a ∧ K.lookup a = none
      · rw [h2.1, Ha h2.2] at e; exact .inr ⟨h2.1, h2.2, (Option.some.inj e).symm⟩
      · rw [Hn b h1 h2] at e; cases e
  have hok : HOk P w H s1.heap := fun b u e => by
    rcases Hc b u e with ⟨h1, rfl⟩ | ⟨rfl, _, rfl⟩
    · exact tobj b h1
    · rw [hso]
      exact ⟨scr, by rw [List.length_map]; exact len, vs, _, rv, scr⟩
  have sq : SqL K H a (ns.map V.int) := by
    cases hk : K.lookup a with
    | none => exact .inl (.inr ⟨so, Ha hk⟩)
    | some o =>
      have e := kin a o hk
      rw [scr] at e; cases e
      exact .inr ⟨_, vs.toArray, _, hk, rfl, rfl, rfl, by rw [List.size_toArray, lv]; exact len, by simpa using rv⟩
  -- what is not tracked
  have free : ∀ {b : Addr} {o : Obj}, s1.heap.get? b = some o → o.data ≠ .fields #[] → (∀ xs n, o.data ≠ .seq xs n) → H b = none := fun {b o} e h1 h2 => Hn b
    (fun z => by rw [tobj b z] at e; cases e; exact h1 rfl) fun z => by
      rw [z.1, scr] at e; cases e
      exact h2 _ _ rfl
  have at_ : ∀ {b : Addr} {o : Obj}, s1.heap.get? b = some o → H b = none → (hidT s1.heap H).get? b = some o := fun e n => hidT_get e n
  have ns_ : ∀ {b : Addr} {m : Str → Option Value}, s1.heap.Ns b m → (hidT s1.heap H).Ns b m := fun ⟨o, es, ep, e, d, r⟩ => ⟨o, es, ep, at_ e (free e (by rw [d]; exact nofun) (by rw [d]; exact nofun)), d, r⟩
  have kin' : K.In (hidT s1.heap H) := fun b o e => at_ (kin b o e) (Hn b (fun z => by
    obtain ⟨p, hp, rfl⟩ := mem' b z
    rw [ntab p hp] at e; cases e) fun z => by
      rw [z.1, z.2] at e; cases e)
  have tb : ∀ p ∈ cs, TabB (hidT s1.heap H) mg p.1 p.2 := fun p hp => by
    have ht := tab p hp
    refine ⟨?_, ?_, fun z => ?_⟩
    · obtain ⟨o, us, file, tf, flags, tg, inF, text, tt, e1, r1, r2, r3, rest⟩ := cod p hp
      exact ⟨o, us, file, tf, flags, tg, inF, text, tt, at_ e1 (free e1 (fun z => by rw [r2] at z; cases z; simp at r3) (by rw [r2]; exact nofun)), r1, r2, r3, rest⟩
    · obtain ⟨m, ob, b1, b2, b3, b4, b5, b6⟩ := bm
      refine ⟨m, ob, b1, b2, fun q => ?_, fun q => ?_, at_ b3 (free b3 (by rw [b6]; exact nofun) (by rw [b6]; exact nofun)), b4, b5, b6⟩
      · obtain ⟨o, es, ep, e, hd, _⟩ := gl
        rw [q, e] at b3; cases b3
        rw [hd] at b6; cases b6
      · rw [q, ht] at b3; cases b3
        cases b6
    · obtain ⟨o, es, ep, e, hd, _⟩ := gl
      rw [z, ht] at e; cases e
      cases hd
  have e0 : Env0 P w K mg (hidT s1.heap H) callerA [] s1 H := ⟨rfl, ⟨kin', ns_ gl, ⟨mb, ns_ bu, bb⟩, let ⟨mc, h1, h2⟩ := lim; ⟨mc, ns_ h1, h2⟩⟩, fun b o e => of_hidT e, Nat.le_of_eq (hidT_size _ _), trivial, (fun b hb => by cases (show b ∈ ([] : List Addr) from hb)), hok, .of_eq gens⟩
  refine codeAny_mono (run _ H kin' (ns_ gl) tb (fun p hp => Ht _ (mem p hp)) (fun b ps e => ?_) sq e0) fun r s' h => ?_
  · rcases Hc b _ e with ⟨h1, _⟩ | ⟨_, _, z⟩
    · exact mem' b h1
    · cases z
  cases r with
  | error e => exact (nox H e s' h).elim
  | ok fl =>
    cases fl with
    | next => exact h.elim
    | brk => exact h.elim
    | cont => exact h.elim
    | ret u =>
      obtain ⟨v, H', os, bare, un, hok', rr, q⟩ := h
      cases (show v = .bl true from q)
      obtain rfl : u = Value.bool true := rr
      have old : ∀ b o, b ∉ ta → s1.heap.get? b = some o → s'.heap.get? b = some o := fun b o nb e => by
        cases z : H b with
        | none => exact un.keep b o e z (fun y => by cases (show b ∈ ([] : List Addr) from y)) (by simp)
        | some y =>
          rcases Hc b y z with ⟨h1, _⟩ | ⟨rfl, _, rfl⟩
          · exact absurd h1 nb
          · obtain ⟨e1, _⟩ := hok b _ z
            obtain ⟨e2, _⟩ := hok' b _ (un.frzs b so _ z)
            rw [e] at e1; cases e1
            exact e2
      have grown : ∀ p ∈ cs, ∃ more : Array Value, s'.heap.get? p.2 = some { cls := .none, data := .fields more } := fun p hp => by
        obtain ⟨more, z⟩ := un.tbls p.2 #[] (Ht _ (mem p hp))
        exact ⟨_, hok' p.2 _ z⟩
      refine ⟨rfl, ⟨fun b o e => ?_, fun b o e => ?_⟩, os, bare⟩
      · by_cases hb : b ∈ ta
        · obtain ⟨p, hp, rfl⟩ := mem' b hb
          obtain ⟨more, hm⟩ := grown p hp
          rw [tab p hp] at e; cases e
          exact .inr (.inl ⟨((cod p hp).tab (tab p hp)).isCodeTable, rfl, #[], more, rfl, by rw [Array.empty_append]; exact hm⟩)
        · exact .inl (old b o hb e)
      · by_cases hb : b ∈ ta
        · obtain ⟨p, hp, rfl⟩ := mem' b hb
          obtain ⟨more, hm⟩ := grown p hp
          exact ⟨_, hm⟩
        · exact ⟨o, old b o hb e⟩
end Ink
set_option Elab.async false
set_option linter.all false
set_option maxRecDepth 100000
namespace Ink
open PySem L2
theorem e_globI {X : Cx} {W : WX} {x : Str} {i : Int} {pos : Pos} (hg : Gl X x) (hm : ∃ t, X.mg x = some (.int i t)) (hd : (x == ("__debug__" : Str)) = false := by decide) : PE X (.Name x pos) (rE X.K W (cE (.int i))) := by
  obtain ⟨t, e⟩ := hm
  exact e_glob (v := .int i) hg e ⟨t, rfl⟩ (fun _ => .int i) hd
theorem e_globS {X : Cx} {W : WX} {x z : Str} {pos : Pos} (hg : Gl X x) (hm : ∃ t, X.mg x = some (.str z t)) (hd : (x == ("__debug__" : Str)) = false := by decide) : PE X (.Name x pos) (rE X.K W (cE (.str z))) := by
  obtain ⟨t, e⟩ := hm
  exact e_glob (v := .str z) hg e ⟨t, rfl⟩ (fun _ => .str z) hd
theorem no_sp {K : PySem.W.Frag} {vs : List V} {H : Hp} {Q : VK} {Ex : XK} (h : spOf K (fun _ => none) vs H Q Ex) : False := by
  obtain ⟨F, ms, fps, R, p⟩ := h
  exact p
theorem fn_none {P : Program} {w : World} {K : PySem.W.Frag} {mg : Str → Option Value} {base : Heap} {x qual : Str} {params : Arguments} {body : List Stmt} {scope : Scope} {f : Addr} {fd : FuncData} {ps : List Str} {k : Nat}
    (F : FunD K x qual params body scope [] [] f fd) (hm : mg x = some (.ref f))
    (hbd : ∀ (kV doc pm : Value) (an : Option Addr) (cdv ct : Value) (us : List Value), us.length = ps.length → bindArgs (PySem.W.fnOf x qual params body scope .none kV doc pm an cdv ct) ⟨us, []⟩ = pure (ps.zip us)) :
    Fn P w K mg base k x ps (fun _ => none) :=
  ⟨f, fd, ⟨fun vs H Q E h => (no_sp h).elim, fun A outer s H args us vs Q E _ _ _ _ h => (no_sp h).elim⟩, hm, F.kp, F.bindsN hbd⟩
/-- a def that is called where no repr is under way -/
def FnG (P : Program) (w : World) (K : PySem.W.Frag) (mg : Str → Option Value) (base : Heap) (CX : CXT) (k : Nat) (f : Addr) (fd : FuncData) (ps : List Str) (sp : Sp) : Prop :=
  ∀ (A : Around) (outer : List Env) (s : Shared) (H : Hp) (args : Args) (us : List Value) (vs : List V) (Q : VK) (E : XK), A.guards = some [] → Room k A → Env0 P w K mg base A outer s H → BindsTo s fd args (ps.zip us) → Vals vs us → sp vs H Q E →
    codeAny (model P w) A (.call (.ref f) args) (CR CX outer P w H s Q E) s
/-- the law's own def: it makes lambdas, so its code object is told -/
theorem fn_mkO {P : Program} {w : World} {K : PySem.W.Frag} {mg : Str → Option Value} {base : Heap} {x qual : Str} {params : Arguments} {body : List Stmt} {scope : Scope} {f : Addr} {fd : FuncData} {N ps : List Str} {k np nl : Nat} {asg : List Nat} {fb : FS}
    (F : FunD K x qual params body scope [] [] f fd) (hf : f = He.ga K x) (S : FnScope N ps scope) (hN : N.length = np + nl) (hp : ps.length = np)
    (hb : ∀ (cdv : Value) (A : Around) (outer : List Env) (s : Shared) (H : Hp) (Ex : XK), cdv = .ref (He.codeOf K (x, none)) → A.guards = some [] → Room k (A.deeper (PyProof.Rows.envOfC qual scope s.heap.objs.size f cdv)) → PSs (cxOf (L2.CX P w) P w K mg base N qual scope f cdv A outer s H Ex) body (rS K (fun cls d _ H' => Ex cls d H') (pinsOf np asg) fb)) :
    FnG P w K mg base (L2.CX P w) (k + 1) f fd ps (spOf K (fnM np nl asg fb)) := by
  obtain ⟨oc, od, dV, kV, doc, pm, an, cdv, ct, osl, e1, lk, hc, _, _⟩ := F.ex
  subst e1
  obtain ⟨c, hc1⟩ := He.codeIn_ref hc
  have hco : cdv = .ref (He.codeOf K (x, none)) := by
    rw [hc1]
    subst hf
    rw [He.codeOf_eq (p := (x, none)) lk hc1]
  intro A outer s H args us vs Q E hg hr e0 hbd rv h
  have hl : vs.length = ps.length := by rw [(fn_body hN h).1, hp]
  exact LamX.run_ofS lk hc S hr e0 hbd rv hl fun hr' => ⟨_, hb cdv A outer s H E hco hg hr', (fn_body hN h).2⟩
/-- the law's promise from its mirror -/
theorem sp_law {K : PySem.W.Frag} {H : Hp} {a : Addr} {ns : List Int} {g : FP} {ms : E} (hg : g [.fz (.scr ns)] = some (.ok (.fz (.bl true)) ms)) (hT : ∀ p ∈ TL K, H p.1 = some (.tbl #[])) (hO : ∀ b ps, H b = some (.tbl ps) → ∃ p ∈ TL K, p.1 = b) (hS : SqL K H a (ns.map V.int)) : spOf K g [.ref a] H (fun v _ => v = .bl true) (fun _ _ _ => False) := by
  have tb : ∀ p ∈ TL K, LamX.TabS H p.1 p.2 := fun p hp => LamX.TabS.nil (hT p hp)
  have fin : ∀ F : Hp, Sub F H → (∀ b ps, F b ≠ some (.tbl ps)) → SqL K F a (ns.map V.int) → spOf K g [.ref a] H (fun v _ => v = .bl true) (fun _ _ _ => False) := fun F0 sF0 nF0 hF0 => by
    obtain ⟨F, hFd⟩ : ∃ F : Hp, F = fun b => match H b with | some (HO.tup vs) => some (HO.tup vs) | _ => F0 b := ⟨_, rfl⟩
    have tpF : ∀ b vs, H b = some (.tup vs) → F b = some (.tup vs) := fun b vs h => by
      rw [hFd]
      show (match H b with | some (HO.tup vs) => some (HO.tup vs) | _ => F0 b) = _
      rw [h]
    have elF : ∀ b, (∀ vs, H b ≠ some (.tup vs)) → F b = F0 b := fun b h => by
      rw [hFd]
      show (match H b with | some (HO.tup vs) => some (HO.tup vs) | _ => F0 b) = F0 b
      cases e : H b with
      | none => rfl
      | some o => cases o with
        | tup vs => exact (h vs e).elim
        | _ => rfl
    have sF : Sub F H := fun b o h => by
      by_cases q : ∃ vs, H b = some (.tup vs)
      · obtain ⟨vs, q⟩ := q
        rw [tpF b vs q] at h; rw [q]; exact h
      · rw [elF b fun vs z => q ⟨vs, z⟩] at h; exact sF0 b o h
    have s0 : Sub F0 F := fun b o h => by
      by_cases q : ∃ vs, H b = some (.tup vs)
      · obtain ⟨vs, q⟩ := q
        have := sF0 b o h
        rw [tpF b vs q]; rw [q] at this; exact this
      · rw [elF b fun vs z => q ⟨vs, z⟩]; exact h
    have nF : ∀ b ps, F b ≠ some (.tbl ps) := fun b ps h => by
      by_cases q : ∃ vs, H b = some (.tup vs)
      · obtain ⟨vs, q⟩ := q
        rw [tpF b vs q] at h; cases h
      · rw [elF b fun vs z => q ⟨vs, z⟩] at h; exact nF0 b ps h
    have hF : SqL K F a (ns.map V.int) := hF0.imp (fun z => z.imp (s0 _ _) fun ⟨o, z⟩ => ⟨o, s0 _ _ z⟩) id
    refine ⟨F, [.fz (.scr ns)], fun _ => [], ⟨sF, rfl, fun i m h => ?_, fun _ _ => rfl, (fun _ _ _ b hb => by cases hb), ⟨nF, tb, hO, fun p hp ps h pos cv hc => by
      rw [hT p hp] at h; cases h
      have z : codeAmong pos [] = some cv := hc
      simp [codeAmong] at z, tpF⟩⟩, ?_⟩
    · match i, h with
      | 0, h =>
        cases h
        exact ⟨.ref a, rfl, RepM.fz (.scr hF)⟩
      | i + 1, h => simp at h
    · rw [hg]
      exact fun v F' H' fps' fp R r _ _ => rep_bl (repm_fz r)
  rcases hS with h | h
  · refine fin (fun b => if b = a then H b else none) (fun b o e => ?_) (fun b ps e => ?_) (.inl ?_)
    · by_cases z : b = a
      · simp only [if_pos z] at e; exact e
      · simp only [if_neg z] at e; cases e
    · by_cases z : b = a
      · simp only [if_pos z] at e
        rw [z] at e
        rcases h with h | ⟨o, h⟩ <;> rw [h] at e <;> cases e
      · simp only [if_neg z] at e; cases e
    · rcases h with h | ⟨o, h⟩
      · exact .inl (by simp only [if_true]; exact h)
      · exact .inr ⟨o, by simp only [if_true]; exact h⟩
  · exact fin (fun _ => none) (fun b o e => by cases e) (fun b ps e => by cases e) (.inr h)
theorem walkT {l : PySem.W.OpenLaw} {n k : Nat} {q : Program} {loose : List Str} {XP : (Str → Option Value) → Heap → Prop} {YP : World → Heap → Prop} {d : DefRec} {CX : World → CXT} {x : Str} (hn : l.most = some n) (hn2 : n ≤ sizeLine) (hdf : d.params.defaults = []) (hr : Room k callerA)
    (F : ∀ (w : World) (mg : Str → Option Value) (fa : Addr) (h : Heap), YP w h → h.Ns PySem.mainGlobals mg → mg d.name = some (.ref fa) → ∃ (K : PySem.W.Frag) (fd : FuncData) (cs : List (Addr × Addr)) (sp : Sp), K.In h ∧ (∀ p ∈ cs, h.get? p.2 = some noTab) ∧ (∀ p ∈ cs, K.lookup p.2 = none) ∧ (∀ p ∈ cs, PySem.W.CodeHd h p.1 p.2) ∧
      (∀ (s : Shared) (u : Value), BindsTo s fd ⟨[u], []⟩ [(x, u)]) ∧ (∀ (H : Hp) (a : Addr) (ns : List Int), ns.length ≤ n → (∀ p ∈ cs, H p.2 = some (.tbl #[])) → (∀ b ps, H b = some (.tbl ps) → ∃ p ∈ cs, p.2 = b) → SqL K H a (ns.map V.int) → sp [.ref a] H (fun v _ => v = .bl true) fun _ _ _ => False) ∧ ∀ base : Heap, K.In base → base.Ns PySem.mainGlobals mg → (∀ p ∈ cs, LamX.TabB base mg p.1 p.2) → FnG l.prog w K mg base (CX w) k fa fd [x] sp)
    (hCX : ∀ (w : World) (H : Hp) (s : Shared) (e : Value) (s' : Shared), CX w [] H s (fun _ _ _ => False) e s' → False) : PySem.W.WalkO q loose XP YP l.row.toRowW d [] (fun f vs => PySem.call f vs) := by
  refine Att.attach_call hn hdf ?_
  intro w s0 s1 mg mb fa o pm cd doc a vs ns G Y _ _ _ hm hob hin hle hge
  have z := F w mg fa _ Y G.T.g hm
  obtain ⟨K, fd, cs, sp, kx, hT, nT, hC, hbd, hs, hf⟩ := z
  refine law_run kx G.T.g G.T.b G.T.builtins G.T.nolimit hge hT nT hC G.T.bmain hob hin (Nat.le_trans hle hn2) (fun base H kb nb tb hH hO hS e0 => ?_) fun H e s' => hCX w H s1 e s'
  exact hf base kb nb tb callerA [] s1 H ⟨[.ref a], []⟩ [.ref a] [.ref a] _ _ rfl hr e0 (hbd s1 (.ref a)) (.cons rfl .nil) (hs H a ns hle hH hO hS)
theorem noCX {P : Program} {w : World} {H : Hp} {s : Shared} {e : Value} {s' : Shared} (h : L2.CX P w [] H s (fun _ _ _ => False) e s') : False := by
  obtain ⟨_, _, _, _, _, _, _, _, _, _, _, _, z⟩ := h
  exact z
end Ink
set_option Elab.async false
set_option linter.all false
set_option maxRecDepth 100000
namespace Ink
open PySem L2
section
variable {X : Cx} {W : WX} {a b : Expr} {fa fb : FE} {pos : Pos} {g : FP}
theorem t_cmp {op : CmpOp} {r : R2} (ho : OpR X (compareOp op) r) (hp : Op2 X.K g r) (ha : PE X a (rE X.K W fa)) (hb : PE X b (rE X.K W fb)) (hm : behindInMarks op b = false) : PT X (.Compare a [op] [b] pos) (rT X.K W (tst (callE g (arg2 fa fb)))) :=
  PT_mono (pt_cmpR ho ha hb hm) fun σ H Q z => r_two hp σ H _ (r_tst σ H Q z)
theorem t_lt (ha : PE X a (rE X.K W fa)) (hb : PE X b (rE X.K W fb)) : PT X (.Compare a [.Lt] [b] pos) (rT X.K W (tst (callE ltG (arg2 fa fb)))) := t_cmp op_lt (op2_int0 fun i j F => .bl _) ha hb (nomark _)
theorem t_le (ha : PE X a (rE X.K W fa)) (hb : PE X b (rE X.K W fb)) : PT X (.Compare a [.LtE] [b] pos) (rT X.K W (tst (callE leG (arg2 fa fb)))) := t_cmp op_le (op2_int0 fun i j F => .bl _) ha hb (nomark _)
theorem t_gt (ha : PE X a (rE X.K W fa)) (hb : PE X b (rE X.K W fb)) : PT X (.Compare a [.Gt] [b] pos) (rT X.K W (tst (callE gtG (arg2 fa fb)))) := t_cmp op_gt (op2_int0 fun i j F => .bl _) ha hb (nomark _)
theorem t_ge (ha : PE X a (rE X.K W fa)) (hb : PE X b (rE X.K W fb)) : PT X (.Compare a [.GtE] [b] pos) (rT X.K W (tst (callE geG (arg2 fa fb)))) := t_cmp op_ge (op2_int0 fun i j F => .bl _) ha hb (nomark _)
theorem t_isN (ha : PE X a (rE X.K W fa)) (hb : PE X b (rE X.K W fb)) : PT X (.Compare a [.Is] [b] pos) (rT X.K W (tst (callE (g2 isNM) (arg2 fa fb)))) := t_cmp op_isN (fun x y H Q Ex p => by
  obtain ⟨F, a, b, m, fps, R, r1, r2, e, p⟩ := g2_at p
  unfold isNM at e
  split at e
  · cases e
    exact ⟨rep_non (repm_fz r2), sp_flat R (by rw [isNon_rep r1]; exact .bl _) p⟩
  · cases e) ha hb (nomark _)
theorem t_notN (ha : PE X a (rE X.K W fa)) (hb : PE X b (rE X.K W fb)) : PT X (.Compare a [.IsNot] [b] pos) (rT X.K W (tst (callE (g2 notNM) (arg2 fa fb)))) := t_cmp op_notN (fun x y H Q Ex p => by
  obtain ⟨F, a, b, m, fps, R, r1, r2, e, p⟩ := g2_at p
  unfold notNM at e
  split at e
  · cases e
    exact ⟨rep_non (repm_fz r2), sp_flat R (by rw [isNon_rep r1]; exact .bl _) p⟩
  · cases e) ha hb (nomark _)
theorem t_eq (hu : X.A.units + 64 < cLine) (ha : PE X a (rE X.K W fa)) (hb : PE X b (rE X.K W fb)) : PT X (.Compare a [.Eq] [b] pos) (rT X.K W (tst (callE (g2 eqM) (arg2 fa fb)))) := t_cmp (op_eq.or (op_eqD hu)) (fun x y H Q Ex p => by
  obtain ⟨F, a, b, m, fps, R, r1, r2, e, p⟩ := g2_at p
  unfold eqM at e
  cases ek : eqB a b with
  | none => rw [ek] at e; cases e
  | some k =>
    rw [ek] at e; cases e
    have q := sp_flat R (Rep.bl k) p
    rcases eqB_at R.fr r1 r2 ek with ⟨h, rfl⟩ | ⟨d, e, h1, h2, h3, h4, rfl⟩
    · exact .inl ⟨h, q⟩
    · exact .inr ⟨d, e, h1, h2, h3, h4, q⟩) ha hb (nomark _)
theorem t_ne (hu : X.A.units + 64 < cLine) (ha : PE X a (rE X.K W fa)) (hb : PE X b (rE X.K W fb)) : PT X (.Compare a [.NotEq] [b] pos) (rT X.K W (tst (callE (g2 neM) (arg2 fa fb)))) := t_cmp (op_ne.or (op_neD hu)) (fun x y H Q Ex p => by
  obtain ⟨F, a, b, m, fps, R, r1, r2, e, p⟩ := g2_at p
  unfold neM at e
  cases ek : eqB a b with
  | none => rw [ek] at e; cases e
  | some k =>
    rw [ek] at e; cases e
    have q := sp_flat R (Rep.bl (!k)) p
    rcases eqB_at R.fr r1 r2 ek with ⟨h, rfl⟩ | ⟨d, e, h1, h2, h3, h4, rfl⟩
    · exact .inl ⟨h, q⟩
    · exact .inr ⟨d, e, h1, h2, h3, h4, q⟩) ha hb (nomark _)
end
end Ink
set_option Elab.async false
set_option linter.all false
set_option maxRecDepth 100000
namespace Ink
open PySem L2
def kSeq (g : FS) (o : Option Fl) : Option Fl := match o with
  | some (.nx env1) => g env1
  | o => o
@[simp] theorem kSeq_nx {g : FS} {env1 : E} : kSeq g (some (.nx env1)) = g env1 := (rfl)
@[simp] theorem kSeq_rt {g : FS} {m : M} {env1 : E} : kSeq g (some (.rt m env1)) = some (.rt m env1) := (rfl)
@[simp] theorem kSeq_bk {g : FS} {env1 : E} : kSeq g (some (.bk env1)) = some (.bk env1) := (rfl)
@[simp] theorem kSeq_ct {g : FS} {env1 : E} : kSeq g (some (.ct env1)) = some (.ct env1) := (rfl)
@[simp] theorem kSeq_ex {g : FS} {x : Xc} {env1 : E} : kSeq g (some (.ex x env1)) = some (.ex x env1) := (rfl)
@[simp] theorem ev_seqS {env : E} {f g : FS} : seqS f g env = kSeq g (f env) := (rfl)
@[simp] theorem ev_skip {env : E} : skipS env = some (.nx env) := (rfl)
def kIf (f : FS) (g : FS) (o : Option (Out Bool)) : Option Fl := match o with
  | some (.ok true env1) => f env1
  | some (.ok false env1) => g env1
  | some (.ex x env1) => some (.ex x env1)
  | _ => none
@[simp] theorem kIf_0 {f : FS} {g : FS} {env1 : E} : kIf f g (some (.ok true env1)) = f env1 := (rfl)
@[simp] theorem kIf_1 {f : FS} {g : FS} {env1 : E} : kIf f g (some (.ok false env1)) = g env1 := (rfl)
@[simp] theorem kIf_2 {f : FS} {g : FS} {x : Xc} {env1 : E} : kIf f g (some (.ex x env1)) = some (.ex x env1) := (rfl)
@[simp] theorem ev_ifS {env : E} {c : FT} {f g : FS} : ifS c f g env = kIf f g (c env) := by
  unfold ifS kIf
  cases c env with
  | none => rfl
  | some o => cases o with
    | ok b e => cases b <;> rfl
    | ex x e => rfl
def kRet  (o : Option (Out Av)) : Option Fl := match o with
  | some (.ok (.tm m) env1) => some (.rt m env1)
  | some (.ex x env1) => some (.ex x env1)
  | _ => none
@[simp] theorem kRet_0  {m : M} {env1 : E} : kRet  (some (.ok (.tm m) env1)) = some (.rt m env1) := (rfl)
@[simp] theorem kRet_1  {x : Xc} {env1 : E} : kRet  (some (.ex x env1)) = some (.ex x env1) := (rfl)
@[simp] theorem ev_retS {env : E} {f : FE} : retS f env = kRet (f env) := by
  unfold retS kRet
  cases f env with
  | none => rfl
  | some o => cases o with
    | ok a e => cases a <;> rfl
    | ex x e => rfl
@[simp] theorem ev_retV {env : E} {i : Nat} : retV i env = match env[i]? with
  | some (some m) => some (.rt m (env.set i none))
  | _ => none := (rfl)
@[simp] theorem ev_retN {env : E} : retN env = some (.rt (.fz .non) env) := (rfl)
def kExp  (o : Option (Out Av)) : Option Fl := match o with
  | some (.ok a env1) => some (.nx env1)
  | some (.ex x env1) => some (.ex x env1)
  | _ => none
@[simp] theorem kExp_0  {a : Av} {env1 : E} : kExp  (some (.ok a env1)) = some (.nx env1) := (rfl)
@[simp] theorem kExp_1  {x : Xc} {env1 : E} : kExp  (some (.ex x env1)) = some (.ex x env1) := (rfl)
@[simp] theorem ev_exprS {env : E} {f : FE} : exprS f env = kExp (f env) := by
  unfold exprS kExp bindS
  cases f env with
  | none => rfl
  | some o => cases o <;> rfl
def kSt  (o : Option E) : Option Fl := match o with
  | some env1 => some (.nx env1)
  | _ => none
@[simp] theorem kSt_0  {env1 : E} : kSt  (some env1) = some (.nx env1) := (rfl)
def kAsg (g : FG) (o : Option (Out Av)) : Option Fl := match o with
  | some (.ok (.tm m) env1) => kSt (g m env1)
  | some (.ex x env1) => some (.ex x env1)
  | _ => none
@[simp] theorem kAsg_0 {g : FG} {m : M} {env1 : E} : kAsg g (some (.ok (.tm m) env1)) = kSt (g m env1) := (rfl)
@[simp] theorem kAsg_1 {g : FG} {x : Xc} {env1 : E} : kAsg g (some (.ex x env1)) = some (.ex x env1) := (rfl)
@[simp] theorem ev_asgS {env : E} {f : FE} {g : FG} : asgS f g env = kAsg g (f env) := by
  unfold asgS kAsg bindS
  cases f env with
  | none => rfl
  | some o => cases o with
    | ok a e => cases a with
      | tm m => simp only []; unfold kSt; cases g m e <;> rfl
      | sl i => rfl
    | ex x e => rfl
@[simp] theorem ev_nmG {env : E} {i : Nat} {m : M} : nmG i m env = some (env.set i (some m)) := (rfl)
@[simp] theorem ev_tupG {env : E} {gs : List FG} {ds : List D} : tupG gs (.fz (.tup ds)) env = eachG gs (ds.map M.fz) env := (rfl)
@[simp] theorem ev_tupG2 {env : E} {gs : List FG} {ds : List M} : tupG gs (.tup ds) env = eachG gs ds env := (rfl)
def kEach (gs : List FG) (ds : List M) (o : Option E) : Option E := match o with
  | some env1 => eachG gs ds env1
  | none => none
@[simp] theorem kEach_0 {gs : List FG} {ds : List M} {env1 : E} : kEach gs ds (some env1) = eachG gs ds env1 := (rfl)
@[simp] theorem ev_each0 {env : E} : eachG [] [] env = some env := (rfl)
@[simp] theorem ev_each1 {env : E} {g : FG} {gs : List FG} {d : M} {ds : List M} : eachG (g :: gs) (d :: ds) env = kEach gs ds (g d env) := by
  rw [eachG]
  unfold kEach
  cases g d env <;> rfl
@[simp] theorem ev_cE {env : E} {d : D} : cE d env = some (.ok (.tm (.fz d)) env) := (rfl)
@[simp] theorem ev_vE {env : E} {i : Nat} : vE i env = match env[i]? with
  | some (some _) => some (.ok (.sl i) env)
  | _ => none := (rfl)
@[simp] theorem ev_take1 {env : E} {m : M} : takeA (.tm m) env = some (m, env) := (rfl)
def kTk2 (i : Nat) (env : E) (o : Option D) : Option (M × E) := match o with
  | some d => some (.fz d, env.set i (some (.fz d)))
  | none => none
@[simp] theorem kTk2_0 {i : Nat} {env : E} {d : D} : kTk2 i env (some d) = some (.fz d, env.set i (some (.fz d))) := (rfl)
@[simp] theorem ev_take2 {env : E} {i : Nat} : takeA (.sl i) env = match env[i]? with
    | some (some m) => kTk2 i env (frz m)
    | _ => none := by
  unfold takeA kTk2
  rfl
def kTk1 (o : Option (M × E)) : Option (Out Av) := match o with
  | some (m, env2) => some (.ok (.tm m) env2)
  | none => none
@[simp] theorem kTk1_0 {m : M} {env2 : E} : kTk1 (some (m, env2)) = some (.ok (.tm m) env2) := (rfl)
def kTk  (o : Option (Out Av)) : Option (Out Av) := match o with
  | some (.ok a env1) => kTk1 (takeA a env1)
  | some (.ex x env1) => some (.ex x env1)
  | _ => none
@[simp] theorem kTk_0  {a : Av} {env1 : E} : kTk  (some (.ok a env1)) = kTk1 (takeA a env1) := (rfl)
@[simp] theorem kTk_1  {x : Xc} {env1 : E} : kTk  (some (.ex x env1)) = some (.ex x env1) := (rfl)
@[simp] theorem ev_tk {env : E} {f : FE} : tk f env = kTk (f env) := by
  unfold tk kTk bindO
  cases f env with
  | none => rfl
  | some o => cases o <;> rfl
@[simp] theorem ev_nilA {env : E} : nilA env = some (.ok [] env) := (rfl)
def kCn2 (a : Av) (o : Option (Out (List Av))) : Option (Out (List Av)) := match o with
  | some (.ok as env1) => some (.ok (a :: as) env1)
  | some (.ex x env1) => some (.ex x env1)
  | _ => none
@[simp] theorem kCn2_0 {a : Av} {as : List Av} {env1 : E} : kCn2 a (some (.ok as env1)) = some (.ok (a :: as) env1) := (rfl)
@[simp] theorem kCn2_1 {a : Av} {x : Xc} {env1 : E} : kCn2 a (some (.ex x env1)) = some (.ex x env1) := (rfl)
def kCn (g : FA) (o : Option (Out Av)) : Option (Out (List Av)) := match o with
  | some (.ok a env1) => kCn2 a (g env1)
  | some (.ex x env1) => some (.ex x env1)
  | _ => none
@[simp] theorem kCn_0 {g : FA} {a : Av} {env1 : E} : kCn g (some (.ok a env1)) = kCn2 a (g env1) := (rfl)
@[simp] theorem kCn_1 {g : FA} {x : Xc} {env1 : E} : kCn g (some (.ex x env1)) = some (.ex x env1) := (rfl)
@[simp] theorem ev_consA {env : E} {f : FE} {g : FA} : consA f g env = kCn g (f env) := by
  unfold consA kCn bindO
  cases f env with
  | none => rfl
  | some o => cases o with
    | ok a e => simp only []; unfold kCn2; cases g e with
      | none => rfl
      | some o => cases o <;> rfl
    | ex x e => rfl
def kRn (as : List Av) (env : E) (o : Option OutP) : Option (Out Av) := match o with
  | some (.ok m ms) => some (.ok (.tm m) (back env as ms))
  | some (.ex x ms) => some (.ex x (back env as ms))
  | _ => none
@[simp] theorem kRn_0 {as : List Av} {env : E} {m : M} {ms : E} : kRn as env (some (.ok m ms)) = some (.ok (.tm m) (back env as ms)) := (rfl)
@[simp] theorem kRn_1 {as : List Av} {env : E} {x : Xc} {ms : E} : kRn as env (some (.ex x ms)) = some (.ex x (back env as ms)) := (rfl)
def kRb (g : FP) (as : List Av) (env : E) (ms : List M) (b : Bool) : Option (Out Av) := match b with
  | true => kRn as env (g ms)
  | false => none
@[simp] theorem kRb_0 {g : FP} {as : List Av} {env : E} {ms : List M} : kRb g as env ms true = kRn as env (g ms) := (rfl)
def kRm (g : FP) (as : List Av) (env : E) (o : Option (List M)) : Option (Out Av) := match o with
  | some ms => kRb g as env ms (okA env as)
  | none => none
@[simp] theorem kRm_0 {g : FP} {as : List Av} {env : E} {ms : List M} : kRm g as env (some ms) = kRb g as env ms (okA env as) := (rfl)
@[simp] theorem ev_runP {env : E} {g : FP} {as : List Av} : runP g as env = kRm g as env (res env as) := by
  unfold runP kRm
  cases res env as with
  | none => rfl
  | some ms =>
    simp only []
    unfold kRb
    cases okA env as with
    | false => rfl
    | true => simp only []; unfold kRn; cases g ms with
      | none => rfl
      | some o => cases o <;> rfl
def kCall (g : FP) (o : Option (Out (List Av))) : Option (Out Av) := match o with
  | some (.ok as env1) => runP g as env1
  | some (.ex x env1) => some (.ex x env1)
  | _ => none
@[simp] theorem kCall_0 {g : FP} {as : List Av} {env1 : E} : kCall g (some (.ok as env1)) = runP g as env1 := (rfl)
@[simp] theorem kCall_1 {g : FP} {x : Xc} {env1 : E} : kCall g (some (.ex x env1)) = some (.ex x env1) := (rfl)
@[simp] theorem ev_callE {env : E} {g : FP} {fa : FA} : callE g fa env = kCall g (fa env) := by
  unfold callE kCall bindO
  cases fa env with
  | none => rfl
  | some o => cases o <;> rfl
def kRs (m : M) (o : Option (List M)) : Option (List M) := match o with
  | some ms => some (m :: ms)
  | none => none
@[simp] theorem kRs_0 {m : M} {ms : List M} : kRs m (some ms) = some (m :: ms) := (rfl)
@[simp] theorem ev_res0 {env : E} : res env [] = some [] := (rfl)
@[simp] theorem ev_res1 {env : E} {m : M} {r : List Av} : res env (.tm m :: r) = kRs m (res env r) := (rfl)
@[simp] theorem ev_res2 {env : E} {i : Nat} {r : List Av} : res env (.sl i :: r) = match env[i]? with
    | some (some m) => kRs m (res env r)
    | _ => none := (rfl)
@[simp] theorem ev_okA0 {env : E} : okA env [] = true := (rfl)
@[simp] theorem ev_okA1 {env : E} {m : M} {r : List Av} : okA env (.tm m :: r) = okA env r := (rfl)
@[simp] theorem ev_okA2 {env : E} {i : Nat} {r : List Av} : okA env (.sl i :: r) = ((match env[i]? with
    | some (some m) => isFz m || !hasSl i r
    | _ => false) && okA env r) := (rfl)
@[simp] theorem ev_isFz {d : D} : isFz (.fz d) = true := (rfl)
@[simp] theorem ev_isFzL {ms : List M} : isFz (.lst ms) = false := (rfl)
@[simp] theorem ev_hs0 {i : Nat} : hasSl i [] = false := (rfl)
@[simp] theorem ev_hs1 {i : Nat} {m : M} {r : List Av} : hasSl i (.tm m :: r) = hasSl i r := (rfl)
@[simp] theorem ev_hs2 {i j : Nat} {r : List Av} : hasSl i (.sl j :: r) = ((j == i) || hasSl i r) := (rfl)
@[simp] theorem ev_back0 {env ms : E} : back env [] ms = env := by cases ms <;> rfl
@[simp] theorem ev_back1 {env : E} {m : M} {r : List Av} {o : Option M} {ms : E} : back env (.tm m :: r) (o :: ms) = back env r ms := (rfl)
@[simp] theorem ev_back2 {env : E} {i : Nat} {r : List Av} {o : Option M} {ms : E} : back env (.sl i :: r) (o :: ms) = back (env.set i o) r ms := (rfl)
def kG (xs : E) (o : Option M) : Option OutP := match o with
  | some m => some (.ok m xs)
  | none => none
@[simp] theorem kG_0 {xs : E} {m : M} : kG xs (some m) = some (.ok m xs) := (rfl)
@[simp] theorem ev_g1 {h : M → Option M} {a : M} : g1 h [a] = kG [some a] (h a) := (rfl)
@[simp] theorem ev_g2 {h : M → M → Option M} {a b : M} : g2 h [a, b] = kG [some a, some b] (h a b) := (rfl)
@[simp] theorem ev_boolA1 {env : E} {b : Bool} : boolA (.tm (.fz (.bl b))) env = some b := (rfl)
@[simp] theorem ev_boolA2 {env : E} {i : Nat} : boolA (.sl i) env = match env[i]? with
    | some (some (.fz (.bl b))) => some b
    | _ => none := (rfl)
def kT1 (env : E) (o : Option Bool) : Option (Out Bool) := match o with
  | some b => some (.ok b env)
  | none => none
@[simp] theorem kT1_0 {env : E} {b : Bool} : kT1 env (some b) = some (.ok b env) := (rfl)
def kT  (o : Option (Out Av)) : Option (Out Bool) := match o with
  | some (.ok a env1) => kT1 env1 (boolA a env1)
  | some (.ex x env1) => some (.ex x env1)
  | _ => none
@[simp] theorem kT_0  {a : Av} {env1 : E} : kT  (some (.ok a env1)) = kT1 env1 (boolA a env1) := (rfl)
@[simp] theorem kT_1  {x : Xc} {env1 : E} : kT  (some (.ex x env1)) = some (.ex x env1) := (rfl)
@[simp] theorem ev_tst {env : E} {f : FE} : tst f env = kT (f env) := by
  unfold tst kT bindO
  cases f env with
  | none => rfl
  | some o => cases o <;> rfl
def kAndT (g : FT) (o : Option (Out Bool)) : Option (Out Bool) := match o with
  | some (.ok true env1) => g env1
  | some (.ok false env1) => some (.ok false env1)
  | some (.ex x env1) => some (.ex x env1)
  | _ => none
@[simp] theorem kAndT_0 {g : FT} {env1 : E} : kAndT g (some (.ok true env1)) = g env1 := (rfl)
@[simp] theorem kAndT_1 {g : FT} {env1 : E} : kAndT g (some (.ok false env1)) = some (.ok false env1) := (rfl)
@[simp] theorem kAndT_2 {g : FT} {x : Xc} {env1 : E} : kAndT g (some (.ex x env1)) = some (.ex x env1) := (rfl)
@[simp] theorem ev_andT {env : E} {f : FT} {g : FT} : andT f g env = kAndT g (f env) := by
  unfold andT kAndT bindO
  cases f env with
  | none => rfl
  | some o => cases o with
    | ok b e => cases b <;> rfl
    | ex x e => rfl
def kOrT (g : FT) (o : Option (Out Bool)) : Option (Out Bool) := match o with
  | some (.ok true env1) => some (.ok true env1)
  | some (.ok false env1) => g env1
  | some (.ex x env1) => some (.ex x env1)
  | _ => none
@[simp] theorem kOrT_0 {g : FT} {env1 : E} : kOrT g (some (.ok true env1)) = some (.ok true env1) := (rfl)
@[simp] theorem kOrT_1 {g : FT} {env1 : E} : kOrT g (some (.ok false env1)) = g env1 := (rfl)
@[simp] theorem kOrT_2 {g : FT} {x : Xc} {env1 : E} : kOrT g (some (.ex x env1)) = some (.ex x env1) := (rfl)
@[simp] theorem ev_orT {env : E} {f : FT} {g : FT} : orT f g env = kOrT g (f env) := by
  unfold orT kOrT bindO
  cases f env with
  | none => rfl
  | some o => cases o with
    | ok b e => cases b <;> rfl
    | ex x e => rfl
def kNotT  (o : Option (Out Bool)) : Option (Out Bool) := match o with
  | some (.ok true env1) => some (.ok false env1)
  | some (.ok false env1) => some (.ok true env1)
  | some (.ex x env1) => some (.ex x env1)
  | _ => none
@[simp] theorem kNotT_0  {env1 : E} : kNotT  (some (.ok true env1)) = some (.ok false env1) := (rfl)
@[simp] theorem kNotT_1  {env1 : E} : kNotT  (some (.ok false env1)) = some (.ok true env1) := (rfl)
@[simp] theorem kNotT_2  {x : Xc} {env1 : E} : kNotT  (some (.ex x env1)) = some (.ex x env1) := (rfl)
@[simp] theorem ev_notT {env : E} {f : FT} : notT f env = kNotT  (f env) := by
  unfold notT kNotT bindO
  cases f env with
  | none => rfl
  | some o => cases o with
    | ok b e => cases b <;> rfl
    | ex x e => rfl
def kIfE (fa : FE) (fb : FE) (o : Option (Out Bool)) : Option (Out Av) := match o with
  | some (.ok true env1) => fa env1
  | some (.ok false env1) => fb env1
  | some (.ex x env1) => some (.ex x env1)
  | _ => none
@[simp] theorem kIfE_0 {fa : FE} {fb : FE} {env1 : E} : kIfE fa fb (some (.ok true env1)) = fa env1 := (rfl)
@[simp] theorem kIfE_1 {fa : FE} {fb : FE} {env1 : E} : kIfE fa fb (some (.ok false env1)) = fb env1 := (rfl)
@[simp] theorem kIfE_2 {fa : FE} {fb : FE} {x : Xc} {env1 : E} : kIfE fa fb (some (.ex x env1)) = some (.ex x env1) := (rfl)
@[simp] theorem ev_ifE {env : E} {c : FT} {fa : FE} {fb : FE} : ifE c fa fb env = kIfE fa fb (c env) := by
  unfold ifE kIfE bindO
  cases c env with
  | none => rfl
  | some o => cases o with
    | ok b e => cases b <;> rfl
    | ex x e => rfl
@[simp] theorem ev_intA1 {env : E} {i : Int} : intA (.tm (.fz (.int i))) env = some i := (rfl)
@[simp] theorem ev_intA2 {env : E} {k : Nat} : intA (.sl k) env = match env[k]? with
    | some (some (.fz (.int i))) => some i
    | _ => none := (rfl)
@[simp] theorem ev_resA1 {env : E} {m : M} : resA env (.tm m) = some m := (rfl)
@[simp] theorem ev_resA2 {env : E} {i : Nat} : resA env (.sl i) = match env[i]? with
    | some (some m) => some m
    | _ => none := (rfl)
def kOk (m : M) (b : Bool) : Option M := match b with
  | true => some m
  | false => none
@[simp] theorem kOk_0 {m : M} : kOk m true = some m := (rfl)
@[simp] theorem ev_intM {c : Int → Int → Bool} {f : Int → Int → D} {i j : Int} : intM c f (.fz (.int i)) (.fz (.int j)) = kOk (.fz (f i j)) (c i j) := (rfl)
def kFor (g : FG) (fb : FS) (o : Option (Out (List D))) : Option Fl := match o with
  | some (.ok ds env1) => loopD g fb ds env1
  | some (.ex x env1) => some (.ex x env1)
  | _ => none
@[simp] theorem kFor_0 {g : FG} {fb : FS} {ds : List D} {env1 : E} : kFor g fb (some (.ok ds env1)) = loopD g fb ds env1 := (rfl)
@[simp] theorem kFor_1 {g : FG} {fb : FS} {x : Xc} {env1 : E} : kFor g fb (some (.ex x env1)) = some (.ex x env1) := (rfl)
@[simp] theorem ev_forS {env : E} {fi : FI} {g : FG} {fb : FS} : forS fi g fb env = kFor g fb (fi env) := by
  unfold forS kFor bindS
  cases fi env with
  | none => rfl
  | some o => cases o <;> rfl
def kR1 (env : E) (o : Option Int) : Option (Out (List D)) := match o with
  | some n => if fits n then some (.ok (rangeD 0 n) env) else none
  | none => none
@[simp] theorem kR1_0 {env : E} {n : Int} : kR1 env (some n) = if fits n then some (.ok (rangeD 0 n) env) else none := (rfl)
def kR  (o : Option (Out Av)) : Option (Out (List D)) := match o with
  | some (.ok a env1) => kR1 env1 (intA a env1)
  | some (.ex x env1) => some (.ex x env1)
  | _ => none
@[simp] theorem kR_0  {a : Av} {env1 : E} : kR  (some (.ok a env1)) = kR1 env1 (intA a env1) := (rfl)
@[simp] theorem kR_1  {x : Xc} {env1 : E} : kR  (some (.ex x env1)) = some (.ex x env1) := (rfl)
@[simp] theorem ev_rng1 {env : E} {f : FE} : rng1 f env = kR (f env) := by
  unfold rng1 kR bindO
  cases f env with
  | none => rfl
  | some o => cases o <;> rfl
def kR2c (env : E) (o p : Option Int) : Option (Out (List D)) := match o, p with
  | some i, some j => if fits i && fits j then some (.ok (rangeD i j) env) else none
  | _, _ => none
@[simp] theorem kR2c_0 {env : E} {i j : Int} : kR2c env (some i) (some j) = if fits i && fits j then some (.ok (rangeD i j) env) else none := (rfl)
def kR2b (a : Av) (o : Option (Out Av)) : Option (Out (List D)) := match o with
  | some (.ok b env1) => kR2c env1 (intA a env1) (intA b env1)
  | some (.ex x env1) => some (.ex x env1)
  | _ => none
@[simp] theorem kR2b_0 {a : Av} {b : Av} {env1 : E} : kR2b a (some (.ok b env1)) = kR2c env1 (intA a env1) (intA b env1) := (rfl)
@[simp] theorem kR2b_1 {a : Av} {x : Xc} {env1 : E} : kR2b a (some (.ex x env1)) = some (.ex x env1) := (rfl)
def kR2 (g : FE) (o : Option (Out Av)) : Option (Out (List D)) := match o with
  | some (.ok a env1) => kR2b a (g env1)
  | some (.ex x env1) => some (.ex x env1)
  | _ => none
@[simp] theorem kR2_0 {g : FE} {a : Av} {env1 : E} : kR2 g (some (.ok a env1)) = kR2b a (g env1) := (rfl)
@[simp] theorem kR2_1 {g : FE} {x : Xc} {env1 : E} : kR2 g (some (.ex x env1)) = some (.ex x env1) := (rfl)
@[simp] theorem ev_rng2 {env : E} {f g : FE} : rng2 f g env = kR2 g (f env) := by
  unfold rng2 kR2 bindO
  cases f env with
  | none => rfl
  | some o => cases o with
    | ok a e => simp only []; unfold kR2b; cases g e with
      | none => rfl
      | some o => cases o with
        | ok b e2 => simp only []; unfold kR2c; cases intA a e2 <;> cases intA b e2 <;> rfl
        | ex x e2 => rfl
    | ex x e => rfl
def kOv1 (env : E) (o : Option (List D)) : Option (Out (List D)) := match o with
  | some ds => some (.ok ds env)
  | none => none
@[simp] theorem kOv1_0 {env : E} {ds : List D} : kOv1 env (some ds) = some (.ok ds env) := (rfl)
def kOv (it : M → Option (List D)) (o : Option (Out Av)) : Option (Out (List D)) := match o with
  | some (.ok (.tm m) env1) => kOv1 env1 (it m)
  | some (.ex x env1) => some (.ex x env1)
  | _ => none
@[simp] theorem kOv_0 {it : M → Option (List D)} {m : M} {env1 : E} : kOv it (some (.ok (.tm m) env1)) = kOv1 env1 (it m) := (rfl)
@[simp] theorem kOv_1 {it : M → Option (List D)} {x : Xc} {env1 : E} : kOv it (some (.ex x env1)) = some (.ex x env1) := (rfl)
@[simp] theorem ev_overE {env : E} {it : M → Option (List D)} {f : FE} : overE it f env = kOv it (tk f env) := by
  unfold overE kOv bindO
  cases tk f env with
  | none => rfl
  | some o => cases o with
    | ok a e => cases a with
      | tm m => simp only []; unfold kOv1; cases it m <;> rfl
      | sl i => rfl
    | ex x e => rfl
def kCo1 (o : Option (List M × E)) : Option (Out Av) := match o with
  | some (ms, env2) => some (.ok (.tm (.lst ms)) env2)
  | none => none
@[simp] theorem kCo1_0 {ms : List M} {env2 : E} : kCo1 (some (ms, env2)) = some (.ok (.tm (.lst ms)) env2) := (rfl)
def kCo (g : FG) (ft : FT) (fe : FE) (own : List Nat) (o : Option (Out (List D))) : Option (Out Av) := match o with
  | some (.ok ds env1) => if ds.length ≤ sizeLine then kCo1 (compD g ft fe own ds (wipeE env1 own)) else none
  | some (.ex x env1) => some (.ex x env1)
  | _ => none
@[simp] theorem kCo_0 {g : FG} {ft : FT} {fe : FE} {own : List Nat} {ds : List D} {env1 : E} : kCo g ft fe own (some (.ok ds env1)) = if ds.length ≤ sizeLine then kCo1 (compD g ft fe own ds (wipeE env1 own)) else none := (rfl)
@[simp] theorem kCo_1 {g : FG} {ft : FT} {fe : FE} {own : List Nat} {x : Xc} {env1 : E} : kCo g ft fe own (some (.ex x env1)) = some (.ex x env1) := (rfl)
@[simp] theorem ev_compE {env : E} {fi : FI} {g : FG} {ft : FT} {fe : FE} {own : List Nat} : compE fi g ft fe own env = kCo g ft fe own (fi env) := by
  unfold compE kCo bindO
  cases fi env with
  | none => rfl
  | some o => cases o with
    | ok ds e =>
      simp only []
      unfold kCo1
      split
      · cases compD g ft fe own ds (wipeE e own) <;> rfl
      · rfl
    | ex x e => rfl
@[simp] theorem ev_wipe0 {env : E} : wipeE env [] = env := (rfl)
@[simp] theorem ev_wipe1 {env : E} {v : Nat} {vs : List Nat} : wipeE env (v :: vs) = (wipeE env vs).set v none := (rfl)
@[simp] theorem ev_yesT {env : E} : yesT env = some (.ok true env) := (rfl)
@[simp] theorem ev_tms0 : tms [] = some [] := (rfl)
@[simp] theorem ev_tms1 {m : M} {r : List Av} : tms (.tm m :: r) = kRs m (tms r) := (rfl)
def kLs1 (env : E) (o : Option (List M)) : Option (Out Av) := match o with
  | some ms => if ms.length ≤ sizeLine then some (.ok (.tm (.lst ms)) env) else none
  | none => none
@[simp] theorem kLs1_0 {env : E} {ms : List M} : kLs1 env (some ms) = if ms.length ≤ sizeLine then some (.ok (.tm (.lst ms)) env) else none := (rfl)
def kLs  (o : Option (Out (List Av))) : Option (Out Av) := match o with
  | some (.ok as env1) => kLs1 env1 (tms as)
  | some (.ex x env1) => some (.ex x env1)
  | _ => none
@[simp] theorem kLs_0  {as : List Av} {env1 : E} : kLs  (some (.ok as env1)) = kLs1 env1 (tms as) := (rfl)
@[simp] theorem kLs_1  {x : Xc} {env1 : E} : kLs  (some (.ex x env1)) = some (.ex x env1) := (rfl)
@[simp] theorem ev_lstE {env : E} {fa : FA} : lstE fa env = kLs (fa env) := by
  unfold lstE kLs bindO
  cases fa env with
  | none => rfl
  | some o => cases o <;> rfl
def kTu2 (env : E) (ms : List M) (o : Option (List D)) : Option (Out Av) := match o with
  | some ds => if ds.length ≤ sizeLine then some (.ok (.tm (.fz (.tup ds))) env) else none
  | none => if ms.length ≤ sizeLine then some (.ok (.tm (.tup ms)) env) else none
@[simp] theorem kTu2_0 {env : E} {ms : List M} {ds : List D} : kTu2 env ms (some ds) = if ds.length ≤ sizeLine then some (.ok (.tm (.fz (.tup ds))) env) else none := (rfl)
@[simp] theorem kTu2_1 {env : E} {ms : List M} : kTu2 env ms none = if ms.length ≤ sizeLine then some (.ok (.tm (.tup ms)) env) else none := (rfl)
def kTu1 (env : E) (o : Option (List M)) : Option (Out Av) := match o with
  | some ms => kTu2 env ms (unfz ms)
  | none => none
@[simp] theorem kTu1_0 {env : E} {ms : List M} : kTu1 env (some ms) = kTu2 env ms (unfz ms) := (rfl)
def kTu  (o : Option (Out (List Av))) : Option (Out Av) := match o with
  | some (.ok as env1) => kTu1 env1 (tms as)
  | some (.ex x env1) => some (.ex x env1)
  | _ => none
@[simp] theorem kTu_0  {as : List Av} {env1 : E} : kTu  (some (.ok as env1)) = kTu1 env1 (tms as) := (rfl)
@[simp] theorem kTu_1  {x : Xc} {env1 : E} : kTu  (some (.ex x env1)) = some (.ex x env1) := (rfl)
@[simp] theorem ev_tupE {env : E} {fa : FA} : tupE fa env = kTu (fa env) := by
  unfold tupE kTu bindO
  cases fa env with
  | none => rfl
  | some o => cases o <;> rfl
def kAnd1 (fb : FE) (env1 : E) (o : Option Bool) : Option (Out Av) := match o with
  | some true => fb env1
  | some false => some (.ok (.tm (.fz (.bl false))) env1)
  | none => none
@[simp] theorem kAnd1_0 {fb : FE} {env1 : E} : kAnd1 fb env1 (some true) = fb env1 := (rfl)
@[simp] theorem kAnd1_1 {fb : FE} {env1 : E} : kAnd1 fb env1 (some false) = some (.ok (.tm (.fz (.bl false))) env1) := (rfl)
def kAnd (fb : FE) (o : Option (Out Av)) : Option (Out Av) := match o with
  | some (.ok a env1) => kAnd1 fb env1 (boolA a env1)
  | some (.ex x env1) => some (.ex x env1)
  | _ => none
@[simp] theorem kAnd_0 {fb : FE} {a : Av} {env1 : E} : kAnd fb (some (.ok a env1)) = kAnd1 fb env1 (boolA a env1) := (rfl)
@[simp] theorem kAnd_1 {fb : FE} {x : Xc} {env1 : E} : kAnd fb (some (.ex x env1)) = some (.ex x env1) := (rfl)
@[simp] theorem ev_andE {env : E} {fa fb : FE} : andE fa fb env = kAnd fb (fa env) := by
  unfold andE kAnd bindO
  cases fa env with
  | none => rfl
  | some o => cases o with
    | ok a e => simp only []; unfold kAnd1; rfl
    | ex x e => rfl
def kOr1 (fb : FE) (env1 : E) (o : Option Bool) : Option (Out Av) := match o with
  | some true => some (.ok (.tm (.fz (.bl true))) env1)
  | some false => fb env1
  | none => none
@[simp] theorem kOr1_0 {fb : FE} {env1 : E} : kOr1 fb env1 (some true) = some (.ok (.tm (.fz (.bl true))) env1) := (rfl)
@[simp] theorem kOr1_1 {fb : FE} {env1 : E} : kOr1 fb env1 (some false) = fb env1 := (rfl)
def kOr (fb : FE) (o : Option (Out Av)) : Option (Out Av) := match o with
  | some (.ok a env1) => kOr1 fb env1 (boolA a env1)
  | some (.ex x env1) => some (.ex x env1)
  | _ => none
@[simp] theorem kOr_0 {fb : FE} {a : Av} {env1 : E} : kOr fb (some (.ok a env1)) = kOr1 fb env1 (boolA a env1) := (rfl)
@[simp] theorem kOr_1 {fb : FE} {x : Xc} {env1 : E} : kOr fb (some (.ex x env1)) = some (.ex x env1) := (rfl)
@[simp] theorem ev_orE {env : E} {fa fb : FE} : orE fa fb env = kOr fb (fa env) := by
  unfold orE kOr bindO
  cases fa env with
  | none => rfl
  | some o => cases o with
    | ok a e => simp only []; unfold kOr1; rfl
    | ex x e => rfl
def kNo1 (env1 : E) (o : Option Bool) : Option (Out Av) := match o with
  | some b => some (.ok (.tm (.fz (.bl (!b)))) env1)
  | none => none
@[simp] theorem kNo1_0 {env1 : E} {b : Bool} : kNo1 env1 (some b) = some (.ok (.tm (.fz (.bl (!b)))) env1) := (rfl)
def kNo  (o : Option (Out Av)) : Option (Out Av) := match o with
  | some (.ok a env1) => kNo1 env1 (boolA a env1)
  | some (.ex x env1) => some (.ex x env1)
  | _ => none
@[simp] theorem kNo_0  {a : Av} {env1 : E} : kNo  (some (.ok a env1)) = kNo1 env1 (boolA a env1) := (rfl)
@[simp] theorem kNo_1  {x : Xc} {env1 : E} : kNo  (some (.ex x env1)) = some (.ex x env1) := (rfl)
@[simp] theorem ev_notE {env : E} {f : FE} : notE f env = kNo (f env) := by
  unfold notE kNo bindO
  cases f env with
  | none => rfl
  | some o => cases o <;> rfl
def kCh4 (q : Int → Int → Bool) (j : Int) (env : E) (o : Option Int) : Option (Out Av) := match o with
  | some k => some (.ok (.tm (.fz (.bl (q j k)))) env)
  | none => none
@[simp] theorem kCh4_0 {q : Int → Int → Bool} {j k : Int} {env : E} : kCh4 q j env (some k) = some (.ok (.tm (.fz (.bl (q j k)))) env) := (rfl)
def kCh3 (q : Int → Int → Bool) (j : Int) (o : Option (Out Av)) : Option (Out Av) := match o with
  | some (.ok c env1) => kCh4 q j env1 (intA c env1)
  | some (.ex x env1) => some (.ex x env1)
  | _ => none
@[simp] theorem kCh3_0 {q : Int → Int → Bool} {j : Int} {c : Av} {env1 : E} : kCh3 q j (some (.ok c env1)) = kCh4 q j env1 (intA c env1) := (rfl)
@[simp] theorem kCh3_1 {q : Int → Int → Bool} {j : Int} {x : Xc} {env1 : E} : kCh3 q j (some (.ex x env1)) = some (.ex x env1) := (rfl)
def kCh2 (q : Int → Int → Bool) (j : Int) (fc : FE) (env : E) (b : Bool) : Option (Out Av) := match b with
  | true => kCh3 q j (fc env)
  | false => some (.ok (.tm (.fz (.bl false))) env)
@[simp] theorem kCh2_0 {q : Int → Int → Bool} {j : Int} {fc : FE} {env : E} : kCh2 q j fc env true = kCh3 q j (fc env) := (rfl)
@[simp] theorem kCh2_1 {q : Int → Int → Bool} {j : Int} {fc : FE} {env : E} : kCh2 q j fc env false = some (.ok (.tm (.fz (.bl false))) env) := (rfl)
def kCh1 (p q : Int → Int → Bool) (fc : FE) (env : E) (a b : Option Int) : Option (Out Av) := match a, b with
  | some i, some j => kCh2 q j fc env (p i j)
  | _, _ => none
@[simp] theorem kCh1_0 {p q : Int → Int → Bool} {fc : FE} {env : E} {i j : Int} : kCh1 p q fc env (some i) (some j) = kCh2 q j fc env (p i j) := (rfl)
def kChb (p : Int → Int → Bool) (q : Int → Int → Bool) (fc : FE) (a : Av) (o : Option (Out Av)) : Option (Out Av) := match o with
  | some (.ok b env1) => kCh1 p q fc env1 (intA a env1) (intA b env1)
  | some (.ex x env1) => some (.ex x env1)
  | _ => none
@[simp] theorem kChb_0 {p : Int → Int → Bool} {q : Int → Int → Bool} {fc : FE} {a : Av} {b : Av} {env1 : E} : kChb p q fc a (some (.ok b env1)) = kCh1 p q fc env1 (intA a env1) (intA b env1) := (rfl)
@[simp] theorem kChb_1 {p : Int → Int → Bool} {q : Int → Int → Bool} {fc : FE} {a : Av} {x : Xc} {env1 : E} : kChb p q fc a (some (.ex x env1)) = some (.ex x env1) := (rfl)
def kCha (p : Int → Int → Bool) (q : Int → Int → Bool) (fb : FE) (fc : FE) (o : Option (Out Av)) : Option (Out Av) := match o with
  | some (.ok a env1) => kChb p q fc a (fb env1)
  | some (.ex x env1) => some (.ex x env1)
  | _ => none
@[simp] theorem kCha_0 {p : Int → Int → Bool} {q : Int → Int → Bool} {fb : FE} {fc : FE} {a : Av} {env1 : E} : kCha p q fb fc (some (.ok a env1)) = kChb p q fc a (fb env1) := (rfl)
@[simp] theorem kCha_1 {p : Int → Int → Bool} {q : Int → Int → Bool} {fb : FE} {fc : FE} {x : Xc} {env1 : E} : kCha p q fb fc (some (.ex x env1)) = some (.ex x env1) := (rfl)
@[simp] theorem ev_chainE {env : E} {p q : Int → Int → Bool} {fa fb fc : FE} : chainE p q fa fb fc env = kCha p q fb fc (fa env) := by
  unfold chainE kCha bindO
  cases fa env with
  | none => rfl
  | some o => cases o with
    | ok a e => simp only []; unfold kChb; cases fb e with
      | none => rfl
      | some o => cases o with
        | ok b e2 =>
          simp only []
          unfold kCh1
          cases intA a e2 with
          | none => cases intA b e2 <;> rfl
          | some i => cases intA b e2 with
            | none => rfl
            | some j =>
              simp only []
              unfold kCh2
              cases p i j with
              | false => rfl
              | true =>
                simp only []
                unfold kCh3
                cases fc e2 with
                | none => rfl
                | some o => cases o with
                  | ok c e3 => simp only []; unfold kCh4; cases intA c e3 <;> rfl
                  | ex x e3 => rfl
        | ex x e2 => rfl
    | ex x e => rfl
def kIs2 (ts : List Kd) (env : E) (o : Option Kd) : Option (Out Av) := match o with
  | some k => some (.ok (.tm (.fz (.bl (ts.any fun t => kdSub k t)))) env)
  | none => none
@[simp] theorem kIs2_0 {ts : List Kd} {env : E} {k : Kd} : kIs2 ts env (some k) = some (.ok (.tm (.fz (.bl (ts.any fun t => kdSub k t)))) env) := (rfl)
def kIs1 (ts : List Kd) (env : E) (o : Option M) : Option (Out Av) := match o with
  | some m => kIs2 ts env (kdM m)
  | none => none
@[simp] theorem kIs1_0 {ts : List Kd} {env : E} {m : M} : kIs1 ts env (some m) = kIs2 ts env (kdM m) := (rfl)
def kIs (ts : List Kd) (o : Option (Out Av)) : Option (Out Av) := match o with
  | some (.ok a env1) => kIs1 ts env1 (resA env1 a)
  | some (.ex x env1) => some (.ex x env1)
  | _ => none
@[simp] theorem kIs_0 {ts : List Kd} {a : Av} {env1 : E} : kIs ts (some (.ok a env1)) = kIs1 ts env1 (resA env1 a) := (rfl)
@[simp] theorem kIs_1 {ts : List Kd} {x : Xc} {env1 : E} : kIs ts (some (.ex x env1)) = some (.ex x env1) := (rfl)
@[simp] theorem ev_isiE {env : E} {ts : List Kd} {f : FE} : isiE ts f env = kIs ts (f env) := by
  unfold isiE kIs bindO
  cases f env with
  | none => rfl
  | some o => cases o <;> rfl
def kBm3 (g : FP) (a : Av) (o : Option (Out (List Av))) : Option (Out Av) := match o with
  | some (.ok as env2) => runP g (a :: as) env2
  | some (.ex x env2) => some (.ex x env2)
  | none => none
@[simp] theorem kBm3_0 {g : FP} {a : Av} {as : List Av} {env2 : E} : kBm3 g a (some (.ok as env2)) = runP g (a :: as) env2 := (rfl)
@[simp] theorem kBm3_1 {g : FP} {a : Av} {x : Xc} {env2 : E} : kBm3 g a (some (.ex x env2)) = some (.ex x env2) := (rfl)
def kBm2 (g : FP) (fa : FA) (a : Av) (env : E) (b : Bool) : Option (Out Av) := match b with
  | true => kBm3 g a (fa env)
  | false => none
@[simp] theorem kBm2_0 {g : FP} {fa : FA} {a : Av} {env : E} : kBm2 g fa a env true = kBm3 g a (fa env) := (rfl)
def kBm1 (T : Kd) (g : FP) (fa : FA) (a : Av) (env : E) (o : Option M) : Option (Out Av) := match o with
  | some m => kBm2 g fa a env (tyM T m)
  | none => none
@[simp] theorem kBm1_0 {T : Kd} {g : FP} {fa : FA} {a : Av} {env : E} {m : M} : kBm1 T g fa a env (some m) = kBm2 g fa a env (tyM T m) := (rfl)
def kBm (T : Kd) (g : FP) (fa : FA) (o : Option (Out Av)) : Option (Out Av) := match o with
  | some (.ok a env1) => kBm1 T g fa a env1 (resA env1 a)
  | some (.ex x env1) => some (.ex x env1)
  | _ => none
@[simp] theorem kBm_0 {T : Kd} {g : FP} {fa : FA} {a : Av} {env1 : E} : kBm T g fa (some (.ok a env1)) = kBm1 T g fa a env1 (resA env1 a) := (rfl)
@[simp] theorem kBm_1 {T : Kd} {g : FP} {fa : FA} {x : Xc} {env1 : E} : kBm T g fa (some (.ex x env1)) = some (.ex x env1) := (rfl)
@[simp] theorem ev_bmE {env : E} {T : Kd} {g : FP} {fo : FE} {fa : FA} : bmE T g fo fa env = kBm T g fa (fo env) := by
  unfold bmE kBm bindO
  cases fo env with
  | none => rfl
  | some o => cases o with
    | ok a e =>
      simp only []
      unfold kBm1
      cases resA e a with
      | none => rfl
      | some m =>
        simp only []
        unfold kBm2
        cases tyM T m with
        | false => rfl
        | true => simp only []; unfold kBm3; cases fa e with
          | none => rfl
          | some o => cases o <;> rfl
    | ex x e => rfl
@[simp] theorem ev_app {xs : List M} {y : M} : appG [.lst xs, y] = if xs.length < sizeLine then some (.ok (.fz .non) [some (.lst (xs ++ [y])), none]) else none := (rfl)
@[simp] theorem ev_tyl {ms : List M} : tyM .lst (.lst ms) = true := (rfl)
def kSet (v : M) (xs : List M) (i : Int) (o : Option Nat) : Option OutP := match o with
    | some j => some (.ok (.fz .non) [none, some (.lst (xs.set j v)), some (.fz (.int i))])
    | none => none
@[simp] theorem kSet_0 {v : M} {xs : List M} {i : Int} {j : Nat} : kSet v xs i (some j) = some (.ok (.fz .non) [none, some (.lst (xs.set j v)), some (.fz (.int i))]) := (rfl)
@[simp] theorem ev_setG {v : M} {xs : List M} {i : Int} : setG [v, .lst xs, .fz (.int i)] = kSet v xs i (ixN xs.length i) := (rfl)
@[simp] theorem ev_setS {env : E} {fe fo fi : FE} : setS fe fo fi env = kExp (callE setG (arg3 fe fo fi) env) := by
  unfold setS bindS kExp
  cases callE setG (arg3 fe fo fi) env with
  | none => rfl
  | some o => cases o <;> rfl
def kAu4 (f : Int → Int → Int) (a b : Av) (x : Int) (env : E) (o : Option Int) : Option Fl := match o with
  | some y => kExp (runP setG [.tm (.fz (.int (f x y))), a, b] env)
  | none => none
@[simp] theorem kAu4_0 {f : Int → Int → Int} {a b : Av} {x y : Int} {env : E} : kAu4 f a b x env (some y) = kExp (runP setG [.tm (.fz (.int (f x y))), a, b] env) := (rfl)
def kAu3 (f : Int → Int → Int) (a b : Av) (x : Int) (o : Option (Out Av)) : Option Fl := match o with
  | some (.ok c env3) => kAu4 f a b x env3 (intA c env3)
  | some (.ex x env3) => some (.ex x env3)
  | none => none
@[simp] theorem kAu3_0 {f : Int → Int → Int} {a b c : Av} {x : Int} {env3 : E} : kAu3 f a b x (some (.ok c env3)) = kAu4 f a b x env3 (intA c env3) := (rfl)
@[simp] theorem kAu3_1 {f : Int → Int → Int} {a b : Av} {x : Int} {y : Xc} {env3 : E} : kAu3 f a b x (some (.ex y env3)) = some (.ex y env3) := (rfl)
def kAu2 (f : Int → Int → Int) (a b : Av) (fe : FE) (env : E) (o : Option Int) : Option Fl := match o with
  | some x => kAu3 f a b x (fe env)
  | none => none
@[simp] theorem kAu2_0 {f : Int → Int → Int} {a b : Av} {fe : FE} {env : E} {x : Int} : kAu2 f a b fe env (some x) = kAu3 f a b x (fe env) := (rfl)
def kAu1 (f : Int → Int → Int) (a b : Av) (fe : FE) (env : E) (o : Option Int) (p : Option M) : Option Fl := match o, p with
  | some i, some m => kAu2 f a b fe env (ixInt m i)
  | _, _ => none
@[simp] theorem kAu1_0 {f : Int → Int → Int} {a b : Av} {fe : FE} {env : E} {i : Int} {m : M} : kAu1 f a b fe env (some i) (some m) = kAu2 f a b fe env (ixInt m i) := (rfl)
def kAub (f : Int → Int → Int) (a : Av) (fe : FE) (o : Option (Out Av)) : Option Fl := match o with
  | some (.ok b env1) => kAu1 f a b fe env1 (intA b env1) (resA env1 a)
  | some (.ex x env1) => some (.ex x env1)
  | _ => none
@[simp] theorem kAub_0 {f : Int → Int → Int} {a : Av} {fe : FE} {b : Av} {env1 : E} : kAub f a fe (some (.ok b env1)) = kAu1 f a b fe env1 (intA b env1) (resA env1 a) := (rfl)
@[simp] theorem kAub_1 {f : Int → Int → Int} {a : Av} {fe : FE} {x : Xc} {env1 : E} : kAub f a fe (some (.ex x env1)) = some (.ex x env1) := (rfl)
def kAu (f : Int → Int → Int) (fi : FE) (fe : FE) (o : Option (Out Av)) : Option Fl := match o with
  | some (.ok a env1) => kAub f a fe (fi env1)
  | some (.ex x env1) => some (.ex x env1)
  | _ => none
@[simp] theorem kAu_0 {f : Int → Int → Int} {fi : FE} {fe : FE} {a : Av} {env1 : E} : kAu f fi fe (some (.ok a env1)) = kAub f a fe (fi env1) := (rfl)
@[simp] theorem kAu_1 {f : Int → Int → Int} {fi : FE} {fe : FE} {x : Xc} {env1 : E} : kAu f fi fe (some (.ex x env1)) = some (.ex x env1) := (rfl)
@[simp] theorem ev_augIx {env : E} {f : Int → Int → Int} {fo fi fe : FE} : augIx f fo fi fe env = kAu f fi fe (fo env) := by
  unfold augIx kAu bindS
  cases fo env with
  | none => rfl
  | some o => cases o with
    | ok a e => simp only []; unfold kAub; cases fi e with
      | none => rfl
      | some o => cases o with
        | ok b e2 =>
          simp only []
          unfold kAu1
          cases intA b e2 with
          | none => rfl
          | some i => cases resA e2 a with
            | none => rfl
            | some m =>
              simp only []
              unfold kAu2
              cases ixInt m i with
              | none => rfl
              | some x => simp only []; unfold kAu3; cases fe e2 with
                | none => rfl
                | some o => cases o with
                  | ok c e3 => simp only []; unfold kAu4; cases intA c e3 with
                    | none => rfl
                    | some y => simp only []; unfold kExp; cases runP setG [.tm (.fz (.int (f x y))), a, b] e3 with
                      | none => rfl
                      | some o => cases o <;> rfl
                  | ex x e3 => rfl
        | ex x e2 => rfl
    | ex x e => rfl
def kNm2 (i : Nat) (o : Option (Out Av)) : Option Fl := match o with
  | some (.ok (.tm m) env1) => some (.nx (env1.set i (some m)))
  | some (.ex x env1) => some (.ex x env1)
  | _ => none
@[simp] theorem kNm2_0 {i : Nat} {m : M} {env1 : E} : kNm2 i (some (.ok (.tm m) env1)) = some (.nx (env1.set i (some m))) := (rfl)
@[simp] theorem kNm2_1 {i : Nat} {x : Xc} {env1 : E} : kNm2 i (some (.ex x env1)) = some (.ex x env1) := (rfl)
def kNm1 (i : Nat) (g : FP) (o : Option (Out Av)) : Option Fl := match o with
  | some (.ok a env1) => kNm2 i (runP g [.sl i, a] env1)
  | some (.ex x env1) => some (.ex x env1)
  | _ => none
@[simp] theorem kNm1_0 {i : Nat} {g : FP} {a : Av} {env1 : E} : kNm1 i g (some (.ok a env1)) = kNm2 i (runP g [.sl i, a] env1) := (rfl)
@[simp] theorem kNm1_1 {i : Nat} {g : FP} {x : Xc} {env1 : E} : kNm1 i g (some (.ex x env1)) = some (.ex x env1) := (rfl)
theorem kNm1_eq {i : Nat} {g : FP} {o : Option (Out Av)} : (bindS o fun a env1 => bindS (runP g [.sl i, a] env1) fun r env2 => match r with
    | .tm m => some (.nx (env2.set i (some m)))
    | .sl _ => none) = kNm1 i g o := by
  unfold kNm1 bindS
  cases o with
  | none => rfl
  | some o => cases o with
    | ok a e => simp only []; unfold kNm2; cases runP g [.sl i, a] e with
      | none => rfl
      | some o => cases o with
        | ok b e2 => cases b <;> rfl
        | ex x e2 => rfl
    | ex x e => rfl
@[simp] theorem ev_augNm {env : E} {i : Nat} {g : FP} {fe : FE} : augNm i g fe env = match env[i]? with
  | some (some _) => kNm1 i g (fe env)
  | _ => none := by
  unfold augNm
  cases env[i]? with
  | none => rfl
  | some o => cases o with
    | none => rfl
    | some m => exact kNm1_eq
def kPa1 (i j : Nat) (env : E) (o : Option (List M)) : Option Fl := match o with
  | some [m, n] => some (.nx ((env.set i (some m)).set j (some n)))
  | _ => none
@[simp] theorem kPa1_0 {i j : Nat} {env : E} {m n : M} : kPa1 i j env (some [m, n]) = some (.nx ((env.set i (some m)).set j (some n))) := (rfl)
def kPa (i : Nat) (j : Nat) (o : Option (Out (List Av))) : Option Fl := match o with
  | some (.ok as env1) => kPa1 i j env1 (tms as)
  | some (.ex x env1) => some (.ex x env1)
  | _ => none
@[simp] theorem kPa_0 {i : Nat} {j : Nat} {as : List Av} {env1 : E} : kPa i j (some (.ok as env1)) = kPa1 i j env1 (tms as) := (rfl)
@[simp] theorem kPa_1 {i : Nat} {j : Nat} {x : Xc} {env1 : E} : kPa i j (some (.ex x env1)) = some (.ex x env1) := (rfl)
@[simp] theorem ev_parS {env : E} {i j : Nat} {fa : FA} : parS i j fa env = kPa i j (fa env) := by
  unfold parS kPa bindS
  cases fa env with
  | none => rfl
  | some o => cases o <;> rfl
def kSl3 (a : Av) (i : Int) (env : E) (o : Option Int) : Option (Out Av) := match o with
  | some j => runP (g1 fun m => sliceM m (some i) (some j)) [a] env
  | none => none
@[simp] theorem kSl3_0 {a : Av} {i j : Int} {env : E} : kSl3 a i env (some j) = runP (g1 fun m => sliceM m (some i) (some j)) [a] env := (rfl)
def kSl2b (a : Av) (i : Int) (o : Option (Out Av)) : Option (Out Av) := match o with
  | some (.ok c env1) => kSl3 a i env1 (intA c env1)
  | some (.ex x env1) => some (.ex x env1)
  | _ => none
@[simp] theorem kSl2b_0 {a : Av} {i : Int} {c : Av} {env1 : E} : kSl2b a i (some (.ok c env1)) = kSl3 a i env1 (intA c env1) := (rfl)
@[simp] theorem kSl2b_1 {a : Av} {i : Int} {x : Xc} {env1 : E} : kSl2b a i (some (.ex x env1)) = some (.ex x env1) := (rfl)
def kSl2 (a : Av) (fu : FE) (env : E) (o : Option Int) : Option (Out Av) := match o with
  | some i => kSl2b a i (fu env)
  | none => none
@[simp] theorem kSl2_0 {a : Av} {fu : FE} {env : E} {i : Int} : kSl2 a fu env (some i) = kSl2b a i (fu env) := (rfl)
def kSl1 (a : Av) (fu : FE) (o : Option (Out Av)) : Option (Out Av) := match o with
  | some (.ok b env1) => kSl2 a fu env1 (intA b env1)
  | some (.ex x env1) => some (.ex x env1)
  | _ => none
@[simp] theorem kSl1_0 {a : Av} {fu : FE} {b : Av} {env1 : E} : kSl1 a fu (some (.ok b env1)) = kSl2 a fu env1 (intA b env1) := (rfl)
@[simp] theorem kSl1_1 {a : Av} {fu : FE} {x : Xc} {env1 : E} : kSl1 a fu (some (.ex x env1)) = some (.ex x env1) := (rfl)
def kSl (fl : FE) (fu : FE) (o : Option (Out Av)) : Option (Out Av) := match o with
  | some (.ok a env1) => kSl1 a fu (fl env1)
  | some (.ex x env1) => some (.ex x env1)
  | _ => none
@[simp] theorem kSl_0 {fl : FE} {fu : FE} {a : Av} {env1 : E} : kSl fl fu (some (.ok a env1)) = kSl1 a fu (fl env1) := (rfl)
@[simp] theorem kSl_1 {fl : FE} {fu : FE} {x : Xc} {env1 : E} : kSl fl fu (some (.ex x env1)) = some (.ex x env1) := (rfl)
@[simp] theorem ev_slice11 {env : E} {fe fl fu : FE} : slice11E fe fl fu env = kSl fl fu (fe env) := by
  unfold slice11E kSl bindO
  cases fe env with
  | none => rfl
  | some o => cases o with
    | ok a e => simp only []; unfold kSl1; cases fl e with
      | none => rfl
      | some o => cases o with
        | ok b e2 => simp only []; unfold kSl2; cases intA b e2 with
          | none => rfl
          | some i => simp only []; unfold kSl2b; cases fu e2 with
            | none => rfl
            | some o => cases o with
              | ok c e3 => simp only []; unfold kSl3; cases intA c e3 <;> rfl
              | ex x e3 => rfl
        | ex x e2 => rfl
    | ex x e => rfl
def kDd1 (env : E) (o : Option (List Str)) : Option (Out Av) := match o with
    | some xs => if xs.length ≤ 4000 then some (.ok (.tm (.fz (.int (ddS xs).length))) env) else none
    | none => none
@[simp] theorem kDd1_0 {env : E} {xs : List Str} : kDd1 env (some xs) = if xs.length ≤ 4000 then some (.ok (.tm (.fz (.int (ddS xs).length))) env) else none := (rfl)
def kDd2 (env : E) (o : Option M) : Option (Out Av) := match o with
  | some (.fz (.tup ds)) => kDd1 env (strsD ds)
  | _ => none
@[simp] theorem kDd2_0 {env : E} {ds : List D} : kDd2 env (some (.fz (.tup ds))) = kDd1 env (strsD ds) := (rfl)
def kDd  (o : Option (Out Av)) : Option (Out Av) := match o with
  | some (.ok a env1) => kDd2 env1 (resA env1 a)
  | some (.ex x env1) => some (.ex x env1)
  | _ => none
@[simp] theorem kDd_0  {a : Av} {env1 : E} : kDd  (some (.ok a env1)) = kDd2 env1 (resA env1 a) := (rfl)
@[simp] theorem kDd_1  {x : Xc} {env1 : E} : kDd  (some (.ex x env1)) = some (.ex x env1) := (rfl)
@[simp] theorem ev_lenSet {env : E} {f : FE} : lenSetE f env = kDd (f env) := by
  unfold lenSetE kDd bindO
  cases f env with
  | none => rfl
  | some o => cases o with
    | ok a e => simp only []; unfold kDd2 kDd1; rfl
    | ex x e => rfl
def kFn (asg : List Nat) (ms : List M) (o : Option Fl) : Option OutP := match o with
    | some (.nx env') => some (.ok (.fz .non) (outA asg 0 ms env'))
    | some (.rt m env') => some (.ok m (outA asg 0 ms env'))
    | some (.ex x env') => some (.ex x (outA asg 0 ms env'))
    | _ => none
@[simp] theorem kFn_0 {asg : List Nat} {ms : List M} {env1 : E} : kFn asg ms (some (.nx env1)) = some (.ok (.fz .non) (outA asg 0 ms env1)) := (rfl)
@[simp] theorem kFn_1 {asg : List Nat} {ms : List M} {m : M} {env1 : E} : kFn asg ms (some (.rt m env1)) = some (.ok m (outA asg 0 ms env1)) := (rfl)
@[simp] theorem kFn_2 {asg : List Nat} {ms : List M} {x : Xc} {env1 : E} : kFn asg ms (some (.ex x env1)) = some (.ex x (outA asg 0 ms env1)) := (rfl)
@[simp] theorem ev_fnM {np nl : Nat} {asg : List Nat} {body : FS} {ms : List M} : fnM np nl asg body ms = if ms.length = np then kFn asg ms (body (argE ms ++ List.replicate nl none)) else none := (rfl)
@[simp] theorem divC_eq {i j : Int} : divC i j = (decide (0 < j) && decide (j < 1208925819614629174706176)) := (rfl)
@[simp] theorem modC_eq {i j : Int} : modC i j = decide (0 < j) := (rfl)
@[simp] theorem powC_eq {i j : Int} : powC i j = (decide (0 ≤ j) && (decide (j ≤ 1000000) && decide (i.natAbs < 2 ^ 64))) := (rfl)
@[simp] theorem fits_eq {i : Int} : fits i = (decide (-(2 ^ 62) ≤ i) && decide (i < 2 ^ 62)) := (rfl)
@[simp] theorem sizeLine_eq : sizeLine = 16777216 := (rfl)
@[simp] theorem ev_out0 {asg : List Nat} {i : Nat} {env : E} : outA asg i [] env = [] := by unfold outA; rfl
@[simp] theorem ev_out1 {asg : List Nat} {i : Nat} {m : M} {ms : List M} {o : Option M} {env : E} : outA asg i (m :: ms) (o :: env) = (if asg.contains i then fzOnly m else o) :: outA asg (i + 1) ms env := (rfl)
@[simp] theorem ev_fzo {d : D} : fzOnly (.fz d) = some (.fz d) := (rfl)
@[simp] theorem ev_frz1 {d : D} : frz (.fz d) = some d := by unfold frz; rfl
@[simp] theorem ev_frz2 {ms : List M} : frz (.lst ms) = match frzs ms with
  | some ds => some (.lst ds)
  | none => none := by first | (rw [frz]; cases frzs ms <;> rfl) | rw [frz]
@[simp] theorem ev_frzs0 : frzs [] = some [] := by unfold frzs; rfl
@[simp] theorem ev_frzs1 {m : M} {ms : List M} : frzs (m :: ms) = match frz m with
  | some d => match frzs ms with
    | some ds => some (d :: ds)
    | none => none
  | none => none := by
  first | (rw [frzs]; cases frz m <;> cases frzs ms <;> rfl) | rw [frzs]
@[simp] theorem ev_frzm {ds : List D} : frzs (ds.map M.fz) = some ds := by
  induction ds with
  | nil => simp
  | cons d ds ih => simp [ih]
@[simp] theorem ev_unfz0 : unfz [] = some [] := (rfl)
@[simp] theorem ev_unfzl {xs r : List M} : unfz (.lst xs :: r) = none := (rfl)
@[simp] theorem ev_unfzt {xs r : List M} : unfz (.tup xs :: r) = none := (rfl)
@[simp] theorem ev_unfzk {xs} {r : List M} : unfz (.dK xs :: r) = none := (rfl)
@[simp] theorem ev_unfzT {xs} {r : List M} : unfz (.dT xs :: r) = none := (rfl)
@[simp] theorem ev_unfzi {C fs} {r : List M} : unfz (.ins C fs :: r) = none := (rfl)
@[simp] theorem ev_unfz1 {d : D} {r : List M} : unfz (.fz d :: r) = match unfz r with
    | some ds => some (d :: ds)
    | none => none := (rfl)
@[simp] theorem ev_unfzm {ds : List D} : unfz (ds.map M.fz) = some ds := unfz_map ds
@[simp] theorem ev_lstD1 {ds : List D} : lstD (.fz (.lst ds)) = some ds := (rfl)
@[simp] theorem ev_lstD2 {ms : List M} : lstD (.lst ms) = unfz ms := (rfl)
@[simp] theorem ev_seqD1 {ds : List D} : seqD (.fz (.lst ds)) = some ds := (rfl)
@[simp] theorem ev_seqD2 {ms : List M} : seqD (.lst ms) = unfz ms := (rfl)
@[simp] theorem ev_seqD3 {ds : List D} : seqD (.fz (.tup ds)) = some ds := (rfl)
@[simp] theorem ev_len1 {s : Str} : lenM (.fz (.str s)) = if s.length ≤ sizeLine then some (.fz (.int s.length)) else none := (rfl)
@[simp] theorem ev_len2 {ms : List M} : lenM (.lst ms) = some (.fz (.int ms.length)) := (rfl)
@[simp] theorem ev_len3 {ds : List D} : lenM (.fz (.lst ds)) = some (.fz (.int ds.length)) := (rfl)
@[simp] theorem ev_len4 {ds : List D} : lenM (.fz (.tup ds)) = some (.fz (.int ds.length)) := (rfl)
@[simp] theorem ev_abs {i : Int} : absM (.fz (.int i)) = some (.fz (.int (if i < 0 then -i else i))) := (rfl)
@[simp] theorem ev_add1 {i j : Int} : addM (.fz (.int i)) (.fz (.int j)) = some (.fz (.int (i + j))) := (rfl)
@[simp] theorem ev_add2 {s t : Str} : addM (.fz (.str s)) (.fz (.str t)) = if s.length + t.length ≤ sizeLine then some (.fz (.str (s ++ t))) else none := (rfl)
@[simp] theorem ev_add3 {s t : List D} : addM (.fz (.tup s)) (.fz (.tup t)) = if s.length + t.length ≤ sizeLine then some (.fz (.tup (s ++ t))) else none := (rfl)
@[simp] theorem ev_add4 {s t : List M} : addM (.lst s) (.lst t) = match unfz s with
    | some s => match unfz t with
      | some t => if s.length + t.length ≤ sizeLine then some (.lst ((s ++ t).map .fz)) else none
      | none => none
    | none => none := (rfl)
@[simp] theorem ev_add5 {s : List M} {t : List D} : addM (.lst s) (.fz (.lst t)) = match unfz s with
    | some s => if s.length + t.length ≤ sizeLine then some (.lst ((s ++ t).map .fz)) else none
    | none => none := (rfl)
@[simp] theorem ev_add6 {s : List D} {t : List M} : addM (.fz (.lst s)) (.lst t) = match unfz t with
    | some t => if s.length + t.length ≤ sizeLine then some (.lst ((s ++ t).map .fz)) else none
    | none => none := (rfl)
@[simp] theorem ev_add7 {s t : List D} : addM (.fz (.lst s)) (.fz (.lst t)) = if s.length + t.length ≤ sizeLine then some (.lst ((s ++ t).map .fz)) else none := (rfl)
@[simp] theorem ev_mul1 {i j : Int} : mulM (.fz (.int i)) (.fz (.int j)) = match mulC i j with
    | true => some (.fz (.int (i * j)))
    | false => none := (rfl)
@[simp] theorem ev_mul2 {z : Str} {n : Int} : mulM (.fz (.str z)) (.fz (.int n)) = if 0 ≤ n ∧ n ≤ 1000 ∧ z.length ≤ 1000 then some (.fz (.str (repS z n.toNat))) else none := (rfl)
@[simp] theorem ev_mul3 {ds : List D} {k : Int} : mulM (.fz (.tup ds)) (.fz (.int k)) = if ds = [] ∨ k = 1 then (if -1000 ≤ k ∧ k ≤ 1000 then some (.fz (.tup ds)) else none) else if 2 ≤ k ∧ k ≤ 1000 ∧ ds.length ≤ 1000 then some (.fz (.tup (repL k.toNat ds))) else none := (rfl)
@[simp] theorem ev_max {i j : Int} : maxM (.fz (.int i)) (.fz (.int j)) = some (.fz (.int (if i < j then j else i))) := (rfl)
@[simp] theorem ev_min {i j : Int} : minM (.fz (.int i)) (.fz (.int j)) = some (.fz (.int (if j < i then j else i))) := (rfl)
@[simp] theorem ev_int1 {i : Int} : intM1 (.fz (.int i)) = some (.fz (.int i)) := (rfl)
@[simp] theorem ev_int2 {b : Bool} : intM1 (.fz (.bl b)) = some (.fz (.int (if b then 1 else 0))) := (rfl)
@[simp] theorem ev_list {m : M} : listM m = match seqD m with
  | some ds => some (.lst (ds.map .fz))
  | none => none := (rfl)
@[simp] theorem ev_tuple1 {ds : List D} : tupleM (.fz (.tup ds)) = some (.fz (.tup ds)) := (rfl)
@[simp] theorem ev_tuple2 {ds : List D} : tupleM (.fz (.lst ds)) = some (.fz (.tup ds)) := (rfl)
@[simp] theorem ev_tuple3 {ms : List M} : tupleM (.lst ms) = match unfz ms with
    | some ds => some (.fz (.tup ds))
    | none => none := (rfl)
@[simp] theorem ev_isN {m : M} : isNM m (.fz .non) = some (.fz (.bl (isNon m))) := (rfl)
@[simp] theorem ev_notN {m : M} : notNM m (.fz .non) = some (.fz (.bl (!isNon m))) := (rfl)
@[simp] theorem ev_ix {ms : List M} {i : Int} : ixM (.lst ms) (.fz (.int i)) = match unfz ms with
    | some ds => match atI ds i with
      | some d => some (.fz d)
      | none => none
    | none => none := (rfl)
@[simp] theorem ev_ix2 {ds : List D} {i : Int} : ixM (.fz (.lst ds)) (.fz (.int i)) = match atI ds i with
      | some d => some (.fz d)
      | none => none := (rfl)
@[simp] theorem ev_ix3 {ds : List D} {i : Int} : ixM (.fz (.tup ds)) (.fz (.int i)) = match atI ds i with
      | some d => some (.fz d)
      | none => none := (rfl)
@[simp] theorem ev_ix4 {s : Str} {i : Int} : ixM (.fz (.str s)) (.fz (.int i)) = if s.length ≤ sizeLine then match atI s.cps.toList i with
      | some c => some (.fz (.str ⟨#[c]⟩))
      | none => none
    else none := (rfl)
@[simp] theorem ev_ixInt {ms : List M} {i : Int} : ixInt (.lst ms) i = match atI ms i with
    | some (.fz (.int x)) => some x
    | _ => none := (rfl)
@[simp] theorem ev_eq1 {i j : Int} : eqM (.fz (.int i)) (.fz (.int j)) = some (.fz (.bl (decide (i = j)))) := (rfl)
@[simp] theorem ev_eq2 {i j : Str} : eqM (.fz (.str i)) (.fz (.str j)) = some (.fz (.bl (decide (i = j)))) := (rfl)
@[simp] theorem ev_eq3 {i j : Bool} : eqM (.fz (.bl i)) (.fz (.bl j)) = some (.fz (.bl (decide (i = j)))) := (rfl)
@[simp] theorem ev_ne1 {i j : Int} : neM (.fz (.int i)) (.fz (.int j)) = some (.fz (.bl (!decide (i = j)))) := (rfl)
@[simp] theorem ev_ne2 {i j : Str} : neM (.fz (.str i)) (.fz (.str j)) = some (.fz (.bl (!decide (i = j)))) := (rfl)
@[simp] theorem ev_ne3 {i j : Bool} : neM (.fz (.bl i)) (.fz (.bl j)) = some (.fz (.bl (!decide (i = j)))) := (rfl)
@[simp] theorem ixN_nat {n k : Nat} : ixN n (k : Int) = if k < n then some k else none := by
  unfold ixN
  by_cases h : k < n
  · simp [h]
  · simp [h]
@[simp] theorem ixN_0 {n : Nat} : ixN n 0 = if 0 < n then some 0 else none := ixN_nat (k := 0)
@[simp] theorem ixN_1 {n : Nat} : ixN n 1 = if 1 < n then some 1 else none := ixN_nat (k := 1)
@[simp] theorem ixN_lit {n k : Nat} : ixN n (no_index (OfNat.ofNat k : Int)) = if (OfNat.ofNat k : Nat) < n then some (OfNat.ofNat k : Nat) else none := ixN_nat (k := k)
@[simp] theorem atI_nat {α : Type} {xs : List α} {k : Nat} : atI xs (k : Int) = xs[k]? := by
  unfold atI
  rw [ixN_nat]
  by_cases h : k < xs.length
  · simp [h]
  · simp [h]
@[simp] theorem atI_0 {α : Type} {xs : List α} : atI xs 0 = xs[0]? := atI_nat (k := 0)
@[simp] theorem atI_1 {α : Type} {xs : List α} : atI xs 1 = xs[1]? := atI_nat (k := 1)
@[simp] theorem atI_lit {α : Type} {xs : List α} {k : Nat} : atI xs (no_index (OfNat.ofNat k : Int)) = xs[(OfNat.ofNat k : Nat)]? := atI_nat (k := k)
def sel {α : Type} (b : Bool) (x y : α) : α := match b with
  | true => x
  | false => y
@[simp] theorem sel_t {α : Type} {x y : α} : sel true x y = x := (rfl)
@[simp] theorem sel_f {α : Type} {x y : α} : sel false x y = y := (rfl)
@[simp] theorem kNotT_b {b : Bool} {env : E} : kNotT (some (.ok b env)) = some (.ok (!b) env) := by cases b <;> rfl
@[simp] theorem kAndT_b {g : FT} {b : Bool} {env : E} : kAndT g (some (.ok b env)) = sel b (g env) (some (.ok false env)) := by cases b <;> rfl
@[simp] theorem kOrT_b {g : FT} {b : Bool} {env : E} : kOrT g (some (.ok b env)) = sel b (some (.ok true env)) (g env) := by cases b <;> rfl
@[simp] theorem kAnd1_b {g : FE} {b : Bool} {env : E} : kAnd1 g env (some b) = sel b (g env) (some (.ok (.tm (.fz (.bl false))) env)) := by cases b <;> rfl
@[simp] theorem kOr1_b {g : FE} {b : Bool} {env : E} : kOr1 g env (some b) = sel b (some (.ok (.tm (.fz (.bl true))) env)) (g env) := by cases b <;> rfl
@[simp] theorem kCh2_c {q : Int → Int → Bool} {j k : Int} {env : E} {b : Bool} : kCh2 q j (cE (.int k)) env b = some (.ok (.tm (.fz (.bl (b && q j k)))) env) := by cases b <;> rfl
def kCh2z (q : Int → Int → Bool) (j : Int) (fc : FE) (env : E) (b : Bool) : Option (Out Av) := kCh2 q j fc env b
@[simp] theorem kCh2_v {q : Int → Int → Bool} {j : Int} {i : Nat} {env : E} {b : Bool} : kCh2 q j (vE i) env b = match env[i]? with
    | some (some (.fz (.int k))) => some (.ok (.tm (.fz (.bl (b && q j k)))) env)
    | _ => kCh2z q j (vE i) env b := by
  split
  · rename_i k e
    cases b
    · rfl
    · simp [e]
  · rfl
@[simp] theorem ite_ok1 {b c : Bool} {env : E} : (sel b (some (Out.ok c env)) (some (Out.ok false env)) = some (Out.ok (b && c) env)) := by cases b <;> rfl
@[simp] theorem ite_ok2 {b c : Bool} {env : E} : (sel b (some (Out.ok true env)) (some (Out.ok c env)) = some (Out.ok (b || c) env)) := by cases b <;> rfl
@[simp] theorem ite_ok3 {b c : Bool} {env : E} : (sel b (some (Out.ok (Av.tm (.fz (.bl c))) env)) (some (Out.ok (Av.tm (.fz (.bl false))) env)) = some (Out.ok (Av.tm (.fz (.bl (b && c)))) env)) := by cases b <;> rfl
@[simp] theorem ite_ok4 {b c : Bool} {env : E} : (sel b (some (Out.ok (Av.tm (.fz (.bl true))) env)) (some (Out.ok (Av.tm (.fz (.bl c))) env)) = some (Out.ok (Av.tm (.fz (.bl (b || c)))) env)) := by cases b <;> rfl
@[simp] theorem ev_sl01 {m : M} {i : Int} : sl01 [m, .fz (.int i)] = kG [some m, some (.fz (.int i))] (sliceM m none (some i)) := (rfl)
@[simp] theorem ev_sl10 {m : M} {i : Int} : sl10 [m, .fz (.int i)] = kG [some m, some (.fz (.int i))] (sliceM m (some i) none) := (rfl)
@[simp] theorem ev_sl00 {m : M} : sl00 [m] = kG [some m] (sliceM m none none) := (rfl)
@[simp] theorem ev_slS {s : Str} {lo hi : Option Int} : sliceM (.fz (.str s)) lo hi = if s.length ≤ sizeLine then some (.fz (.str (cutS s lo hi))) else none := (rfl)
@[simp] theorem ev_slT {ds : List D} {lo hi : Option Int} : sliceM (.fz (.tup ds)) lo hi = some (.fz (.tup (cutL ds lo hi))) := (rfl)
@[simp] theorem ev_slZ {ns : List Int} {lo hi : Option Int} : sliceM (.fz (.scr ns)) lo hi = some (.lst ((cutL ns lo hi).map fun n => .fz (.int n))) := (rfl)
@[simp] theorem ev_slL {ds : List D} {lo hi : Option Int} : sliceM (.fz (.lst ds)) lo hi = some (.lst ((cutL ds lo hi).map .fz)) := (rfl)
@[simp] theorem ev_slM {ms : List M} {lo hi : Option Int} : sliceM (.lst ms) lo hi = match unfz ms with
    | some ds => some (.lst ((cutL ds lo hi).map .fz))
    | none => none := (rfl)
theorem cutL_to {α : Type} {xs : List α} {i : Int} (h : 0 ≤ i) : cutL xs none (some i) = xs.take i.toNat := by
  have e : ¬ i < 0 := by omega
  simp only [cutL, HT.sIx, e, if_false, List.drop_zero, Nat.sub_zero]
  rw [Nat.min_comm, ← List.take_take]
  exact List.take_of_length_le (by simp; omega)
theorem cutL_from {α : Type} {xs : List α} {i : Int} (h : 0 ≤ i) : cutL xs (some i) none = xs.drop i.toNat := by
  have e : ¬ i < 0 := by omega
  simp only [cutL, HT.sIx, e, if_false]
  by_cases hl : i.toNat ≤ xs.length
  · rw [Nat.min_eq_left hl, List.take_of_length_le (by simp)]
  · rw [Nat.min_eq_right (by omega), List.drop_of_length_le (Nat.le_refl _), List.drop_of_length_le (by omega)]
    simp
/-- an index within -/
theorem atI_at {α : Type} {xs : List α} {i : Int} (h0 : 0 ≤ i) (h : i < xs.length) : ∃ x, xs[i.toNat]? = some x ∧ atI xs i = some x := by
  have hl : i.toNat < xs.length := by omega
  refine ⟨xs[i.toNat], by simp [hl], ?_⟩
  simp [atI, ixN, h0, h, hl]
theorem atI_mem {α : Type} {xs : List α} {i : Int} (h0 : 0 ≤ i) (h : i < xs.length) : ∃ x, x ∈ xs ∧ atI xs i = some x := by
  obtain ⟨x, e, e2⟩ := atI_at h0 h
  exact ⟨x, List.mem_of_getElem? e, e2⟩
theorem bools_map (f : D → Bool) : ∀ (ds : List D), bools (ds.map fun d => .bl (f d)) = some (ds.map f)
  | [] => rfl
  | d :: ds => by simp only [List.map_cons, bools, bools_map f ds]
theorem all_map (f : D → Bool) (ds : List D) : allM true (.lst (ds.map fun d => .fz (.bl (f d)))) = some (.fz (.bl (ds.all f))) := by
  have e : (ds.map fun d => M.fz (.bl (f d))) = (ds.map fun d => D.bl (f d)).map M.fz := by rw [List.map_map]; rfl
  unfold allM
  rw [e]
  simp only [lstD, unfz_map, bools_map, if_true]
  rw [List.all_map]
  rfl
theorem comp_list {α : Type} {g : FG} {ft : FT} {fe : FE} {own : List Nat} (enc : α → D) (f : α → M) (env : E) : ∀ (xs : List α), (∀ x ∈ xs, ∃ env1 env2, g (.fz (enc x)) env = some env1 ∧ ft env1 = some (.ok true env1) ∧ fe env1 = some (.ok (.tm (f x)) env2) ∧ wipeE env2 own = env) →
    compD g ft fe own (xs.map enc) env = some (xs.map f, env)
  | [], _ => rfl
  | x :: xs, h => by
    obtain ⟨env1, env2, e1, e2, e3, e4⟩ := h x (List.mem_cons_self ..)
    rw [List.map_cons, compD, e1]
    simp only [e2, e3, e4, comp_list enc f env xs fun d hd => h d (List.mem_cons_of_mem _ hd), List.map_cons]
theorem bools_list {α : Type} (f : α → Bool) : ∀ (xs : List α), bools (xs.map fun x => .bl (f x)) = some (xs.map f)
  | [] => rfl
  | d :: ds => by simp only [List.map_cons, bools, bools_list f ds]
@[simp] theorem all_list {α : Type} (f : α → Bool) (xs : List α) : allM true (.lst (xs.map fun x => .fz (.bl (f x)))) = some (.fz (.bl (xs.all f))) := by
  have e : (xs.map fun x => M.fz (.bl (f x))) = (xs.map fun x => D.bl (f x)).map M.fz := by rw [List.map_map]; rfl
  unfold allM
  rw [e]
  simp only [lstD, unfz_map, bools_list, if_true]
  rw [List.all_map]
  rfl
def Nx (P : E → Prop) (o : Option Fl) : Prop := match o with
  | some (.nx env) => P env
  | some (.ct env) => P env
  | _ => False
@[simp] theorem Nx_nx {P : E → Prop} {env : E} : Nx P (some (.nx env)) = P env := (rfl)
@[simp] theorem Nx_ct {P : E → Prop} {env : E} : Nx P (some (.ct env)) = P env := (rfl)
def Stp (fb : FS) (P : E → Prop) (o : Option E) : Prop := match o with
  | some env => Nx P (fb env)
  | none => False
@[simp] theorem Stp_some {fb : FS} {P : E → Prop} {env : E} : Stp fb P (some env) = Nx P (fb env) := (rfl)
theorem loop_list {α : Type} {g : FG} {fb : FS} (enc : α → D) (I : Nat → E → Prop) : ∀ (xs : List α) (k : Nat) (env : E), (∀ (j : Nat) (x : α) (env : E), xs[j]? = some x → I (k + j) env → Stp fb (I (k + j + 1)) (g (.fz (enc x)) env)) → I k env →
    ∃ env', loopD g fb (xs.map enc) env = some (.nx env') ∧ I (k + xs.length) env'
  | [], k, env, _, h => ⟨env, rfl, h⟩
  | d :: ds, k, env, hs, h => by
    have q := hs 0 d env rfl h
    rw [List.map_cons, loopD]
    cases e1 : g (.fz (enc d)) env with
    | none => rw [e1] at q; exact q.elim
    | some env1 =>
      rw [e1, Stp_some] at q
      simp only []
      have ih : ∀ env2, I (k + 1) env2 → ∃ env', loopD g fb (ds.map enc) env2 = some (.nx env') ∧ I (k + (d :: ds).length) env' := fun env2 h2 => by
        obtain ⟨env', e, h'⟩ := loop_list enc I ds (k + 1) env2 (fun j x env hx hI => by
          have z := hs (j + 1) x env (by simpa using hx) (by rw [show k + (j + 1) = k + 1 + j by omega]; exact hI)
          rw [show k + 1 + j + 1 = k + (j + 1) + 1 by omega]; exact z) h2
        exact ⟨env', e, by rw [List.length_cons, show k + (ds.length + 1) = k + 1 + ds.length by omega]; exact h'⟩
      cases e2 : fb env1 with
      | none => rw [e2] at q; exact q.elim
      | some fl =>
        rw [e2] at q
        cases fl with
        | nx env2 => exact ih env2 q
        | ct env2 => exact ih env2 q
        | bk env2 => exact q.elim
        | rt m env2 => exact q.elim
        | ex x env2 => exact q.elim
/-- over range(n) -/
theorem loop_range {g : FG} {fb : FS} (I : Nat → E → Prop) (n : Nat) (env : E) (hs : ∀ (j : Nat) (env : E), j < n → I j env → Stp fb (I (j + 1)) (g (.fz (.int (j : Nat))) env)) (h : I 0 env) :
    ∃ env', loopD g fb (rangeD 0 (n : Int)) env = some (.nx env') ∧ I n env' := by
  have e : rangeD 0 (n : Int) = (List.range n).map fun j => D.int (j : Nat) := by
    unfold rangeD
    simp
  rw [e]
  obtain ⟨env', e1, h1⟩ := loop_list (fun j : Nat => D.int (j : Nat)) I (List.range n) 0 env (fun j x env hx hI => by
    rw [Nat.zero_add] at hI ⊢
    obtain ⟨hj, ex⟩ := List.getElem?_eq_some_iff.mp hx
    simp at hj ex
    subst ex
    exact hs j env hj hI) h
  exact ⟨env', e1, by simpa using h1⟩
def kApp {α : Type} (o p : Option (List α)) : Option (List α) := match o, p with
  | some a, some b => some (a ++ b)
  | _, _ => none
@[simp] theorem kApp_0 {α : Type} {a b : List α} : kApp (some a) (some b) = some (a ++ b) := (rfl)
@[simp] theorem unfz_app {ns : List M} : ∀ {ms : List M}, unfz (ms ++ ns) = kApp (unfz ms) (unfz ns)
  | [] => by cases e : unfz ns <;> simp [e, kApp]
  | m :: ms => by
    cases m with
    | fz d =>
      rw [List.cons_append, ev_unfz1, ev_unfz1, unfz_app (ms := ms)]
      cases unfz ms <;> cases unfz ns <;> rfl
    | lst xs => cases e : unfz ns <;> rfl
    | tup xs => cases e : unfz ns <;> rfl
    | dK xs => cases e : unfz ns <;> rfl
    | dT xs => cases e : unfz ns <;> rfl
    | ins C fs => cases e : unfz ns <;> rfl
@[simp] theorem frzs_app {ns : List M} : ∀ {ms : List M}, frzs (ms ++ ns) = kApp (frzs ms) (frzs ns)
  | [] => by cases e : frzs ns <;> simp [e, kApp]
  | m :: ms => by
    rw [List.cons_append, ev_frzs1, ev_frzs1, frzs_app (ms := ms)]
    cases frz m <;> cases frzs ms <;> cases frzs ns <;> rfl
@[simp] theorem frzs_mapf {α : Type} (f : α → D) (xs : List α) : frzs (xs.map fun x => M.fz (f x)) = some (xs.map f) := by
  have e : (xs.map fun x => M.fz (f x)) = (xs.map f).map M.fz := by rw [List.map_map]; rfl
  rw [e, ev_frzm]
@[simp] theorem unfz_mapf {α : Type} (f : α → D) (xs : List α) : unfz (xs.map fun x => M.fz (f x)) = some (xs.map f) := by
  have e : (xs.map fun x => M.fz (f x)) = (xs.map f).map M.fz := by rw [List.map_map]; rfl
  rw [e, ev_unfzm]
@[simp] theorem frzs_mapc {α : Type} (f : α → D) (xs : List α) : frzs (xs.map (M.fz ∘ f)) = some (xs.map f) := frzs_mapf f xs
@[simp] theorem unfz_mapc {α : Type} (f : α → D) (xs : List α) : unfz (xs.map (M.fz ∘ f)) = some (xs.map f) := unfz_mapf f xs
@[simp] theorem itemsA_lst {ms : List M} : itemsA (.lst ms) = frzs ms := by
  unfold itemsA
  rw [ev_frz2]
  cases frzs ms <;> rfl
@[simp] theorem itemsA_str {x : Str} : itemsA (.fz (.str x)) = some (x.cps.toList.map fun c => .str ⟨#[c]⟩) := by simp [itemsA]
@[simp] theorem itemsA_tup {ds : List D} : itemsA (.fz (.tup ds)) = some ds := by simp [itemsA]
@[simp] theorem itemsE_tup {ds : List D} : itemsE 0 (.fz (.tup ds)) = some (enumD 0 ds) := by simp [itemsE]
end Ink
set_option Elab.async false
set_option linter.all false
set_option maxRecDepth 100000
namespace Ink
open PySem L2
def keyM : M → Option Key
  | .fz (.int i) => some (.inl i)
  | .fz (.str x) => some (.inr x)
  | _ => none
def valK {α : Type} (kvs : List (Key × α)) (k : Key) : Option α := (kvs.find? fun kv => decide (kv.1 = k)).map (·.2)
def dctM : M → Option (List (Key × M))
  | .dK kvs => some kvs
  | .fz (.dK kvs) => some (kvs.map fun kv => (kv.1, .fz kv.2))
  | _ => none
theorem keyM_rep {K : PySem.W.Frag} {F H : Hp} {m : M} {v : V} {fp : List Addr} {k : Key} (r : RepM K F H m v fp) (h : keyM m = some k) : v = kV k := by
  unfold keyM at h
  split at h
  · cases h
    exact rep_int (repm_fz r)
  · cases h
    exact rep_str (repm_fz r)
  · cases h
theorem RepMs.ofReps {K : PySem.W.Frag} {F H : Hp} : ∀ {vs : List V} {ds : List D}, Reps K F vs ds → RepMs K F H (ds.map M.fz) vs []
  | _, _, .nil => .nil
  | _, _, .cons a b => .cons (fp := []) (fq := []) (RepM.fz a) (RepMs.ofReps b) fun b hb => by cases hb
theorem dct_rep {K : PySem.W.Frag} {F H : Hp} {m : M} {v : V} {fp : List Addr} {ms : List (Key × M)} (s : Sub F H) (r : RepM K F H m v fp) (h : dctM m = some ms) :
    ∃ a kvs fp', v = .ref a ∧ H a = some (.dK kvs) ∧ kvs.map (·.1) = ms.map (·.1) ∧ RepMs K F H (ms.map (·.2)) (kvs.map (·.2)) fp' := by
  unfold dctM at h
  split at h
  · cases h
    cases r with
    | dK a b c d e => exact ⟨_, _, _, rfl, a, c, d⟩
  · cases h
    cases repm_fz r with
    | dK a b c =>
      refine ⟨_, _, [], rfl, s _ _ a, by rw [b, List.map_map]; rfl, ?_⟩
      have q := RepMs.ofReps (H := H) c
      rw [List.map_map] at q ⊢
      exact q
  · cases h
theorem val_rep {K : PySem.W.Frag} {F H : Hp} {k : Key} : ∀ {ms : List (Key × M)} {kvs : List (Key × V)} {fp : List Addr}, kvs.map (·.1) = ms.map (·.1) → RepMs K F H (ms.map (·.2)) (kvs.map (·.2)) fp →
    (valK ms k = none ∧ valV kvs k = none) ∨ ∃ m v fq, valK ms k = some m ∧ valV kvs k = some v ∧ RepM K F H m v fq ∧ ∀ b ∈ fq, b ∈ fp
  | [], [], _, _, _ => .inl ⟨rfl, rfl⟩
  | [], _ :: _, _, h, _ => by simp at h
  | _ :: _, [], _, h, _ => by simp at h
  | (k1, m) :: ms, (k2, v) :: kvs, fp, h, r => by
    simp only [List.map_cons, List.cons.injEq] at h r
    obtain ⟨rfl, h⟩ := h
    cases r with
    | cons a b c =>
      by_cases e : k2 = k
      · refine .inr ⟨m, v, _, by simp [valK, e], valV_pos e, a, fun b hb => List.mem_append_left _ hb⟩
      · have e1 : valK ((k2, m) :: ms) k = valK ms k := by simp [valK, e]
        rw [e1, valV_neg e]
        rcases val_rep h b with q | ⟨m1, v1, fq, q1, q2, q3, q4⟩
        · exact .inl q
        · exact .inr ⟨m1, v1, fq, q1, q2, q3, fun b hb => List.mem_append_right _ (q4 b hb)⟩
def inA (neg : Bool) (a b : M) : Option M := match dctM b with
  | some ms => match keyM a with
    | some k => some (.fz (.bl (if neg then !(valK ms k).isSome else (valK ms k).isSome)))
    | none => none
  | none => inM neg a b
section
variable {X : Cx}
theorem op_inD (hu : X.A.units + 64 < cLine) : OpR X (compareOp .In) (fun x y H Q => ∃ a o, y = .ref a ∧ DGet H a x o ∧ Q (.bl o.isSome) H) := by
  intro pins s σ H x y v u Q I rx ry h
  obtain ⟨a, o, rfl, g, q⟩ := h
  obtain rfl : u = Value.ref a := ry
  exact d_in (by omega) I g rx fun s3 I3 => ⟨.bl o.isSome, H, I3, rfl, q⟩
theorem op_ninD (hu : X.A.units + 64 < cLine) : OpR X (compareOp .NotIn) (fun x y H Q => ∃ a o, y = .ref a ∧ DGet H a x o ∧ Q (.bl (!o.isSome)) H) := by
  intro pins s σ H x y v u Q I rx ry h
  obtain ⟨a, o, rfl, g, q⟩ := h
  obtain rfl : u = Value.ref a := ry
  exact d_notIn (by omega) I g rx fun s3 I3 => ⟨.bl (!o.isSome), H, I3, rfl, q⟩
theorem ix_dict (hu : X.A.units + 64 < cLine) : IxR X (fun x y H Q => ∃ a v, x = .ref a ∧ DGet H a y (some v) ∧ Q v H) := by
  intro value slice pins s σ H x y v u Q I rx ry h hs
  obtain ⟨a, w, rfl, g, q⟩ := h
  obtain rfl : v = Value.ref a := rx
  exact PyProof.Rows.tail_any (dict_typeIs I g) PySem.F.slot_dict_getitem.lookup (d_getItem (by omega) I g ry fun w' s3 I3 rw' => ⟨w, H, I3, rw', q⟩) hs
end
theorem op2_inA {X : Cx} {rs rq : R2} (K : PySem.W.Frag) (hs : ∀ c z H Q, Q (.bl (decide (c ∈ (z : Str).cps.toList))) H → rs (.str ⟨#[c]⟩) (.str z) H Q) (hq : ∀ x p xs H Q, (SqL K H p xs ∨ SqT K H p xs) → flatV x = true → xs.all flatV = true → Q (.bl (inV x xs)) H → rq x (.ref p) H Q) :
    Op2 K (g2 (inA false)) (fun x y H Q => (rs x y H Q ∨ rq x y H Q) ∨ ∃ a o, y = .ref a ∧ DGet H a x o ∧ Q (.bl (o.isSome)) H) := fun x y H Q Ex p => by
  obtain ⟨F, a, b, m, fps, R, r1, r2, e, p⟩ := g2_at p
  unfold inA at e
  split at e
  · rename_i ms hd
    split at e
    · rename_i k hk
      cases e
      obtain ⟨ad, kvs, fp', rfl, hH, hk2, rs2⟩ := dct_rep R.fr r2 hd
      refine .inr ⟨ad, valV kvs k, rfl, .inl ⟨kvs, k, .inl hH, keyM_rep r1 hk, rfl⟩, ?_⟩
      have q := sp_flat R (Rep.bl _) p
      rcases val_rep (k := k) hk2 rs2 with ⟨q1, q2⟩ | ⟨m1, v1, fq, q1, q2, _, _⟩
      · rw [q1] at q; rw [q2]; exact q
      · rw [q1] at q; rw [q2]; exact q
    · cases e
  · unfold inM at e
    cases ek : inB a b with
    | none => rw [ek] at e; cases e
    | some k =>
      rw [ek] at e; cases e
      have q := sp_flat R (Rep.bl _) p
      rcases inB_at R.fr r1 r2 ek with ⟨c, z, rfl, rfl, rfl⟩ | ⟨pp, xs, rfl, h2, h3, h4, rfl⟩
      · exact .inl (.inl (hs c z H Q q))
      · exact .inl (.inr (hq x pp xs H Q h2 h3 h4 q))
theorem op2_ninA {X : Cx} {rs rq : R2} (K : PySem.W.Frag) (hs : ∀ c z H Q, Q (.bl (!decide (c ∈ (z : Str).cps.toList))) H → rs (.str ⟨#[c]⟩) (.str z) H Q) (hq : ∀ x p xs H Q, (SqL K H p xs ∨ SqT K H p xs) → flatV x = true → xs.all flatV = true → Q (.bl (!inV x xs)) H → rq x (.ref p) H Q) :
    Op2 K (g2 (inA true)) (fun x y H Q => (rs x y H Q ∨ rq x y H Q) ∨ ∃ a o, y = .ref a ∧ DGet H a x o ∧ Q (.bl (!o.isSome)) H) := fun x y H Q Ex p => by
  obtain ⟨F, a, b, m, fps, R, r1, r2, e, p⟩ := g2_at p
  unfold inA at e
  split at e
  · rename_i ms hd
    split at e
    · rename_i k hk
      cases e
      obtain ⟨ad, kvs, fp', rfl, hH, hk2, rs2⟩ := dct_rep R.fr r2 hd
      refine .inr ⟨ad, valV kvs k, rfl, .inl ⟨kvs, k, .inl hH, keyM_rep r1 hk, rfl⟩, ?_⟩
      have q := sp_flat R (Rep.bl _) p
      rcases val_rep (k := k) hk2 rs2 with ⟨q1, q2⟩ | ⟨m1, v1, fq, q1, q2, _, _⟩
      · rw [q1] at q; rw [q2]; exact q
      · rw [q1] at q; rw [q2]; exact q
    · cases e
  · unfold inM at e
    cases ek : inB a b with
    | none => rw [ek] at e; cases e
    | some k =>
      rw [ek] at e; cases e
      have q := sp_flat R (Rep.bl _) p
      rcases inB_at R.fr r1 r2 ek with ⟨c, z, rfl, rfl, rfl⟩ | ⟨pp, xs, rfl, h2, h3, h4, rfl⟩
      · exact .inl (.inl (hs c z H Q q))
      · exact .inl (.inr (hq x pp xs H Q h2 h3 h4 q))
def ixA (a b : M) : Option M := match dctM a with
  | some ms => match keyM b with
    | some k => match valK ms k with
      | some (.fz d) => some (.fz d)
      | _ => none
    | none => none
  | none => ixM a b
theorem op2_ixA {K : PySem.W.Frag} : Op2 K (g2 ixA) (fun x y H Q => rIx K x y H Q ∨ ∃ a v, x = .ref a ∧ DGet H a y (some v) ∧ Q v H) := fun x y H Q Ex p => by
  obtain ⟨F, a, b, m, fps, R, r1, r2, e, p⟩ := g2_at p
  unfold ixA at e
  split at e
  · rename_i ms hd
    split at e
    · rename_i k hk
      split at e
      · rename_i d hv
        cases e
        obtain ⟨ad, kvs, fp', rfl, hH, hk2, rs2⟩ := dct_rep R.fr r1 hd
        rcases val_rep (k := k) hk2 rs2 with ⟨q1, q2⟩ | ⟨m1, v1, fq, q1, q2, rr, _⟩
        · rw [hv] at q1; cases q1
        · rw [hv] at q1; cases q1
          exact .inr ⟨ad, v1, rfl, .inl ⟨kvs, k, .inl hH, keyM_rep r2 hk, q2.symm⟩, sp_flat R (repm_fz rr) p⟩
      · cases e
    · cases e
  · refine .inl (op2_ix x y H Q Ex ⟨F, [a, b], fps, R, ?_⟩)
    rw [show ixG [a, b] = some (.ok m [some a, some b]) by show g2 ixM [a, b] = _; simp only [g2, e]]
    exact p
end Ink
set_option Elab.async false
set_option linter.all false
set_option maxRecDepth 100000
namespace Ink
open PySem L2
section
variable {κ : Type} [DecidableEq κ]
def hasK {α : Type} (kvs : List (κ × α)) (k : κ) : Bool := kvs.any fun kv => decide (kv.1 = k)
def putM (kvs : List (κ × M)) (k : κ) (m : M) : List (κ × M) := if hasK kvs k then kvs.map (fun kv => if kv.1 = k then (kv.1, m) else kv) else kvs ++ [(k, m)]
theorem hasK_keys {α β : Type} {k : κ} : ∀ {xs : List (κ × α)} {ys : List (κ × β)}, xs.map (·.1) = ys.map (·.1) → hasK xs k = hasK ys k
  | [], [], _ => rfl
  | [], _ :: _, h => by simp at h
  | _ :: _, [], h => by simp at h
  | x :: xs, y :: ys, h => by
    simp only [List.map_cons, List.cons.injEq] at h
    have ih := hasK_keys (k := k) h.2
    unfold hasK at ih ⊢
    simp only [List.any_cons, h.1, ih]
/-- a key that stands there gets a plain thing -/
theorem put_old {K : PySem.W.Frag} {F H : Hp} {k : κ} {d : D} {v : V} (rd : Rep K F v d) : ∀ {ms : List (κ × M)} {kvs : List (κ × V)} {fp : List Addr}, kvs.map (·.1) = ms.map (·.1) → RepMs K F H (ms.map (·.2)) (kvs.map (·.2)) fp →
    ∃ fq, (∀ b ∈ fq, b ∈ fp) ∧ (kvs.map fun kv => if kv.1 = k then (kv.1, v) else kv).map (·.1) = (ms.map fun kv => if kv.1 = k then (kv.1, M.fz d) else kv).map (·.1) ∧ RepMs K F H ((ms.map fun kv => if kv.1 = k then (kv.1, M.fz d) else kv).map (·.2)) ((kvs.map fun kv => if kv.1 = k then (kv.1, v) else kv).map (·.2)) fq
  | [], [], fp, _, r => ⟨fp, fun _ h => h, rfl, r⟩
  | [], _ :: _, _, h, _ => by simp at h
  | _ :: _, [], _, h, _ => by simp at h
  | (k1, m) :: ms, (k2, w) :: kvs, fp, h, r => by
    simp only [List.map_cons, List.cons.injEq] at h r
    obtain ⟨rfl, h⟩ := h
    cases r with
    | cons a b c =>
      obtain ⟨fq, s, e, r2⟩ := put_old rd (k := k) h b
      by_cases q : k2 = k
      · refine ⟨[] ++ fq, fun b hb => List.mem_append_right _ (s b hb), ?_, ?_⟩
        · simp only [List.map_cons, q, if_true, e]
        · simp only [List.map_cons, q, if_true]
          exact .cons (RepM.fz rd) r2 fun b hb => by cases hb
      · rename_i f1 f2
        refine ⟨f1 ++ fq, fun b hb => ?_, ?_, ?_⟩
        · rcases List.mem_append.mp hb with z | z
          · exact List.mem_append_left _ z
          · exact List.mem_append_right _ (s b z)
        · simp only [List.map_cons, if_neg q, e]
        · simp only [List.map_cons, if_neg q]
          exact .cons a r2 fun b hb z => c b hb (s b z)
/-- a key that does not stand there: anything that is owned apart -/
theorem put_new {K : PySem.W.Frag} {F H : Hp} {k : κ} {m : M} {v : V} {fm : List Addr} {ms : List (κ × M)} {kvs : List (κ × V)} {fp : List Addr} (h : kvs.map (·.1) = ms.map (·.1)) (r : RepMs K F H (ms.map (·.2)) (kvs.map (·.2)) fp) (rm : RepM K F H m v fm) (d : ∀ b ∈ fp, b ∉ fm) :
    (kvs ++ [(k, v)]).map (·.1) = (ms ++ [(k, m)]).map (·.1) ∧ RepMs K F H ((ms ++ [(k, m)]).map (·.2)) ((kvs ++ [(k, v)]).map (·.2)) (fp ++ fm) := by
  refine ⟨by simp [h], ?_⟩
  rw [List.map_append, List.map_append]
  have q : RepMs K F H [m] [v] (fm ++ []) := .cons rm .nil fun b _ z => by cases z
  rw [List.append_nil] at q
  exact r.append q d
def okPut (kvs : List (κ × M)) (k : κ) (v : M) : Bool := decide (kvs.length < sizeLine) && (!hasK kvs k || isFz v)
/-- the dict behind d[k] = v -/
theorem put_rep {K : PySem.W.Frag} {F H : Hp} {k : κ} {m : M} {v : V} {fm : List Addr} {ms : List (κ × M)} {kvs : List (κ × V)} {fp : List Addr} (h : kvs.map (·.1) = ms.map (·.1)) (r : RepMs K F H (ms.map (·.2)) (kvs.map (·.2)) fp) (rm : RepM K F H m v fm) (d : ∀ b ∈ fp, b ∉ fm) (ok : okPut ms k m = true) :
    ∃ fq, (∀ b ∈ fq, b ∈ fp ∨ b ∈ fm) ∧ (putK kvs k v).map (·.1) = (putM ms k m).map (·.1) ∧ RepMs K F H ((putM ms k m).map (·.2)) ((putK kvs k v).map (·.2)) fq := by
  have hh : hasK kvs k = hasK ms k := hasK_keys h
  unfold putK putM
  have e1 : (kvs.any fun kv => decide (kv.1 = k)) = hasK ms k := hh
  rw [e1]
  cases hk : hasK ms k with
  | false =>
    obtain ⟨a, b⟩ := put_new (k := k) h r rm d
    exact ⟨fp ++ fm, fun b hb => List.mem_append.mp hb, by simpa using a, by simpa using b⟩
  | true =>
    unfold okPut at ok
    rw [hk] at ok
    simp at ok
    cases m with
    | fz dd =>
      obtain ⟨fq, s, a, b⟩ := put_old (repm_fz rm) (k := k) h r
      exact ⟨fq, fun b hb => .inl (s b hb), by simpa using a, by simpa using b⟩
    | lst _ => simp [isFz] at ok
    | tup _ => simp [isFz] at ok
    | dK _ => simp [isFz] at ok
    | dT _ => simp [isFz] at ok
    | ins _ _ => simp [isFz] at ok
end
end Ink
set_option Elab.async false
set_option linter.all false
set_option maxRecDepth 100000
namespace Ink
open PySem L2
mutual
/-- no owned tuple within -/
def noT : M → Bool
  | .fz _ => true
  | .lst ms => noTs ms
  | .tup _ => false
  | .dK kvs => noTK kvs
  | .dT kvs => noTT kvs
  | .ins _ fs => noTF fs
def noTs : List M → Bool
  | [] => true
  | m :: ms => noT m && noTs ms
def noTK : List (Key × M) → Bool
  | [] => true
  | (_, m) :: ms => noT m && noTK ms
def noTT : List (List Key × M) → Bool
  | [] => true
  | (_, m) :: ms => noT m && noTT ms
def noTF : List (Str × M) → Bool
  | [] => true
  | (_, m) :: ms => noT m && noTF ms
end
theorem noTK_vals : ∀ kvs : List (Key × M), noTK kvs = noTs (kvs.map (·.2))
  | [] => by simp [noTK, noTs]
  | (k, m) :: r => by simp [noTK, noTs, noTK_vals r]
theorem noTT_vals : ∀ kvs : List (List Key × M), noTT kvs = noTs (kvs.map (·.2))
  | [] => by simp [noTT, noTs]
  | (k, m) :: r => by simp [noTT, noTs, noTT_vals r]
theorem noTF_vals : ∀ kvs : List (Str × M), noTF kvs = noTs (kvs.map (·.2))
  | [] => by simp [noTF, noTs]
  | (k, m) :: r => by simp [noTF, noTs, noTF_vals r]
mutual
/-- tuples, numbers, texts alone -/
def noL : D → Bool
  | .non => true
  | .bl _ => true
  | .int _ => true
  | .str _ => true
  | .tup ds => noLs ds
  | .lst _ => false
  | .dK _ => false
  | .dT _ => false
  | .scr _ => false
  | .ins _ _ => false
  | .lam _ => false
  | .dLK _ => false
  | .dLT _ => false
  | .nst _ _ => false
def noLs : List D → Bool
  | [] => true
  | d :: ds => noL d && noLs ds
end
mutual
def noLM : M → Bool
  | .fz d => noL d
  | .lst ms => noLMs ms
  | .tup ms => noLMs ms
  | .dK kvs => noLMK kvs
  | .dT kvs => noLMT kvs
  | .ins _ fs => noLMF fs
def noLMs : List M → Bool
  | [] => true
  | m :: ms => noLM m && noLMs ms
def noLMK : List (Key × M) → Bool
  | [] => true
  | (_, m) :: ms => noLM m && noLMK ms
def noLMT : List (List Key × M) → Bool
  | [] => true
  | (_, m) :: ms => noLM m && noLMT ms
def noLMF : List (Str × M) → Bool
  | [] => true
  | (_, m) :: ms => noLM m && noLMF ms
end
theorem noLMK_vals : ∀ kvs : List (Key × M), noLMK kvs = noLMs (kvs.map (·.2))
  | [] => by simp [noLMK, noLMs]
  | (k, m) :: r => by simp [noLMK, noLMs, noLMK_vals r]
theorem noLMT_vals : ∀ kvs : List (List Key × M), noLMT kvs = noLMs (kvs.map (·.2))
  | [] => by simp [noLMT, noLMs]
  | (k, m) :: r => by simp [noLMT, noLMs, noLMT_vals r]
theorem noLMF_vals : ∀ kvs : List (Str × M), noLMF kvs = noLMs (kvs.map (·.2))
  | [] => by simp [noLMF, noLMs]
  | (k, m) :: r => by simp [noLMF, noLMs, noLMF_vals r]
/-- not read as a tuple -/
def notTup (o : HO) : Prop := ∀ xs, o ≠ .tup xs ∧ ∀ q, o ≠ .frz q (.tup xs)
theorem RepM.kinds {K : PySem.W.Frag} {F H : Hp} {m : M} {v : V} {fp : List Addr} (h : RepM K F H m v fp) (ht : noT m = true) : ∀ b ∈ fp, ∃ o, H b = some o ∧ notTup o := by
  refine RepM.rec (K := K) (F := F) (H := H) (motive_1 := fun m v fp _ => noT m = true → ∀ b ∈ fp, ∃ o, H b = some o ∧ notTup o) (motive_2 := fun ms vs fp _ => noTs ms = true → ∀ b ∈ fp, ∃ o, H b = some o ∧ notTup o)
    ?_ ?_ ?_ ?_ ?_ ?_ ?_ ?_ h ht
  · exact fun _ _ b hb => by cases hb
  · exact fun a f _ n ih ht b hb => by
      rcases List.mem_cons.mp hb with rfl | hb
      · exact ⟨_, a, fun xs => ⟨by simp, by simp⟩⟩
      · exact ih (by simpa [noT] using ht) b hb
  · exact fun a _ ih ht b hb => by simp [noT] at ht
  · exact fun a f _ _ n ih ht b hb => by
      rcases List.mem_cons.mp hb with rfl | hb
      · exact ⟨_, a, fun xs => ⟨by simp, by simp⟩⟩
      · exact ih (by simpa [noT, noTK_vals] using ht) b hb
  · exact fun a f _ _ n ih ht b hb => by
      rcases List.mem_cons.mp hb with rfl | hb
      · exact ⟨_, a, fun xs => ⟨by simp, by simp⟩⟩
      · exact ih (by simpa [noT, noTT_vals] using ht) b hb
  · exact fun a f _ _ n ih ht b hb => by
      rcases List.mem_cons.mp hb with rfl | hb
      · exact ⟨_, a, fun xs => ⟨by simp, by simp⟩⟩
      · exact ih (by simpa [noT, noTF_vals] using ht) b hb
  · exact fun _ b hb => by cases hb
  · exact fun _ _ dj i1 i2 ht b hb => by
      rw [noTs] at ht
      simp only [Bool.and_eq_true] at ht
      rcases List.mem_append.mp hb with hb | hb
      · exact i1 ht.1 b hb
      · exact i2 ht.2 b hb
open Classical in
noncomputable def cutF (F : Hp) (B : Addr → Prop) : Hp := fun b => if B b then none else F b
theorem cutF_in {F : Hp} {B : Addr → Prop} {b : Addr} (h : B b) : cutF F B b = none := by unfold cutF; rw [if_pos h]
theorem cutF_out {F : Hp} {B : Addr → Prop} {b : Addr} (h : ¬ B b) : cutF F B b = F b := by unfold cutF; rw [if_neg h]
theorem cutF_some {F : Hp} {B : Addr → Prop} {b : Addr} {o : HO} (h : cutF F B b = some o) : ¬ B b ∧ F b = some o := by
  by_cases q : B b
  · rw [cutF_in q] at h; cases h
  · rw [cutF_out q] at h; exact ⟨q, h⟩
section
variable {K : PySem.W.Frag} {F H : Hp} {B : Addr → Prop}
theorem tup_cut {p : Addr} {vs : List V} (hB : ∀ b, B b → ∃ o, F b = some o ∧ notTup o) (h : F p = some (.tup vs)) : cutF F B p = some (.tup vs) := by
  rw [cutF_out fun q => ?_]; exact h
  obtain ⟨o, h1, h2⟩ := hB p q
  rw [h] at h1; cases h1
  exact (h2 vs).1 rfl
theorem Rep.restr (hB : ∀ b, B b → ∃ o, F b = some o ∧ notTup o) {v : V} {d : D} (h : Rep K F v d) : noL d = true → Rep K (cutF F B) v d :=
  Rep.rec (K := K) (F := F) (motive_1 := fun v d _ => noL d = true → Rep K (cutF F B) v d) (motive_2 := fun vs ds _ => noLs ds = true → Reps K (cutF F B) vs ds)
    (fun _ => .non) (fun b _ => .bl b) (fun i _ => .int i) (fun x _ => .str x) (fun _ _ _ n => by simp [noL] at n) (fun a _ ih n => .tup (tup_cut hB a) (ih (by simpa [noL] using n)))
    (fun _ _ _ _ n => by simp [noL] at n) (fun _ _ _ _ n => by simp [noL] at n) (fun _ n => by simp [noL] at n) (fun _ _ _ _ n => by simp [noL] at n) (fun _ _ n => by simp [noL] at n) (fun _ _ _ _ n => by simp [noL] at n) (fun _ _ _ _ n => by simp [noL] at n) (fun _ _ _ _ n => by simp [noL] at n)
    (fun _ => .nil) (fun _ _ i1 i2 n => by
      rw [noLs] at n
      simp only [Bool.and_eq_true] at n
      exact .cons (i1 n.1) (i2 n.2)) h
theorem Reps.restr (hB : ∀ b, B b → ∃ o, F b = some o ∧ notTup o) : ∀ {vs : List V} {ds : List D}, Reps K F vs ds → noLs ds = true → Reps K (cutF F B) vs ds
  | _, _, .nil, _ => .nil
  | _, _, .cons a b, n => by
    rw [noLs] at n
    simp only [Bool.and_eq_true] at n
    exact .cons (a.restr hB n.1) (Reps.restr hB b n.2)
theorem cut_none {p : Addr} (h : F p = none) : cutF F B p = none := by
  by_cases q : B p
  · exact cutF_in q
  · rw [cutF_out q]; exact h
theorem RepM.restr (hB : ∀ b, B b → ∃ o, F b = some o ∧ notTup o) {m : M} {v : V} {fp : List Addr} (h : RepM K F H m v fp) : noLM m = true → RepM K (cutF F B) H m v fp :=
  RepM.rec (K := K) (F := F) (H := H) (motive_1 := fun m v fp _ => noLM m = true → RepM K (cutF F B) H m v fp) (motive_2 := fun ms vs fp _ => noLMs ms = true → RepMs K (cutF F B) H ms vs fp)
    (fun r n => .fz (r.restr hB (by simpa [noLM] using n))) (fun a f _ n ih k => .lst a (cut_none f) (ih (by simpa [noLM] using k)) n) (fun {p vs ms fp} a _ ih k => .tup (by
      rw [cutF_out fun q => ?_]
      · exact a
      · obtain ⟨o, h1, h2⟩ := hB p q
        rw [a] at h1; exact (h2 vs).1 (Option.some.inj h1).symm) (ih (by simpa [noLM] using k)))
    (fun a f c _ n ih k => .dK a (cut_none f) c (ih (by simpa [noLM, noLMK_vals] using k)) n) (fun a f c _ n ih k => .dT a (cut_none f) c (ih (by simpa [noLM, noLMT_vals] using k)) n) (fun a f c _ n ih k => .ins a (cut_none f) c (ih (by simpa [noLM, noLMF_vals] using k)) n)
    (fun _ => .nil) (fun _ _ dj i1 i2 n => by
      rw [noLMs] at n
      simp only [Bool.and_eq_true] at n
      exact .cons (i1 n.1) (i2 n.2) dj) h
end
/-- a thing as it is lent -/
def borM (m : M) : Option M := match noT m with
  | true => match frz m with
    | some d => some (.fz d)
    | none => none
  | false => none
def borO : Option M → Option M
  | some m => borM m
  | none => none
def borE (env : E) : E := env.map borO
theorem borM_at {m m' : M} (h : borM m = some m') : ∃ d, m' = .fz d ∧ noT m = true ∧ frz m = some d := by
  unfold borM at h
  split at h
  · rename_i e
    split at h
    · rename_i d ed
      cases h
      exact ⟨d, rfl, e, ed⟩
    · cases h
  · cases h
theorem borE_at {env : E} {i : Nat} {m' : M} (h : (borE env)[i]? = some (some m')) : ∃ m d, env[i]? = some (some m) ∧ m' = .fz d ∧ noT m = true ∧ frz m = some d := by
  unfold borE at h
  rw [List.getElem?_map] at h
  cases e : env[i]? with
  | none => rw [e] at h; cases h
  | some o =>
    rw [e] at h
    cases o with
    | none => simp [borO] at h
    | some m =>
      simp only [Option.map_some, Option.some.injEq, borO] at h
      obtain ⟨d, a, b, c⟩ := borM_at h
      exact ⟨m, d, rfl, a, b, c⟩
def Bor (env : E) (fps : Nat → List Addr) (b : Addr) : Prop := ∃ i m d, b ∈ fps i ∧ env[i]? = some (some m) ∧ noT m = true ∧ frz m = some d
open Classical in
noncomputable def borF (F H : Hp) (env : E) (fps : Nat → List Addr) : Hp := fun b => if Bor env fps b then H b else F b
section
variable {K : PySem.W.Frag} {F H : Hp} {σ : St} {env : E} {fps : Nat → List Addr}
theorem borF_in {b : Addr} (h : Bor env fps b) : borF F H env fps b = H b := by unfold borF; rw [if_pos h]
theorem borF_out {b : Addr} (h : ¬ Bor env fps b) : borF F H env fps b = F b := by unfold borF; rw [if_neg h]
theorem Bor.own {b : Addr} (h : Bor env fps b) : Own fps b := let ⟨i, _, _, hb, _⟩ := h; ⟨i, hb⟩
theorem borF_sub (R : REnv K F H σ env fps) : Sub F (borF F H env fps) := fun b o h => by
  have n : ¬ Bor env fps b := fun q => by
    rw [(R.live q.own).2] at h; cases h
  rw [borF_out n]; exact h
theorem borF_H (R : REnv K F H σ env fps) : Sub (borF F H env fps) H := fun b o h => by
  by_cases q : Bor env fps b
  · rw [borF_in q] at h; exact h
  · rw [borF_out q] at h; exact R.fr b o h
theorem borF_nt (R : REnv K F H σ env fps) : ∀ b ps, borF F H env fps b ≠ some (.tbl ps) := fun b ps e => by
  by_cases q : Bor env fps b
  · rw [borF_in q] at e
    obtain ⟨o, ho, k⟩ := R.kin q.own
    rw [e] at ho; cases ho
    exact k.nt ps rfl
  · rw [borF_out q] at e
    exact R.tt.nt b ps e
theorem pure_env (R : REnv K F H σ env fps) : REnv K (borF F H env fps) H σ (borE env) (fun _ => []) := by
  refine ⟨borF_H R, by unfold borE; rw [List.length_map]; exact R.len, fun i m' h => ?_, fun _ _ => rfl, (fun _ _ _ b hb => by cases hb), R.tt.sub (borF_sub R) (borF_nt R)⟩
  obtain ⟨m, d, e, rfl, ht, hd⟩ := borE_at h
  obtain ⟨v, hv, r⟩ := R.got i m e
  exact ⟨v, hv, .fz (r.frozen (borF_sub R) (fun b hb => borF_in ⟨i, m, d, hb, e, ht, hd⟩) hd)⟩
theorem pure_back {F2 H2 : Hp} {A2 : Addr → Prop} (R : REnv K F H σ env fps) (fr : Sub F2 H2) (e : Ext K (borF F H env fps) H (Own fun _ => []) F2 H2 A2) :
    REnv K (cutF F2 (Bor env fps)) H2 σ env fps ∧ Ext K F H (fun _ => False) (cutF F2 (Bor env fps)) H2 A2 ∧ (∀ b, Bor env fps b → ∃ o, F2 b = some o ∧ notTup o) := by
  have no : ∀ b, ¬ Own (fun _ => ([] : List Addr)) b := fun b ⟨i, h⟩ => by cases h
  have keep : ∀ b o, H b = some o → NT o → H2 b = some o := fun b o h => e.keep b o h (no b)
  have tt2 : TOk K F2 H2 := e.tt.ok (R.tt.sub (borF_sub R) (borF_nt R))
  have nt2 : ∀ b ps, cutF F2 (Bor env fps) b ≠ some (.tbl ps) := fun b ps z => tt2.nt b ps (cutF_some z).2
  have cd2 : ∀ p ∈ TL K, ∀ ps, H2 p.1 = some (.tbl ps) → ∀ (pos : Pos) (cv : Value), codeAmong pos ps.toList = some cv → ∃ c, cv = .ref c ∧ cutF F2 (Bor env fps) c = some (LamX.CodeO c p.2) := fun p hp ps h pos cv hc => by
    obtain ⟨c, e1, e2⟩ := tt2.cd p hp ps h pos cv hc
    refine ⟨c, e1, ?_⟩
    rw [cutF_out fun q => ?_]
    · exact e2
    obtain ⟨o, ho, hk⟩ := R.kin q.own
    have h2 := keep c o ho hk.nt
    rw [fr _ _ e2] at h2
    exact hk.nc c p.2 (Option.some.inj h2).symm
  have tp2 : ∀ b vs, H2 b = some (.tup vs) → cutF F2 (Bor env fps) b = some (.tup vs) := fun b vs h => by
    rw [cutF_out fun q => ?_]
    · exact tt2.tp b vs h
    obtain ⟨o, ho, hk⟩ := R.kin q.own
    have h2 := keep b o ho hk.nt
    rw [h] at h2
    exact hk.ntp vs (Option.some.inj h2).symm
  have s1 : Sub F (cutF F2 (Bor env fps)) := fun b o h => by
    have n : ¬ Bor env fps b := fun q => by
      rw [(R.live q.own).2] at h; cases h
    rw [cutF_out n]
    exact e.ff b o (borF_sub R b o h)
  have hn : ∀ b, Own fps b → cutF F2 (Bor env fps) b = none := fun b hb => by
    by_cases q : Bor env fps b
    · exact cutF_in q
    · rw [cutF_out q]
      obtain ⟨⟨o, ho⟩, hf⟩ := R.live hb
      cases z : F2 b with
      | none => rfl
      | some u =>
        rcases e.fz b u z with y | y | y
        · rw [borF_out q, hf] at y; cases y
        · exact (no b y).elim
        · rw [ho] at y; cases y
  refine ⟨⟨fun b o h => fr b o (cutF_some h).2, R.len, fun i m h => ?_, R.nil, R.dj, ⟨nt2, tt2.tb, tt2.ot, cd2, tp2⟩⟩, ⟨s1, fun b o h _ => keep b o h, fun b h => (e.own b h).imp (fun z => no b z) id, fun b o h => ?_, ⟨e.tt.tbl, fun _ => ⟨nt2, tt2.tb, tt2.ot, cd2, tp2⟩⟩⟩, fun b h => ?_⟩
  · obtain ⟨v, hv, r⟩ := R.got i m h
    refine ⟨v, hv, r.frame s1 (fun b hb => ?_) fun b hb => hn b ⟨i, hb⟩⟩
    obtain ⟨⟨o, ho⟩, _⟩ := r.live b hb
    rw [keep b o ho (r.nt hb ho), ho]
  · obtain ⟨n, h⟩ := cutF_some h
    rcases e.fz b o h with y | y | y
    · rw [borF_out n] at y; exact .inl y
    · exact (no b y).elim
    · exact .inr (.inr y)
  · obtain ⟨i, m, d, hb, em, ht, hd⟩ := h
    obtain ⟨v, hv, r⟩ := R.got i m em
    obtain ⟨o, ho, hk⟩ := r.kinds ht b hb
    refine ⟨o, e.ff b o ?_, hk⟩
    rw [borF_in ⟨i, m, d, hb, em, ht, hd⟩]; exact ho
end
def noLX (x : Xc) : Bool := match x.fs with
  | none => true
  | some fs => noLs (fs.map (·.2))
def pureK (env : E) (o : Option (Out Av)) : Option (Out Av) := match o with
  | some (.ok (.tm r) _) => if noLM r then some (.ok (.tm r) env) else none
  | some (.ex x _) => if noLX x then some (.ex x env) else none
  | _ => none
def pureE (f : FE) : FE := fun env => pureK env (f (borE env))
theorem pure_rep {K : PySem.W.Frag} {F H : Hp} {B : Addr → Prop} {x : Xc} {cls : Value} {d : Option Addr} (hB : ∀ b, B b → ∃ o, F b = some o ∧ notTup o) (h : RepX K F H x cls d) (n : noLX x = true) : RepX K (cutF F B) H x cls d := by
  unfold RepX at h ⊢
  unfold noLX at n
  refine ⟨h.1, ?_⟩
  have h2 := h.2
  revert h2 n
  cases x.fs with
  | none => cases d <;> exact fun _ h => h
  | some fs =>
    cases d with
    | none => exact fun _ h => h
    | some p => exact fun n ⟨vs, a, b, c⟩ => ⟨vs, a, b, c.restr hB n⟩
theorem e_pure {X : Cx} {W : WX} {e : Expr} {f : FE} (h : PE X e (rE X.K W f)) : PE X e (rE X.K W (pureE f)) := PE_mono h fun σ H Q ⟨F, env, fps, R, p⟩ => by
  refine ⟨borF F H env fps, borE env, fun _ => [], pure_env R, ?_⟩
  unfold pureE at p
  cases ef : f (borE env) with
  | none => rw [ef] at p; exact p
  | some o =>
    rw [ef] at p
    cases o with
    | ex x env1 =>
      unfold pureK at p
      simp only at p
      split at p
      · rename_i hn
        intro cls d F2 H2 fps2 R2 r e2
        obtain ⟨R3, e3, hB⟩ := pure_back R R2.fr e2
        exact p cls d _ H2 fps R3 (pure_rep hB r hn) ⟨e3.ff, fun b o h _ => e3.keep b o h id, fun b h => .inl h, fun b o h => (e3.fz b o h).imp id fun z => .inr (z.elim False.elim id), e3.tt⟩
      · exact p.elim
    | ok a env1 =>
      cases a with
      | sl i => exact p.elim
      | tm r =>
        unfold pureK at p
        simp only at p
        split at p
        · rename_i hn
          intro v F2 H2 fps2 fp R2 rr d e2
          have rr : RepM X.K F2 H2 r v fp := rr
          obtain ⟨R3, e3, hB⟩ := pure_back R R2.fr e2
          refine p v _ H2 fps fp R3 (show RepM _ _ _ _ _ _ from rr.restr hB hn) (fun b hb q => ?_) ⟨e3.ff, fun b o h _ => e3.keep b o h id, fun b h => h.elim .inl fun z => .inr ((e3.own b (.inr z)).elim False.elim id), fun b o h => (e3.fz b o h).imp id fun z => .inr (z.elim False.elim id), e3.tt⟩
          rcases e3.own b (.inr hb) with z | z
          · exact z
          · obtain ⟨⟨o, ho⟩, _⟩ := R.live q
            rw [ho] at z; cases z
        · exact p.elim
/-- arguments, looked at -/
theorem rA_pure {K : PySem.W.Frag} {W : WX} {F H : Hp} {σ : St} {env env1 : E} {fps : Nat → List Addr} {f : FA} {as : List Av} {ms : List M} {Q : List V → Hp → Prop} (R : REnv K F H σ env fps) (hok : f (borE env) = some (.ok as env1)) (ht : tms as = some ms) (hn : noLMs ms = true)
    (k : ∀ vs F3 H3 fpA, REnv K F3 H3 σ env fps → RepAs K F3 H3 σ as vs fpA → (∀ b, Own fpA b → ¬ Own fps b) → Ext K F H (fun _ => False) F3 H3 (Own fpA) → Q vs H3) : rA K W f σ H Q := by
  refine ⟨borF F H env fps, borE env, fun _ => [], pure_env R, ?_⟩
  rw [hok]
  intro vs F2 H2 fps2 fpA R2 rs d e2
  obtain ⟨R3, e3, hB⟩ := pure_back R R2.fr e2
  have all : ∀ {as : List Av} {ms : List M}, tms as = some ms → noLMs ms = true → ∀ (j : Nat) (a : Av), as[j]? = some a → ∃ m, a = .tm m ∧ noLM m = true := by
    intro as
    induction as with
    | nil => intro ms _ _ j a h; simp at h
    | cons a as ih =>
      intro ms h n j c hc
      cases a with
      | sl i => rw [tms] at h; cases h
      | tm m =>
        rw [tms] at h
        cases e : tms as with
        | none => rw [e] at h; cases h
        | some ns =>
          rw [e] at h; cases h
          rw [noLMs] at n
          simp only [Bool.and_eq_true] at n
          cases j with
          | zero => simp at hc; exact ⟨m, hc.symm, n.1⟩
          | succ j => exact ih e n.2 j c (by simpa using hc)
  refine k vs _ H2 fpA R3 ⟨rs.len, fun j a ha => ?_, rs.nil, rs.dj⟩ (fun b hb q => ?_) (e3.weak fun b h => .inr h)
  · obtain ⟨v, hv, r⟩ := rs.got j a ha
    obtain ⟨m, rfl, n⟩ := all ht hn j a ha
    have r : RepM K F2 H2 m v (fpA j) := r
    exact ⟨v, hv, show RepM _ _ _ _ _ _ from r.restr hB n⟩
  · rcases e3.own b (.inr hb) with z | z
    · exact z
    · obtain ⟨⟨o, ho⟩, _⟩ := R.live q
      rw [ho] at z; cases z
end Ink
set_option Elab.async false
set_option linter.all false
set_option maxRecDepth 100000
namespace Ink
open PySem L2
def mvE (i : Nat) : FE := fun env => match env[i]? with
  | some (some m) => some (.ok (.tm m) (env.set i none))
  | _ => none
theorem e_mv (i : Nat) {X : Cx} {W : WX} {x : Str} {pos : Pos} (hN : X.N[i]? = some x := by rfl) (hv : Vis X.env.scope x := by first | exact Or.inl rfl | exact Or.inr (Or.inl rfl) | exact Or.inr (Or.inr rfl)) (hd : (x == ("__debug__" : Str)) = false := by decide)
    (hcd : (x == ("__classdict__" : Str)) = false := by decide) : PE X (.Name x pos) (rE X.K W (mvE i)) := PE_mono (pe_var hN hv hd hcd) fun σ H Q ⟨F, env, fps, R, p⟩ => by
  unfold mvE at p
  split at p
  · rename_i m e
    obtain ⟨v, hv, r⟩ := R.got i m e
    refine ⟨v, hv, p v F H _ (fps i) (R.drop i) r (fun b hb ⟨j, hj⟩ => ?_) (Ext.refl fun b h => ?_)⟩
    · by_cases ej : j = i
      · simp only [if_pos ej] at hj; cases hj
      · simp only [if_neg ej] at hj; exact R.dj i j (fun q => ej q.symm) b hb hj
    · rcases h with ⟨j, hj⟩ | h
      · by_cases ej : j = i
        · simp only [if_pos ej] at hj; cases hj
        · simp only [if_neg ej] at hj; exact ⟨j, hj⟩
      · exact ⟨i, h⟩
  · exact p.elim
theorem RepMs.focus {K : PySem.W.Frag} {F H : Hp} : ∀ {ms : List M} {vs : List V} {fp : List Addr} {j : Nat} {m : M}, RepMs K F H ms vs fp → ms[j]? = some m →
    ∃ (v : V) (f1 fr : List Addr), vs[j]? = some v ∧ RepM K F H m v f1 ∧ (∀ b, b ∈ fp ↔ b ∈ f1 ∨ b ∈ fr) ∧ (∀ b ∈ f1, b ∉ fr) ∧
      ∀ (F' H' : Hp) (m' : M) (f' : List Addr), Sub F F' → (∀ b ∈ fr, H' b = H b ∧ F' b = none) → RepM K F' H' m' v f' → (∀ b ∈ f', b ∉ fr) → ∃ (fp' : List Addr), RepMs K F' H' (ms.set j m') vs fp' ∧ ∀ b, b ∈ fp' ↔ b ∈ f' ∨ b ∈ fr
  | [], _, _, j, m, .nil, e => by simp at e
  | n :: ms, _, _, 0, m, .cons (fp := f1) (fq := f2) (v := v) (vs := vs) a b d, e => by
    simp at e
    subst e
    refine ⟨v, f1, f2, rfl, a, fun b => List.mem_append, d, fun F' H' m' f' s h r dj => ?_⟩
    exact ⟨f' ++ f2, .cons r (b.frame s (fun b hb => (h b hb).1) fun b hb => (h b hb).2) dj, fun b => List.mem_append⟩
  | n :: ms, _, _, j + 1, m, .cons (fp := f1) (fq := f2) (v := v) (vs := vs) a b d, e => by
    simp at e
    obtain ⟨v1, g1, gr, h1, h2, h3, h4, h5⟩ := RepMs.focus b e
    refine ⟨v1, g1, f1 ++ gr, by simpa using h1, h2, fun b => ?_, fun b hb q => ?_, fun F' H' m' f' s h r dj => ?_⟩
    · rw [List.mem_append, List.mem_append, h3 b]
      constructor
      · rintro (q | q | q)
        · exact .inr (.inl q)
        · exact .inl q
        · exact .inr (.inr q)
      · rintro (q | q | q)
        · exact .inr (.inl q)
        · exact .inl q
        · exact .inr (.inr q)
    · rcases List.mem_append.mp q with q | q
      · exact d b q ((h3 b).mpr (.inl hb))
      · exact h4 b hb q
    · obtain ⟨fp', r2, m2⟩ := h5 F' H' m' f' s (fun b hb => h b (List.mem_append_right _ hb)) r fun b hb q => dj b hb (List.mem_append_right _ q)
      refine ⟨f1 ++ fp', .cons (a.frame s (fun b hb => (h b (List.mem_append_left _ hb)).1) fun b hb => (h b (List.mem_append_left _ hb)).2) r2 fun b hb q => ?_, fun b => ?_⟩
      · rcases (m2 b).mp q with q | q
        · exact dj b q (List.mem_append_left _ hb)
        · exact d b hb ((h3 b).mpr (.inr q))
      · rw [List.mem_append, m2 b, List.mem_append]
        constructor
        · rintro (q | q | q)
          · exact .inr (.inl q)
          · exact .inl q
          · exact .inr (.inr q)
        · rintro (q | q | q)
          · exact .inr (.inl q)
          · exact .inl q
          · exact .inr (.inr q)
def ixB : FP := fun ms => match ms with
  | [.tup xs, .fz (.int i)] => match atI xs i with
    | some (.fz d) => some (.ok (.fz d) [some (.tup xs), some (.fz (.int i))])
    | some m => some (.ok m [none, some (.fz (.int i))])
    | none => none
  | ms => g2 ixA ms
theorem atI_rms {K : PySem.W.Frag} {F H : Hp} {vs : List V} {ms : List M} {fp : List Addr} {i : Int} {m : M} (r : RepMs K F H ms vs fp) (h : atI ms i = some m) : ∃ (v : V) (f1 fr : List Addr), atI vs i = some v ∧ RepM K F H m v f1 ∧ (∀ b, b ∈ fp ↔ b ∈ f1 ∨ b ∈ fr) ∧ (∀ b ∈ f1, b ∉ fr) := by
  unfold atI at h ⊢
  rw [r.length]
  cases e : ixN ms.length i with
  | none => rw [e] at h; cases h
  | some j =>
    rw [e] at h
    obtain ⟨v, f1, fr, h1, h2, h3, h4, _⟩ := r.focus (j := j) h
    exact ⟨v, f1, fr, h1, h2, h3, h4⟩
theorem op2_ixB {K : PySem.W.Frag} : Op2 K ixB (fun x y H Q => rIx K x y H Q ∨ ∃ a v, x = .ref a ∧ DGet H a y (some v) ∧ Q v H) := fun x y H Q Ex p => by
  obtain ⟨F, ms, fps, R, p⟩ := p
  unfold ixB at p
  split at p
  · rename_i xs i
    obtain ⟨v0, h0, r0⟩ := R.got 0 _ rfl
    cases h0
    obtain ⟨v1, h1, r1⟩ := R.got 1 _ rfl
    cases h1
    obtain rfl := rep_int (repm_fz r1)
    have hz := r1.fz_nil
    generalize hf : fps 0 = f0 at r0
    cases r0 with
    | @tup pa ws _ fq a rs =>
      split at p
      · rename_i d ed
        obtain ⟨v, f1, fr, e1, r2, _, _⟩ := atI_rms rs ed
        exact .inl (.inr (.inl ⟨pa, ws, i, v, rfl, rfl, SqT.of (R.fr _ _ a), e1, p v F H fps [] R (.fz (repm_fz r2)) Own.not_nil (Ext.refl fun b h => h.elim id fun q => by cases q)⟩))
      · rename_i m hnf ed
        obtain ⟨v, f1, fr, e1, r2, s1, s2⟩ := atI_rms rs ed
        refine .inl (.inr (.inl ⟨pa, ws, i, v, rfl, rfl, SqT.of (R.fr _ _ a), e1, p v F H _ f1 (R.drop 0) r2 (fun b hb ⟨j, hj⟩ => ?_) (Ext.refl fun b h => ?_)⟩))
        · by_cases ej : j = 0
          · simp only [if_pos ej] at hj; cases hj
          · simp only [if_neg ej] at hj
            exact R.dj 0 j (fun q => ej q.symm) b (by rw [hf]; exact (s1 b).mpr (.inl hb)) hj
        · rcases h with ⟨j, hj⟩ | h
          · by_cases ej : j = 0
            · simp only [if_pos ej] at hj; cases hj
            · simp only [if_neg ej] at hj; exact ⟨j, hj⟩
          · exact ⟨0, by rw [hf]; exact (s1 b).mpr (.inl h)⟩
      · exact p.elim
  · exact op2_ixA x y H Q Ex ⟨F, ms, fps, R, p⟩
end Ink
set_option Elab.async false
set_option linter.all false
set_option maxRecDepth 100000
namespace Ink
open PySem L2
section
variable {κ α : Type} [DecidableEq κ]
def valG (kvs : List (κ × α)) (k : κ) : Option α := (kvs.find? fun kv => decide (kv.1 = k)).map (·.2)
def chgG : List (κ × α) → κ → α → List (κ × α)
  | [], _, _ => []
  | (k1, m1) :: r, k, m => if k1 = k then (k1, m) :: r else (k1, m1) :: chgG r k m
theorem valG_pos {k : κ} {m : α} {r : List (κ × α)} : valG ((k, m) :: r) k = some m := by simp [valG]
theorem valG_neg {k k1 : κ} {m : α} {r : List (κ × α)} (h : ¬ k1 = k) : valG ((k1, m) :: r) k = valG r k := by simp [valG, h]
theorem valG_at {k : κ} : ∀ {kvs : List (κ × α)} {m : α}, valG kvs k = some m → ∃ j : Nat, (kvs.map (·.2))[j]? = some m ∧ (∀ m', (chgG kvs k m').map (·.2) = (kvs.map (·.2)).set j m' ∧ (chgG kvs k m').map (·.1) = kvs.map (·.1)) ∧
    ∀ {β : Type} (zs : List (κ × β)), zs.map (·.1) = kvs.map (·.1) → valG zs k = (zs.map (·.2))[j]?
  | [], m, h => by simp [valG] at h
  | (k1, m1) :: r, m, h => by
    by_cases e : k1 = k
    · subst e
      rw [valG_pos] at h; cases h
      refine ⟨0, rfl, fun m' => by simp [chgG], fun zs hz => ?_⟩
      match zs, hz with
      | (k2, z) :: zs, hz =>
        simp only [List.map_cons, List.cons.injEq] at hz
        obtain ⟨rfl, _⟩ := hz
        rw [valG_pos]; rfl
    · rw [valG_neg e] at h
      obtain ⟨j, h1, h2, h3⟩ := valG_at h
      refine ⟨j + 1, by simpa using h1, fun m' => ?_, fun zs hz => ?_⟩
      · obtain ⟨a, b⟩ := h2 m'
        constructor
        · simp only [chgG, if_neg e, List.map_cons, a, List.set_cons_succ]
        · simp only [chgG, if_neg e, List.map_cons, b]
      · match zs, hz with
        | (k2, z) :: zs, hz =>
          simp only [List.map_cons, List.cons.injEq] at hz
          obtain ⟨hk2, hz⟩ := hz
          rw [hk2, valG_neg e, h3 zs hz]; rfl
theorem valG_look [BEq κ] [LawfulBEq κ] (fs : List (κ × α)) (x : κ) : fs.lookup x = valG fs x := by
  induction fs with
  | nil => rfl
  | cons p r ih =>
    obtain ⟨k, m⟩ := p
    by_cases e : k = x
    · subst e
      rw [valG_pos, List.lookup_cons_self]
    · rw [valG_neg e, List.lookup_cons, ← ih]
      have : (x == k) = false := by simp; exact fun q => e q.symm
      rw [this]
end
inductive Way where
  | ix (i : Int) | ky (k : Key) | kt (k : List Key) | fl (x : Str)
def getC : M → Way → Option M
  | .lst ms, .ix i => atI ms i
  | .dK kvs, .ky k => valG kvs k
  | .dT kvs, .kt k => valG kvs k
  | .ins _ fs, .fl x => valG fs x
  | _, _ => none
def putC : M → Way → M → Option M
  | .lst ms, .ix i, m => match ixN ms.length i with
    | some j => some (.lst (ms.set j m))
    | none => none
  | .dK kvs, .ky k, m => some (.dK (chgG kvs k m))
  | .dT kvs, .kt k, m => some (.dT (chgG kvs k m))
  | .ins C fs, .fl x, m => some (.ins C (chgG fs x m))
  | _, _, _ => none
def chO : HO → Way → Option V
  | .lst vs, .ix i => atI vs i
  | .dK kvs, .ky k => valG kvs k
  | .dT kvs, .kt k => valG kvs k
  | .ins _ _ fs, .fl x => valG fs x
  | _, _ => none
theorem mem_cons_split {b p : Addr} {fq f1 fr : List Addr} (h : ∀ b, b ∈ fq ↔ b ∈ f1 ∨ b ∈ fr) : b ∈ p :: fq ↔ b ∈ f1 ∨ b ∈ p :: fr := by
  rw [List.mem_cons, h b, List.mem_cons]
  constructor
  · rintro (q | q | q)
    · exact .inr (.inl q)
    · exact .inl q
    · exact .inr (.inr q)
  · rintro (q | q | q)
    · exact .inr (.inl q)
    · exact .inl q
    · exact .inr (.inr q)
theorem RepM.focus {K : PySem.W.Frag} {F H : Hp} {m : M} {v : V} {fp : List Addr} {s : Way} {m1 : M} (h : RepM K F H m v fp) (e : getC m s = some m1) :
    ∃ (p : Addr) (o : HO) (v1 : V) (f1 fr : List Addr), v = .ref p ∧ H p = some o ∧ F p = none ∧ chO o s = some v1 ∧ RepM K F H m1 v1 f1 ∧ p ∈ fr ∧ (∀ b, b ∈ fp ↔ b ∈ f1 ∨ b ∈ fr) ∧ (∀ b ∈ f1, b ∉ fr) ∧
      ∀ (F' H' : Hp) (m' : M) (f' : List Addr), Sub F F' → (∀ b ∈ fr, H' b = H b ∧ F' b = none) → RepM K F' H' m' v1 f' → (∀ b ∈ f', b ∉ fr) → ∃ (mm : M) (fp' : List Addr), putC m s m' = some mm ∧ RepM K F' H' mm v fp' ∧ ∀ b, b ∈ fp' ↔ b ∈ f' ∨ b ∈ fr := by
  have split : ∀ {p : Addr} {fq f1 fr : List Addr}, p ∉ fq → (∀ b, b ∈ fq ↔ b ∈ f1 ∨ b ∈ fr) → (∀ b ∈ f1, b ∉ fr) → ∀ b ∈ f1, b ∉ p :: fr := fun n hs d b hb q => by
    rcases List.mem_cons.mp q with rfl | q
    · exact n ((hs b).mpr (.inl hb))
    · exact d b hb q
  have np : ∀ {p : Addr} {fq f1 fr f' fp' : List Addr}, (∀ b, b ∈ fp' ↔ b ∈ f' ∨ b ∈ fr) → p ∉ fq → (∀ b, b ∈ fq ↔ b ∈ f1 ∨ b ∈ fr) → (∀ b ∈ f', b ∉ p :: fr) → p ∉ fp' := fun m2 n hs dj q => by
    rcases (m2 _).mp q with q | q
    · exact dj _ q (List.mem_cons_self ..)
    · exact n ((hs _).mpr (.inr q))
  cases h with
  | fz _ => cases s <;> simp [getC] at e
  | tup _ _ => cases s <;> simp [getC] at e
  | @lst p vs ms fq a f rs n =>
    cases s with
    | ix i =>
      simp only [getC, atI] at e
      cases ej : ixN ms.length i with
      | none => rw [ej] at e; cases e
      | some j =>
        rw [ej] at e
        obtain ⟨v1, f1, fr, h1, h2, h3, h4, h5⟩ := rs.focus (j := j) e
        refine ⟨p, _, v1, f1, p :: fr, rfl, a, f, ?_, h2, List.mem_cons_self .., fun b => mem_cons_split h3, split n h3 h4, fun F' H' m' f' s hk r dj => ?_⟩
        · simp only [chO, atI, rs.length, ej]; exact h1
        · obtain ⟨fp', r2, m2⟩ := h5 F' H' m' f' s (fun b hb => hk b (List.mem_cons_of_mem _ hb)) r fun b hb q => dj b hb (List.mem_cons_of_mem _ q)
          refine ⟨.lst (ms.set j m'), p :: fp', by simp only [putC, ej], .lst (by rw [(hk p (List.mem_cons_self ..)).1]; exact a) (hk p (List.mem_cons_self ..)).2 r2 (np m2 n h3 dj), fun b => mem_cons_split m2⟩
    | _ => simp [getC] at e
  | @dK p kvs ms fq a f hk rs n =>
    cases s with
    | ky k =>
      obtain ⟨j, e1, e2, e3⟩ := valG_at (show valG ms k = some m1 from e)
      obtain ⟨v1, f1, fr, h1, h2, h3, h4, h5⟩ := rs.focus (j := j) e1
      refine ⟨p, _, v1, f1, p :: fr, rfl, a, f, ?_, h2, List.mem_cons_self .., fun b => mem_cons_split h3, split n h3 h4, fun F' H' m' f' s hh r dj => ?_⟩
      · show valG kvs k = some v1
        rw [e3 kvs hk]; exact h1
      · obtain ⟨fp', r2, m2⟩ := h5 F' H' m' f' s (fun b hb => hh b (List.mem_cons_of_mem _ hb)) r fun b hb q => dj b hb (List.mem_cons_of_mem _ q)
        refine ⟨.dK (chgG ms k m'), p :: fp', rfl, .dK (by rw [(hh p (List.mem_cons_self ..)).1]; exact a) (hh p (List.mem_cons_self ..)).2 (by rw [hk, (e2 m').2]) (by rw [(e2 m').1]; exact r2) (np m2 n h3 dj), fun b => mem_cons_split m2⟩
    | _ => simp [getC] at e
  | @dT p kvs ms fq a f hk rs n =>
    cases s with
    | kt k =>
      obtain ⟨j, e1, e2, e3⟩ := valG_at (show valG ms k = some m1 from e)
      obtain ⟨v1, f1, fr, h1, h2, h3, h4, h5⟩ := rs.focus (j := j) e1
      refine ⟨p, _, v1, f1, p :: fr, rfl, a, f, ?_, h2, List.mem_cons_self .., fun b => mem_cons_split h3, split n h3 h4, fun F' H' m' f' s hh r dj => ?_⟩
      · show valG kvs k = some v1
        rw [e3 kvs hk]; exact h1
      · obtain ⟨fp', r2, m2⟩ := h5 F' H' m' f' s (fun b hb => hh b (List.mem_cons_of_mem _ hb)) r fun b hb q => dj b hb (List.mem_cons_of_mem _ q)
        refine ⟨.dT (chgG ms k m'), p :: fp', rfl, .dT (by rw [(hh p (List.mem_cons_self ..)).1]; exact a) (hh p (List.mem_cons_self ..)).2 (by rw [hk, (e2 m').2]) (by rw [(e2 m').1]; exact r2) (np m2 n h3 dj), fun b => mem_cons_split m2⟩
    | _ => simp [getC] at e
  | @ins p C dx kvs ms fq a f hk rs n =>
    cases s with
    | fl k =>
      obtain ⟨j, e1, e2, e3⟩ := valG_at (show valG ms k = some m1 from e)
      obtain ⟨v1, f1, fr, h1, h2, h3, h4, h5⟩ := rs.focus (j := j) e1
      refine ⟨p, _, v1, f1, p :: fr, rfl, a, f, ?_, h2, List.mem_cons_self .., fun b => mem_cons_split h3, split n h3 h4, fun F' H' m' f' s hh r dj => ?_⟩
      · show valG kvs k = some v1
        rw [e3 kvs hk]; exact h1
      · obtain ⟨fp', r2, m2⟩ := h5 F' H' m' f' s (fun b hb => hh b (List.mem_cons_of_mem _ hb)) r fun b hb q => dj b hb (List.mem_cons_of_mem _ q)
        refine ⟨.ins C (chgG ms k m'), p :: fp', rfl, .ins (by rw [(hh p (List.mem_cons_self ..)).1]; exact a) (hh p (List.mem_cons_self ..)).2 (by rw [hk, (e2 m').2]) (by rw [(e2 m').1]; exact r2) (np m2 n h3 dj), fun b => mem_cons_split m2⟩
    | _ => simp [getC] at e
def kSub4 (env : E) (i : Nat) (r : M) (o : Option M) : Option (Out Av) := match o with
  | some m' => some (.ok (.tm r) (env.set i (some m')))
  | none => none
def kSub3 (env : E) (i : Nat) (s : Way) (m : M) (o : Option OutP) : Option (Out Av) := match o with
  | some (.ok r (some m1' :: _)) => kSub4 env i r (putC m s m1')
  | _ => none
def kSub2 (env : E) (i : Nat) (s : Way) (g : FP) (ms : List M) (m : M) (o : Option M) : Option (Out Av) := match o with
  | some m1 => kSub3 env i s m (g (m1 :: ms))
  | none => none
def partG (env : E) (i : Nat) (s : Way) (g : FP) (ms : List M) : Option (Out Av) := match env[i]? with
  | some (some m) => kSub2 env i s g ms m (getC m s)
  | _ => none
theorem tms_get : ∀ {as : List Av} {ms : List M}, tms as = some ms → ms.length = as.length ∧ ∀ (j : Nat) (m : M), ms[j]? = some m → as[j]? = some (.tm m)
  | [], ms, h => by rw [tms] at h; cases h; exact ⟨rfl, fun j m q => by simp at q⟩
  | .sl _ :: _, ms, h => by rw [tms] at h; cases h
  | .tm n :: as, ms, h => by
    rw [tms] at h
    cases e : tms as with
    | none => rw [e] at h; cases h
    | some ns =>
      rw [e] at h; cases h
      obtain ⟨l, g⟩ := tms_get e
      refine ⟨by simp [l], fun j m q => ?_⟩
      cases j with
      | zero => simp at q; subst q; rfl
      | succ j => simp at q; simpa using g j m q
theorem sub_sound {K : PySem.W.Frag} {W : WX} {F H : Hp} {σ : St} {env : E} {fps fpA : Nat → List Addr} {i : Nat} {s : Way} {g : FP} {as : List Av} {ms : List M} {vs : List V} {p : Addr} {o : HO} {v1 : V} {Q : VK} (R : REnv K F H σ env fps) (hv : σ[i]? = some (some (.ref p))) (ho : H p = some o) (hc : chO o s = some v1)
    (hA : RepAs K F H σ as vs fpA) (ht : tms as = some ms) (hd : ∀ b, Own fpA b → ¬ Own fps b) (post : poE K W σ F H (fun b => Own fps b ∨ Own fpA b) (partG env i s g ms) Q) : spOf K g (v1 :: vs) H Q (fun c d H' => W c d σ H') := by
  unfold partG at post
  split at post
  · rename_i m em
    cases eg : getC m s with
    | none => rw [eg] at post; exact post.elim
    | some m1 =>
      rw [eg] at post
      simp only [kSub2] at post
      obtain ⟨v, hv', r⟩ := R.got i m em
      rw [hv] at hv'; cases hv'
      obtain ⟨p', o', v1', f1, fr, e1, h2, h3, h4, h5, h6, h7, h8, h9⟩ := r.focus eg
      cases e1
      rw [ho] at h2; cases h2
      rw [hc] at h4; cases h4
      obtain ⟨tl, tg⟩ := tms_get ht
      have sF : ∀ b, Own (fcons f1 fpA) b → Own fps b ∨ Own fpA b := fun b h => (own_fcons.mp h).imp (fun z => ⟨i, (h7 b).mpr (.inl z)⟩) id
      have RA : REnv K F H (argS (v1 :: vs)) (argE (m1 :: ms)) (fcons f1 fpA) := by
        refine ⟨R.fr, by simp [tl, hA.len], fun j m' h => ?_, fun j h => ?_, fun a c hac b hb q => ?_, R.tt⟩
        · have hm := argE_get.mp h
          cases j with
          | zero => simp at hm; subst hm; exact ⟨v1, rfl, h5⟩
          | succ j =>
            simp at hm
            obtain ⟨w, hw, rw'⟩ := hA.got j _ (tg j m' hm)
            exact ⟨w, argS_get.mpr (by simpa using hw), rw'⟩
        · cases j with
          | zero => exact absurd rfl (h m1)
          | succ j =>
            refine hA.nil j ?_
            rcases Nat.lt_or_ge j as.length with hl | hl
            · have hl2 : j < ms.length := by rw [tl]; exact hl
              exact absurd (argE_get.mpr (show (m1 :: ms)[j + 1]? = some ms[j] from List.getElem?_eq_getElem hl2)) (h _)
            · exact hl
        · cases a with
          | zero =>
            cases c with
            | zero => exact hac rfl
            | succ c => exact hd b ⟨c, q⟩ ⟨i, (h7 b).mpr (.inl hb)⟩
          | succ a =>
            cases c with
            | zero => exact hd b ⟨a, hb⟩ ⟨i, (h7 b).mpr (.inl q)⟩
            | succ c => exact hA.dj a c (fun z => hac (by rw [z])) b hb q
      refine ⟨F, m1 :: ms, fcons f1 fpA, RA, ?_⟩
      cases egr : g (m1 :: ms) with
      | none => rw [egr] at post; exact post.elim
      | some oo =>
        rw [egr] at post
        cases oo with
        | ex x ms' => exact post.elim
        | ok rr ms' =>
          cases ms' with
          | nil => exact post.elim
          | cons m0 rest =>
            cases m0 with
            | none => exact post.elim
            | some m1' =>
              simp only [kSub3] at post
              intro v F' H' fps' fp R' r2 dd ex
              obtain ⟨w, hw, rc⟩ := R'.got 0 m1' rfl
              cases hw
              -- the rest of the tree
              have nfr : ∀ b ∈ fr, ¬ Own (fcons f1 fpA) b := fun b hb h => by
                rcases own_fcons.mp h with h | h
                · exact h8 b h hb
                · exact hd b h ⟨i, (h7 b).mpr (.inr hb)⟩
              have live : ∀ b ∈ fr, (∃ o, H b = some o) ∧ F b = none := fun b hb => R.live ⟨i, (h7 b).mpr (.inr hb)⟩
              have kfr : ∀ b ∈ fr, H' b = H b ∧ F' b = none := fun b hb => by
                obtain ⟨⟨o, ho⟩, hf⟩ := live b hb
                obtain ⟨u0, hu0, hk0⟩ := R.kin ⟨i, (h7 b).mpr (.inr hb)⟩
                rw [ho] at hu0; cases hu0
                refine ⟨by rw [ex.keep b o ho (nfr b hb) hk0.nt, ho], ?_⟩
                cases z : F' b with
                | none => rfl
                | some u =>
                  rcases ex.fz b u z with y | y | y
                  · rw [hf] at y; cases y
                  · exact (nfr b hb y).elim
                  · rw [ho] at y; cases y
              have dfr : ∀ b ∈ fps' 0, b ∉ fr := fun b hb q => by
                rcases ex.own b (.inl ⟨0, hb⟩) with y | y
                · exact nfr b q y
                · obtain ⟨⟨o, ho⟩, _⟩ := live b q
                  rw [ho] at y; cases y
              obtain ⟨mm, fp', e1, r3, m3⟩ := h9 F' H' m1' (fps' 0) ex.ff kfr rc dfr
              rw [e1] at post
              simp only [kSub4] at post
              obtain ⟨R1, n1⟩ := (R.drop i).frame (B := Own (fcons f1 fpA)) (fun b ⟨j, hj⟩ h => by
                by_cases ej : j = i
                · simp only [if_pos ej] at hj; cases hj
                · simp only [if_neg ej] at hj
                  rcases own_fcons.mp h with h | h
                  · exact R.dj j i ej b hj ((h7 b).mpr (.inl h))
                  · exact hd b h ⟨j, hj⟩) ex R'.fr
              have R2 := R1.put (m := mm) hv r3 (fun b hb j hj q => by
                simp only [if_neg hj] at q
                rcases (m3 b).mp hb with z | z
                · exact n1 b ⟨j, by simp only [if_neg hj]; exact q⟩ (.inl ⟨0, z⟩)
                · exact R.dj i j (fun y => hj y.symm) b ((h7 b).mpr (.inr z)) q)
              rw [List.set_set] at R2
              refine post v F' H' _ fp R2 r2 (fun b hb ⟨j, hj⟩ => ?_) ⟨ex.ff, fun b o h n => ex.keep b o h fun a => n (sF b a), fun b h => ?_, fun b o h => (ex.fz b o h).imp id fun z => z.imp (sF b) id, ex.tt⟩
              · by_cases ej : j = i
                · simp only [if_pos ej] at hj
                  rcases (m3 b).mp hj with z | z
                  · exact dd b hb ⟨0, z⟩
                  · rcases ex.own b (.inr hb) with y | y
                    · exact nfr b z y
                    · obtain ⟨⟨o, ho⟩, _⟩ := live b z
                      rw [ho] at y; cases y
                · simp only [if_neg ej] at hj
                  exact n1 b ⟨j, by simp only [if_neg ej]; exact hj⟩ (.inr hb)
              · rcases h with ⟨j, hj⟩ | h
                · by_cases ej : j = i
                  · simp only [if_pos ej] at hj
                    rcases (m3 b).mp hj with z | z
                    · exact (ex.own b (.inl ⟨0, z⟩)).imp (sF b) id
                    · exact .inl (.inl ⟨i, (h7 b).mpr (.inr z)⟩)
                  · simp only [if_neg ej] at hj
                    exact .inl (.inl ⟨j, hj⟩)
                · exact (ex.own b (.inr h)).imp (sF b) id
  · exact post.elim
end Ink
set_option Elab.async false
set_option linter.all false
set_option maxRecDepth 100000
namespace Ink
open PySem L2
/-- an expression that tells a part of what slot i holds -/
abbrev FC := E → Option (E × Way)
theorem chO_nt {o : HO} {s : Way} {v : V} (h : chO o s = some v) : NT o := fun ps e => by
  subst e
  cases s <;> simp [chO] at h
def rC (K : PySem.W.Frag) (i : Nat) (f : FC) : TE := fun σ H Q => ∃ F env fps, REnv K F H σ env fps ∧ match f env with
  | some (env', s) => ∀ v1 p o F' H' fps', REnv K F' H' σ env' fps' → σ[i]? = some (some (.ref p)) → H' p = some o → chO o s = some v1 → Ext K F H (Own fps) F' H' (Own fps') → Q v1 H'
  | none => False
def kPart2 (i : Nat) (s : Way) (g : FP) (env : E) (o : Option (List M)) : Option (Out Av) := match o with
  | some ms => if noLMs ms then partG env i s g ms else none
  | none => none
def kPart1 (i : Nat) (s : Way) (g : FP) (env : E) (o : Option (Out (List Av))) : Option (Out Av) := match o with
  | some (.ok as _) => kPart2 i s g env (tms as)
  | _ => none
def kPart0 (T : Kd) (i : Nat) (s : Way) (g : FP) (fa : FA) (env : E) (o : Option M) : Option (Out Av) := match o with
  | some m1 => match tyM T m1 with
    | true => kPart1 i s g env (fa (borE env))
    | false => none
  | none => none
def kPartC (T : Kd) (i : Nat) (g : FP) (fa : FA) (o : Option (E × Way)) : Option (Out Av) := match o with
  | some (env, s) => match env[i]? with
    | some (some m) => kPart0 T i s g fa env (getC m s)
    | _ => none
  | none => none
def partE (T : Kd) (i : Nat) (fc : FC) (g : FP) (fa : FA) : FE := fun env => kPartC T i g fa (fc env)
section
variable {X : Cx} {W : WX} {o e : Expr} {es : List Expr} {fc : FC} {fa : FA} {g : FP} {name : Str} {apos cpos : Pos} {id : String} {r : V → List V → Hp → VK → Prop} {T : Kd} {i : Nat}
theorem r_part {K : PySem.W.Frag} (hp : OpMt K g r) : ∀ σ H Q, rE K W (partE T i fc g fa) σ H Q → tBM K (kdName T) r (rC K i fc) (rA K W fa) σ H Q := fun σ H Q ⟨F, env, fps, R, po⟩ => by
  refine ⟨F, env, fps, R, ?_⟩
  unfold partE at po
  cases ef : fc env with
  | none => rw [ef] at po; exact po
  | some z =>
    obtain ⟨env', s⟩ := z
    rw [ef] at po
    simp only [kPartC] at po
    intro v1 p o F1 H1 fps1 R1 hv ho hc e1
    split at po
    · rename_i m em
      cases eg : getC m s with
      | none => rw [eg] at po; exact po.elim
      | some m1 =>
        rw [eg] at po
        simp only [kPart0] at po
        cases et : tyM T m1 with
        | false => rw [et] at po; exact po.elim
        | true =>
          simp only [et] at po
          obtain ⟨v, hv', rm⟩ := R1.got i m em
          rw [hv] at hv'; cases hv'
          obtain ⟨p', o', v1', f1, fr, q1, h2, h3, h4, h5, _⟩ := rm.focus eg
          cases q1
          rw [ho] at h2; cases h2
          rw [hc] at h4; cases h4
          refine ⟨tyM_rep R1.fr h5 et, ?_⟩
          cases ea : fa (borE env') with
          | none => rw [ea] at po; exact po.elim
          | some z =>
            rw [ea] at po
            cases z with
            | ex x env2 => exact po.elim
            | ok as env2 =>
              simp only [kPart1] at po
              cases et2 : tms as with
              | none => rw [et2] at po; exact po.elim
              | some ms =>
                simp only [et2, kPart2] at po
                split at po
                · rename_i hn
                  refine rA_pure R1 ea et2 hn fun vs F3 H3 fpA R3 rs d3 e3 => ?_
                  have ho3 : H3 p = some o := e3.keep p o ho id (chO_nt hc)
                  refine hp v1 vs H3 Q _ (sub_sound (W := W) R3 hv ho3 hc rs et2 d3 (poE.wide po (B := fun b => Own fps1 b ∨ Own fpA b) (A1 := fun b => Own fps1 b ∨ Own fpA b) ?_ fun _ h => h))
                  refine e1.trans (A2 := fun b => Own fps1 b ∨ Own fpA b) (B := Own fps1) ⟨e3.ff, fun b o h _ => e3.keep b o h id, fun b h => h.elim .inl fun z => .inr ((e3.own b z).elim False.elim id), fun b o h => (e3.fz b o h).imp id fun z => .inr (z.elim False.elim id), e3.tt⟩ (fun _ h => h) fun b h => .inl h
                · exact po.elim
    · exact po.elim
theorem e_part (pa : PlainAttrs (kdName T)) (slot : Slot (kdName T) name id) (hty : typeOf (.builtin id) = pure (.type "method_descriptor")) (hm : MtR X id r) (hp : OpMt X.K g r) (ho : PE X o (rC X.K i fc)) (ha : PA X (e :: es) (rA X.K W fa))
    (hbase : attributeBase o name X.env (eval o X.env) = eval o X.env := by rfl)
    (hfew : ((backTo cpos (starEach (e :: es) X.env)).all (fun x => !x.1) && (backToKw cpos (keywordEach [] X.env)).all (fun x => x.1.isSome)
      && decide ((e :: es).length + ([] : List Keyword).length + (if ([] : List Keyword).isEmpty then 0 else 1) < 30)) = true := by rfl)
    (hline : (apos.endLine == cpos.line) = true := by rfl) (hs : starEach (e :: es) X.env = (false, eval e X.env) :: starEach es X.env := by rfl) (hplain : (backTo cpos (starEach es X.env)).any (·.1) = false := by rfl) :
    PE X (.Call (.Attribute o name apos) (e :: es) [] cpos) (rE X.K W (partE T i fc g fa)) := PE_mono (pe_bm pa slot hty hm ho ha hbase hfew hline hs hplain) (r_part hp)
def keyE (env : E) (f : FE) : Option Key := match f (borE env) with
  | some (.ok a env1) => match resA env1 a with
    | some m => keyM m
    | none => none
  | _ => none
/-- NAME[e] -/
def ixC (i : Nat) (f : FE) : FC := fun env => match keyE env f with
  | some (.inl n) => match env[i]? with
    | some (some (.lst ms)) => if (atI ms n).isSome then some (env, .ix n) else none
    | _ => none
  | _ => none
variable {x : Str} {px pos : Pos} {f fd : FE}
/-- NAME.setdefault(k, []) -/
def sdC (i : Nat) (f : FE) : FC := fun env => match keyE env f with
  | some k => match env[i]? with
    | some (some (.dK kvs)) => if kvs.length < sizeLine then (match valG kvs k with
      | some _ => some (env, .ky k)
      | none => some (env.set i (some (.dK (kvs ++ [(k, .lst [])]))), .ky k)) else none
    | _ => none
  | none => none
theorem valG_keys {κ α β : Type} [DecidableEq κ] {k : κ} : ∀ {xs : List (κ × α)} {ys : List (κ × β)}, xs.map (·.1) = ys.map (·.1) → (valG xs k = none ↔ valG ys k = none)
  | [], [], _ => ⟨fun _ => rfl, fun _ => rfl⟩
  | [], _ :: _, h => by simp at h
  | _ :: _, [], h => by simp at h
  | (a, b) :: xs, (c, d) :: ys, h => by
    simp only [List.map_cons, List.cons.injEq] at h
    obtain ⟨rfl, h⟩ := h
    by_cases e : a = k
    · subst e
      rw [valG_pos, valG_pos]
      exact ⟨(fun q => nomatch q), (fun q => nomatch q)⟩
    · rw [valG_neg e, valG_neg e]
      exact valG_keys h
theorem any_none {κ α : Type} [DecidableEq κ] {k : κ} : ∀ {xs : List (κ × α)}, valG xs k = none → (xs.any fun kv => decide (kv.1 = k)) = false
  | [], _ => rfl
  | (a, b) :: xs, h => by
    by_cases e : a = k
    · subst e; rw [valG_pos] at h; cases h
    · rw [valG_neg e] at h
      simp [e]
      simpa using any_none h
end
end Ink
set_option Elab.async false
set_option linter.all false
set_option maxRecDepth 100000
namespace Ink
open PySem L2
def keysD : List D → Option (List Key)
  | [] => some []
  | .int i :: r => match keysD r with
    | some ks => some (.inl i :: ks)
    | none => none
  | .str x :: r => match keysD r with
    | some ks => some (.inr x :: ks)
    | none => none
  | _ :: _ => none
def keyT : M → Option (List Key)
  | .fz (.tup ds) => keysD ds
  | _ => none
theorem keysD_reps {K : PySem.W.Frag} {F : Hp} : ∀ {vs : List V} {ds : List D} {ks : List Key}, Reps K F vs ds → keysD ds = some ks → vs = ks.map kV
  | _, [], ks, .nil, e => by rw [keysD] at e; cases e; rfl
  | _, .int i :: r, ks, .cons a t, e => by
    rw [keysD] at e
    cases e2 : keysD r with
    | none => rw [e2] at e; cases e
    | some cs => rw [e2] at e; cases e; rw [rep_int a, keysD_reps t e2]; rfl
  | _, .str i :: r, ks, .cons a t, e => by
    rw [keysD] at e
    cases e2 : keysD r with
    | none => rw [e2] at e; cases e
    | some cs => rw [e2] at e; cases e; rw [rep_str a, keysD_reps t e2]; rfl
  | _, .non :: _, _, _, e => by simp [keysD] at e
  | _, .bl _ :: _, _, _, e => by simp [keysD] at e
  | _, .lst _ :: _, _, _, e => by simp [keysD] at e
  | _, .tup _ :: _, _, _, e => by simp [keysD] at e
  | _, .dK _ :: _, _, _, e => by simp [keysD] at e
  | _, .dT _ :: _, _, _, e => by simp [keysD] at e
  | _, .scr _ :: _, _, _, e => by simp [keysD] at e
  | _, .ins _ _ :: _, _, _, e => by simp [keysD] at e
  | _, .lam _ :: _, _, _, e => by simp [keysD] at e
  | _, .dLK _ :: _, _, _, e => by simp [keysD] at e
  | _, .dLT _ :: _, _, _, e => by simp [keysD] at e
  | _, .nst _ _ :: _, _, _, e => by simp [keysD] at e
theorem keyT_rep {K : PySem.W.Frag} {F H : Hp} {m : M} {v : V} {fp : List Addr} {k : List Key} (s : Sub F H) (r : RepM K F H m v fp) (h : keyT m = some k) : ∃ b, v = .ref b ∧ H b = some (.tup (k.map kV)) := by
  unfold keyT at h
  split at h
  · cases repm_fz r with
    | tup a b => exact ⟨_, rfl, by rw [s _ _ a, keysD_reps b h]⟩
  · cases h
theorem PSet.or {X : Cx} {t t' : TSet} (h : PSet X t) (h' : PSet X t') : PSet X (fun o i v H Q => t o i v H Q ∨ t' o i v H Q) := fun pins s σ H o i v ov iv u Q I a b c q => q.elim (h pins s σ H o i v ov iv u Q I a b c) (h' pins s σ H o i v ov iv u Q I a b c)
theorem RepM.ntp {K : PySem.W.Frag} {F H : Hp} {m : M} {v : V} {fp : List Addr} (h : RepM K F H m v fp) {b : Addr} {o : HO} (hb : b ∈ fp) (ho : H b = some o) : ∀ vs, o ≠ .tup vs := by
  obtain ⟨u, hu, k⟩ := h.kin b hb
  rw [ho] at hu; cases hu
  exact k.ntp
def setA : FP := fun ms => match ms with
  | [v, .dK kvs, k] => match keyM k with
    | some kk => if okPut kvs kk v then some (.ok (.fz .non) [none, some (.dK (putM kvs kk v)), some k]) else none
    | none => none
  | [v, .dT kvs, k] => match keyT k with
    | some kk => if okPut kvs kk v then some (.ok (.fz .non) [none, some (.dT (putM kvs kk v)), some k]) else none
    | none => none
  | ms => setG ms
section
variable {K : PySem.W.Frag}
theorem op_setA {v o i : V} {H : Hp} {Q : Hp → Prop} {Ex : XK} (p : spOf K setA [v, o, i] H (fun _ H1 => Q H1) Ex) : rSetL o i v H Q ∨ rSetD o i v H Q := by
  obtain ⟨F, ms, fps, R, p⟩ := p
  unfold setA at p
  have fin : ∀ {q : Addr} {fq fr : List Addr} {mm m2 : M} {ob : HO}, fps 1 = q :: fq → o = .ref q → F q = none → ms = [ms.getD 0 mm, ms.getD 1 mm, ms.getD 2 mm] → (∀ b ∈ fr, b ∈ fq ∨ b ∈ fps 0) → RepM K F (upd H q ob) m2 (.ref q) (q :: fr) →
      poP K F H (Own fps) [v, o, i] (some (.ok (.fz .non) [none, some m2, some (ms.getD 2 mm)])) (fun _ H1 => Q H1) Ex → Q (upd H q ob) := by
    intro q fq fr mm m2 ob hfp eo hF hms hfr rM p
    subst eo
    have R1 := R.drop 0
    have R2 := args_upd (i := 1) (m := m2) (fp := q :: fr) R1 rfl (by simp [hfp]) hF rM (fun b hb a ha z => by
      by_cases e1 : a = 0
      · simp only [if_pos e1] at z; cases z
      · simp only [if_neg e1] at z
        rcases List.mem_cons.mp hb with rfl | hb
        · exact R.dj 1 a (fun q => ha q.symm) b (by rw [hfp]; exact List.mem_cons_self ..) z
        · rcases hfr b hb with hb | hb
          · exact R.dj 1 a (fun q => ha q.symm) b (by rw [hfp]; exact List.mem_cons_of_mem _ hb) z
          · exact R.dj 0 a (fun q => e1 q.symm) b hb z) (rM.nt (List.mem_cons_self ..) upd_same) (rM.ntp (List.mem_cons_self ..) upd_same)
    rw [hms] at R2
    refine p .non F _ _ [] R2 (.fz .non) Own.not_nil ?_
    refine (Ext.putO R ⟨1, by rw [hfp]; exact List.mem_cons_self ..⟩ (rM.nt (List.mem_cons_self ..) upd_same) (rM.ntp (List.mem_cons_self ..) upd_same)).weak fun b h => ?_
    rcases h with ⟨a, ha⟩ | h
    · by_cases e0 : a = 1
      · simp only [if_pos e0] at ha
        rcases List.mem_cons.mp ha with rfl | z
        · exact ⟨1, by rw [hfp]; exact List.mem_cons_self ..⟩
        · rcases hfr b z with z | z
          · exact ⟨1, by rw [hfp]; exact List.mem_cons_of_mem _ z⟩
          · exact ⟨0, z⟩
      · simp only [if_neg e0] at ha
        by_cases e1 : a = 0
        · simp only [if_pos e1] at ha; cases ha
        · simp only [if_neg e1] at ha; exact ⟨a, ha⟩
    · cases h
  split at p
  · rename_i y kvs k
    cases ek : keyM k with
    | none => rw [ek] at p; exact p.elim
    | some kk =>
      simp only [ek] at p
      split at p
      · rename_i hok
        obtain ⟨v0, h0, r0⟩ := R.got 0 _ rfl
        cases h0
        obtain ⟨v1, h1, r1⟩ := R.got 1 _ rfl
        cases h1
        obtain ⟨v2, h2, r2⟩ := R.got 2 _ rfl
        cases h2
        have ekv := keyM_rep r2 ek
        have dj : ∀ b ∈ fps 0, b ∉ fps 1 := R.dj 0 1 (by omega)
        have hl : kvs.length < sizeLine := by
          simp only [okPut, Bool.and_eq_true, decide_eq_true_eq] at hok
          exact hok.1
        generalize hfp : fps 1 = f1 at r1
        cases r1 with
        | @dK q ws _ fq a f hk rs n =>
          obtain ⟨fr, s1, k1, r3⟩ := put_rep (k := kk) hk rs r0 (fun b hb z => dj b z (by rw [hfp]; exact List.mem_cons_of_mem _ hb)) hok
          have hnq : ∀ b ∈ fr, b ≠ q := fun b hb e => by
            subst e
            rcases s1 b hb with z | z
            · exact n z
            · exact dj b z (by rw [hfp]; exact List.mem_cons_self ..)
          have hlw : ws.length = kvs.length := by have := congrArg List.length hk; simpa using this
          refine .inr ⟨q, _, rfl, .inl ⟨ws, kk, a, ekv, by omega, rfl⟩, ?_⟩
          exact fin (mm := y) hfp rfl f rfl s1 (.dK upd_same f k1 (r3.frame (Sub.refl _) (fun b hb => upd_ne (hnq b hb)) fun b hb => (r3.live b hb).2) fun z => hnq q z rfl) p
      · exact p.elim
  · rename_i y kvs k
    cases ek : keyT k with
    | none => rw [ek] at p; exact p.elim
    | some kk =>
      simp only [ek] at p
      split at p
      · rename_i hok
        obtain ⟨v0, h0, r0⟩ := R.got 0 _ rfl
        cases h0
        obtain ⟨v1, h1, r1⟩ := R.got 1 _ rfl
        cases h1
        obtain ⟨v2, h2, r2⟩ := R.got 2 _ rfl
        cases h2
        obtain ⟨kb, ekv, hkb⟩ := keyT_rep R.fr r2 ek
        have dj : ∀ b ∈ fps 0, b ∉ fps 1 := R.dj 0 1 (by omega)
        have hl : kvs.length < sizeLine := by
          simp only [okPut, Bool.and_eq_true, decide_eq_true_eq] at hok
          exact hok.1
        generalize hfp : fps 1 = f1 at r1
        cases r1 with
        | @dT q ws _ fq a f hk rs n =>
          obtain ⟨fr, s1, k1, r3⟩ := put_rep (k := kk) hk rs r0 (fun b hb z => dj b z (by rw [hfp]; exact List.mem_cons_of_mem _ hb)) hok
          have hnq : ∀ b ∈ fr, b ≠ q := fun b hb e => by
            subst e
            rcases s1 b hb with z | z
            · exact n z
            · exact dj b z (by rw [hfp]; exact List.mem_cons_self ..)
          have hlw : ws.length = kvs.length := by have := congrArg List.length hk; simpa using this
          refine .inr ⟨q, _, rfl, .inr ⟨ws, kk, kb, a, ekv, hkb, by omega, rfl⟩, ?_⟩
          exact fin (mm := y) hfp rfl f rfl s1 (.dT upd_same f k1 (r3.frame (Sub.refl _) (fun b hb => upd_ne (hnq b hb)) fun b hb => (r3.live b hb).2) fun z => hnq q z rfl) p
      · exact p.elim
  · exact .inl (op_set ⟨F, _, fps, R, p⟩)
end
def setSA (fe fo fi : FE) : FS := fun env => bindS (callE setA (arg3 fe fo fi) env) fun _ env1 => some (.nx env1)
section
variable {X : Cx} {W : WX} {P : List Nat} {e o i : Expr} {fe fo fi : FE} {pos spos : Pos}
theorem s_setitemA (hu : X.A.units + 64 < cLine) (he : PE X e (rE X.K W fe)) (ho : PE X o (rE X.K W fo)) (hi : PE X i (rE X.K W fi)) (ha : ∀ v, assign (.Subscript o i spos) X.env v = (do
      let ov ← holding [v] (eval o X.env)
      let iv ← holding [v, ov] (eval i X.env)
      standAt spos
      holding [v, ov, iv] (setItem ov iv v)
      release [v, ov, iv] []) := by intro _; rfl)
    (hs : swapsWithSole [.Subscript o i spos] e pos.line X.env = pure false := by rfl) (hw : swappedStores [.Subscript o i spos] e X.env = pure none := by rfl)
    (h1 : (assignEach [.Subscript o i spos] X.env).map (·.2) = [assign (.Subscript o i spos) X.env] := by rfl) : PS X (.Assign [.Subscript o i spos] e pos) (rS X.K W P (setSA (tk fe) fo fi)) := PS_mono (ps_asg (e_tk he) (pg_sub ho hi (PSet.or set_list (set_dict (by omega))) ha) hs hw h1) fun D σ H ⟨F, env, fps, R, p⟩ => by
  have q : rE X.K W (callE setA (arg3 (tk fe) fo fi)) σ H (fun _ H1 => D.nx σ H1) := by
    refine ⟨F, env, fps, R, ?_⟩
    unfold setSA at p
    cases ef : callE setA (arg3 (tk fe) fo fi) env with
    | none => rw [ef] at p; exact p
    | some z =>
      rw [ef] at p
      cases z with
      | ex x env1 => exact PXS.px p
      | ok a env1 => exact fun v F' H' fps' fp R' r d e' => p σ F' H' fps' R' .refl (e'.weak fun _ h => .inl h)
  exact rE_imp (fun x H1 p1 => rE_imp (fun y H2 p2 => rE_imp (fun z H3 p3 => op_setA (ra_nil p3)) (ra_cons p2)) (ra_cons p1)) (ra_cons (r_call q))
def newE (m : M) : FE := fun env => some (.ok (.tm m) env)
theorem e_dnewK : PE X (.Dict [] [] pos) (rE X.K W (newE (.dK []))) := PE_mono pe_dnewK fun σ H Q ⟨F, env, fps, R, p⟩ q hq => by
  have en : Ext X.K F H (fun _ => False) F (upd H q (.dK [])) (fun b => False ∨ b = q) := Ext.new hq
  obtain ⟨R2, n2⟩ := R.frame (fun b _ h => h) en (sub_new R.fr hq)
  refine p (.ref q) F _ fps [q] R2 (.dK upd_same (sub_none R.fr hq) rfl .nil fun h => by cases h) (fun b hb z => n2 b z (.inr (by simpa using hb))) ?_
  exact (Ext.new (A := Own fps) hq).weak fun b h => h.imp id fun z => by simpa using z
end
end Ink
set_option Elab.async false
set_option linter.all false
set_option maxRecDepth 100000
namespace Ink
open PySem L2
def disp1 (fk fv : FE) : FE := fun env => bindO (fk env) fun a env1 => match resA env1 a with
  | some mk => match keyM mk with
    | some k => bindO (fv env1) fun b env2 => match b with
      | .tm m => some (.ok (.tm (.dK [(k, m)])) env2)
      | .sl _ => none
    | none => none
  | none => none
section
variable {X : Cx} {W : WX} {e o ek ev : Expr} {es : List Expr} {fe fo fk fv : FE} {pos apos cpos : Pos}
def getK2 (m k z : M) (o : Option M) : Option OutP := match o with
  | some (.fz d) => some (.ok (.fz d) [some m, some k, some z])
  | some _ => none
  | none => some (.ok z [some m, some k, none])
def getV (m k : M) : Option (Option M) := match m with
  | .dK kvs => (keyM k).map (valG kvs)
  | .fz (.dK kvs) => (keyM k).map fun kk => (valG kvs kk).map M.fz
  | .dT kvs => (keyT k).map (valG kvs)
  | .fz (.dT kvs) => (keyT k).map fun kk => (valG kvs kk).map M.fz
  | .fz (.dLK kvs) => (keyM k).map fun kk => (valG kvs kk).map M.fz
  | .fz (.dLT kvs) => (keyT k).map fun kk => (valG kvs kk).map M.fz
  | _ => none
def getG : FP := fun ms => match ms with
  | [m, k, z] => match getV m k with
    | some o => getK2 m k z o
    | none => none
  | _ => none
theorem valG_rms {K : PySem.W.Frag} {F H : Hp} {κ : Type} [DecidableEq κ] {kvs : List (κ × V)} {ms : List (κ × M)} {fp : List Addr} {k : κ} (hk : kvs.map (·.1) = ms.map (·.1)) (r : RepMs K F H (ms.map (·.2)) (kvs.map (·.2)) fp) :
    (valG ms k = none ∧ valG kvs k = none) ∨ ∃ m v fq, valG ms k = some m ∧ valG kvs k = some v ∧ RepM K F H m v fq := by
  cases e : valG ms k with
  | none => exact .inl ⟨rfl, (valG_keys hk).mpr e⟩
  | some m =>
    obtain ⟨j, e1, _, e3⟩ := valG_at e
    obtain ⟨v, f1, fr, h1, h2, _⟩ := r.focus e1
    exact .inr ⟨m, v, f1, rfl, by rw [e3 kvs hk]; exact h1, h2⟩
theorem valG_reps {K : PySem.W.Frag} {F : Hp} {κ : Type} [DecidableEq κ] {kvs : List (κ × V)} {ds : List (κ × D)} {k : κ} (hk : kvs.map (·.1) = ds.map (·.1)) (r : Reps K F (kvs.map (·.2)) (ds.map (·.2))) :
    (valG ds k = none ∧ valG kvs k = none) ∨ ∃ d v, valG ds k = some d ∧ valG kvs k = some v ∧ Rep K F v d := by
  cases e : valG ds k with
  | none => exact .inl ⟨rfl, (valG_keys hk).mpr e⟩
  | some m =>
    obtain ⟨j, e1, _, e3⟩ := valG_at e
    obtain ⟨v, h1, h2⟩ := r.get e1
    exact .inr ⟨m, v, rfl, by rw [e3 kvs hk]; exact h1, h2⟩
theorem getV_rep {K : PySem.W.Frag} {F H : Hp} {m k : M} {x y : V} {f1 f2 : List Addr} {o : Option M} (s : Sub F H) (r1 : RepM K F H m x f1) (r2 : RepM K F H k y f2) (h : getV m k = some o) :
    ∃ a, x = .ref a ∧ ((o = none ∧ DGet H a y none) ∨ ∃ n v fq, o = some n ∧ DGet H a y (some v) ∧ RepM K F H n v fq) := by
  unfold getV at h
  split at h
  · rename_i kvs
    cases ek : keyM k with
    | none => rw [ek] at h; cases h
    | some kk =>
      rw [ek] at h
      have ey := keyM_rep r2 ek
      subst ey
      cases r1 with
      | @dK p ws _ fq a f hk rs n =>
        cases h
        refine ⟨p, rfl, ?_⟩
        rcases valG_rms (k := kk) hk rs with ⟨z1, z2⟩ | ⟨m, v, fq, z1, z2, z3⟩
        · exact .inl ⟨z1, .inl ⟨ws, kk, .inl a, rfl, z2.symm⟩⟩
        · exact .inr ⟨m, v, fq, z1, .inl ⟨ws, kk, .inl a, rfl, z2.symm⟩, z3⟩
  · rename_i kvs
    cases ek : keyM k with
    | none => rw [ek] at h; cases h
    | some kk =>
      rw [ek] at h
      have ey := keyM_rep r2 ek
      subst ey
      cases repm_fz r1 with
      | @dK p ws _ a hk rs =>
        cases h
        refine ⟨p, rfl, ?_⟩
        rcases valG_reps (k := kk) hk rs with ⟨z1, z2⟩ | ⟨m, v, z1, z2, z3⟩
        · exact .inl ⟨by show Option.map M.fz (valG kvs kk) = _; rw [z1]; rfl, .inl ⟨ws, kk, .inl (s _ _ a), rfl, z2.symm⟩⟩
        · exact .inr ⟨.fz m, v, [], by show Option.map M.fz (valG kvs kk) = _; rw [z1]; rfl, .inl ⟨ws, kk, .inl (s _ _ a), rfl, z2.symm⟩, .fz z3⟩
  · rename_i kvs
    cases ek : keyT k with
    | none => rw [ek] at h; cases h
    | some kk =>
      rw [ek] at h
      obtain ⟨b, rfl, hb⟩ := keyT_rep s r2 ek
      cases r1 with
      | @dT p ws _ fq a f hk rs n =>
        cases h
        refine ⟨p, rfl, ?_⟩
        rcases valG_rms (k := kk) hk rs with ⟨z1, z2⟩ | ⟨m, v, fq, z1, z2, z3⟩
        · exact .inl ⟨z1, .inr ⟨ws, kk, b, .inl a, rfl, hb, z2.symm⟩⟩
        · exact .inr ⟨m, v, fq, z1, .inr ⟨ws, kk, b, .inl a, rfl, hb, z2.symm⟩, z3⟩
  · rename_i kvs
    cases ek : keyT k with
    | none => rw [ek] at h; cases h
    | some kk =>
      rw [ek] at h
      obtain ⟨b, rfl, hb⟩ := keyT_rep s r2 ek
      cases repm_fz r1 with
      | @dT p ws _ a hk rs =>
        cases h
        refine ⟨p, rfl, ?_⟩
        rcases valG_reps (k := kk) hk rs with ⟨z1, z2⟩ | ⟨m, v, z1, z2, z3⟩
        · exact .inl ⟨by show Option.map M.fz (valG kvs kk) = _; rw [z1]; rfl, .inr ⟨ws, kk, b, .inl (s _ _ a), rfl, hb, z2.symm⟩⟩
        · exact .inr ⟨.fz m, v, [], by show Option.map M.fz (valG kvs kk) = _; rw [z1]; rfl, .inr ⟨ws, kk, b, .inl (s _ _ a), rfl, hb, z2.symm⟩, .fz z3⟩
  · rename_i kvs
    cases ek : keyM k with
    | none => rw [ek] at h; cases h
    | some kk =>
      rw [ek] at h
      have ey := keyM_rep r2 ek
      subst ey
      cases repm_fz r1 with
      | @dLK p oo ws _ a hk rs =>
        cases h
        refine ⟨p, rfl, ?_⟩
        rcases valG_reps (k := kk) hk rs with ⟨z1, z2⟩ | ⟨m, v, z1, z2, z3⟩
        · exact .inl ⟨by show Option.map M.fz (valG kvs kk) = _; rw [z1]; rfl, .inl ⟨ws, kk, .inr ⟨oo, s _ _ a⟩, rfl, z2.symm⟩⟩
        · exact .inr ⟨.fz m, v, [], by show Option.map M.fz (valG kvs kk) = _; rw [z1]; rfl, .inl ⟨ws, kk, .inr ⟨oo, s _ _ a⟩, rfl, z2.symm⟩, .fz z3⟩
  · rename_i kvs
    cases ek : keyT k with
    | none => rw [ek] at h; cases h
    | some kk =>
      rw [ek] at h
      obtain ⟨b, rfl, hb⟩ := keyT_rep s r2 ek
      cases repm_fz r1 with
      | @dLT p oo ws _ a hk rs =>
        cases h
        refine ⟨p, rfl, ?_⟩
        rcases valG_reps (k := kk) hk rs with ⟨z1, z2⟩ | ⟨m, v, z1, z2, z3⟩
        · exact .inl ⟨by show Option.map M.fz (valG kvs kk) = _; rw [z1]; rfl, .inr ⟨ws, kk, b, .inr ⟨oo, s _ _ a⟩, rfl, hb, z2.symm⟩⟩
        · exact .inr ⟨.fz m, v, [], by show Option.map M.fz (valG kvs kk) = _; rw [z1]; rfl, .inr ⟨ws, kk, b, .inr ⟨oo, s _ _ a⟩, rfl, hb, z2.symm⟩, .fz z3⟩
  · cases h
def kIxF (m k : M) (o : Option M) : Option OutP := match o with
  | some (.fz d) => some (.ok (.fz d) [some m, some k])
  | _ => none
def ixF : FP := fun ms => match ms with
  | [m, k] => match getV m k with
    | some o => kIxF m k o
    | none => ixB [m, k]
  | _ => none
theorem op2_ixF {K : PySem.W.Frag} : Op2 K ixF (fun x y H Q => rIx K x y H Q ∨ ∃ a v, x = .ref a ∧ DGet H a y (some v) ∧ Q v H) := fun x y H Q Ex p => by
  obtain ⟨F, ms, fps, R, p⟩ := p
  unfold ixF at p
  split at p
  · rename_i m k
    cases eg : getV m k with
    | none => rw [eg] at p; exact op2_ixB x y H Q Ex ⟨F, _, fps, R, p⟩
    | some oo =>
      simp only [eg] at p
      obtain ⟨v0, h0, r0⟩ := R.got 0 _ rfl
      cases h0
      obtain ⟨v1, h1, r1⟩ := R.got 1 _ rfl
      cases h1
      obtain ⟨a, rfl, ⟨rfl, g⟩ | ⟨n, v, fq, rfl, g, rn⟩⟩ := getV_rep R.fr r0 r1 eg
      · exact p.elim
      · cases n with
        | fz d => exact .inr ⟨a, v, rfl, g, p v F H fps [] R (.fz (repm_fz rn)) Own.not_nil (Ext.refl fun b h => h.elim id fun q => by cases q)⟩
        | _ => exact p.elim
  · exact p.elim
def inF (neg : Bool) (a b : M) : Option M := match getV b a with
  | some o => some (.fz (.bl (Bool.xor o.isSome neg)))
  | none => inA neg a b
variable {a b : Expr} {fa fb : FE}
theorem e_itemF (hu : X.A.units + 64 < cLine) (ha : PE X a (rE X.K W fa)) (hb : PE X b (rE X.K W fb)) (hs : PlainIx b := by exact fun _ _ => rfl) : PE X (.Subscript a b pos) (rE X.K W (callE ixF (arg2 fa fb))) := e_ix (ix_seq.or (ix_dict hu)) op2_ixF ha hb hs
theorem op2_inF {r : R2} (h : Op2 X.K (g2 (inA false)) (fun x y H Q => r x y H Q ∨ ∃ a o, y = .ref a ∧ DGet H a x o ∧ Q (.bl (o.isSome)) H)) : Op2 X.K (g2 (inF false)) (fun x y H Q => r x y H Q ∨ ∃ a o, y = .ref a ∧ DGet H a x o ∧ Q (.bl (o.isSome)) H) := fun x y H Q Ex p => by
  obtain ⟨F, a, b, m, fps, R, r1, r2, e, p⟩ := g2_at p
  unfold inF at e
  cases eg : getV b a with
  | none => rw [eg] at e; exact h x y H Q Ex ⟨F, [a, b], fps, R, by rw [show g2 (inA false) [a, b] = some (.ok m [some a, some b]) by simp only [g2, e]]; exact p⟩
  | some oo =>
    rw [eg] at e
    cases e
    obtain ⟨ad, rfl, ⟨rfl, g⟩ | ⟨n, v, fq, rfl, g, rn⟩⟩ := getV_rep R.fr r2 r1 eg
    · exact .inr ⟨ad, none, rfl, g, sp_flat R (Rep.bl _) p⟩
    · exact .inr ⟨ad, some v, rfl, g, sp_flat R (Rep.bl _) p⟩
theorem op2_ninF {r : R2} (h : Op2 X.K (g2 (inA true)) (fun x y H Q => r x y H Q ∨ ∃ a o, y = .ref a ∧ DGet H a x o ∧ Q (.bl (!o.isSome)) H)) : Op2 X.K (g2 (inF true)) (fun x y H Q => r x y H Q ∨ ∃ a o, y = .ref a ∧ DGet H a x o ∧ Q (.bl (!o.isSome)) H) := fun x y H Q Ex p => by
  obtain ⟨F, a, b, m, fps, R, r1, r2, e, p⟩ := g2_at p
  unfold inF at e
  cases eg : getV b a with
  | none => rw [eg] at e; exact h x y H Q Ex ⟨F, [a, b], fps, R, by rw [show g2 (inA true) [a, b] = some (.ok m [some a, some b]) by simp only [g2, e]]; exact p⟩
  | some oo =>
    rw [eg] at e
    cases e
    obtain ⟨ad, rfl, ⟨rfl, g⟩ | ⟨n, v, fq, rfl, g, rn⟩⟩ := getV_rep R.fr r2 r1 eg
    · exact .inr ⟨ad, none, rfl, g, sp_flat R (Rep.bl _) p⟩
    · exact .inr ⟨ad, some v, rfl, g, sp_flat R (Rep.bl _) p⟩
theorem e_inF (hu : X.A.units + 64 < cLine) (ha : PE X a (rE X.K W fa)) (hb : PE X b (rE X.K W fb)) (hm : behindInMarks .In b = false := by rfl) : PE X (.Compare a [.In] [b] pos) (rE X.K W (callE (g2 (inF false)) (arg2 fa fb))) :=
  e_cmp ((op_in_sign.or op_in_seq).or (op_inD hu)) (op2_inF (op2_inA (X := X) X.K (fun c z H Q q => ⟨c, z, rfl, rfl, q⟩) fun x p xs H Q h2 h3 h4 q => ⟨p, xs, rfl, h2, h3, h4, q⟩)) ha hb hm
theorem t_inF (hu : X.A.units + 64 < cLine) (ha : PE X a (rE X.K W fa)) (hb : PE X b (rE X.K W fb)) (hm : behindInMarks .In b = false := by rfl) : PT X (.Compare a [.In] [b] pos) (rT X.K W (tst (callE (g2 (inF false)) (arg2 fa fb)))) :=
  t_cmp ((op_in_sign.or op_in_seq).or (op_inD hu)) (op2_inF (op2_inA (X := X) X.K (fun c z H Q q => ⟨c, z, rfl, rfl, q⟩) fun x p xs H Q h2 h3 h4 q => ⟨p, xs, rfl, h2, h3, h4, q⟩)) ha hb hm
theorem t_notinF (hu : X.A.units + 64 < cLine) (ha : PE X a (rE X.K W fa)) (hb : PE X b (rE X.K W fb)) (hm : behindInMarks .NotIn b = false := by rfl) : PT X (.Compare a [.NotIn] [b] pos) (rT X.K W (tst (callE (g2 (inF true)) (arg2 fa fb)))) :=
  t_cmp ((op_notIn_sign.or op_notIn_seq).or (op_ninD hu)) (op2_ninF (op2_ninA (X := X) X.K (fun c z H Q q => ⟨c, z, rfl, rfl, q⟩) fun x p xs H Q h2 h3 h4 q => ⟨p, xs, rfl, h2, h3, h4, q⟩)) ha hb hm
def revM (m : M) : Option M := match lstD m with
  | some ds => some (.lst (ds.reverse.map .fz))
  | none => none
def rvsG : FP := fun ms => match ms with
  | [.lst xs] => match unfz xs with
    | some ds => some (.ok (.fz .non) [some (.lst (ds.reverse.map .fz))])
    | none => none
  | _ => none
theorem e_papp {i : Nat} {fc : FC} (ho : PE X o (rC X.K i fc)) (he : PE X e (rE X.K W fe)) (hbase : attributeBase o "append" X.env (eval o X.env) = eval o X.env := by rfl)
    (hfew : ((backTo cpos (starEach [e] X.env)).all (fun x => !x.1) && (backToKw cpos (keywordEach [] X.env)).all (fun x => x.1.isSome)
      && decide (([e]).length + ([] : List Keyword).length + (if ([] : List Keyword).isEmpty then 0 else 1) < 30)) = true := by rfl)
    (hline : (apos.endLine == cpos.line) = true := by rfl) (hs : starEach [e] X.env = (false, eval e X.env) :: starEach [] X.env := by rfl) (hplain : (backTo cpos (starEach [] X.env)).any (·.1) = false := by rfl) :
    PE X (.Call (.Attribute o "append" apos) [e] [] cpos) (rE X.K W (partE .lst i fc appG (arg1 (tk fe)))) := e_part (T := .lst) PySem.F.plainAttrs_list PySem.F.slot_list_append PySem.F.type_list_append mt_append opm_append ho (a_cons (e_tk he) a_nil hs) hbase hfew hline hs hplain
def frE (f : FE) : FE := fun env => bindO (f env) fun a env1 => match a with
  | .tm m => match frz m with
    | some d => some (.ok (.tm (.fz d)) env1)
    | none => none
  | .sl _ => none
theorem e_fr (he : PE X e (rE X.K W fe)) : PE X e (rE X.K W (frE fe)) := PE_mono he fun σ H Q ⟨F, env, fps, R, p⟩ => ⟨F, env, fps, R, by
  unfold frE at p
  cases ef : fe env with
  | none => rw [ef] at p; exact p
  | some o =>
    cases o with
    | ex x env1 => rw [ef] at p; exact p
    | ok a env1 =>
      rw [ef] at p
      simp only [bindO_ok] at p
      cases a with
      | sl i => exact p.elim
      | tm m =>
        simp only at p
        cases ez : frz m with
        | none => rw [ez] at p; exact p.elim
        | some d =>
          rw [ez] at p
          intro v F' H' fps' fp R1 r dj e1
          obtain ⟨F2, s2, r2, R2, e2⟩ := freeze_at R1 r dj ez
          exact p v F2 H' fps' [] R2 (show RepM _ _ _ _ _ _ from .fz r2) Own.not_nil ((e1.trans e2 (fun _ h => h) (C := Own fps') fun _ h => .inl h).weak fun b h => h.elim id fun q => by cases q)⟩
end
end Ink
set_option Elab.async false
set_option linter.all false
set_option maxRecDepth 100000
namespace Ink
open PySem L2
@[simp] theorem ev_mvE {env : E} {i : Nat} : mvE i env = match env[i]? with
  | some (some m) => some (.ok (.tm m) (env.set i none))
  | _ => none := (rfl)
@[simp] theorem ev_newE {env : E} {m : M} : newE m env = some (.ok (.tm m) env) := (rfl)
@[simp] theorem isFz_dK {kvs} : isFz (.dK kvs) = false := (rfl)
@[simp] theorem isFz_dT {kvs} : isFz (.dT kvs) = false := (rfl)
@[simp] theorem isFz_tup {ms} : isFz (.tup ms) = false := (rfl)
@[simp] theorem isFz_ins {C fs} : isFz (.ins C fs) = false := (rfl)
@[simp] theorem ev_pureE {env : E} {f : FE} : pureE f env = pureK env (f (borE env)) := (rfl)
@[simp] theorem pureK_0 {env env1 : E} {r : M} : pureK env (some (.ok (.tm r) env1)) = if noLM r then some (.ok (.tm r) env) else none := (rfl)
@[simp] theorem pureK_1 {env env1 : E} {x : Xc} : pureK env (some (.ex x env1)) = if noLX x then some (.ex x env) else none := (rfl)
@[simp] theorem borE_nil : borE [] = [] := (rfl)
@[simp] theorem borE_cons {o : Option M} {env : E} : borE (o :: env) = borO o :: borE env := (rfl)
@[simp] theorem borO_none : borO none = none := (rfl)
@[simp] theorem borO_fz {d : D} : borO (some (.fz d)) = some (.fz d) := by simp [borO, borM, noT]
def kBor (o : Option D) (b : Bool) : Option M := match b with
  | true => match o with
    | some d => some (.fz d)
    | none => none
  | false => none
@[simp] theorem kBor_0 {d : D} : kBor (some d) true = some (.fz d) := (rfl)
theorem borO_m {m : M} : borO (some m) = kBor (frz m) (noT m) := by
  show borM m = _
  unfold borM kBor
  cases noT m <;> cases frz m <;> rfl
@[simp] theorem borO_l {ms : List M} : borO (some (.lst ms)) = kBor (frz (.lst ms)) (noT (.lst ms)) := borO_m
@[simp] theorem borO_k {ms} : borO (some (.dK ms)) = kBor (frz (.dK ms)) (noT (.dK ms)) := borO_m
@[simp] theorem borO_kt {ms} : borO (some (.dT ms)) = kBor (frz (.dT ms)) (noT (.dT ms)) := borO_m
@[simp] theorem borO_t {ms} : borO (some (.tup ms)) = none := by simp [borO, borM, noT]
@[simp] theorem noT_fz {d : D} : noT (.fz d) = true := by simp [noT]
@[simp] theorem noT_l {ms : List M} : noT (.lst ms) = ms.all noT := by
  have : ∀ ms : List M, noTs ms = ms.all noT := fun ms => by
    induction ms with
    | nil => simp [noTs]
    | cons m ms ih => simp [noTs, ih]
  rw [noT, this]
@[simp] theorem noT_k {ms : List (Key × M)} : noT (.dK ms) = ms.all fun kv => noT kv.2 := by
  have : ∀ ms : List (Key × M), noTK ms = ms.all fun kv => noT kv.2 := fun ms => by
    induction ms with
    | nil => simp [noTK]
    | cons m ms ih => obtain ⟨k, m⟩ := m; simp [noTK, ih]
  rw [noT, this]
@[simp] theorem noT_kt {ms : List (List Key × M)} : noT (.dT ms) = ms.all fun kv => noT kv.2 := by
  have : ∀ ms : List (List Key × M), noTT ms = ms.all fun kv => noT kv.2 := fun ms => by
    induction ms with
    | nil => simp [noTT]
    | cons m ms ih => obtain ⟨k, m⟩ := m; simp [noTT, ih]
  rw [noT, this]
@[simp] theorem noL_non : noL .non = true := by simp [noL]
@[simp] theorem noL_bl {b} : noL (.bl b) = true := by simp [noL]
@[simp] theorem noL_int {b} : noL (.int b) = true := by simp [noL]
@[simp] theorem noL_str {b} : noL (.str b) = true := by simp [noL]
@[simp] theorem noL_tup {ds : List D} : noL (.tup ds) = ds.all noL := by
  have : ∀ ds : List D, noLs ds = ds.all noL := fun ds => by
    induction ds with
    | nil => simp [noLs]
    | cons m ms ih => simp [noLs, ih]
  rw [noL, this]
theorem noLMs_all : ∀ ds : List M, noLMs ds = ds.all noLM := fun ds => by
    induction ds with
    | nil => simp [noLMs]
    | cons m ms ih => simp [noLMs, ih]
@[simp] theorem noLMs_eq {ds : List M} : noLMs ds = ds.all noLM := noLMs_all ds
@[simp] theorem noLM_fz {d : D} : noLM (.fz d) = noL d := by simp [noLM]
@[simp] theorem noLM_l {ds : List M} : noLM (.lst ds) = ds.all noLM := by rw [noLM, noLMs_all]
@[simp] theorem noLM_t {ds : List M} : noLM (.tup ds) = ds.all noLM := by rw [noLM, noLMs_all]
@[simp] theorem noLM_k {ms : List (Key × M)} : noLM (.dK ms) = ms.all fun kv => noLM kv.2 := by
  rw [noLM, noLMK_vals, noLMs_all, List.all_map]; rfl
@[simp] theorem noLM_kt {ms : List (List Key × M)} : noLM (.dT ms) = ms.all fun kv => noLM kv.2 := by
  rw [noLM, noLMT_vals, noLMs_all, List.all_map]; rfl
@[simp] theorem noLX_none {c : Str} : noLX ⟨c, none⟩ = true := (rfl)
@[simp] theorem frz_tup {ms : List M} : frz (.tup ms) = match frzs ms with
    | some ds => some (.tup ds)
    | none => none := by rw [frz] <;> cases frzs ms <;> rfl
def kFK (o : Option (List (Key × D))) : Option D := match o with
    | some ds => some (.dK ds)
    | none => none
@[simp] theorem kFK_0 {ds} : kFK (some ds) = some (.dK ds) := (rfl)
@[simp] theorem frz_dK {ms} : frz (.dK ms) = kFK (frzK ms) := by rw [frz] <;> unfold kFK <;> cases frzK ms <;> rfl
def kFT (o : Option (List (List Key × D))) : Option D := match o with
    | some ds => some (.dT ds)
    | none => none
@[simp] theorem kFT_0 {ds} : kFT (some ds) = some (.dT ds) := (rfl)
@[simp] theorem frz_dT {ms} : frz (.dT ms) = kFT (frzT ms) := by rw [frz] <;> unfold kFT <;> cases frzT ms <;> rfl
theorem frzK_map {α : Type} {k : α → Key} {f : α → M} {g : α → D} : ∀ {xs : List α}, (∀ x ∈ xs, frz (f x) = some (g x)) → frzK (xs.map fun x => (k x, f x)) = some (xs.map fun x => (k x, g x))
  | [], _ => by simp [frzK]
  | x :: xs, h => by
    have ih := frzK_map (k := k) (f := f) (g := g) (xs := xs) fun y hy => h y (List.mem_cons_of_mem _ hy)
    simp [frzK, h x (List.mem_cons_self ..), ih]
theorem frzT_map {α : Type} {k : α → List Key} {f : α → M} {g : α → D} : ∀ {xs : List α}, (∀ x ∈ xs, frz (f x) = some (g x)) → frzT (xs.map fun x => (k x, f x)) = some (xs.map fun x => (k x, g x))
  | [], _ => by simp [frzT]
  | x :: xs, h => by
    have ih := frzT_map (k := k) (f := f) (g := g) (xs := xs) fun y hy => h y (List.mem_cons_of_mem _ hy)
    simp [frzT, h x (List.mem_cons_self ..), ih]
@[simp] theorem frzK_fz {α : Type} {k : α → Key} {g : α → D} {xs : List α} : frzK (xs.map fun x => (k x, M.fz (g x))) = some (xs.map fun x => (k x, g x)) := frzK_map (f := fun x => M.fz (g x)) fun x _ => ev_frz1
@[simp] theorem frzT_fz {α : Type} {k : α → List Key} {g : α → D} {xs : List α} : frzT (xs.map fun x => (k x, M.fz (g x))) = some (xs.map fun x => (k x, g x)) := frzT_map (f := fun x => M.fz (g x)) fun x _ => ev_frz1
@[simp] theorem frzK_nil : frzK [] = some [] := by simp [frzK]
@[simp] theorem frzT_nil : frzT [] = some [] := by simp [frzT]
@[simp] theorem keyM_int {i : Int} : keyM (.fz (.int i)) = some (.inl i) := (rfl)
@[simp] theorem keyM_str {i : Str} : keyM (.fz (.str i)) = some (.inr i) := (rfl)
@[simp] theorem keyT_t {ds : List D} : keyT (.fz (.tup ds)) = keysD ds := (rfl)
@[simp] theorem keysD_nil : keysD [] = some [] := by simp [keysD]
@[simp] theorem keysD_int {i : Int} {r : List D} : keysD (.int i :: r) = match keysD r with
    | some ks => some (.inl i :: ks)
    | none => none := by rw [keysD] <;> cases keysD r <;> rfl
@[simp] theorem keysD_str {i : Str} {r : List D} : keysD (.str i :: r) = match keysD r with
    | some ks => some (.inr i :: ks)
    | none => none := by rw [keysD] <;> cases keysD r <;> rfl
@[simp] theorem getV_k {kvs : List (Key × M)} {k : M} : getV (.dK kvs) k = (keyM k).map (valG kvs) := (rfl)
@[simp] theorem getV_fk {kvs : List (Key × D)} {k : M} : getV (.fz (.dK kvs)) k = (keyM k).map fun kk => (valG kvs kk).map M.fz := (rfl)
@[simp] theorem getV_t {kvs : List (List Key × M)} {k : M} : getV (.dT kvs) k = (keyT k).map (valG kvs) := (rfl)
@[simp] theorem getV_ft {kvs : List (List Key × D)} {k : M} : getV (.fz (.dT kvs)) k = (keyT k).map fun kk => (valG kvs kk).map M.fz := (rfl)
@[simp] theorem getV_flk {kvs : List (Key × D)} {k : M} : getV (.fz (.dLK kvs)) k = (keyM k).map fun kk => (valG kvs kk).map M.fz := (rfl)
@[simp] theorem getV_flt {kvs : List (List Key × D)} {k : M} : getV (.fz (.dLT kvs)) k = (keyT k).map fun kk => (valG kvs kk).map M.fz := (rfl)
@[simp] theorem getV_1 {ds : List D} {k : M} : getV (.fz (.tup ds)) k = none := (rfl)
@[simp] theorem getV_2 {ds : List D} {k : M} : getV (.fz (.lst ds)) k = none := (rfl)
@[simp] theorem getV_3 {ds : List M} {k : M} : getV (.lst ds) k = none := (rfl)
@[simp] theorem getV_4 {ds : Str} {k : M} : getV (.fz (.str ds)) k = none := (rfl)
@[simp] theorem getV_5 {ds : List M} {k : M} : getV (.tup ds) k = none := (rfl)
@[simp] theorem getK2_0 {m k z : M} {d : D} : getK2 m k z (some (.fz d)) = some (.ok (.fz d) [some m, some k, some z]) := (rfl)
@[simp] theorem getK2_1 {m k z : M} : getK2 m k z none = some (.ok z [some m, some k, none]) := (rfl)
@[simp] theorem getK2_2 {m k z : M} {o : Option D} : getK2 m k z (o.map M.fz) = match o with
  | some d => some (.ok (.fz d) [some m, some k, some z])
  | none => some (.ok z [some m, some k, none]) := by cases o <;> rfl
def kGetG (m k z : M) (o : Option (Option M)) : Option OutP := match o with
    | some o => getK2 m k z o
    | none => none
@[simp] theorem kGetG_0 {m k z : M} {o : Option M} : kGetG m k z (some o) = getK2 m k z o := (rfl)
@[simp] theorem ev_getG {m k z : M} : getG [m, k, z] = kGetG m k z (getV m k) := by
  unfold getG kGetG
  simp only [] <;> cases getV m k <;> rfl
@[simp] theorem kIxF_0 {m k : M} {d : D} : kIxF m k (some (.fz d)) = some (.ok (.fz d) [some m, some k]) := (rfl)
@[simp] theorem kIxF_1 {m k : M} {o : Option D} : kIxF m k (o.map M.fz) = match o with
  | some d => some (.ok (.fz d) [some m, some k])
  | none => none := by cases o <;> rfl
def kIxG (m k : M) (o : Option (Option M)) : Option OutP := match o with
    | some o => kIxF m k o
    | none => ixB [m, k]
@[simp] theorem kIxG_0 {m k : M} {o : Option M} : kIxG m k (some o) = kIxF m k o := (rfl)
@[simp] theorem kIxG_1 {m k : M} : kIxG m k none = ixB [m, k] := (rfl)
@[simp] theorem ev_ixF {m k : M} : ixF [m, k] = kIxG m k (getV m k) := by
  unfold ixF kIxG
  simp only [] <;> cases getV m k <;> rfl
@[simp] theorem ixB_1 {ds : List D} {k : M} : ixB [.fz (.tup ds), k] = kG [some (.fz (.tup ds)), some k] (ixM (.fz (.tup ds)) k) := (rfl)
@[simp] theorem ixB_2 {ds : List D} {k : M} : ixB [.fz (.lst ds), k] = kG [some (.fz (.lst ds)), some k] (ixM (.fz (.lst ds)) k) := (rfl)
@[simp] theorem ixB_3 {ds : List M} {k : M} : ixB [.lst ds, k] = kG [some (.lst ds), some k] (ixM (.lst ds) k) := (rfl)
@[simp] theorem ixB_4 {ds : Str} {k : M} : ixB [.fz (.str ds), k] = kG [some (.fz (.str ds)), some k] (ixM (.fz (.str ds)) k) := (rfl)
def kIxT (xs : List M) (i : Int) (o : Option M) : Option OutP := match o with
    | some (.fz d) => some (.ok (.fz d) [some (.tup xs), some (.fz (.int i))])
    | some m => some (.ok m [none, some (.fz (.int i))])
    | none => none
@[simp] theorem kIxT_0 {xs i d} : kIxT xs i (some (.fz d)) = some (.ok (.fz d) [some (.tup xs), some (.fz (.int i))]) := (rfl)
@[simp] theorem kIxT_1 {xs i d} : kIxT xs i (some (.lst d)) = some (.ok (.lst d) [none, some (.fz (.int i))]) := (rfl)
@[simp] theorem kIxT_2 {xs i d} : kIxT xs i (some (.tup d)) = some (.ok (.tup d) [none, some (.fz (.int i))]) := (rfl)
@[simp] theorem kIxT_3 {xs i d} : kIxT xs i (some (.dK d)) = some (.ok (.dK d) [none, some (.fz (.int i))]) := (rfl)
@[simp] theorem kIxT_4 {xs i d} : kIxT xs i (some (.dT d)) = some (.ok (.dT d) [none, some (.fz (.int i))]) := (rfl)
@[simp] theorem kIxT_5 {xs i C d} : kIxT xs i (some (.ins C d)) = some (.ok (.ins C d) [none, some (.fz (.int i))]) := (rfl)
@[simp] theorem ixB_5 {xs : List M} {i : Int} : ixB [.tup xs, .fz (.int i)] = kIxT xs i (atI xs i) := by
  unfold ixB kIxT
  simp only [] <;> (cases atI xs i with
  | none => rfl
  | some m => cases m <;> rfl)
def kInF (neg : Bool) (a b : M) (o : Option (Option M)) : Option M := match o with
  | some o => some (.fz (.bl (Bool.xor o.isSome neg)))
  | none => inA neg a b
@[simp] theorem kInF_0 {neg a b o} : kInF neg a b (some o) = some (.fz (.bl (Bool.xor o.isSome neg))) := (rfl)
@[simp] theorem kInF_1 {neg a b} : kInF neg a b none = inA neg a b := (rfl)
@[simp] theorem ev_inF {neg a b} : inF neg a b = kInF neg a b (getV b a) := by
  unfold inF kInF; cases getV b a <;> rfl
@[simp] theorem inA_1 {neg a} {ds : List D} : inA neg a (.fz (.tup ds)) = inM neg a (.fz (.tup ds)) := (rfl)
@[simp] theorem inA_2 {neg a} {ds : List D} : inA neg a (.fz (.lst ds)) = inM neg a (.fz (.lst ds)) := (rfl)
@[simp] theorem inA_3 {neg a} {ds : List M} : inA neg a (.lst ds) = inM neg a (.lst ds) := (rfl)
@[simp] theorem inA_4 {neg a} {ds : Str} : inA neg a (.fz (.str ds)) = inM neg a (.fz (.str ds)) := (rfl)
@[simp] theorem ev_setSA {env : E} {fe fo fi : FE} : setSA fe fo fi env = kExp (callE setA (arg3 fe fo fi) env) := by
  unfold setSA kExp bindS
  cases callE setA (arg3 fe fo fi) env with
  | none => rfl
  | some o => cases o <;> rfl
def kPut (v k : M) (kvs : List (Key × M)) (o : Option Key) : Option OutP := match o with
    | some kk => if okPut kvs kk v then some (.ok (.fz .non) [none, some (.dK (putM kvs kk v)), some k]) else none
    | none => none
@[simp] theorem kPut_0 {v k kvs kk} : kPut v k kvs (some kk) = if okPut kvs kk v then some (.ok (.fz .non) [none, some (.dK (putM kvs kk v)), some k]) else none := (rfl)
@[simp] theorem setA_k {v k : M} {kvs : List (Key × M)} : setA [v, .dK kvs, k] = kPut v k kvs (keyM k) := by
  unfold setA kPut
  simp only [] <;> cases keyM k <;> rfl
def kPutT (v k : M) (kvs : List (List Key × M)) (o : Option (List Key)) : Option OutP := match o with
    | some kk => if okPut kvs kk v then some (.ok (.fz .non) [none, some (.dT (putM kvs kk v)), some k]) else none
    | none => none
@[simp] theorem kPutT_0 {v k kvs kk} : kPutT v k kvs (some kk) = if okPut kvs kk v then some (.ok (.fz .non) [none, some (.dT (putM kvs kk v)), some k]) else none := (rfl)
@[simp] theorem setA_t {v k : M} {kvs : List (List Key × M)} : setA [v, .dT kvs, k] = kPutT v k kvs (keyT k) := by
  unfold setA kPutT
  simp only [] <;> cases keyT k <;> rfl
@[simp] theorem setA_l {v k : M} {xs : List M} : setA [v, .lst xs, k] = setG [v, .lst xs, k] := (rfl)
def kDp3 (k : Key) (o : Option (Out Av)) : Option (Out Av) := match o with
  | some (.ok (.tm m) env2) => some (.ok (.tm (.dK [(k, m)])) env2)
  | some (.ex x env2) => some (.ex x env2)
  | _ => none
@[simp] theorem kDp3_0 {k m env2} : kDp3 k (some (.ok (.tm m) env2)) = some (.ok (.tm (.dK [(k, m)])) env2) := (rfl)
def kDp2 (fv : FE) (env1 : E) (o : Option Key) : Option (Out Av) := match o with
  | some k => kDp3 k (fv env1)
  | none => none
@[simp] theorem kDp2_0 {fv env1 k} : kDp2 fv env1 (some k) = kDp3 k (fv env1) := (rfl)
def kDp1 (fv : FE) (env1 : E) (o : Option M) : Option (Out Av) := match o with
  | some mk => kDp2 fv env1 (keyM mk)
  | none => none
@[simp] theorem kDp1_0 {fv env1 m} : kDp1 fv env1 (some m) = kDp2 fv env1 (keyM m) := (rfl)
def kDp0 (fv : FE) (o : Option (Out Av)) : Option (Out Av) := match o with
  | some (.ok a env1) => kDp1 fv env1 (resA env1 a)
  | some (.ex x env2) => some (.ex x env2)
  | none => none
@[simp] theorem kDp0_0 {fv a env1} : kDp0 fv (some (.ok a env1)) = kDp1 fv env1 (resA env1 a) := (rfl)
@[simp] theorem ev_disp1 {env : E} {fk fv : FE} : disp1 fk fv env = kDp0 fv (fk env) := by
  unfold disp1 kDp0 bindO
  cases fk env with
  | none => rfl
  | some o =>
    cases o with
    | ex x e => rfl
    | ok a e =>
      simp only []
      unfold kDp1
      cases resA e a with
      | none => rfl
      | some m =>
        simp only []
        unfold kDp2
        cases keyM m with
        | none => rfl
        | some k =>
          simp only []
          unfold kDp3
          cases fv e with
          | none => rfl
          | some o => cases o with
            | ex x e => rfl
            | ok b e => cases b <;> rfl
@[simp] theorem ev_partE {env : E} {T : Kd} {i : Nat} {fc : FC} {g : FP} {fa : FA} : partE T i fc g fa env = kPartC T i g fa (fc env) := (rfl)
@[simp] theorem kPartC_0 {T i g fa env s} : kPartC T i g fa (some (env, s)) = match env[i]? with
    | some (some m) => kPart0 T i s g fa env (getC m s)
    | _ => none := (rfl)
def kPart00 (i : Nat) (s : Way) (g : FP) (fa : FA) (env : E) (b : Bool) : Option (Out Av) := match b with
  | true => kPart1 i s g env (fa (borE env))
  | false => none
@[simp] theorem kPart00_0 {i s g fa env} : kPart00 i s g fa env true = kPart1 i s g env (fa (borE env)) := (rfl)
@[simp] theorem kPart0_0 {T i s g fa env m} : kPart0 T i s g fa env (some m) = kPart00 i s g fa env (tyM T m) := by
  unfold kPart0 kPart00
  simp only [] <;> cases tyM T m <;> rfl
@[simp] theorem kPart1_0 {i s g env as env1} : kPart1 i s g env (some (.ok as env1)) = kPart2 i s g env (tms as) := (rfl)
@[simp] theorem kPart2_0 {i s g env ms} : kPart2 i s g env (some ms) = if noLMs ms then partG env i s g ms else none := (rfl)
@[simp] theorem ev_partG {env i s g ms} : partG env i s g ms = match env[i]? with
  | some (some m) => kSub2 env i s g ms m (getC m s)
  | _ => none := (rfl)
@[simp] theorem kSub2_0 {env i s g ms m m1} : kSub2 env i s g ms m (some m1) = kSub3 env i s m (g (m1 :: ms)) := (rfl)
@[simp] theorem kSub3_0 {env i s m r m1 ms} : kSub3 env i s m (some (.ok r (some m1 :: ms))) = kSub4 env i r (putC m s m1) := (rfl)
@[simp] theorem kSub4_0 {env i r m} : kSub4 env i r (some m) = some (.ok (.tm r) (env.set i (some m))) := (rfl)
@[simp] theorem getC_l {ms i} : getC (.lst ms) (.ix i) = atI ms i := (rfl)
@[simp] theorem getC_k {ms i} : getC (.dK ms) (.ky i) = valG ms i := (rfl)
@[simp] theorem getC_t {ms i} : getC (.dT ms) (.kt i) = valG ms i := (rfl)
@[simp] theorem getC_f {C ms i} : getC (.ins C ms) (.fl i) = valG ms i := (rfl)
def kPc (ms : List M) (m : M) (o : Option Nat) : Option M := match o with
  | some j => some (.lst (ms.set j m))
  | none => none
@[simp] theorem kPc_0 {ms m j} : kPc ms m (some j) = some (.lst (ms.set j m)) := (rfl)
@[simp] theorem putC_l {ms i m} : putC (.lst ms) (.ix i) m = kPc ms m (ixN ms.length i) := by
  unfold putC kPc <;> simp only [] <;> cases ixN ms.length i <;> rfl
@[simp] theorem putC_k {ms i m} : putC (.dK ms) (.ky i) m = some (.dK (chgG ms i m)) := (rfl)
@[simp] theorem putC_t {ms i m} : putC (.dT ms) (.kt i) m = some (.dT (chgG ms i m)) := (rfl)
@[simp] theorem putC_f {C ms i m} : putC (.ins C ms) (.fl i) m = some (.ins C (chgG ms i m)) := (rfl)
def kKe1 (o : Option M) : Option Key := match o with
    | some m => keyM m
    | none => none
@[simp] theorem kKe1_0 {m} : kKe1 (some m) = keyM m := (rfl)
def kKe (o : Option (Out Av)) : Option Key := match o with
  | some (.ok a env1) => kKe1 (resA env1 a)
  | _ => none
@[simp] theorem kKe_0 {a env1} : kKe (some (.ok a env1)) = kKe1 (resA env1 a) := (rfl)
@[simp] theorem ev_keyE {env f} : keyE env f = kKe (f (borE env)) := by
  unfold keyE kKe kKe1
  cases f (borE env) with
  | none => rfl
  | some o => cases o with
    | ok a e => simp only [] <;> cases resA e a <;> rfl
    | ex x e => rfl
def kIc (i : Nat) (env : E) (o : Option Key) : Option (E × Way) := match o with
  | some (.inl n) => match env[i]? with
    | some (some (.lst ms)) => if (atI ms n).isSome then some (env, .ix n) else none
    | _ => none
  | _ => none
@[simp] theorem kIc_0 {i env n} : kIc i env (some (.inl n)) = match env[i]? with
    | some (some (.lst ms)) => if (atI ms n).isSome then some (env, .ix n) else none
    | _ => none := (rfl)
@[simp] theorem ev_ixC {env i f} : ixC i f env = kIc i env (keyE env f) := by
  unfold ixC kIc
  cases keyE env f with
  | none => rfl
  | some k => cases k <;> rfl
def kSd1 (i : Nat) (env : E) (k : Key) (kvs : List (Key × M)) (o : Option M) : Option (E × Way) := match o with
      | some _ => some (env, .ky k)
      | none => some (env.set i (some (.dK (kvs ++ [(k, .lst [])]))), .ky k)
@[simp] theorem kSd1_0 {i env k kvs m} : kSd1 i env k kvs (some m) = some (env, .ky k) := (rfl)
@[simp] theorem kSd1_1 {i env k kvs} : kSd1 i env k kvs none = some (env.set i (some (.dK (kvs ++ [(k, .lst [])]))), .ky k) := (rfl)
def kSd (i : Nat) (env : E) (o : Option Key) : Option (E × Way) := match o with
  | some k => match env[i]? with
    | some (some (.dK kvs)) => if kvs.length < sizeLine then kSd1 i env k kvs (valG kvs k) else none
    | _ => none
  | none => none
@[simp] theorem kSd_0 {i env k} : kSd i env (some k) = match env[i]? with
    | some (some (.dK kvs)) => if kvs.length < sizeLine then kSd1 i env k kvs (valG kvs k) else none
    | _ => none := (rfl)
@[simp] theorem ev_sdC {env i f} : sdC i f env = kSd i env (keyE env f) := by
  unfold sdC kSd
  generalize keyE env f = ok
  generalize env[i]? = oi
  cases ok with
  | none => rfl
  | some k =>
    cases oi with
    | none => rfl
    | some o =>
      cases o with
      | none => rfl
      | some m =>
        cases m with
        | dK kvs =>
          by_cases h : kvs.length < sizeLine
          · simp only [if_pos h, kSd1] <;> (generalize valG kvs k = ov; cases ov <;> rfl)
          · simp only [if_neg h]
        | _ => rfl
def kRv (o : Option (List D)) : Option M := match o with
  | some ds => some (.lst (ds.reverse.map .fz))
  | none => none
@[simp] theorem kRv_0 {ds} : kRv (some ds) = some (.lst (ds.reverse.map .fz)) := (rfl)
@[simp] theorem ev_revM {m} : revM m = kRv (lstD m) := by unfold revM kRv; cases lstD m <;> rfl
def kRvs (o : Option (List D)) : Option OutP := match o with
    | some ds => some (.ok (.fz .non) [some (.lst (ds.reverse.map .fz))])
    | none => none
@[simp] theorem kRvs_0 {ds} : kRvs (some ds) = some (.ok (.fz .non) [some (.lst (ds.reverse.map .fz))]) := (rfl)
@[simp] theorem ev_rvsG {xs : List M} : rvsG [.lst xs] = kRvs (unfz xs) := by unfold rvsG kRvs <;> simp only [] <;> cases unfz xs <;> rfl
@[simp] theorem tyM_l {ms} : tyM .lst (.lst ms) = true := (rfl)
@[simp] theorem tyM_fl {ms} : tyM .lst (.fz (.lst ms)) = true := (rfl)
@[simp] theorem tyM_d {ms} : tyM .dct (.dK ms) = true := (rfl)
@[simp] theorem tyM_fd {ms} : tyM .dct (.fz (.dK ms)) = true := (rfl)
@[simp] theorem tyM_dt {ms} : tyM .dct (.dT ms) = true := (rfl)
@[simp] theorem tyM_fdt {ms} : tyM .dct (.fz (.dT ms)) = true := (rfl)
@[simp] theorem ev_iadd1 {i j : Int} : iaddM (.fz (.int i)) (.fz (.int j)) = some (.fz (.int (i + j))) := (rfl)
@[simp] theorem ev_iadd2 {s t : Str} : iaddM (.fz (.str s)) (.fz (.str t)) = if s.length + t.length ≤ sizeLine then some (.fz (.str (s ++ t))) else none := (rfl)
@[simp] theorem all_noT {α : Type} {f : α → D} {xs : List α} : xs.all (noT ∘ fun x => M.fz (f x)) = true := by simp [List.all_eq_true]
@[simp] theorem all_noLM {α : Type} {f : α → D} {xs : List α} : xs.all (noLM ∘ fun x => M.fz (f x)) = xs.all fun x => noL (f x) := by
  have : (noLM ∘ fun x => M.fz (f x)) = fun x => noL (f x) := by funext x; simp
  rw [this]
@[simp] theorem all_tt {α : Type} {xs : List α} : (xs.all fun _ => true) = true := by simp
def kFr1 (env1 : E) (o : Option D) : Option (Out Av) := match o with
    | some d => some (.ok (.tm (.fz d)) env1)
    | none => none
@[simp] theorem kFr1_0 {env1 d} : kFr1 env1 (some d) = some (.ok (.tm (.fz d)) env1) := (rfl)
def kFr (o : Option (Out Av)) : Option (Out Av) := match o with
  | some (.ok (.tm m) env1) => kFr1 env1 (frz m)
  | some (.ex x env1) => some (.ex x env1)
  | _ => none
@[simp] theorem kFr_0 {m env1} : kFr (some (.ok (.tm m) env1)) = kFr1 env1 (frz m) := (rfl)
@[simp] theorem kFr_1 {x env1} : kFr (some (.ex x env1)) = some (.ex x env1) := (rfl)
@[simp] theorem ev_frE {env : E} {f : FE} : frE f env = kFr (f env) := by
  unfold frE kFr bindO
  cases f env with
  | none => rfl
  | some o => cases o with
    | ex x e => rfl
    | ok a e => cases a with
      | sl i => rfl
      | tm m => simp only [] <;> unfold kFr1 <;> cases frz m <;> rfl
@[simp] theorem itemsA_fl {ds : List D} : itemsA (.fz (.lst ds)) = some ds := by simp [itemsA]
end Ink
set_option Elab.async false
set_option linter.all false
set_option maxRecDepth 100000
namespace Ink
open PySem L2 PyProof.Rows
def mergeM (kvs more : List (Key × M)) : List (Key × M) := more.foldl (fun acc kv => putM acc kv.1 kv.2) kvs
/-- only frozen dicts (or made ones of plain things) are taken in -/
def updG : FP := fun ms => match ms with
  | [.dK kvs, .fz (.dK ds)] => if kvs.length + ds.length ≤ sizeLine then some (.ok (.fz .non) [some (.dK (mergeM kvs (ds.map fun kv => (kv.1, .fz kv.2)))), some (.fz (.dK ds))]) else none
  | _ => none
def pairsD : List D → Option (List (Key × D))
  | [] => some []
  | .tup [.int k, d] :: r => match pairsD r with
    | some ps => some ((.inl k, d) :: ps)
    | none => none
  | .tup [.str k, d] :: r => match pairsD r with
    | some ps => some ((.inr k, d) :: ps)
    | none => none
  | _ :: _ => none
def dictM (m : M) : Option M := match lstD m with
  | some ds => match pairsD ds with
    | some ps => if ps.length ≤ sizeLine then some (.dK (mergeM [] (ps.map fun kv => (kv.1, .fz kv.2)))) else none
    | none => none
  | none => none
end Ink
set_option Elab.async false
set_option linter.all false
set_option maxRecDepth 100000
namespace Ink
open PySem L2
def kDc2 (o : Option (List (Key × D))) : Option M := match o with
    | some ps => if ps.length ≤ sizeLine then some (.dK (mergeM [] (ps.map fun kv => (kv.1, .fz kv.2)))) else none
    | none => none
@[simp] theorem kDc2_0 {ps} : kDc2 (some ps) = if ps.length ≤ sizeLine then some (.dK (mergeM [] (ps.map fun kv => (kv.1, .fz kv.2)))) else none := (rfl)
def kDc1 (o : Option (List D)) : Option M := match o with
  | some ds => kDc2 (pairsD ds)
  | none => none
@[simp] theorem kDc1_0 {ds} : kDc1 (some ds) = kDc2 (pairsD ds) := (rfl)
@[simp] theorem ev_dictM {m : M} : dictM m = kDc1 (lstD m) := by
  unfold dictM kDc1 kDc2
  cases lstD m with
  | none => rfl
  | some ds => simp only [] <;> cases pairsD ds <;> rfl
@[simp] theorem ev_updG {kvs : List (Key × M)} {ds : List (Key × D)} : updG [.dK kvs, .fz (.dK ds)] = if kvs.length + ds.length ≤ sizeLine then some (.ok (.fz .non) [some (.dK (mergeM kvs (ds.map fun kv => (kv.1, .fz kv.2)))), some (.fz (.dK ds))]) else none := (rfl)
end Ink
set_option Elab.async false
set_option linter.all false
set_option maxRecDepth 100000
set_option maxHeartbeats 0
namespace Ink
open PySem L2 PyProof.Rows
end Ink
set_option Elab.async false
set_option linter.all false
set_option maxRecDepth 100000
set_option maxHeartbeats 0
namespace Ink
open PySem L2 PyProof.Rows
def numsD : List D → Option (List Int)
  | [] => some []
  | .int i :: r => match numsD r with
    | some ns => some (i :: ns)
    | none => none
  | _ :: _ => none
theorem numsD_map (ns : List Int) : numsD (ns.map D.int) = some ns := by
  induction ns with
  | nil => rfl
  | cons n ns ih => rw [List.map_cons, numsD, ih]
def numsM (m : M) : Option (List Int) := match lstD m with
  | some ds => numsD ds
  | none => none
end Ink
set_option Elab.async false
set_option linter.all false
set_option maxRecDepth 100000
set_option maxHeartbeats 0
namespace Ink
open PySem L2 PyProof.Rows
def lrgE (f : FE) : FE := fun env => bindO (f env) fun a env1 => match intA a env1 with
  | some n => if decide (-(2 ^ 62) ≤ n) && decide (n ≤ 16777216) then some (.ok (.tm (.lst ((rangeD 0 n).map M.fz))) env1) else none
  | none => none
section
variable {X : Cx} {W : WX} {e : Expr} {f : FE} {p p2 pos pos2 : Pos}
def keyD : Key → D
  | .inl i => .int i
  | .inr x => .str x
theorem keyD_rep {K : PySem.W.Frag} {F : Hp} (k : Key) : Rep K F (kV k) (keyD k) := by
  cases k with
  | inl i => exact .int i
  | inr x => exact .str x
theorem keys_reps {K : PySem.W.Frag} {F : Hp} : ∀ ks : List Key, Reps K F (ks.map kV) (ks.map keyD)
  | [] => .nil
  | k :: ks => .cons (keyD_rep k) (keys_reps ks)
/-- a key that is a tuple -/
def keyTD (k : List Key) : D := .tup (k.map keyD)
theorem paired_at {α β : Type} {R : α → β → Prop} : ∀ {xs : List α} {ys : List β}, Paired R xs ys → ys.length = xs.length ∧ ∀ (i : Nat) x y, xs[i]? = some x → ys[i]? = some y → R x y
  | [], _, h => by cases h; exact ⟨rfl, fun i x y e => by simp at e⟩
  | _ :: _, _, h => by
    cases h with
    | cons a b =>
      obtain ⟨l, f⟩ := paired_at b
      refine ⟨by simp [l], fun i x y e1 e2 => ?_⟩
      cases i with
      | zero => simp at e1 e2; subst e1; subst e2; exact a
      | succ i => exact f i x y (by simpa using e1) (by simpa using e2)
theorem keysT_reps {K : PySem.W.Frag} {F H : Hp} {kvs : List (List Key × V)} {bs : List Addr} (t : TOk K F H) (h : IsKeys H kvs bs) : Reps K F (bs.map V.ref) ((kvs.map (·.1)).map keyTD) := by
  obtain ⟨l, f⟩ := paired_at h
  refine Reps.of (by simp [l]) fun i v d e1 e2 => ?_
  rw [List.getElem?_map] at e1
  rw [List.getElem?_map, List.getElem?_map] at e2
  cases eb : bs[i]? with
  | none => rw [eb] at e1; cases e1
  | some b =>
    cases ek : kvs[i]? with
    | none => rw [ek] at e2; cases e2
    | some kv =>
      rw [eb] at e1; rw [ek] at e2
      cases e1; cases e2
      exact .tup (t.tp _ _ (f i kv b ek eb)) (keys_reps _)
def listDM (m : M) : Option M := match m with
  | .dK kvs => some (.lst ((kvs.map fun kv => keyD kv.1).map M.fz))
  | .fz (.dK kvs) => some (.lst ((kvs.map fun kv => keyD kv.1).map M.fz))
  | .dT kvs => some (.lst ((kvs.map fun kv => keyTD kv.1).map M.fz))
  | .fz (.dT kvs) => some (.lst ((kvs.map fun kv => keyTD kv.1).map M.fz))
  | m => listM m
theorem e_listD (hc : X.calm = true) (hg : Gl X "list") (hm : X.mg "list" = none) (ha : PE X e (rE X.K W f)) (hs : starEach [e] X.env = (false, eval e X.env) :: starEach [] X.env := by rfl) : PE X (.Call (.Name "list" p) [e] [] pos) (rE X.K W (callE (g1 listDM) (arg1 f))) :=
  e_callTy (CallR.or (call_list_dT hc) (CallR.or (call_list_dK hc) call_list_of)) (fun vs H Q Ex p => by
    obtain ⟨x, F, a, m, fps, rfl, R, r, h, p⟩ := g1_at p
    unfold listDM at h
    split at h
    · rename_i kvs
      cases h
      right
      left
      generalize fps 0 = f0 at r
      cases r with
      | @dK q ws _ fq hq hf hk rs n =>
        refine ⟨q, ws, rfl, hq, ?_⟩
        have e1 : (ws.map fun kv => kV kv.1) = (kvs.map (·.1)).map kV := by rw [← hk, List.map_map]; rfl
        have e2 : (kvs.map fun kv => keyD kv.1) = (kvs.map (·.1)).map keyD := by rw [List.map_map]; rfl
        rw [e1]
        rw [e2] at p
        exact sp_lst R (keys_reps _) p
    · rename_i kvs
      cases h
      right
      left
      cases repm_fz r with
      | @dK q ws _ hq hk rs =>
        refine ⟨q, ws, rfl, R.fr _ _ hq, ?_⟩
        have e1 : (ws.map fun kv => kV kv.1) = (kvs.map (·.1)).map kV := by rw [← hk, List.map_map]; rfl
        have e2 : (kvs.map fun kv => keyD kv.1) = (kvs.map (·.1)).map keyD := by rw [List.map_map]; rfl
        rw [e1]
        rw [e2] at p
        exact sp_lst R (keys_reps _) p
    · rename_i kvs
      cases h
      left
      generalize fps 0 = f0 at r
      cases r with
      | @dT q ws _ fq hq hf hk rs n =>
        refine ⟨q, ws, rfl, .of hq, fun pp bs hp ks => ?_⟩
        have e2 : (kvs.map fun kv => keyTD kv.1) = (ws.map (·.1)).map keyTD := by rw [hk, List.map_map]; rfl
        rw [e2] at p
        exact sp_lst R (keysT_reps R.tt ks) p pp hp
    · rename_i kvs
      cases h
      left
      cases repm_fz r with
      | @dT q ws _ hq hk rs =>
        refine ⟨q, ws, rfl, .of (R.fr _ _ hq), fun pp bs hp ks => ?_⟩
        have e2 : (kvs.map fun kv => keyTD kv.1) = (ws.map (·.1)).map keyTD := by rw [hk, List.map_map]; rfl
        rw [e2] at p
        exact sp_lst R (keysT_reps R.tt ks) p pp hp
    · right
      right
      unfold listM at h
      cases e1 : seqD a with
      | none => rw [e1] at h; cases h
      | some ds =>
        simp only [e1] at h
        cases h
        obtain ⟨q, vs, rfl, hq, rs⟩ := seqD_rep R.fr r e1
        exact ⟨q, vs, rfl, hq, sp_lst R rs p⟩) hg hm (by decide +kernel) (a_cons ha a_nil hs) (he := hs)
def kLr1 (env1 : E) (o : Option Int) : Option (Out Av) := match o with
  | some n => if decide (-(2 ^ 62) ≤ n) && decide (n ≤ 16777216) then some (.ok (.tm (.lst ((rangeD 0 n).map M.fz))) env1) else none
  | none => none
@[simp] theorem kLr1_0 {env1 n} : kLr1 env1 (some n) = if decide (-(2 ^ 62) ≤ n) && decide (n ≤ 16777216) then some (.ok (.tm (.lst ((rangeD 0 n).map M.fz))) env1) else none := (rfl)
def kLr (o : Option (Out Av)) : Option (Out Av) := match o with
  | some (.ok a env1) => kLr1 env1 (intA a env1)
  | some (.ex x env1) => some (.ex x env1)
  | none => none
@[simp] theorem kLr_0 {a env1} : kLr (some (.ok a env1)) = kLr1 env1 (intA a env1) := (rfl)
@[simp] theorem ev_lrgE {env : E} {f : FE} : lrgE f env = kLr (f env) := by
  unfold lrgE kLr bindO
  cases f env with
  | none => rfl
  | some o => cases o with
    | ok a e => simp only [] <;> unfold kLr1 <;> cases intA a e <;> rfl
    | ex x e => rfl
@[simp] theorem listDM_l {ms : List M} : listDM (.lst ms) = listM (.lst ms) := (rfl)
@[simp] theorem listDM_fl {ms : List D} : listDM (.fz (.lst ms)) = listM (.fz (.lst ms)) := (rfl)
@[simp] theorem listDM_ft {ms : List D} : listDM (.fz (.tup ms)) = listM (.fz (.tup ms)) := (rfl)
@[simp] theorem listDM_t {kvs : List (List Key × M)} : listDM (.dT kvs) = some (.lst ((kvs.map fun kv => keyTD kv.1).map M.fz)) := (rfl)
@[simp] theorem listDM_ft2 {kvs : List (List Key × D)} : listDM (.fz (.dT kvs)) = some (.lst ((kvs.map fun kv => keyTD kv.1).map M.fz)) := (rfl)
@[simp] theorem listDM_k {kvs : List (Key × M)} : listDM (.dK kvs) = some (.lst ((kvs.map fun kv => keyD kv.1).map M.fz)) := (rfl)
def kNm (o : Option (List D)) : Option (List Int) := match o with
  | some ds => numsD ds
  | none => none
@[simp] theorem kNm_0 {ds} : kNm (some ds) = numsD ds := (rfl)
@[simp] theorem ev_numsM {m : M} : numsM m = kNm (lstD m) := by unfold numsM kNm; cases lstD m <;> rfl
@[simp] theorem numsD_ints {ns : List Int} : numsD (ns.map D.int) = some ns := numsD_map ns
end
end Ink
set_option Elab.async false
set_option linter.all false
set_option maxRecDepth 100000
namespace Ink
open PySem L2
def unlG (gs : List FG) : FG := fun m env => match lstD m with
  | some ds => eachG gs (ds.map M.fz) env
  | none => none
@[simp] theorem ev_unlG {gs : List FG} {ms : List M} {env : E} : unlG gs (.lst ms) env = match unfz ms with
  | some ds => eachG gs (ds.map M.fz) env
  | none => none := (rfl)
end Ink
set_option Elab.async false
set_option linter.all false
set_option maxRecDepth 100000
namespace Ink
open PySem L2
end Ink
set_option Elab.async false
set_option linter.all false
set_option maxRecDepth 100000
namespace Ink
open PySem L2
end Ink
set_option Elab.async false
set_option linter.all false
set_option maxRecDepth 100000
namespace Ink
open PySem L2
end Ink
set_option Elab.async false
set_option linter.all false
set_option maxRecDepth 100000
set_option maxHeartbeats 1000000
namespace ZS
open PySem
open PySem.Sem (wp)
end ZS
namespace ZS
open PySem
open PySem.Sem (wp)
end ZS
set_option Elab.async false
set_option linter.all false
set_option maxRecDepth 100000
set_option maxHeartbeats 1000000
namespace ZS
open PySem PySem.Spec L2
end ZS
set_option Elab.async false
set_option linter.all false
set_option maxRecDepth 100000
namespace Ink
open PySem L2
def zipD (xs ys : List D) : List D := List.zipWith (fun a b => D.tup [a, b]) xs ys
def itemsZ (strict : Bool) : List Av → Option (List D)
  | [.tm (.fz (.lst xs)), .tm (.fz (.lst ys))] => if strict && !decide (xs.length = ys.length) then none else some (zipD xs ys)
  | _ => none
def overZ (strict : Bool) (fa : FA) : FI := fun env => bindO (fa env) fun as env1 => match itemsZ strict as with
  | some ds => some (.ok ds env1)
  | none => none
end Ink
namespace Ink
open PySem L2
def kZ1 (env1 : E) (o : Option (List D)) : Option (Out (List D)) := match o with
  | some ds => some (.ok ds env1)
  | none => none
@[simp] theorem kZ1_0 {env1 : E} {ds : List D} : kZ1 env1 (some ds) = some (.ok ds env1) := (rfl)
def kZ (strict : Bool) (o : Option (Out (List Av))) : Option (Out (List D)) := match o with
  | some (.ok as env1) => kZ1 env1 (itemsZ strict as)
  | some (.ex x env1) => some (.ex x env1)
  | none => none
@[simp] theorem kZ_0 {strict : Bool} {as : List Av} {env1 : E} : kZ strict (some (.ok as env1)) = kZ1 env1 (itemsZ strict as) := (rfl)
@[simp] theorem ev_overZ {strict : Bool} {env : E} {fa : FA} : overZ strict fa env = kZ strict (fa env) := by
  unfold overZ kZ bindO
  cases fa env with
  | none => rfl
  | some o => cases o <;> rfl
@[simp] theorem itemsZ_0 {xs ys : List D} : itemsZ false [.tm (.fz (.lst xs)), .tm (.fz (.lst ys))] = some (zipD xs ys) := (rfl)
end Ink
set_option Elab.async false
set_option linter.all false
set_option maxRecDepth 100000
namespace Ink
open PySem L2
end Ink
set_option Elab.async false
set_option linter.all false
set_option maxRecDepth 100000
namespace Ink
open PySem L2
def clrG : FP := fun ms => match ms with
  | [.lst xs] => match unfz xs with
    | some ds => some (.ok (.fz .non) [some (.lst [])])
    | none => none
  | _ => none
@[simp] theorem ev_clr {xs : List M} {ds : List D} (h : unfz xs = some ds) : clrG [.lst xs] = some (.ok (.fz .non) [some (.lst [])]) := by
  unfold clrG
  simp only [h]
end Ink
set_option Elab.async false
set_option linter.all false
set_option maxRecDepth 100000
namespace Ink
open PySem L2
theorem Reps.erase {K : PySem.W.Frag} {F : Hp} : ∀ {vs : List V} {ds : List D}, Reps K F vs ds → ∀ k, Reps K F (vs.eraseIdx k) (ds.eraseIdx k)
  | _, _, .nil, k => .nil
  | _, _, .cons a t, 0 => t
  | _, _, .cons a t, k + 1 => .cons a (Reps.erase t k)
section
variable {X : Cx} {W : WX} {o e e2 e3 : Expr} {fo fe f2 f3 : FE} {apos cpos : Pos}
def max3M : M → M → M → Option M
  | .fz (.int i), .fz (.int j), .fz (.int k) => some (.fz (.int (if (if i < j then j else i) < k then k else (if i < j then j else i))))
  | _, _, _ => none
@[simp] theorem ev_max3 {i j k : Int} : g3 max3M [.fz (.int i), .fz (.int j), .fz (.int k)] = some (.ok (.fz (.int (if (if i < j then j else i) < k then k else (if i < j then j else i)))) [some (.fz (.int i)), some (.fz (.int j)), some (.fz (.int k))]) := (rfl)
end
end Ink
set_option Elab.async false
set_option linter.all false
set_option maxRecDepth 100000
namespace Ink
open PySem L2 LamX
def raiseS (x : Str) : FS := fun env => some (.ex ⟨x, none⟩ env)
def ExcK (K : PySem.W.Frag) (x : Str) : Prop := PySem.W.excIn K (He.ga K x) He.veBase "ValueError.__new__" = true ∧ PySem.W.keepIn K (.ref (He.ga K x)) = true ∧ PySem.W.subIn K (.ref (He.ga K x)) (.type "BaseException") = some true ∧ PySem.W.typeIn K (.ref (He.ga K x)) = some (.type "type")
theorem s_raise {X : Cx} {W : WX} {P : List Nat} {x m : Str} {j : Nat} {p p2 pos rpos : Pos} (hc : X.calm = true) (tk : Takes X W) (hm : X.mg x = some (.ref (He.ga X.K x))) (hx : ExcK X.K x) (hg : Gl X x) (hdb : (x == ("__debug__" : Str)) = false := by decide) :
    PS X (.Raise (some (.Call (.Name x p) [.Constant (.str m) j p2] [] pos)) none rpos) (rS X.K W P (raiseS x)) :=
  PS_mono (ps_raise hc tk (pmk_own PySem.F.excBase_ValueError hx.1 hm hx.2.1 (raises_own hx.2.2.1 hx.2.2.2) hg hdb)) fun D σ H ⟨F, env, fps, R, p⟩ => p (.ref (He.ga X.K x)) none σ F H fps R ⟨rfl, trivial⟩ .refl (Ext.refl fun _ h => h)
theorem Takes.len {X : Cx} {W : WX} (t : Takes X W) : Takes X (fun c d σ H => σ.length = X.N.length → W c d σ H) := fun u s' ⟨a, B, sI, pins, σ, H, cls, d, e, I, nb, up, sky, na, os, ag, w⟩ =>
  t u s' ⟨a, B, sI, pins, σ, H, cls, d, e, I, nb, up, sky, na, os, ag, w I.len⟩
end Ink
set_option Elab.async false
set_option linter.all false
set_option maxRecDepth 100000
set_option maxHeartbeats 2000000
namespace Ink
open PySem PySem.Spec PyProof.Rows L2 LamX
end Ink
set_option Elab.async false
set_option linter.all false
set_option maxRecDepth 100000
namespace Ink
open PySem L2 LamX
def wordE (told : Str) (wf : Str → Option Str) (f : FE) : FE := fun env => match f env with
  | some (.ok _ env1) => some (.ok (.tm (.fz (.str told))) env1)
  | some (.ex x env1) => match wf x.cls with
    | some z => some (.ok (.tm (.fz (.str z))) env1)
    | none => none
  | none => none
def kWord (told : Str) (wf : Str → Option Str) (o : Option (Out Av)) : Option (Out Av) := match o with
  | some (.ok _ env1) => some (.ok (.tm (.fz (.str told))) env1)
  | some (.ex x env1) => match wf x.cls with
    | some z => some (.ok (.tm (.fz (.str z))) env1)
    | none => none
  | none => none
@[simp] theorem ev_wordE {told : Str} {wf : Str → Option Str} {f : FE} {env : E} : wordE told wf f env = kWord told wf (f env) := (rfl)
@[simp] theorem kWord_ok {told : Str} {wf : Str → Option Str} {a : Av} {env1 : E} : kWord told wf (some (.ok a env1)) = some (.ok (.tm (.fz (.str told))) env1) := (rfl)
@[simp] theorem kWord_ex {told : Str} {wf : Str → Option Str} {c : Str} {fs} {env1 : E} : kWord told wf (some (.ex ⟨c, fs⟩ env1)) = match wf c with
    | some z => some (.ok (.tm (.fz (.str z))) env1)
    | none => none := (rfl)
@[simp] theorem ev_raiseS {x : Str} {env : E} : raiseS x env = some (.ex ⟨x, none⟩ env) := (rfl)
end Ink
set_option Elab.async false
set_option linter.all false
set_option maxRecDepth 100000
namespace Ink
open PySem L2
end Ink
set_option Elab.async false
set_option linter.all false
set_option maxRecDepth 100000
namespace Ink
open PySem PySem.Spec PyProof.Rows L2
end Ink
set_option Elab.async false
set_option linter.all false
set_option maxRecDepth 100000
namespace Ink
open PySem PySem.Spec PyProof.Rows L2
end Ink
set_option Elab.async false
set_option linter.all false
set_option maxRecDepth 100000
namespace Ink
open PySem L2
end Ink
set_option Elab.async false
set_option linter.all false
set_option maxRecDepth 100000
namespace Ink
open PySem L2 PySem.Spec PyProof.Rows
end Ink
set_option Elab.async false
set_option linter.all false
set_option maxRecDepth 100000
set_option maxHeartbeats 4000000
namespace Ink
section
open PySem L2 PySem.Spec PyProof.Rows
variable {X : Cx} {W : WX} {e : Expr} {fe : FE} {pos : Pos}
def rev1M (m : M) : Option M := match m with
  | .fz (.tup (a :: b :: _)) => some (.fz (.tup [b, a]))
  | _ => none
@[simp] theorem ev_rev1 {a b : D} {ds : List D} : rev1M (.fz (.tup (a :: b :: ds))) = some (.fz (.tup [b, a])) := (rfl)
end
end Ink
set_option Elab.async false
set_option linter.all false
set_option maxRecDepth 100000
namespace Ink
open PySem L2
end Ink
set_option Elab.async false
set_option linter.all false
set_option maxRecDepth 100000
namespace Ink
open PySem L2
end Ink
set_option Elab.async false
set_option linter.all false
set_option maxRecDepth 100000
namespace Ink
open PySem L2
def loopM (g : FG) (fb : FS) : List M → E → Option Fl
  | [], env => some (.nx env)
  | m :: ms, env => match g m env with
    | none => none
    | some env1 => match fb env1 with
      | some (.nx env2) => loopM g fb ms env2
      | some (.ct env2) => loopM g fb ms env2
      | some (.bk env2) => some (.nx env2)
      | o => o
def lstA : Av → Option (List M)
  | .tm (.lst ms) => some ms
  | _ => none
def forM (f : FE) (g : FG) (fb : FS) : FS := fun env => bindS (tk f env) fun a env1 => match lstA a with
  | some ms => loopM g fb ms env1
  | none => none
def ixO : FP := fun ms => match ms with
  | [.lst xs, .fz (.int i)] => match atI xs i with
    | some m => some (.ok m [none, some (.fz (.int i))])
    | none => none
  | _ => none
@[simp] theorem ev_ixO {xs : List M} {i : Int} : ixO [.lst xs, .fz (.int i)] = match atI xs i with
    | some m => some (.ok m [none, some (.fz (.int i))])
    | none => none := (rfl)
def kForM (g : FG) (fb : FS) (o : Option (Out Av)) : Option Fl := match o with
  | some (.ok a env1) => match lstA a with
    | some ms => loopM g fb ms env1
    | none => none
  | some (.ex x env1) => some (.ex x env1)
  | none => none
@[simp] theorem ev_forM {f : FE} {g : FG} {fb : FS} {env : E} : forM f g fb env = kForM g fb (tk f env) := by
  unfold forM kForM bindS
  cases tk f env with
  | none => rfl
  | some o => cases o <;> rfl
@[simp] theorem kForM_0 {g : FG} {fb : FS} {ms : List M} {env : E} : kForM g fb (some (.ok (.tm (.lst ms)) env)) = loopM g fb ms env := (rfl)
end Ink
set_option Elab.async false
set_option linter.all false
set_option maxRecDepth 100000
set_option maxHeartbeats 4000000
namespace Ink
open PySem PySem.Spec PyProof.Rows L2
end Ink
set_option Elab.async false
set_option linter.all false
set_option maxRecDepth 100000
set_option maxHeartbeats 1000000
namespace Ink
open PySem L2
def itemsZM : List Av → Option (List D)
  | [.tm (.fz (.lst xs)), .tm (.fz (.tup ys))] => some (zipD xs ys)
  | _ => none
def overZM (fa : FA) : FI := fun env => bindO (fa env) fun as env1 => match itemsZM as with
  | some ds => some (.ok ds env1)
  | none => none
def kZM (o : Option (Out (List Av))) : Option (Out (List D)) := match o with
  | some (.ok as env1) => kZ1 env1 (itemsZM as)
  | some (.ex x env1) => some (.ex x env1)
  | none => none
@[simp] theorem kZM_0 {as : List Av} {env1 : E} : kZM (some (.ok as env1)) = kZ1 env1 (itemsZM as) := (rfl)
@[simp] theorem ev_overZM {env : E} {fa : FA} : overZM fa env = kZM (fa env) := by
  unfold overZM kZM bindO
  cases fa env with
  | none => rfl
  | some o => cases o <;> rfl
@[simp] theorem itemsZM_0 {xs ys : List D} : itemsZM [.tm (.fz (.lst xs)), .tm (.fz (.tup ys))] = some (zipD xs ys) := (rfl)
end Ink
set_option Elab.async false
set_option linter.all false
set_option maxRecDepth 100000
set_option maxHeartbeats 2000000
namespace Ink
open PySem PySem.Spec PyProof.Rows L2 LamX
def oexB (K : PySem.W.Frag) (C : Addr) : Bool := match K.lookup C with
  | some ⟨.type t, _, .cls cd, sl⟩ => t == "type" && (match cd.mro, sl.toList with
    | .ref C' :: bm, [_, _, _, _, some (.builtin n), _] => C' == C && (n == "ValueError.__new__" && (!cd.hasDel && (cd.hasDict && PySem.HandSPX.refsVE bm)))
    | _, _ => false)
  | _ => false
theorem oexB_ok {K : PySem.W.Frag} {C : Addr} (h : oexB K C = true) : ∃ nm q N bs bm sn sub ab col dd k0 k1 k2 k3 k5, K.lookup C = some (excClassObj nm q C N bs bm true sn sub ab col dd k0 k1 k2 k3 k5 "ValueError.__new__") ∧ PySem.HandSPX.refsVE bm = true := by
  unfold oexB at h
  split at h
  · rename_i t dd cd sl hK
    obtain ⟨h0, h⟩ := Bool.and_eq_true_iff.mp h
    split at h
    · rename_i C' bm k0 k1 k2 k3 n k5 hm hs
      simp only [Bool.and_eq_true, beq_iff_eq, Bool.not_eq_true'] at h
      obtain ⟨rfl, rfl, h3, h4, h5⟩ := h
      have h0 : t = "type" := beq_iff_eq.mp h0
      subst h0
      obtain ⟨nm, bs, mro, N, q, hd, sn, sub, ab, col, del⟩ := cd
      simp only at hm h3 h4
      subst hm h3 h4
      have es : sl = #[k0, k1, k2, k3, some (.builtin "ValueError.__new__"), k5] := by
        rw [← hs]
      subst es
      exact ⟨nm, q, N, bs, bm, sn, sub, ab, col, dd, k0, k1, k2, k3, k5, hK, h5⟩
    · cases h
  · cases h
abbrev iAd (K : PySem.W.Frag) (x : Str) : Addr := He.ma K (He.ga K x) "__init__"
def viB : Option PySem.W.CFound → Bool
  | some (.val (.builtin n)) => n == "ValueError.__init__"
  | _ => false
theorem viB_ok {r : Option PySem.W.CFound} (h : viB r = true) : r = some (.val (.builtin "ValueError.__init__")) := by
  unfold viB at h
  split at h
  · rw [beq_iff_eq.mp h]
  · cases h
/-- class x, its own base b, its field f -/
def initB (K : PySem.W.Frag) (x b f : Str) : Bool := oexB K (He.ga K x) && (decide (PySem.W.findIn K (.ref (He.ga K x)) "__setattr__" = some (some (.builtin "object.__setattr__"))) && (decide (PySem.W.subIn K (.ref (He.ga K x)) (.type "BaseException") = some true) && (decide (PySem.W.typeIn K (.ref (He.ga K x)) = some (.type "type")) && (PySem.W.keepIn K (.ref (He.ga K x)) &&
  (xfB K (He.ga K x) && (decide (PySem.W.findIn K (.ref (He.ga K x)) f = some none) && (decide (PySem.W.findIn K (.ref (He.ga K x)) "__init__" = some (some (.ref (iAd K x)))) && (decide (PySem.W.typeIn K (.ref (iAd K x)) = some (.type "function")) &&
  (decide (PySem.W.specialIn K (.ref (He.ga K b)) "__getattribute__" = some (some (.builtin "type.__getattribute__"))) && (PySem.W.readsIn K (He.ga K b) (.type "type") && (decide (PySem.W.typeIn K (.ref (He.ga K b)) = some (.type "type")) && viB (PySem.W.findCls K (.ref (He.ga K b)) (.type "type") "__init__"))))))))))))
structure BaseC (K : PySem.W.Frag) (b : Str) : Prop where
  bg : PySem.W.specialIn K (.ref (He.ga K b)) "__getattribute__" = some (some (.builtin "type.__getattribute__"))
  br : PySem.W.readsIn K (He.ga K b) (.type "type") = true
  bt : PySem.W.typeIn K (.ref (He.ga K b)) = some (.type "type")
  bi : PySem.W.findCls K (.ref (He.ga K b)) (.type "type") "__init__" = some (.val (.builtin "ValueError.__init__"))
structure InitC (K : PySem.W.Frag) (x b f : Str) : Prop where
  T : OexC K (He.ga K x)
  F : XfC K (He.ga K x)
  no : PySem.W.findIn K (.ref (He.ga K x)) f = some none
  iC : PySem.W.findIn K (.ref (He.ga K x)) "__init__" = some (some (.ref (iAd K x)))
  tI : PySem.W.typeIn K (.ref (iAd K x)) = some (.type "function")
  B : BaseC K b
theorem initB_ok {K : PySem.W.Frag} {x b f : Str} (h : initB K x b f = true) : InitC K x b f := by
  unfold initB at h
  simp only [Bool.and_eq_true, decide_eq_true_eq] at h
  obtain ⟨h1, h2, h3, h4, h5, h6, h7, h8, h9, h10, h11, h12, h13⟩ := h
  exact ⟨⟨oexB_ok h1, h2, h3, h4, h5⟩, xfB_ok h6, h7, h8, h9, h10, h11, h12, viB_ok h13⟩
section
variable {X : Cx} {e : Expr} {es : List Expr} {ta : TA} {p1 p2 pos : Pos}
/-- b.__init__(self, ..), b an own class over ValueError -/
theorem pe_binit {b : Str} {pl : Sem Bool} (hg : Gl X b) (hm : X.mg b = some (.ref (He.ga X.K b))) (B : BaseC X.K b) (ha : PA X (e :: es) ta) (hdb : (b == ("__debug__" : Str)) = false)
    (hc : eval (.Call (.Attribute (.Name b p1) "__init__" p2) (e :: es) [] pos) X.env = (do
      let ov ← eval (.Name b p1) X.env
      standAt p2.atName
      let (f, first) ← holding [ov] (getMethod ov "__init__" pl)
      callWith pos f first (backTo pos (starEach (e :: es) X.env)) (backToKw pos (keywordEach [] X.env))) := by rfl)
    (he : starEach (e :: es) X.env = (false, eval e X.env) :: starEach es X.env := by rfl) (hpl : (backTo pos (starEach es X.env)).any (·.1) = false := by rfl) :
    PE X (.Call (.Attribute (.Name b p1) "__init__" p2) (e :: es) [] pos) (tVeI X.K ta) := by
  refine ⟨fun pins s σ H Q I h => ?_⟩
  refine PySem.W.methodCall_KW (ld_glob I hg hm ?_ hdb) hc
  obtain ⟨m, fr⟩ := I.fr
  refine PySem.W.method_of_cls fr I.ok.mod.kin B.bg (PySem.W.cls_val fr I.ok.mod.kin B.bt B.br B.bi (by decide +kernel) ?_)
  show wpAny _ _ (callWith pos (Value.builtin "ValueError.__init__") [] (backTo pos (starEach (e :: es) X.env)) []) _ _ _
  refine PyProof.Rows.callWith_method1 (thn (ha.run pos pins _ σ H _ (I.tok _) h) fun us s1 ⟨vs, H1, I1, r1, a, C, ws, ev, hl, T, ea, q⟩ => ?_) he hpl
  subst ev
  cases r1 with
  | @cons _ u0 _ ur ra rw' =>
    obtain rfl : u0 = Value.ref a := ra
    have hlen : ur.length ≤ sizeLine := by
      rw [← Paired.length rw', sizeLine_eq]
      omega
    exact oinit_ok T I1 ea hlen fun s' J => ⟨.non, H1, J, rfl, q⟩
end
def fzA : Av → Option D
  | .tm m => frz m
  | .sl _ => none
def raiseF (x f : Str) (fe : FE) : FS := fun env => bindS (tk fe env) fun a env1 => match fzA a with
  | some d => some (.ex ⟨x, some [(f, d)]⟩ env1)
  | none => none
def lkF : List (Str × D) → Str → Option D
  | [], _ => none
  | (k, d) :: r, f => if f = k then some d else lkF r f
def caughtE (x f : Str) (fe : FE) : FE := fun env => match fe env with
  | some (.ok _ env1) => some (.ok (.tm (.fz .non)) env1)
  | some (.ex y env1) => if y.cls = x then match y.fs with
    | some fs => match lkF fs f with
      | some d => some (.ok (.tm (.fz d)) env1)
      | none => none
    | none => none
    else none
  | none => none
def kRaF (x f : Str) (o : Option (Out Av)) : Option Fl := match o with
  | some (.ok a env1) => match fzA a with
    | some d => some (.ex ⟨x, some [(f, d)]⟩ env1)
    | none => none
  | some (.ex y env1) => some (.ex y env1)
  | none => none
@[simp] theorem ev_raiseF {x f : Str} {fe : FE} {env : E} : raiseF x f fe env = kRaF x f (tk fe env) := by
  unfold raiseF kRaF bindS
  cases tk fe env with
  | none => rfl
  | some o => cases o <;> rfl
@[simp] theorem kRaF_0 {x f : Str} {m : M} {env1 : E} : kRaF x f (some (.ok (.tm m) env1)) = match frz m with
    | some d => some (.ex ⟨x, some [(f, d)]⟩ env1)
    | none => none := (rfl)
def kCau (x f : Str) (o : Option (Out Av)) : Option (Out Av) := match o with
  | some (.ok _ env1) => some (.ok (.tm (.fz .non)) env1)
  | some (.ex y env1) => if y.cls = x then match y.fs with
    | some fs => match lkF fs f with
      | some d => some (.ok (.tm (.fz d)) env1)
      | none => none
    | none => none
    else none
  | none => none
@[simp] theorem ev_caughtE {x f : Str} {fe : FE} {env : E} : caughtE x f fe env = kCau x f (fe env) := (rfl)
@[simp] theorem kCau_ok {x f : Str} {a : Av} {env1 : E} : kCau x f (some (.ok a env1)) = some (.ok (.tm (.fz .non)) env1) := (rfl)
@[simp] theorem kCau_ex {x f : Str} {d : D} {env1 : E} : kCau x f (some (.ex ⟨x, some [(f, d)]⟩ env1)) = some (.ok (.tm (.fz d)) env1) := by
  unfold kCau lkF
  simp
end Ink
set_option Elab.async false
set_option linter.all false
set_option maxRecDepth 100000
namespace Ink
open PySem PySem.Spec PyProof.Rows L2
end Ink
set_option Elab.async false
set_option linter.all false
set_option maxRecDepth 100000
set_option maxHeartbeats 2000000
namespace Ink
open PySem PySem.Spec PyProof.Rows L2 LamX
def lamE (l : LamD) : FE := fun env => some (.ok (.tm (.fz (.lam l))) env)
@[simp] theorem ev_lamE {l : LamD} {env : E} : lamE l env = some (.ok (.tm (.fz (.lam l))) env) := (rfl)
open Classical in
noncomputable def pickL : List (LamD × FE) → LamD → Option FE
  | [], _ => none
  | (l0, fe) :: r, l => if l = l0 then some fe else pickL r l
def lamA (env : E) (a : Av) : Option LamD := match resA env a with
  | some (.fz (.lam l)) => some l
  | _ => none
noncomputable def catchV (y f : Str) (fv : FE) (Ls : List (LamD × FE)) : FE := fun env => bindO (fv env) fun a env1 => match lamA env1 a with
  | some l => match pickL Ls l with
    | some fe => caughtE y f fe env1
    | none => none
  | none => none
noncomputable def kCatV (y f : Str) (Ls : List (LamD × FE)) (o : Option (Out Av)) : Option (Out Av) := match o with
  | some (.ok a env1) => match lamA env1 a with
    | some l => match pickL Ls l with
      | some fe => kCau y f (fe env1)
      | none => none
    | none => none
  | some (.ex z env1) => some (.ex z env1)
  | none => none
@[simp] theorem ev_catchV {y f : Str} {fv : FE} {Ls : List (LamD × FE)} {env : E} : catchV y f fv Ls env = kCatV y f Ls (fv env) := by
  unfold catchV kCatV bindO
  cases fv env with
  | none => rfl
  | some o =>
    cases o with
    | ex z env1 => rfl
    | ok a env1 =>
      simp only
      cases lamA env1 a with
      | none => rfl
      | some l => simp only; cases pickL Ls l <;> rfl
end Ink
set_option Elab.async false
set_option linter.all false
set_option maxRecDepth 100000
set_option maxHeartbeats 4000000
namespace Ink
open PySem PySem.Spec PyProof.Rows L2 LamX
def bigT : M → M → Option (List D × Int)
  | .fz (.tup ds), .fz (.int k) => if ds ≠ [] ∧ 2 ≤ k ∧ k ≤ 1000 ∧ ds.length * k.toNat ≤ 1000000 then some (ds, k) else none
  | _, _ => none
def mulLM (a b : M) : Option M := match bigT a b with
  | some (ds, k) => some (.fz (.tup (repL k.toNat ds)))
  | none => mulM a b
noncomputable def wordV (told : Str) (wf : Str → Option Str) (fv : FE) (Ls : List (LamD × FE)) : FE := fun env => bindO (fv env) fun a env1 => match lamA env1 a with
  | some l => match pickL Ls l with
    | some fe => wordE told wf fe env1
    | none => none
  | none => none
noncomputable def kWordV (told : Str) (wf : Str → Option Str) (Ls : List (LamD × FE)) (o : Option (Out Av)) : Option (Out Av) := match o with
  | some (.ok a env1) => match lamA env1 a with
    | some l => match pickL Ls l with
      | some fe => kWord told wf (fe env1)
      | none => none
    | none => none
  | some (.ex z env1) => some (.ex z env1)
  | none => none
@[simp] theorem ev_wordV {told : Str} {wf : Str → Option Str} {fv : FE} {Ls : List (LamD × FE)} {env : E} : wordV told wf fv Ls env = kWordV told wf Ls (fv env) := by
  unfold wordV kWordV bindO
  cases fv env with
  | none => rfl
  | some o =>
    cases o with
    | ex z env1 => rfl
    | ok a env1 =>
      simp only
      cases lamA env1 a with
      | none => rfl
      | some l => simp only; cases pickL Ls l <;> rfl
@[simp] theorem ev_mulLt {ds : List D} {k : Int} : mulLM (.fz (.tup ds)) (.fz (.int k)) = if ds ≠ [] ∧ 2 ≤ k ∧ k ≤ 1000 ∧ ds.length * k.toNat ≤ 1000000 then some (.fz (.tup (repL k.toNat ds))) else mulM (.fz (.tup ds)) (.fz (.int k)) := by
  have e : bigT (.fz (.tup ds)) (.fz (.int k)) = if ds ≠ [] ∧ 2 ≤ k ∧ k ≤ 1000 ∧ ds.length * k.toNat ≤ 1000000 then some (ds, k) else none := rfl
  unfold mulLM
  rw [e]
  by_cases h : ds ≠ [] ∧ 2 ≤ k ∧ k ≤ 1000 ∧ ds.length * k.toNat ≤ 1000000
  · rw [if_pos h, if_pos h]
  · rw [if_neg h, if_neg h]
@[simp] theorem ev_mulLi {i j : Int} : mulLM (.fz (.int i)) (.fz (.int j)) = mulM (.fz (.int i)) (.fz (.int j)) := (rfl)
end Ink
set_option Elab.async false
set_option linter.all false
set_option maxRecDepth 100000
set_option maxHeartbeats 2000000
namespace Ink
open PySem PySem.Spec PyProof.Rows L2
end Ink
set_option Elab.async false
set_option linter.all false
set_option maxRecDepth 100000
namespace Ink
open PySem L2
end Ink
set_option Elab.async false
set_option linter.all false
set_option maxRecDepth 100000
set_option maxHeartbeats 2000000
namespace Ink
open PySem L2
end Ink
set_option Elab.async false
set_option linter.all false
set_option maxRecDepth 100000
set_option maxHeartbeats 2000000
namespace Ink
open PySem PySem.Spec PyProof.Rows L2
end Ink
set_option Elab.async false
set_option linter.all false
set_option maxRecDepth 100000
set_option maxHeartbeats 2000000
namespace Ink
open PySem PySem.Spec PyProof.Rows L2
end Ink
set_option Elab.async false
set_option linter.all false
set_option maxRecDepth 100000
set_option maxHeartbeats 2000000
namespace Ink
open PySem PySem.Spec PyProof.Rows L2
/-- a tuple that begins with these two numbers -/
def TupPre (h : Heap) (v : Value) (ns : List Int) : Prop := ∃ a xs n m t u r, v = .ref a ∧ IsTup h a xs ∧ xs.toList = .int n t :: .int m u :: r ∧ ns = [n, m]
theorem TupPre.keeps {h h' : Heap} {v : Value} {ns : List Int} (x : TupPre h v ns) (k : ∀ b o, h.get? b = some o → o.cls = .type "tuple" → h'.get? b = some o) : TupPre h' v ns := by
  obtain ⟨a, xs, n, m, t, u, r, e, ⟨o, ho, hc, hd⟩, i⟩ := x
  exact ⟨a, xs, n, m, t, u, r, e, ⟨o, k _ _ ho hc, hc, hd⟩, i⟩
def kD : D → List Int
  | .tup (.int n :: .int m :: _) => [n, m]
  | _ => []
def preD : D → Bool
  | .tup (.int _ :: .int _ :: _) => true
  | _ => false
def insP (x : D) : List D → List D
  | [] => [x]
  | y :: r => if HT.lexLt (kD y) (kD x) then y :: insP x r else x :: y :: r
def sortP (xs : List D) : List D := xs.foldr insP []
def sortPM (a : M) : Option M := match lstD a with
  | some ds => if ds.all preD = true ∧ (ds.map kD).Nodup then some (.lst ((sortP ds).map .fz)) else none
  | none => none
@[simp] theorem ev_sortPM {ms : List M} : sortPM (.lst ms) = match unfz ms with
  | some ds => if ds.all preD = true ∧ (ds.map kD).Nodup then some (.lst ((sortP ds).map .fz)) else none
  | none => none := (rfl)
end Ink
set_option Elab.async false
set_option linter.all false
set_option maxRecDepth 100000
set_option maxHeartbeats 2000000
namespace Ink
open PySem PySem.Spec PyProof.Rows L2
mutual
def nestD : D → Option NestedKey
  | .int i => some (.num i)
  | .str x => some (.text x)
  | .tup ds => match nestDs ds with
    | some ks => some (.tup ks)
    | none => none
  | _ => none
def nestDs : List D → Option (List NestedKey)
  | [] => some []
  | d :: ds => match nestD d with
    | some k => match nestDs ds with
      | some ks => some (k :: ks)
      | none => none
    | none => none
end
def notIn0M (a b : M) : Option M := match a with
  | .fz (.tup ds) => match nestD (.tup ds) with
    | some k => match decide (k.depth ≤ 8), b with
      | true, .fz (.dK []) => some (.fz (.bl true))
      | _, _ => none
    | none => none
  | _ => none
end Ink
set_option Elab.async false
set_option linter.all false
set_option maxRecDepth 100000
set_option maxHeartbeats 2000000
namespace Ink
open PySem PySem.Spec PyProof.Rows L2
def hT (ks : List Key) : Int := reduceHash (Builtin.Tuple.tupleHashOf (ks.map fun k => match k with
  | .inl i => hashInt i
  | .inr _ => 0))
end Ink
set_option Elab.async false
set_option linter.all false
set_option maxRecDepth 100000
set_option maxHeartbeats 2000000
namespace Ink
open PySem PySem.Spec PyProof.Rows L2
def truM : M → Option Bool
  | .fz .non => some false
  | .fz (.bl b) => some b
  | .fz (.int i) => some (i != 0)
  | .fz (.str x) => if x.length ≤ sizeLine then some ((x.length : Int) != 0) else none
  | .fz (.lst ds) => some (!ds.isEmpty)
  | .fz (.tup ds) => some (!ds.isEmpty)
  | .fz (.dK ds) => some (!ds.isEmpty)
  | .lst ms => some (!ms.isEmpty)
  | .tup ms => some (!ms.isEmpty)
  | .dK ms => some (!ms.isEmpty)
  | _ => none
theorem emp_len {α β : Type} {xs : List α} {ys : List β} (h : xs.length = ys.length) : (!xs.isEmpty) = !ys.isEmpty := by
  cases xs <;> cases ys <;> simp at h ⊢
theorem emp_ms {K : PySem.W.Frag} {F H : Hp} {ms : List M} {vs : List V} {fp : List Addr} (h : RepMs K F H ms vs fp) : (!ms.isEmpty) = !vs.isEmpty := by
  cases h <;> rfl
theorem truM_rep {K : PySem.W.Frag} {F H : Hp} {m : M} {v : V} {fp : List Addr} {b : Bool} (s : Sub F H) (r : RepM K F H m v fp) (h : truM m = some b) : TruV K v H b := by
  cases r with
  | fz r =>
    cases r with
    | non => cases h; rfl
    | bl k => cases h; rfl
    | int i => cases h; rfl
    | str x =>
      simp only [truM] at h
      split at h
      · rename_i hl
        cases h; exact ⟨hl, rfl⟩
      · cases h
    | lst hp rs => cases h; exact .inl ⟨_, .inl (.of (s _ _ hp)), (emp_len rs.length).symm⟩
    | tup hp rs => cases h; exact .inr (.inl ⟨_, .inl (.of (s _ _ hp)), (emp_len rs.length).symm⟩)
    | dK hp hk rs => cases h; exact .inr (.inr ⟨_, s _ _ hp, (emp_len (by have := congrArg List.length hk; simpa using this)).symm⟩)
    | _ => cases h
  | lst hp _ rs => cases h; exact .inl ⟨_, .inl (.of hp), (emp_ms rs)⟩
  | tup hp rs => cases h; exact .inr (.inl ⟨_, .inl (.of (s _ _ hp)), (emp_ms rs)⟩)
  | dK hp _ hk rs => cases h; exact .inr (.inr ⟨_, hp, (emp_len (by have := congrArg List.length hk; simpa using this)).symm⟩)
  | _ => cases h
def truA (a : Av) (env : E) : Option Bool := match a with
  | .tm m => truM m
  | .sl i => match env[i]? with
    | some (some m) => truM m
    | _ => none
theorem truA_rep {K : PySem.W.Frag} {F H : Hp} {σ : L2.St} {env : E} {fps : Nat → List Addr} {a : Av} {v : V} {fp : List Addr} {b : Bool} (R : REnv K F H σ env fps) (r : RepA K F H σ a v fp) (h : truA a env = some b) : TruV K v H b := by
  unfold truA at h
  split at h
  · exact truM_rep R.fr r h
  · split at h
    · rename_i e
      obtain ⟨w, hw, rr⟩ := R.got _ _ e
      obtain ⟨q, _⟩ := r
      rw [q] at hw; cases hw
      exact truM_rep R.fr rr h
    · cases h
def orTE (fa fb : FE) : FE := fun env => bindO (fa env) fun a env1 => match truA a env1 with
  | some true => some (.ok a env1)
  | some false => fb env1
  | none => none
def tstT (f : FE) : FT := fun env => bindO (f env) fun a env1 => match truA a env1 with
  | some b => some (.ok b env1)
  | none => none
section
variable {X : Cx} {W : WX} {e a b c : Expr} {f fa fb : FE} {rest : List Expr} {pos : Pos}
theorem e_orT (ha : PE X a (rE X.K W fa)) (hb : PE X (.BoolOp .Or (b :: rest) pos) (rE X.K W fb)) : PE X (.BoolOp .Or (a :: b :: rest) pos) (rE X.K W (orTE fa fb)) := PE_mono (pe_orT ha hb) fun σ H Q ⟨F, env, fps, R, po⟩ => by
  refine ⟨F, env, fps, R, ?_⟩
  unfold orTE at po
  cases ef : fa env with
  | none => rw [ef] at po; exact po
  | some o =>
    rw [ef] at po
    cases o with
    | ex x env1 => exact po
    | ok a env1 =>
      simp only [bindO_ok] at po
      intro v F1 H1 fps1 fp R1 r d e1
      cases eb : truA a env1 with
      | none => rw [eb] at po; exact po.elim
      | some k =>
        simp only [eb] at po
        refine ⟨k, truA_rep R1 r eb, ?_⟩
        cases k with
        | false => exact ifF ⟨F1, env1, fps1, R1, poE.wide po e1 fun _ h => .inl h⟩
        | true => exact ifT (po v F1 H1 fps1 fp R1 r d e1)
end
def kTru1 (env1 : E) (a : Av) (fb : FE) (o : Option Bool) : Option (Out Av) := match o with
  | some true => some (.ok a env1)
  | some false => fb env1
  | none => none
@[simp] theorem kTru1_0 {fb : FE} {a : Av} {env1 : E} : kTru1 env1 a fb (some true) = some (.ok a env1) := (rfl)
@[simp] theorem kTru1_1 {fb : FE} {a : Av} {env1 : E} : kTru1 env1 a fb (some false) = fb env1 := (rfl)
def kOrTE (fb : FE) (o : Option (Out Av)) : Option (Out Av) := match o with
  | some (.ok a env1) => kTru1 env1 a fb (truA a env1)
  | some (.ex x env1) => some (.ex x env1)
  | none => none
@[simp] theorem kOrTE_0 {fb : FE} {a : Av} {env1 : E} : kOrTE fb (some (.ok a env1)) = kTru1 env1 a fb (truA a env1) := (rfl)
@[simp] theorem ev_orTE {env : E} {fa fb : FE} : orTE fa fb env = kOrTE fb (fa env) := by
  unfold orTE kOrTE bindO
  cases fa env with
  | none => rfl
  | some o => cases o with
    | ok a e => simp only []; unfold kTru1; rfl
    | ex x e => rfl
def kTstT1 (env1 : E) (o : Option Bool) : Option (Out Bool) := match o with
  | some b => some (.ok b env1)
  | none => none
@[simp] theorem kTstT1_0 {b : Bool} {env1 : E} : kTstT1 env1 (some b) = some (.ok b env1) := (rfl)
def kTstT (o : Option (Out Av)) : Option (Out Bool) := match o with
  | some (.ok a env1) => kTstT1 env1 (truA a env1)
  | some (.ex x env1) => some (.ex x env1)
  | none => none
@[simp] theorem kTstT_0 {a : Av} {env1 : E} : kTstT (some (.ok a env1)) = kTstT1 env1 (truA a env1) := (rfl)
@[simp] theorem ev_tstT {env : E} {f : FE} : tstT f env = kTstT (f env) := by
  unfold tstT kTstT bindO
  cases f env with
  | none => rfl
  | some o => cases o with
    | ok a e => simp only []; unfold kTstT1; rfl
    | ex x e => rfl
@[simp] theorem truA_tm {m : M} {env : E} : truA (.tm m) env = truM m := (rfl)
def kTruA (o : Option (Option M)) : Option Bool := match o with
  | some (some m) => truM m
  | _ => none
@[simp] theorem kTruA_0 {m : M} : kTruA (some (some m)) = truM m := (rfl)
@[simp] theorem truA_sl {i : Nat} {env : E} : truA (.sl i) env = kTruA env[i]? := by
  unfold truA kTruA
  rfl
@[simp] theorem truM_non : truM (.fz .non) = some false := (rfl)
@[simp] theorem truM_bl {b : Bool} : truM (.fz (.bl b)) = some b := (rfl)
@[simp] theorem truM_int {i : Int} : truM (.fz (.int i)) = some (i != 0) := (rfl)
@[simp] theorem truM_fl {ds : List D} : truM (.fz (.lst ds)) = some (!ds.isEmpty) := (rfl)
@[simp] theorem truM_ft {ds : List D} : truM (.fz (.tup ds)) = some (!ds.isEmpty) := (rfl)
@[simp] theorem truM_l {ms : List M} : truM (.lst ms) = some (!ms.isEmpty) := (rfl)
@[simp] theorem truM_t {ms : List M} : truM (.tup ms) = some (!ms.isEmpty) := (rfl)
end Ink
set_option Elab.async false
set_option linter.all false
set_option maxRecDepth 100000
set_option maxHeartbeats 2000000
namespace Ink
open PySem PySem.Spec PyProof.Rows L2
def eqE0M (a b : M) : Option M := match a, b with
  | .fz (.dK ks), .dK [] => some (.fz (.bl ks.isEmpty))
  | .dK ks, .dK [] => some (.fz (.bl ks.isEmpty))
  | _, _ => none
@[simp] theorem eqE0_0 {ks : List (Key × D)} : eqE0M (.fz (.dK ks)) (.dK []) = some (.fz (.bl ks.isEmpty)) := (rfl)
@[simp] theorem eqE0_1 {ks : List (Key × M)} : eqE0M (.dK ks) (.dK []) = some (.fz (.bl ks.isEmpty)) := (rfl)
end Ink
set_option Elab.async false
set_option linter.all false
set_option maxRecDepth 100000
set_option maxHeartbeats 2000000
namespace Ink
open PySem PySem.Spec PyProof.Rows L2
end Ink
set_option Elab.async false
set_option linter.all false
set_option maxRecDepth 100000
set_option maxHeartbeats 2000000
namespace Ink
open PySem L2
def lkD : M → Option D
  | .dK kvs => match unfz (kvs.map (·.2)) with
    | some ds => some (.dLK ((kvs.map (·.1)).zip ds))
    | none => none
  | .dT kvs => match unfz (kvs.map (·.2)) with
    | some ds => some (.dLT ((kvs.map (·.1)).zip ds))
    | none => none
  | _ => none
def Is (p : Addr) : Addr → Prop := fun b => b = p
def lkK (env : E) (o : Option (Out Av)) : Option (Out Av) := match o with
  | some (.ok (.tm r) _) => if noLM r then some (.ok (.tm r) env) else none
  | _ => none
def lockE (i : Nat) (f : FE) : FE := fun env => match env[i]? with
  | some (some m) => match lkD m with
    | some d => lkK env (f ((borE (env.set i none)).set i (some (.fz d))))
    | none => none
  | _ => none
end Ink
set_option Elab.async false
set_option linter.all false
set_option maxRecDepth 100000
set_option maxHeartbeats 2000000
namespace Ink
open PySem L2
def keysI (i : Nat) : FI := fun env => match env[i]? with
  | some (some (.fz (.dLT kvs))) => some (.ok (kvs.map fun kv => keyTD kv.1) env)
  | some (some (.fz (.dLK kvs))) => some (.ok (kvs.map fun kv => keyD kv.1) env)
  | _ => none
def kLo2 (i : Nat) (f : FE) (env : E) (o : Option D) : Option (Out Av) := match o with
  | some d => lkK env (f ((borE (env.set i none)).set i (some (.fz d))))
  | none => none
@[simp] theorem kLo2_0 {i f env d} : kLo2 i f env (some d) = lkK env (f ((borE (env.set i none)).set i (some (.fz d)))) := (rfl)
def kLo (i : Nat) (f : FE) (env : E) (o : Option (Option M)) : Option (Out Av) := match o with
  | some (some m) => kLo2 i f env (lkD m)
  | _ => none
@[simp] theorem kLo_0 {i f env m} : kLo i f env (some (some m)) = kLo2 i f env (lkD m) := (rfl)
@[simp] theorem ev_lockE {i : Nat} {f : FE} {env : E} : lockE i f env = kLo i f env env[i]? := by
  unfold lockE kLo
  cases env[i]? with
  | none => rfl
  | some o => cases o <;> rfl
@[simp] theorem lkK_0 {env env1 : E} {r : M} : lkK env (some (.ok (.tm r) env1)) = if noLM r then some (.ok (.tm r) env) else none := (rfl)
def kKy (env : E) (o : Option (Option M)) : Option (Out (List D)) := match o with
  | some (some (.fz (.dLT kvs))) => some (.ok (kvs.map fun kv => keyTD kv.1) env)
  | some (some (.fz (.dLK kvs))) => some (.ok (kvs.map fun kv => keyD kv.1) env)
  | _ => none
@[simp] theorem kKy_0 {env kvs} : kKy env (some (some (.fz (.dLT kvs)))) = some (.ok (kvs.map fun kv => keyTD kv.1) env) := (rfl)
@[simp] theorem kKy_1 {env kvs} : kKy env (some (some (.fz (.dLK kvs)))) = some (.ok (kvs.map fun kv => keyD kv.1) env) := (rfl)
@[simp] theorem ev_keysI {i : Nat} {env : E} : keysI i env = kKy env env[i]? := (rfl)
end Ink
set_option Elab.async false
set_option linter.all false
set_option maxRecDepth 100000
set_option maxHeartbeats 2000000
namespace Ink
open PySem L2
def lenDM (m : M) : Option M := match m with
  | .dT kvs => some (.fz (.int kvs.length))
  | .dK kvs => some (.fz (.int kvs.length))
  | .fz (.dT kvs) => some (.fz (.int kvs.length))
  | .fz (.dK kvs) => some (.fz (.int kvs.length))
  | m => lenM m
section
variable {X : Cx} {W : WX} {e : Expr} {fa : FE} {p pos : Pos}
theorem keys_len {α β κ : Type} {xs : List (κ × α)} {ys : List (κ × β)} (h : xs.map (·.1) = ys.map (·.1)) : xs.length = ys.length := by
  have := congrArg List.length h
  simpa using this
theorem opc_lenD {K : PySem.W.Frag} : OpC K (g1 lenDM) (fun xs H Q => (∃ x n, xs = [x] ∧ LenV K x H n ∧ Q (.int n) H) ∨ (rLenT xs H Q ∨ ∃ a kvs, xs = [V.ref a] ∧ H a = some (.dK kvs) ∧ Q (.int kvs.length) H)) := fun vs H Q Ex p => by
  obtain ⟨x, F, a, m, fps, rfl, R, r, h, p⟩ := g1_at p
  have R0 := R
  unfold lenDM at h
  split at h
  · cases h
    generalize fps 0 = f0 at r
    cases r with
    | @dT q ws _ fq a f hk rs n => exact .inr (.inl ⟨q, ws, rfl, a, sp_flat R (by rw [keys_len hk]; exact .int _) p⟩)
  · cases h
    generalize fps 0 = f0 at r
    cases r with
    | @dK q ws _ fq a f hk rs n => exact .inr (.inr ⟨q, ws, rfl, a, sp_flat R (by rw [keys_len hk]; exact .int _) p⟩)
  · cases h
    cases repm_fz r with
    | @dT q ws _ a hk rs => exact .inr (.inl ⟨q, ws, rfl, R.fr _ _ a, sp_flat R (by rw [keys_len hk]; exact .int _) p⟩)
  · cases h
    cases repm_fz r with
    | @dK q ws _ a hk rs => exact .inr (.inr ⟨q, ws, rfl, R.fr _ _ a, sp_flat R (by rw [keys_len hk]; exact .int _) p⟩)
  · left
    unfold lenM at h
    split at h
    · split at h
      · rename_i hl
        cases h
        obtain rfl := rep_str (repm_fz r)
        exact ⟨_, _, rfl, ⟨hl, rfl⟩, sp_flat R (.int _) p⟩
      · cases h
    · cases h
      obtain ⟨_, _, _, rfl, q, f, b, n, _⟩ := repm_lst r
      exact ⟨_, _, rfl, .inl ⟨_, SqL.of q, rfl⟩, sp_flat R (by rw [b.length]; exact .int _) p⟩
    · cases h
      cases repm_fz r with
      | lst q b => exact ⟨_, _, rfl, .inl ⟨_, SqL.of (R.fr _ _ q), rfl⟩, sp_flat R (by rw [b.length]; exact .int _) p⟩
    · cases h
      cases repm_fz r with
      | tup q b => exact ⟨_, _, rfl, .inr ⟨_, SqT.of (R.fr _ _ q), rfl⟩, sp_flat R (by rw [b.length]; exact .int _) p⟩
    · cases h
theorem e_lenD (hg : Gl X "len") (hm : X.mg "len" = none) (ha : PE X e (rE X.K W fa)) (hs : starEach [e] X.env = (false, eval e X.env) :: starEach [] X.env := by rfl) : PE X (.Call (.Name "len" p) [e] [] pos) (rE X.K W (callE (g1 lenDM) (arg1 fa))) :=
  e_callB (CallR.or call_len (CallR.or call_len_dT call_lenD)) opc_lenD hg hm PySem.boot_len (a_cons ha a_nil hs) (he := hs)
end
@[simp] theorem lenDM_t {kvs : List (List Key × M)} : lenDM (.dT kvs) = some (.fz (.int kvs.length)) := (rfl)
@[simp] theorem lenDM_k {kvs : List (Key × M)} : lenDM (.dK kvs) = some (.fz (.int kvs.length)) := (rfl)
@[simp] theorem lenDM_ft {kvs : List (List Key × D)} : lenDM (.fz (.dT kvs)) = some (.fz (.int kvs.length)) := (rfl)
@[simp] theorem lenDM_fk {kvs : List (Key × D)} : lenDM (.fz (.dK kvs)) = some (.fz (.int kvs.length)) := (rfl)
end Ink
set_option Elab.async false
set_option linter.all false
set_option maxRecDepth 100000
set_option maxHeartbeats 2000000
namespace Ink
open PySem PySem.Spec PyProof.Rows L2 LamX
end Ink
set_option Elab.async false
set_option linter.all false
set_option maxRecDepth 100000
set_option maxHeartbeats 2000000
namespace Ink
open PySem PySem.W PySem.Spec PyProof.Rows L2 LamX PySem.Calls
end Ink
set_option Elab.async false
set_option linter.all false
set_option maxRecDepth 100000
set_option maxHeartbeats 2000000
namespace Ink
open PySem PySem.W PySem.Spec PyProof.Rows L2 LamX PySem.Calls
end Ink
set_option Elab.async false
set_option linter.all false
set_option maxRecDepth 100000
set_option maxHeartbeats 2000000
namespace Ink
open PySem PySem.W PySem.Spec PyProof.Rows L2 LamX PySem.Calls
end Ink
set_option Elab.async false
set_option linter.all false
set_option maxRecDepth 100000
set_option maxHeartbeats 2000000
namespace L2
open PySem PySem.W PySem.Spec PyProof.Rows
end L2
namespace Ink
open PySem L2
/-- list(x.values()), x a name of the frame: its values are moved out -/
def valsE (i : Nat) : FE := fun env => match env[i]? with
  | some (some (.dT kvs)) => some (.ok (.tm (.lst (kvs.map (·.2)))) (env.set i none))
  | _ => none
@[simp] theorem ev_valsE {i : Nat} {env : E} : valsE i env = match env[i]? with
  | some (some (.dT kvs)) => some (.ok (.tm (.lst (kvs.map (·.2)))) (env.set i none))
  | _ => none := (rfl)
end Ink
set_option Elab.async false
set_option linter.all false
set_option maxRecDepth 100000
namespace Ink
open PySem L2
end Ink
set_option Elab.async false
set_option linter.all false
set_option maxRecDepth 100000
set_option maxHeartbeats 2000000
namespace Ink
open PySem L2
end Ink
set_option Elab.async false
set_option linter.all false
set_option maxRecDepth 100000
namespace Ink
open PySem PySem.Spec PyProof.Rows L2
end Ink
set_option Elab.async false
set_option linter.all false
set_option maxRecDepth 100000
namespace Ink
open PySem L2
end Ink
set_option Elab.async false
set_option linter.all false
set_option maxRecDepth 100000
namespace Ink
open PySem PySem.Spec PyProof.Rows L2
end Ink
set_option Elab.async false
set_option linter.all false
set_option maxRecDepth 100000
set_option maxHeartbeats 2000000
namespace Ink
open PySem PySem.Spec PyProof.Rows L2
section ops
variable {K : PySem.W.Frag}
/-- the two data of a method's call -/
theorem two_at {F H : Hp} {vs : List V} {a b : M} {fps : Nat → List Addr} {x : V} (R : REnv K F H (argS (x :: vs)) (argE [a, b]) fps) : ∃ y, vs = [y] ∧ RepM K F H a x (fps 0) ∧ RepM K F H b y (fps 1) := by
  have l := R.len
  simp at l
  match vs, l with
  | [y], _ =>
    obtain ⟨v0, h0, r0⟩ := R.got 0 _ rfl
    cases h0
    obtain ⟨v1, h1, r1⟩ := R.got 1 _ rfl
    cases h1
    exact ⟨y, rfl, r0, r1⟩
/-- texts of a list or a tuple -/
def strsOf (m : M) : Option (List Str) := match m with
  | .fz (.tup ds) => strsD ds
  | m => match lstD m with
    | some ds => strsD ds
    | none => none
theorem strsOf_rep {F H : Hp} {m : M} {v : V} {fp : List Addr} {ys : List Str} (s : Sub F H) (r : RepM K F H m v fp) (h : strsOf m = some ys) : ∃ p, v = .ref p ∧ (SqL K H p (ys.map V.str) ∨ SqT K H p (ys.map V.str)) := by
  unfold strsOf at h
  split at h
  · rename_i ds
    cases repm_fz r with
    | @tup q vs _ a b =>
      have hv : vs = ys.map V.str := strsD_reps b h
      subst hv
      exact ⟨q, rfl, .inr (SqT.of (s _ _ a))⟩
  · cases e : lstD m with
    | none => rw [e] at h; cases h
    | some ds =>
      rw [e] at h
      simp only at h
      obtain ⟨p, vs, rfl, hp, rd⟩ := lstD_rep s r e
      have hv : vs = ys.map V.str := strsD_reps rd h
      subst hv
      exact ⟨p, rfl, .inl (SqL.of hp)⟩
def joinG : FP := fun ms => match ms with
  | [.fz (.str a), b] => match strsOf b with
    | some ys => if (ys.map (·.length)).sum + ys.length * a.length ≤ 16777216 then some (.ok (.fz (.str (Txt.join a ys))) [some (.fz (.str a)), some b]) else none
    | none => none
  | _ => none
def rJoin (K : PySem.W.Frag) : V → List V → Hp → VK → Prop := fun x xs H Q => ∃ a p, ∃ ys : List Str, x = .str a ∧ xs = [.ref p] ∧ (SqL K H p (ys.map V.str) ∨ SqT K H p (ys.map V.str)) ∧ (ys.map (·.length)).sum + ys.length * a.length ≤ 16777216 ∧ Q (.str (Txt.join a ys)) H
theorem opm_join : OpMt K joinG (rJoin K) := fun x vs H Q Ex p => by
  obtain ⟨F, ms, fps, R, p⟩ := p
  unfold joinG at p
  split at p
  · rename_i a b
    obtain ⟨y, rfl, r0, r1⟩ := two_at R
    obtain rfl := rep_str (repm_fz r0)
    cases e : strsOf b with
    | none => rw [e] at p; exact p.elim
    | some ys =>
      simp only [e] at p
      split at p
      · rename_i hz
        obtain ⟨q, rfl, hq⟩ := strsOf_rep R.fr r1 e
        exact ⟨a, q, ys, rfl, rfl, hq, hz, sp_flat R (.str _) p⟩
      · exact p.elim
  · exact p.elim
end ops
section
variable {X : Cx} {W : WX} {o e e2 : Expr} {fo fe f2 : FE} {apos cpos : Pos}
theorem e_join (ho : PE X o (rE X.K W fo)) (he : PE X e (rE X.K W fe)) (hbase : attributeBase o "join" X.env (eval o X.env) = eval o X.env := by rfl)
    (hfew : ((backTo cpos (starEach [e] X.env)).all (fun x => !x.1) && (backToKw cpos (keywordEach [] X.env)).all (fun x => x.1.isSome) && decide (([e]).length + ([] : List Keyword).length + (if ([] : List Keyword).isEmpty then 0 else 1) < 30)) = true := by rfl)
    (hline : (apos.endLine == cpos.line) = true := by rfl) (hs : starEach [e] X.env = (false, eval e X.env) :: starEach [] X.env := by rfl) (hplain : (backTo cpos (starEach [] X.env)).any (·.1) = false := by rfl) :
    PE X (.Call (.Attribute o "join" apos) [e] [] cpos) (rE X.K W (bmE .str joinG fo (arg1 fe))) := e_bm (T := .str) PySem.F.plainAttrs_str PySem.F.slot_str_join PySem.F.type_str_join L2.mt_join opm_join ho (a_cons he a_nil hs) hbase hfew hline hs hplain
end
end Ink
set_option Elab.async false
set_option linter.all false
set_option maxRecDepth 100000
set_option maxHeartbeats 2000000
namespace Ink
open PySem PySem.Spec PyProof.Rows L2
def notInNM (a b : M) : Option M := match a, b with
  | .fz (.tup ds), .fz (.nst ks kds) => match nestD (.tup ds) with
    | some k => if k.depth ≤ 8 ∧ (∀ k ∈ ks, k.depth ≤ 8) ∧ nestDs kds = some ks then some (.fz (.bl (!decide (k ∈ ks)))) else none
    | none => none
  | _, _ => none
def eqN0M (a b : M) : Option M := match a, b with
  | .fz (.nst ks kds), .dK [] => if (∀ k ∈ ks, k.depth ≤ 8) ∧ nestDs kds = some ks then some (.fz (.bl ks.isEmpty)) else none
  | a, b => eqE0M a b
section
variable {X : Cx} {W : WX} {e a b : Expr} {fe fa fb : FE} {p pos : Pos}
def notInAM (a b : M) : Option M := match b with
  | .fz (.nst ks kds) => notInNM a (.fz (.nst ks kds))
  | b => notIn0M a b
end
@[simp] theorem notInAM_0 {a : M} {kvs : List (Key × D)} : notInAM a (.fz (.dK kvs)) = notIn0M a (.fz (.dK kvs)) := (rfl)
@[simp] theorem eqN0M_0 {ks : List (Key × D)} : eqN0M (.fz (.dK ks)) (.dK []) = some (.fz (.bl ks.isEmpty)) := (rfl)
@[simp] theorem eqN0M_1 {ks : List (Key × M)} : eqN0M (.dK ks) (.dK []) = some (.fz (.bl ks.isEmpty)) := (rfl)
end Ink
set_option Elab.async false
set_option linter.all false
set_option maxRecDepth 100000
set_option maxHeartbeats 2000000
namespace Ink
open PySem PySem.Spec PyProof.Rows L2
def strM : M → Option M
  | .fz (.int i) => if i.natAbs.log2 < 1920 then some (.fz (.str (toString i))) else none
  | .fz (.str a) => some (.fz (.str a))
  | _ => none
def intAM : M → Option M
  | .fz (.str a) => match PySem.intText? a with
    | some n => if a.length ≤ 640 then some (.fz (.int n)) else none
    | none => none
  | m => intM1 m
section
variable {X : Cx} {W : WX} {e : Expr} {fe : FE} {p pos : Pos}
theorem e_strF (hg : Gl X "str") (hm : X.mg "str" = none) (ha : PE X e (rE X.K W fe)) (hs : starEach [e] X.env = (false, eval e X.env) :: starEach [] X.env := by rfl) : PE X (.Call (.Name "str" p) [e] [] pos) (rE X.K W (callE (g1 strM) (arg1 fe))) :=
  e_callTy (CallR.or call_str_int SkE.call_str_str) (fun vs H Q Ex p => by
    obtain ⟨x, F, a, m, fps, rfl, R, r, h, p⟩ := g1_at p
    unfold strM at h
    split at h
    · split at h
      · rename_i i hi
        cases h
        obtain rfl := rep_int (repm_fz r)
        exact .inl ⟨_, rfl, hi, sp_flat R (.str _) p⟩
      · cases h
    · cases h
      obtain rfl := rep_str (repm_fz r)
      exact .inr ⟨_, rfl, sp_flat R (.str _) p⟩
    · cases h) hg hm (by decide +kernel) (a_cons ha a_nil hs) (he := hs)
theorem e_intA (hg : Gl X "int") (hm : X.mg "int" = none) (ha : PE X e (rE X.K W fe)) (hs : starEach [e] X.env = (false, eval e X.env) :: starEach [] X.env := by rfl) : PE X (.Call (.Name "int" p) [e] [] pos) (rE X.K W (callE (g1 intAM) (arg1 fe))) :=
  e_callTy (CallR.or call_int_str call_int1) (fun vs H Q Ex p => by
    obtain ⟨x, F, a, m, fps, rfl, R, r, h, p⟩ := g1_at p
    unfold intAM at h
    split at h
    · rename_i a
      obtain rfl := rep_str (repm_fz r)
      cases e1 : PySem.intText? a with
      | none => rw [e1] at h; cases h
      | some n =>
        rw [e1] at h
        simp only at h
        split at h
        · rename_i hz
          cases h
          exact .inl ⟨_, _, rfl, e1, hz, sp_flat R (.int _) p⟩
        · cases h
    · unfold intM1 at h
      split at h
      · cases h
        obtain rfl := rep_int (repm_fz r)
        exact .inr (.inl ⟨_, rfl, sp_flat R (.int _) p⟩)
      · cases h
        obtain rfl := rep_bl (repm_fz r)
        exact .inr (.inr ⟨_, rfl, sp_flat R (.int _) p⟩)
      · cases h) hg hm (by decide +kernel) (a_cons ha a_nil hs) (he := hs)
@[simp] theorem strM_i {i : Int} : strM (.fz (.int i)) = if i.natAbs.log2 < 1920 then some (.fz (.str (toString i))) else none := rfl
@[simp] theorem strM_s {a : Str} : strM (.fz (.str a)) = some (.fz (.str a)) := rfl
@[simp] theorem intAM_i {i : Int} : intAM (.fz (.int i)) = some (.fz (.int i)) := rfl
@[simp] theorem intAM_b {b : Bool} : intAM (.fz (.bl b)) = some (.fz (.int (if b then 1 else 0))) := rfl
@[simp] theorem intAM_s {a : Str} : intAM (.fz (.str a)) = match PySem.intText? a with
  | some n => if a.length ≤ 640 then some (.fz (.int n)) else none
  | none => none := rfl
def dispC (kvs : List (Key × D)) : FE := newE (.dK (kvs.map fun kv => (kv.1, .fz kv.2)))
end
end Ink
set_option Elab.async false
set_option linter.all false
set_option maxRecDepth 100000
namespace Ink
open PySem PySem.Spec PyProof.Rows L2
def kL (g : Addr → Option Obj) (as : List Addr) : PySem.W.Frag := He.frT g as
section
variable (as : List Addr) (fa : List He.Fa) (fn : List He.DefD) (ts : List He.Tab) (tf : List He.Defn) (ex : PySem.W.Frag → Bool)
def obsL (g : Addr → Option Obj) : He.AlX := (He.obsT fa fn ts (kL g as), ex (kL g as) && He.tabsB g tf (kL g as))
variable {as fa fn ts tf ex}
theorem saysL_of {w : World} {h : Heap} (e : obsL as fa fn ts tf ex h.get? = He.valX fn ts w) : He.SaysX fa fn ts tf ex w h (kL h.get? as) := by
  have e1 : He.obsT fa fn ts (kL h.get? as) = He.valT fn ts w := congrArg (fun z : He.AlX => z.1) e
  have e2 : (ex (kL h.get? as) && He.tabsB h.get? tf (kL h.get? as)) = true := congrArg (fun z : He.AlX => z.2) e
  obtain ⟨m, tb⟩ := Bool.and_eq_true_iff.mp e2
  have each : ∀ p ∈ tf, PySem.W.codeHdIn (kL h.get? as) (He.cT (kL h.get? as) p).1 (He.cT (kL h.get? as) p).2 = true ∧ ∃ o, h.get? (He.cT (kL h.get? as) p).2 = some o ∧ He.emptyTab o = true := fun p hp => by
    obtain ⟨c1, c2⟩ := Bool.and_eq_true_iff.mp (List.all_eq_true.mp tb p hp)
    cases q : h.get? (He.cT (kL h.get? as) p).2 with
    | none => rw [q] at c2; cases c2
    | some o => rw [q] at c2; exact ⟨c1, o, rfl, c2⟩
  refine ⟨e1, m, fun p hp => (each p hp).1, fun p hp => ?_, fun p hp => ?_⟩
  · obtain ⟨_, o, q, z⟩ := each p hp
    exact He.frT_none q z
  · obtain ⟨_, o, q, z⟩ := each p hp
    rw [q, He.emptyTab_eq z]
variable (as fa fn ts tf ex)
def hookL : PySem.W.Hook where
  α := He.AlX
  obs := fun s => obsL as fa fn ts tf ex s.heap.get?
  val := fun w => He.valX fn ts w
  says := fun w h => ∃ K : PySem.W.Frag, K.In h ∧ He.SaysX fa fn ts tf ex w h K
  of := fun _ _ e => ⟨_, He.frT_in, saysL_of e⟩
  keeps := fun _ _ _ ⟨K, hK, c⟩ k => ⟨K, PySem.W.Frag.In.keeps hK k, ⟨c.t, c.more, c.hd, c.out, fun p hp => k _ _ (c.empty p hp)⟩⟩
variable {as fa fn ts tf ex}
theorem obsL_eq {g : Addr → Option Obj} {s : Shared} (h : ∀ a, g a = s.heap.get? a) : obsL as fa fn ts tf ex g = (hookL as fa fn ts tf ex).obs s := by
  have e : g = s.heap.get? := funext h
  rw [e] <;> rfl
end
/-- a run's equation, its three looks apart -/
theorem map3 {α β γ δ : Type} {o : Option α} {f : α → β} {g : α → γ} {h : α → δ} {b : β} {c : γ} {d : δ} (e1 : o.map f = some b) (e2 : o.map g = some c) (e3 : o.map h = some d) : o.map (fun s => (f s, g s, h s)) = some (b, c, d) := by
  cases o with
  | none => cases e1
  | some s =>
    have h1 : f s = b := Option.some.inj e1
    have h2 : g s = c := Option.some.inj e2
    have h3 : h s = d := Option.some.inj e3
    show some (f s, g s, h s) = _
    rw [h1, h2, h3]
end Ink
set_option Elab.async false
set_option linter.all false
set_option maxRecDepth 100000
set_option maxHeartbeats 2000000
namespace Ink
open PySem PySem.Spec PyProof.Rows L2
end Ink
set_option Elab.async false
set_option linter.all false
set_option maxRecDepth 100000
set_option maxHeartbeats 2000000
namespace Ink
open PySem PySem.Spec PyProof.Rows L2 LamX
/-- self at a, an exception in the making; its field gets a number -/
def spN (C : Addr) (f : Str) : Sp := fun vs H Q Ex => ∃ a i, vs = [.ref a, .int i] ∧ i.natAbs.log2 < 1920 ∧ H a = some (exo a C none) ∧ ∀ dx, H dx = none → dx ≠ a → Q .non (upd (upd H dx (exd dx [(f, .int i)])) a (exo a C (some dx)))
structure InitN (P : Program) (w : World) (K : PySem.W.Frag) (mg : Str → Option Value) (base : Heap) (x b f : Str) : Prop where
  c : InitC K x b f
  mx : mg x = some (.ref (He.ga K x))
  ex : ∃ fd, FnOk P w K mg base (L2.CX P w) 1 (iAd K x) fd [("self" : Str), f] (spN (He.ga K x) f) ∧ Binds K fd [("self" : Str), f] []
theorem len_num {i : Int} (h : i.natAbs.log2 < 1920) : (Str.ofString (toString i)).length ≤ 10000 := by
  have e := int_text_length_le (k := 1920) (by decide) h
  rw [PySem.ofString_length]; omega
theorem initN_mk {P : Program} {w : World} {K : PySem.W.Frag} {mg : Str → Option Value} {base : Heap} {x b f qual m : Str} {params : Arguments} {body : List Stmt} {scope : Scope} {fd : FuncData} {p1 p2 p3 p4 p5 p6 p7 p8 p9 p10 p11 p12 p13 : Pos} {j : Nat}
    (c : InitC K x b f) (mx : mg x = some (.ref (He.ga K x))) (mb : mg b = some (.ref (He.ga K b))) (F : FunD K "__init__" qual params body scope [] [] (iAd K x) fd) (S : FnScope ["self", f] [("self" : Str), f] scope)
    (hbody : body = [.Expr (.Call (.Attribute (.Name b p1) "__init__" p2) [.Name "self" p3, .JoinedStr [.Constant (.str m) j p4, .FormattedValue (.Name f p11) (-1) none p12] p13] [] p5) p6, .Assign [.Attribute (.Name "self" p7) f p8] (.Name f p9) p10])
    (hgb : List.lookup b scope.names = some .globalImplicit) (hl0 : List.lookup ("self" : Str) scope.names = some .local) (hl1 : List.lookup f scope.names = some .local) (hz : m.length ≤ 1000) (hdb : (b == ("__debug__" : Str)) = false) (hdf : (f == ("__debug__" : Str)) = false) (hcf : (f == ("__classdict__" : Str)) = false)
    (hc : ∀ (L g : Addr) (cdv : Value), ∃ pl : Sem Bool, eval (.Call (.Attribute (.Name b p1) "__init__" p2) [.Name "self" p3, .JoinedStr [.Constant (.str m) j p4, .FormattedValue (.Name f p11) (-1) none p12] p13] [] p5) (PyProof.Rows.envOfC qual scope L g cdv) = (do
      let ov ← eval (.Name b p1) (PyProof.Rows.envOfC qual scope L g cdv)
      standAt p2.atName
      let (f2, first) ← holding [ov] (getMethod ov "__init__" pl)
      callWith p5 f2 first (backTo p5 (starEach [.Name "self" p3, .JoinedStr [.Constant (.str m) j p4, .FormattedValue (.Name f p11) (-1) none p12] p13] (PyProof.Rows.envOfC qual scope L g cdv))) (backToKw p5 (keywordEach [] (PyProof.Rows.envOfC qual scope L g cdv)))))
    (hbd : ∀ (kV doc pm : Value) (an : Option Addr) (cdv ct : Value) (us : List Value), us.length = [("self" : Str), f].length → bindArgs (PySem.W.fnOf "__init__" qual params body scope .none kV doc pm an cdv ct) ⟨us, []⟩ = pure ([("self" : Str), f].zip us)) :
    InitN P w K mg base x b f := by
  refine ⟨c, mx, fd, F.ok (k := 0) S (fun vs H Q E h => by obtain ⟨a, y, rfl, _⟩ := h; rfl) (fun cdv A outer s H vs Q E hr h => ?_), F.bindsN hbd⟩
  obtain ⟨a, i, rfl, hi, ha, hq⟩ := h
  subst hbody
  let Y := cxOf (L2.CX P w) P w K mg base [("self" : Str), f] qual scope (iAd K x) cdv A outer s H E
  have v0 : ∀ p : Pos, PE Y (.Name "self" p) (tVar 0) := fun p => pe_var (X := Y) (i := 0) rfl (.inl hl0) (by decide) (by decide)
  have v1 : ∀ p : Pos, PE Y (.Name f p) (tVar 1) := fun p => pe_var (X := Y) (i := 1) rfl (.inl hl1) hdf hcf
  obtain ⟨pl, hcc⟩ := hc s.heap.objs.size (iAd K x) cdv
  have jn : PE Y (.JoinedStr [.Constant (.str m) j p4, .FormattedValue (.Name f p11) (-1) none p12] p13) _ := pe_joined (.cons pe_str (.cons (pe_fmt (v1 p11)) .nil))
  have s1 : PS Y (.Expr (.Call (.Attribute (.Name b p1) "__init__" p2) [.Name "self" p3, .JoinedStr [.Constant (.str m) j p4, .FormattedValue (.Name f p11) (-1) none p12] p13] [] p5) p6) _ := ps_expr (pe_binit (X := Y) hgb mb c.B (pa_cons (v0 p3) (pa_cons jn pa_nil)) hdb hcc)
  have s2 : PS Y (.Assign [.Attribute (.Name "self" p7) f p8] (.Name f p9) p10) _ := ps_ost (X := Y) (v0 p7) (v1 p9)
  refine ⟨_, pss_cons s1 (pss_one s2), ?_⟩
  have hn := len_num hi
  have z0 : (Str.empty ++ m).length ≤ sizeLine := by
    rw [Str.length_append, sizeLine_eq]
    show 0 + m.length ≤ _
    omega
  have z1 : ((Str.empty ++ m) ++ Str.ofString (toString i)).length ≤ sizeLine := by
    rw [Str.length_append, Str.length_append, sizeLine_eq]
    show 0 + m.length + _ ≤ _
    omega
  exact ⟨.ref a, rfl, m, rfl, z0, .int i, rfl, .inr ⟨i, rfl, hi, _, rfl, z1, a, He.ga K x, [_], rfl, by simp, c.T, ha, .int i, rfl, .ref a, rfl, a, He.ga K x, rfl, c.T, c.no, .inl ⟨ha, hq⟩⟩⟩
def raiseN (x f : Str) (fe : FE) : FS := fun env => bindS (tk fe env) fun a env1 => match fzA a with
  | some (.int i) => if i.natAbs.log2 < 1920 then some (.ex ⟨x, some [(f, .int i)]⟩ env1) else none
  | _ => none
section
variable {X : Cx} {W : WX} {P : List Nat} {e : Expr} {p pos rpos : Pos} {fe : FE}
theorem s_raiseN {x b f : Str} (hc : X.calm = true) (t : Takes X W) (I : InitN X.prog X.w X.K X.mg X.base x b f) (hr : Room 2 X.A) (hg : Gl X x) (he : PE X e (rE X.K W fe)) (hdb : (x == ("__debug__" : Str)) = false := by decide)
    (hs : starEach [e] X.env = (false, eval e X.env) :: starEach [] X.env := by rfl) (hpl : (backTo pos (starEach [] X.env)).any (·.1) = false := by rfl) : PS X (.Raise (some (.Call (.Name x p) [e] [] pos)) none rpos) (rS X.K W P (raiseN x f fe)) := by
  obtain ⟨fd, F1, hb⟩ := I.ex
  refine PS_mono (ps_raise hc t (pmk_oex I.c.T I.c.iC I.c.tI F1 hr hb (ds := []) (dvs := []) .nil passL hg I.mx (pa_cons (e_tk he) pa_nil hs) hdb hs hpl)) fun D σ H ⟨F, env, fps, R, po⟩ => ⟨F, env, fps, R, ?_⟩
  unfold raiseN at po
  cases ef : tk fe env with
  | none => rw [ef] at po; exact po
  | some o =>
    rw [ef] at po
    cases o with
    | ex y env1 => exact PXS.px po
    | ok a env1 =>
      simp only [bindS] at po
      split at po
      · rename_i i ed
        split at po
        · rename_i hlog
          cases a with
          | sl i => cases ed
          | tm m =>
            intro v F1 H1 fps1 fp R1 r dj e1
            obtain ⟨F2, s2, rd, R2, e2⟩ := freeze_at R1 r dj ed
            obtain rfl := rep_int rd
            refine ⟨by simp, fun a ha => ⟨a, i, rfl, hlog, upd_same, fun dx hn ne => ?_⟩⟩
            rw [upd_ne ne] at hn
            have eH : upd (del (upd (upd (upd H1 a (exo a (He.ga X.K x) none)) dx (exd dx [(f, V.int i)])) a (exo a (He.ga X.K x) (some dx))) a) dx (.xd [(f, V.int i)]) = upd H1 dx (.xd [(f, V.int i)]) := by
              funext b
              by_cases h1 : b = dx
              · subst h1; rw [upd_same, upd_same]
              · rw [upd_ne h1, upd_ne h1]
                by_cases h2 : b = a
                · subst h2; rw [del_same, ha]
                · rw [del_ne h2, upd_ne h2, upd_ne h1, upd_ne h2]
            refine ⟨rfl, dx, [(f, V.int i)], upd_same, by rw [upd_ne ne, upd_same], hn, ?_⟩
            rw [eH]
            have en : Ext X.K F2 H1 (fun _ => False) F2 (upd H1 dx (.xd [(f, V.int i)])) (fun b => False ∨ b = dx) := Ext.new hn
            obtain ⟨R3, _⟩ := R2.frame (fun b _ h => h) en (sub_new R2.fr hn)
            refine po (.ref (He.ga X.K x)) (some dx) σ F2 _ fps1 R3 ⟨rfl, [(f, V.int i)], upd_same, rfl, .cons rd .nil⟩ .refl ?_
            exact (e1.trans e2 (fun _ h => h) (C := Own fps1) fun _ h => .inl h).trans (Ext.new (A := Own fps1) hn) (fun _ h => h) fun _ h => .inl (.inl h)
        · exact po.elim
      · exact po.elim
end
end Ink
set_option Elab.async false
set_option linter.all false
set_option maxRecDepth 100000
set_option maxHeartbeats 2000000
namespace Ink
open PySem PySem.Spec PyProof.Rows L2 LamX
def tryTS (fb : FS) (y f : Str) (i j : Nat) (m : Str) : FS := fun env => match fb env with
  | some (.ex z env1) => if z.cls = y ∧ i < env1.length ∧ j < env1.length then match z.fs with
    | some fs => match lkF fs f with
      | some d => some (.nx ((env1.set j none).set i (some (.fz (.tup [.str m, d])))))
      | none => none
    | none => none
    else none
  | o => o
end Ink
set_option Elab.async false
set_option linter.all false
set_option maxRecDepth 100000
set_option maxHeartbeats 1000000
namespace ZT
open PySem
open PySem.Sem (wp)
end ZT
namespace ZT
open PySem PySem.Spec PyProof.Rows L2
end ZT
namespace Ink
open PySem L2
section
variable {K : PySem.W.Frag} {F : Hp}
def chD (b : Str) : List D := b.cps.toList.map fun c => .str ⟨#[c]⟩
end
def itemsZX : List Av → Option (List D)
  | [.tm (.fz (.lst xs)), .tm (.fz (.str b))] => some (zipD xs (chD b))
  | _ => none
def overZX (fa : FA) : FI := fun env => bindO (fa env) fun as env1 => match itemsZX as with
  | some ds => some (.ok ds env1)
  | none => none
end Ink
set_option Elab.async false
set_option linter.all false
set_option maxRecDepth 100000
set_option maxHeartbeats 1000000
namespace Ink
open PySem L2
def itemsZU : List Av → Option (List D)
  | [.tm (.fz (.lst xs)), .tm (.fz (.str b))] => if xs.length = b.length then some (zipD xs (chD b)) else none
  | _ => none
def overZU (fa : FA) : FI := fun env => bindO (fa env) fun as env1 => match itemsZU as with
  | some ds => some (.ok ds env1)
  | none => none
end Ink
set_option Elab.async false
set_option linter.all false
set_option maxRecDepth 100000
set_option maxHeartbeats 2000000
namespace Ink
open PySem L2
def kZX (o : Option (Out (List Av))) : Option (Out (List D)) := match o with
  | some (.ok as env1) => kZ1 env1 (itemsZX as)
  | some (.ex x env1) => some (.ex x env1)
  | none => none
@[simp] theorem kZX_0 {as : List Av} {env1 : E} : kZX (some (.ok as env1)) = kZ1 env1 (itemsZX as) := (rfl)
@[simp] theorem ev_overZX {env : E} {fa : FA} : overZX fa env = kZX (fa env) := by
  unfold overZX kZX bindO
  cases fa env with
  | none => rfl
  | some o => cases o <;> rfl
@[simp] theorem itemsZX_0 {xs : List D} {b : Str} : itemsZX [.tm (.fz (.lst xs)), .tm (.fz (.str b))] = some (zipD xs (chD b)) := (rfl)
def kZU (o : Option (Out (List Av))) : Option (Out (List D)) := match o with
  | some (.ok as env1) => kZ1 env1 (itemsZU as)
  | some (.ex x env1) => some (.ex x env1)
  | none => none
@[simp] theorem kZU_0 {as : List Av} {env1 : E} : kZU (some (.ok as env1)) = kZ1 env1 (itemsZU as) := (rfl)
@[simp] theorem ev_overZU {env : E} {fa : FA} : overZU fa env = kZU (fa env) := by
  unfold overZU kZU bindO
  cases fa env with
  | none => rfl
  | some o => cases o <;> rfl
@[simp] theorem itemsZU_0 {xs : List D} {b : Str} : itemsZU [.tm (.fz (.lst xs)), .tm (.fz (.str b))] = if xs.length = b.length then some (zipD xs (chD b)) else none := (rfl)
def kRaN1 (x f : Str) (env1 : E) (o : Option D) : Option Fl := match o with
  | some (.int i) => if i.natAbs.log2 < 1920 then some (.ex ⟨x, some [(f, .int i)]⟩ env1) else none
  | _ => none
@[simp] theorem kRaN1_0 {x f : Str} {env1 : E} {i : Int} : kRaN1 x f env1 (some (.int i)) = if i.natAbs.log2 < 1920 then some (.ex ⟨x, some [(f, .int i)]⟩ env1) else none := (rfl)
def kRaN (x f : Str) (o : Option (Out Av)) : Option Fl := match o with
  | some (.ok a env1) => kRaN1 x f env1 (fzA a)
  | some (.ex y env1) => some (.ex y env1)
  | none => none
@[simp] theorem kRaN_0 {x f : Str} {a : Av} {env1 : E} : kRaN x f (some (.ok a env1)) = kRaN1 x f env1 (fzA a) := (rfl)
@[simp] theorem ev_raiseN {x f : Str} {fe : FE} {env : E} : raiseN x f fe env = kRaN x f (tk fe env) := by
  unfold raiseN kRaN bindS
  cases tk fe env with
  | none => rfl
  | some o => cases o with
    | ex y e => rfl
    | ok a e => simp only []; unfold kRaN1; rfl
def kTryT (y f : Str) (i j : Nat) (m : Str) (o : Option Fl) : Option Fl := match o with
  | some (.ex z env1) => if z.cls = y ∧ i < env1.length ∧ j < env1.length then match z.fs with
    | some fs => match lkF fs f with
      | some d => some (.nx ((env1.set j none).set i (some (.fz (.tup [.str m, d])))))
      | none => none
    | none => none
    else none
  | o => o
@[simp] theorem kTryT_nx {y f : Str} {i j : Nat} {m : Str} {env1 : E} : kTryT y f i j m (some (.nx env1)) = some (.nx env1) := (rfl)
@[simp] theorem ev_tryTS' {fb : FS} {y f : Str} {i j : Nat} {m : Str} {env : E} : tryTS fb y f i j m env = kTryT y f i j m (fb env) := (rfl)
@[simp] theorem ev_dispC {kvs : List (Key × D)} {env : E} : dispC kvs env = some (.ok (.tm (.dK (kvs.map fun kv => (kv.1, .fz kv.2)))) env) := (rfl)
end Ink
set_option Elab.async false
set_option linter.all false
set_option maxRecDepth 100000
set_option maxHeartbeats 2000000
namespace Ink
open PySem PySem.Spec PyProof.Rows L2
/-- a class, a field's name that no class of it has -/
structure FdI (K : PySem.W.Frag) (C x : Str) : Prop where
  c : Cls K (He.ga K C)
  n : NoAttr K (He.ga K C) x
/-- a frozen field -/
def insD (C x : Str) : M → Option D
  | .ins C' fs => if C' = C then (match valG fs x with
    | some (.fz d) => some d
    | _ => none) else none
  | .fz (.ins C' ds) => if C' = C then valG ds x else none
  | _ => none
theorem insD_rep {K : PySem.W.Frag} {F H : Hp} {m : M} {v : V} {fp : List Addr} {C x : Str} {d : D} (s : Sub F H) (r : RepM K F H m v fp) (h : insD C x m = some d) :
    ∃ p dx fs w, v = .ref p ∧ H p = some (.ins (He.ga K C) dx fs) ∧ fs.lookup x = some w ∧ Rep K F w d := by
  cases m with
  | ins C' ms =>
    simp only [insD] at h
    split at h
    · rename_i e
      subst e
      cases ev : valG ms x with
      | none => simp only [ev] at h; cases h
      | some m1 =>
        cases m1 with
        | fz d1 =>
          simp only [ev] at h
          cases h
          cases r with
          | @ins p _ dx fs _ fq a f hk rs n =>
            obtain ⟨j, e1, _, e3⟩ := valG_at ev
            obtain ⟨w, f1, fr, h1, h2, _⟩ := rs.focus (j := j) e1
            refine ⟨p, dx, fs, w, rfl, a, ?_, repm_fz h2⟩
            rw [valG_look, e3 fs hk]
            exact h1
        | _ => simp only [ev] at h <;> cases h
    · cases h
  | fz dd =>
    cases dd with
    | ins C' ds =>
      simp only [insD] at h
      split at h
      · rename_i e
        subst e
        have rd := repm_fz r
        cases rd with
        | @ins p _ dx fs _ a hk rs =>
          obtain ⟨j, e1, _, e3⟩ := valG_at (show valG ds x = some d from h)
          obtain ⟨w, h1, h2⟩ := rs.get (i := j) e1
          refine ⟨p, dx, fs, w, rfl, s _ _ a, ?_, h2⟩
          rw [valG_look, e3 fs hk]
          exact h1
      · cases h
    | _ => cases h
  | _ => cases h
def fldE (C x : Str) (fo : FE) : FE := fun env => bindO (fo env) fun a env1 => match resA env1 a with
  | some m => match insD C x m with
    | some d => some (.ok (.tm (.fz d)) env1)
    | none => none
  | none => none
section
variable {X : Cx} {W : WX} {o e : Expr} {fo fe : FE} {pos pos' apos cpos : Pos} {C x : Str} {P : List Nat}
theorem e_fld (I : FdI X.K C x) (ho : PE X o (rE X.K W fo)) (hb : attributeBase o x X.env (eval o X.env) = eval o X.env := by rfl) : PE X (.Attribute o x pos) (rE X.K W (fldE C x fo)) := PE_mono (pe_fld ho hb) fun σ H Q ⟨F, env, fps, R, p⟩ => by
  refine ⟨F, env, fps, R, ?_⟩
  unfold fldE at p
  cases ef : fo env with
  | none => rw [ef] at p; exact p
  | some z =>
    rw [ef] at p
    cases z with
    | ex y env1 => exact p
    | ok a env1 =>
      simp only [bindO_ok] at p
      intro v F1 H1 fps1 fp R1 r d e1
      cases er : resA env1 a with
      | none => rw [er] at p; exact p.elim
      | some m =>
        simp only [er] at p
        cases ed : insD C x m with
        | none => rw [ed] at p; exact p.elim
        | some dd =>
          simp only [ed] at p
          obtain ⟨fq, rm⟩ := resA_rep R1 r er
          obtain ⟨q, dx, fs, w, rfl, hp, hl, rd⟩ := insD_rep R1.fr rm ed
          exact ⟨q, _, dx, fs, w, rfl, hp, I.c, I.n, hl, p w F1 H1 fps1 [] R1 (.fz rd) Own.not_nil (e1.weak fun b h => h.elim .inl fun z => by cases z)⟩
/-- a part: NAME.x -/
def flC (C x : Str) (i : Nat) : FC := fun env => match env[i]? with
  | some (some (.ins C' fs)) => if C' = C ∧ (valG fs x).isSome = true then some (env, .fl x) else none
  | _ => none
theorem c_fl {y : Str} {px : Pos} {i : Nat} (I : FdI X.K C x) (hN : X.N[i]? = some y := by rfl) (hv : Vis X.env.scope y := by first | exact Or.inl rfl | exact Or.inr (Or.inl rfl) | exact Or.inr (Or.inr rfl)) (hd : (y == ("__debug__" : Str)) = false := by decide)
    (hcd : (y == ("__classdict__" : Str)) = false := by decide) (hb : attributeBase (.Name y px) x X.env (eval (.Name y px) X.env) = eval (.Name y px) X.env := by rfl) : PE X (.Attribute (.Name y px) x pos) (rC X.K i (flC C x i)) := PE_mono (pe_fld (pe_var hN hv hd hcd) hb) fun σ H Q ⟨F, env, fps, R, po⟩ => by
  unfold flC at po
  cases ei : env[i]? with
  | none => simp only [ei] at po
  | some z =>
    cases z with
    | none => simp only [ei] at po
    | some m =>
      cases m with
      | ins C' ms =>
        simp only [ei] at po
        split at po
        · rename_i env' s' eq
          split at eq
          · rename_i hc
            obtain ⟨rfl, his⟩ := hc
            cases eq
            obtain ⟨m1, hm1⟩ := Option.isSome_iff_exists.mp his
            obtain ⟨v, hv, r⟩ := R.got i _ ei
            generalize hff : fps i = ff at r
            cases r with
            | @ins p _ dx fs _ fq a f hk rs n =>
              obtain ⟨j, e1, _, e3⟩ := valG_at hm1
              obtain ⟨w, f1, fr, h1, h2, _⟩ := rs.focus (j := j) e1
              have hl : valG fs x = some w := by rw [e3 fs hk]; exact h1
              exact ⟨.ref p, hv, p, _, dx, fs, w, rfl, a, I.c, I.n, by rw [valG_look]; exact hl, po w p _ F H fps R hv a hl (Ext.refl fun _ h => h)⟩
          · cases eq
        · exact po.elim
      | _ => simp only [ei] at po
def putFM (x : Str) (m : M) : List (Str × M) → List (Str × M)
  | [] => [(x, m)]
  | (g, y) :: r => if g = x then (g, m) :: r else (g, y) :: putFM x m r
theorem putF_rep {K : PySem.W.Frag} {F H : Hp} {x : Str} {m : M} {v : V} {fm : List Addr} (rm : RepM K F H m v fm) : ∀ {ms : List (Str × M)} {fs : List (Str × V)} {fp : List Addr}, fs.map (·.1) = ms.map (·.1) → RepMs K F H (ms.map (·.2)) (fs.map (·.2)) fp → (∀ b ∈ fp, b ∉ fm) →
    ∃ fr, (∀ b ∈ fr, b ∈ fp ∨ b ∈ fm) ∧ (putF x v fs).map (·.1) = (putFM x m ms).map (·.1) ∧ RepMs K F H ((putFM x m ms).map (·.2)) ((putF x v fs).map (·.2)) fr
  | [], [], fp, _, r, _ => ⟨fm ++ [], fun b hb => .inr (by simpa using hb), rfl, .cons rm .nil fun b _ z => by cases z⟩
  | [], _ :: _, _, h, _, _ => by simp at h
  | _ :: _, [], _, h, _, _ => by simp at h
  | (g, y) :: ms, (g2, w) :: fs, fp, h, r, d => by
    simp only [List.map_cons, List.cons.injEq] at h
    obtain ⟨rfl, h⟩ := h
    simp only [List.map_cons] at r
    cases r with
    | @cons _ _ _ _ f1 f2 a b c =>
      by_cases e : g2 = x
      · subst e
        refine ⟨fm ++ f2, fun b hb => ?_, ?_, ?_⟩
        · rcases List.mem_append.mp hb with z | z
          · exact .inr z
          · exact .inl (List.mem_append_right _ z)
        · simp [putF, putFM, h]
        · simp only [putF, putFM, if_true, List.map_cons]
          exact .cons rm b fun b hb z => d b (List.mem_append_right _ z) hb
      · obtain ⟨fr, s, k, r2⟩ := putF_rep rm h b fun b hb => d b (List.mem_append_right _ hb)
        refine ⟨f1 ++ fr, fun b hb => ?_, ?_, ?_⟩
        · rcases List.mem_append.mp hb with z | z
          · exact .inl (List.mem_append_left _ z)
          · exact (s b z).imp (fun z => List.mem_append_right _ z) id
        · simp only [putF, putFM, if_neg e, List.map_cons]
          exact congrArg (g2 :: ·) k
        · simp only [putF, putFM, if_neg e, List.map_cons]
          exact .cons a r2 fun b hb z => (s b z).elim (c b hb) (d b (List.mem_append_left _ hb))
def setFG (C x : Str) : FP := fun ms => match ms with
  | [v, .ins C' fs] => if C' = C ∧ fs.length < 999 then some (.ok (.fz .non) [none, some (.ins C' (putFM x v fs))]) else none
  | _ => none
theorem op_setF {K : PySem.W.Frag} {C x : Str} {v o : V} {H : Hp} {Q : Hp → Prop} {Ex : XK} (p : spOf K (setFG C x) [v, o] H (fun _ H1 => Q H1) Ex) : ∃ a dx fs, o = .ref a ∧ H a = some (.ins (He.ga K C) dx fs) ∧ fs.length < 1000 ∧ Q (upd H a (.ins (He.ga K C) dx (putF x v fs))) := by
  obtain ⟨F, ms, fps, R, p⟩ := p
  unfold setFG at p
  split at p
  · rename_i y C' fs
    split at p
    · rename_i hc
      obtain ⟨rfl, hl⟩ := hc
      obtain ⟨v0, h0, r0⟩ := R.got 0 _ rfl
      cases h0
      obtain ⟨v1, h1, r1⟩ := R.got 1 _ rfl
      cases h1
      have dj : ∀ b ∈ fps 0, b ∉ fps 1 := R.dj 0 1 (by omega)
      generalize hfp : fps 1 = f1 at r1
      cases r1 with
      | @ins q _ dx ws _ fq a f hk rs n =>
        obtain ⟨fr, s1, k1, r3⟩ := putF_rep (x := x) r0 hk rs (fun b hb z => dj b z (by rw [hfp]; exact List.mem_cons_of_mem _ hb))
        have hnq : ∀ b ∈ fr, b ≠ q := fun b hb e => by
          subst e
          rcases s1 b hb with z | z
          · exact n z
          · exact dj b z (by rw [hfp]; exact List.mem_cons_self ..)
        have hlw : ws.length = fs.length := by have := congrArg List.length hk; simpa using this
        refine ⟨q, dx, ws, rfl, a, by omega, ?_⟩
        have rM : RepM K F (upd H q (.ins (He.ga K C') dx (putF x v ws))) (.ins C' (putFM x y fs)) (.ref q) (q :: fr) := .ins upd_same f k1 (r3.frame (Sub.refl _) (fun b hb => upd_ne (hnq b hb)) fun b hb => (r3.live b hb).2) fun z => hnq q z rfl
        have R1 := R.drop 0
        have R2 := args_upd (i := 1) (fp := q :: fr) R1 rfl (by simp [hfp]) f rM (fun b hb j ha z => by
          by_cases e1 : j = 0
          · simp only [if_pos e1] at z; cases z
          · simp only [if_neg e1] at z
            rcases List.mem_cons.mp hb with rfl | hb
            · exact R.dj 1 j (fun q => ha q.symm) b (by rw [hfp]; exact List.mem_cons_self ..) z
            · rcases s1 b hb with hb | hb
              · exact R.dj 1 j (fun q => ha q.symm) b (by rw [hfp]; exact List.mem_cons_of_mem _ hb) z
              · exact R.dj 0 j (fun q => e1 q.symm) b hb z) (rM.nt (List.mem_cons_self ..) upd_same) (rM.ntp (List.mem_cons_self ..) upd_same)
        refine p .non F _ _ [] R2 (.fz .non) Own.not_nil ?_
        refine (Ext.putO R ⟨1, by rw [hfp]; exact List.mem_cons_self ..⟩ (rM.nt (List.mem_cons_self ..) upd_same) (rM.ntp (List.mem_cons_self ..) upd_same)).weak fun b h => ?_
        rcases h with ⟨a, ha⟩ | h
        · by_cases e0 : a = 1
          · simp only [if_pos e0] at ha
            rcases List.mem_cons.mp ha with rfl | z
            · exact ⟨1, by rw [hfp]; exact List.mem_cons_self ..⟩
            · rcases s1 b z with z | z
              · exact ⟨1, by rw [hfp]; exact List.mem_cons_of_mem _ z⟩
              · exact ⟨0, z⟩
          · simp only [if_neg e0] at ha
            by_cases e1 : a = 0
            · simp only [if_pos e1] at ha; cases ha
            · simp only [if_neg e1] at ha; exact ⟨a, ha⟩
        · cases h
    · exact p.elim
  · exact p.elim
def setFS (C x : Str) (fe fo : FE) : FS := fun env => bindS (callE (setFG C x) (consA fe (consA fo nilA)) env) fun _ env1 => some (.nx env1)
theorem s_fld (I : FdI X.K C x) (ho : PE X o (rE X.K W fo)) (he : PE X e (rE X.K W fe)) (hs : swapsWith e (some (.Attribute o x pos')) pos.line X.env = pure false := by rfl) : PS X (.Assign [.Attribute o x pos'] e pos) (rS X.K W P (setFS C x (tk fe) fo)) := PS_mono (ps_fld ho (e_tk he) hs) fun D σ H ⟨F, env, fps, R, p⟩ => by
  have q : rE X.K W (callE (setFG C x) (consA (tk fe) (consA fo nilA))) σ H (fun _ H1 => D.nx σ H1) := by
    refine ⟨F, env, fps, R, ?_⟩
    unfold setFS at p
    cases ef : callE (setFG C x) (consA (tk fe) (consA fo nilA)) env with
    | none => rw [ef] at p; exact p
    | some z =>
      rw [ef] at p
      cases z with
      | ex x env1 => exact PXS.px p
      | ok a env1 => exact fun v F' H' fps' fp R' r d e' => p σ F' H' fps' R' .refl (e'.weak fun _ h => .inl h)
  refine rE_imp (fun y H1 p1 => rE_imp (fun z H2 p2 => ?_) (ra_cons p1)) (ra_cons (r_call q))
  obtain ⟨a, dx, fs, rfl, ha, hl, hq⟩ := op_setF (ra_nil p2)
  exact ⟨a, _, dx, fs, rfl, ha, I.c, I.n, hl, hq⟩
/-- NAME.x op= e, whole numbers -/
def augFS (C x : Str) (i : Nat) (f : Int → Int → Int) (fe : FE) : FS := fun env => match env[i]? with
  | some (some m) => match insD C x m with
    | some (.int a) => bindS (fe env) fun c env1 => match intA c env1 with
      | some b => bindS (runP (setFG C x) [.tm (.fz (.int (f a b))), .sl i] env1) fun _ env2 => some (.nx env2)
      | none => none
    | _ => none
  | _ => none
theorem s_augF {i : Nat} {y : Str} {op : Operator} {px : Pos} {f : Int → Int → Int} {rd : V → V → Hp → VK → Prop} (I : FdI X.K C x) (hop : InOp X op rd) (hrd : ∀ a b H Q, Q (.int (f a b)) H → rd (.int a) (.int b) H Q) (he : PE X e (rE X.K W fe)) (hN : X.N[i]? = some y := by rfl) (hv : Vis X.env.scope y := by first | exact Or.inl rfl | exact Or.inr (Or.inl rfl) | exact Or.inr (Or.inr rfl)) (hd : (y == ("__debug__" : Str)) = false := by decide)
    (hcd : (y == ("__classdict__" : Str)) = false := by decide) : PS X (.AugAssign (.Attribute (.Name y px) x pos') op e pos) (rS X.K W P (augFS C x i f fe)) := PS_mono (ps_fldaug (pe_var hN hv hd hcd) he hop) fun D σ H ⟨F, env, fps, R, po⟩ => by
  unfold augFS at po
  split at po
  · rename_i m em
    split at po
    · rename_i a ea
      obtain ⟨v, hv, r⟩ := R.got i m em
      obtain ⟨p, dx, fs, w, rfl, hp, hl, rd'⟩ := insD_rep R.fr r ea
      obtain rfl := rep_int rd'
      refine ⟨.ref p, hv, p, _, dx, fs, .int a, rfl, hp, I.c, I.n, hl, F, env, fps, R, ?_⟩
      cases ef : fe env with
      | none => rw [ef] at po; exact po
      | some z =>
        rw [ef] at po
        cases z with
        | ex y env1 => exact PXS.px po
        | ok c env1 =>
          simp only [bindS] at po
          intro v1 F1 H1 fps1 fp R1 r1 d1 e1
          cases ei : intA c env1 with
          | none => rw [ei] at po; exact po.elim
          | some b =>
            simp only [ei] at po
            obtain rfl := intA_rep R1 r1 ei
            refine hrd a b H1 _ ?_
            have rs := RepAs.cons' (a := .tm (.fz (.int (f a b)))) (fp := []) (RepM.fz (K := X.K) (F := F1) (H := H1) (.int (f a b))) (RepAs.cons' (a := .sl i) (fp := []) (show RepA X.K F1 H1 σ (.sl i) (.ref p) [] from ⟨hv, rfl⟩) .nil' fun b hb ⟨_, q⟩ => by cases q) fun b hb => by cases hb
            have ow : ∀ b, ¬ Own (fcons ([] : List Addr) (fcons [] fun _ => [])) b := fun b h => by
              rcases own_fcons.mp h with h | h
              · cases h
              · rcases own_fcons.mp h with h | ⟨_, h⟩
                · cases h
                · cases h
            obtain ⟨a2, dx2, fs2, q2, h2, l2, k2⟩ := op_setF (Q := fun H1 => D.nx σ H1) (prim_sound (W := W) R1 rs (fun b hb => (ow b hb).elim) (by
              cases er : runP (setFG C x) [.tm (.fz (.int (f a b))), .sl i] env1 with
              | none => rw [er] at po; exact po
              | some z4 =>
                rw [er] at po
                cases z4 with
                | ex xx env4 => exact PX.wide (PXS.px po) e1 fun b h => h.elim .inl fun z => (ow b z).elim
                | ok rr env4 => exact fun v F4 H4 fps4 fp4 R4 rv d4 e4 => po σ F4 H4 fps4 R4 .refl (e1.trans e4 (fun b h => h.elim .inl fun z => (ow b z).elim) fun b h => .inl (.inl h))))
            cases q2
            exact ⟨dx2, fs2, h2, l2, k2⟩
    · exact po.elim
  · exact po.elim
theorem s_augFadd {i : Nat} {y : Str} {px : Pos} (I : FdI X.K C x) (he : PE X e (rE X.K W fe)) (hN : X.N[i]? = some y := by rfl) (hv : Vis X.env.scope y := by first | exact Or.inl rfl | exact Or.inr (Or.inl rfl) | exact Or.inr (Or.inr rfl)) (hd : (y == ("__debug__" : Str)) = false := by decide)
    (hcd : (y == ("__classdict__" : Str)) = false := by decide) : PS X (.AugAssign (.Attribute (.Name y px) x pos') .Add e pos) (rS X.K W P (augFS C x i (· + ·) fe)) := s_augF I in_add (fun a b H Q q => ⟨a, b, rfl, rfl, q⟩) he hN hv hd hcd
end
end Ink
set_option Elab.async false
set_option linter.all false
set_option maxRecDepth 100000
set_option maxHeartbeats 2000000
namespace Ink
open PySem PySem.Spec PyProof.Rows L2
def isFzO : Option (Option M) → Bool
  | some (some (.fz _)) => true
  | _ => false
theorem isFzO_at {o : Option (Option M)} (h : isFzO o = true) : ∃ d, o = some (some (.fz d)) := by
  unfold isFzO at h
  split at h
  · exact ⟨_, rfl⟩
  · cases h
def dflI (n : Int) (g : FP) : FP := fun ms => match g (ms ++ [.fz (.int n)]) with
  | some (.ok r outs) => if isFzO outs[ms.length]? then some (.ok r (outs.take ms.length)) else none
  | some (.ex x outs) => if isFzO outs[ms.length]? then some (.ex x (outs.take ms.length)) else none
  | none => none
theorem renv_moreI {K : PySem.W.Frag} {F H : Hp} {vs : List V} {ms : List M} {fps : Nat → List Addr} {n : Int} (R : REnv K F H (argS vs) (argE ms) fps) : REnv K F H (argS (vs ++ [.int n])) (argE (ms ++ [.fz (.int n)])) fps := by
  have hl : ms.length = vs.length := by have := R.len; simpa [argE, argS] using this
  have hn : fps ms.length = [] := R.nil _ fun m h => by simp [argE] at h
  refine ⟨R.fr, by simp [argE, argS, hl], fun i m h => ?_, fun i h => ?_, R.dj, R.tt⟩
  · by_cases q : i < ms.length
    · obtain ⟨v, h1, h2⟩ := R.got i m (by
        simp only [argE, List.map_append] at h
        rwa [List.getElem?_append_left (by simpa using q)] at h)
      exact ⟨v, by
        have q2 : i < vs.length := by omega
        simp only [argS, List.map_append]
        rw [List.getElem?_append_left (by simpa using q2)]
        exact h1, h2⟩
    · have e : i = ms.length := by
        have := (List.getElem?_eq_some_iff.mp h).1
        simp [argE] at this
        omega
      subst e
      have em : m = .fz (.int n) := by
        have := h
        simp [argE] at this
        exact this.symm
      subst em
      rw [hn]
      exact ⟨.int n, by simp [argS, hl], RepM.fz (.int n)⟩
  · by_cases q : i < ms.length
    · refine R.nil i fun m hm => h m ?_
      simp only [argE, List.map_append]
      rw [List.getElem?_append_left (by simpa using q)]
      exact hm
    · refine R.nil i fun m hm => ?_
      have := (List.getElem?_eq_some_iff.mp hm).1
      simp [argE] at this
      omega
theorem renv_lessI {K : PySem.W.Frag} {F H : Hp} {vs : List V} {outs : E} {fps : Nat → List Addr} {n : Int} {d : D} (R : REnv K F H (argS (vs ++ [.int n])) outs fps) (h : outs[vs.length]? = some (some (.fz d))) : REnv K F H (argS vs) (outs.take vs.length) fps := by
  have hl : outs.length = vs.length + 1 := by have := R.len; simpa [argS] using this
  have hn : fps vs.length = [] := by
    obtain ⟨v, _, r⟩ := R.got _ _ h
    exact r.fz_nil
  refine ⟨R.fr, by simp [argS, hl], fun i m hm => ?_, fun i hi => ?_, R.dj, R.tt⟩
  · have q : i < vs.length := by
      have := (List.getElem?_eq_some_iff.mp hm).1
      simp at this
      omega
    rw [List.getElem?_take_of_lt q] at hm
    obtain ⟨v, h1, h2⟩ := R.got i m hm
    exact ⟨v, by
      simp only [argS, List.map_append] at h1
      rwa [List.getElem?_append_left (by simpa using q)] at h1, h2⟩
  · by_cases q : i < vs.length
    · exact R.nil i fun m hm => hi m (by rw [List.getElem?_take_of_lt q]; exact hm)
    · by_cases e : i = vs.length
      · rw [e]; exact hn
      · refine R.nil i fun m hm => ?_
        have := (List.getElem?_eq_some_iff.mp hm).1
        omega
theorem sp_dflI {K : PySem.W.Frag} {g : FP} {vs : List V} {H : Hp} {Q : VK} {Ex : XK} {n : Int} (h : spOf K (dflI n g) vs H Q Ex) : spOf K g (vs ++ [.int n]) H Q Ex := by
  obtain ⟨F, ms, fps, R, p⟩ := h
  have hl : ms.length = vs.length := by have := R.len; simpa [argE, argS] using this
  refine ⟨F, ms ++ [.fz (.int n)], fps, renv_moreI R, ?_⟩
  unfold dflI at p
  cases e : g (ms ++ [.fz (.int n)]) with
  | none => rw [e] at p; exact p
  | some o =>
    rw [e] at p
    cases o with
    | ex x outs =>
      simp only at p
      by_cases q : isFzO outs[ms.length]? = true
      · rw [if_pos q] at p
        obtain ⟨d0, hq⟩ := isFzO_at q
        rw [hl] at hq p
        intro cls d F' H' fps' R' rx e'
        exact p cls d F' H' fps' (renv_lessI R' hq) rx e'
      · rw [if_neg q] at p
        exact p.elim
    | ok r outs =>
      simp only at p
      by_cases q : isFzO outs[ms.length]? = true
      · rw [if_pos q] at p
        obtain ⟨d0, hq⟩ := isFzO_at q
        rw [hl] at hq p
        intro v F' H' fps' fp R' r' d' e'
        exact p v F' H' fps' fp (renv_lessI R' hq) r' d' e'
      · rw [if_neg q] at p
        exact p.elim
end Ink
set_option Elab.async false
set_option linter.all false
set_option maxRecDepth 100000
set_option maxHeartbeats 2000000
namespace Ink
open PySem PySem.Spec PyProof.Rows L2
/-- o.m(..); what it lets out is wished for at the slots as they stand -/
def tMtS (C : Addr) (m : Str) (sp : Sp) (dvs : List V) (E : L2.St → XK) (ta : TE) (t : TA) : TE := fun σ H Q => ta σ H fun x H1 => ∃ a dx fs, x = .ref a ∧ H1 a = some (.ins C dx fs) ∧ fs.lookup m = none ∧ t σ H1 fun vs H2 => sp (x :: (vs ++ dvs)) H2 Q (E σ)
section
variable {X : Cx} {CX : CXT} {k : Nat} {f C : Addr} {fd : FuncData} {ps : List Str} {sp : Sp} {dvs : List V} {ds : List Value} {E : L2.St → XK} {m x : Str} {p pos apos : Pos} {e o : Expr} {es : List Expr} {ta : TE} {t : TA} {pl : Sem Bool}
theorem pe_mtS (he : PE X o ta) (c : Cls X.K C) (hm : Meth X.K C m f) (F : FnOk X.prog X.w X.K X.mg X.base CX k f fd ps sp) (hr : Room k X.A) (hb : Binds X.K fd ps ds) (hd : Vals dvs ds) (hx : ∀ σ, PassesAt CX X σ (E σ)) (ha : PA X (e :: es) t)
    (hst : starEach (e :: es) X.env = (false, eval e X.env) :: starEach es X.env) (hpl : (backTo pos (starEach es X.env)).any (·.1) = false)
    (ht : eval (.Call (.Attribute o m apos) (e :: es) [] pos) X.env = (do
      let ov ← eval o X.env
      standAt apos.atName
      let (f, first) ← holding [ov] (getMethod ov m pl)
      callWith pos f first (backTo pos (starEach (e :: es) X.env)) (backToKw pos (keywordEach [] X.env)))) :
    PE X (.Call (.Attribute o m apos) (e :: es) [] pos) (tMtS C m sp dvs E ta t) := by
  refine ⟨fun pins s σ H Q I h => ?_⟩
  refine PySem.W.methodCall_KW (pl := pl) (thn (he.run pins s σ H _ I h) fun u s1 ⟨x, H1, I1, rx, a, dx, fs, ex, ea, l, q⟩ => ?_) ht
  subst ex
  obtain rfl : u = Value.ref a := rx
  refine getmeth_ok I1 ea c hm l ?_
  refine PySem.W.callWith_K (first := [.ref a]) (h₀ := X.base) I.ok.mod.kin hm.kp (thn (ha.run pos pins s1 σ H1 _ I1 q) fun us s2 ⟨vs, H2, I2, r, q2⟩ => ⟨I2.kIn, ?_⟩) hst hpl
  exact run_fnSD (us := .ref a :: us) (vs := .ref a :: vs) F hr hb hd (hx σ) I2 (.cons rfl r) q2
theorem pe_mtS0 (he : PE X o ta) (c : Cls X.K C) (hm : Meth X.K C m f) (F : FnOk X.prog X.w X.K X.mg X.base CX k f fd ps sp) (hr : Room k X.A) (hb : Binds X.K fd ps ds) (hd : Vals dvs ds) (hx : ∀ σ, PassesAt CX X σ (E σ))
    (ht : eval (.Call (.Attribute o m apos) [] [] pos) X.env = (do
      let ov ← eval o X.env
      standAt apos.atName
      let (f, first) ← holding [ov] (getMethod ov m pl)
      callWith pos f first (backTo pos (starEach [] X.env)) (backToKw pos (keywordEach [] X.env)))) :
    PE X (.Call (.Attribute o m apos) [] [] pos) (tMtS C m sp dvs E ta tNil) := by
  refine ⟨fun pins s σ H Q I h => ?_⟩
  refine PySem.W.methodCall_KW (pl := pl) (thn (he.run pins s σ H _ I h) fun u s1 ⟨x, H1, I1, rx, a, dx, fs, ex, ea, l, q⟩ => ?_) ht
  subst ex
  obtain rfl : u = Value.ref a := rx
  refine getmeth_ok I1 ea c hm l ?_
  exact PySem.W.callWith_K0 (first := [.ref a]) I1.kIn hm.kp (run_fnSD (us := [.ref a]) (vs := [.ref a]) F hr hb hd (hx σ) I1 (.cons rfl .nil) q)
/-- C(..) -/
def tMkS (C : Addr) (sp : Sp) (E : L2.St → XK) (t : TA) : TE := fun σ H Q => t σ H fun vs H1 => ∀ x dx, H1 x = none → H1 dx = none → dx ≠ x →
  sp (.ref x :: vs) (upd (upd H1 dx (.own x)) x (.ins C dx [])) (fun v H2 => v = .non ∧ Q (.ref x) H2) (E σ)
theorem run_mkS {pins : List (Addr × Obj)} {σ : L2.St} {H : Hp} {s : Shared} {Q : VK} {us : List Value} {vs : List V} (M : Mk X.K C f) (F : FnOk X.prog X.w X.K X.mg X.base CX k f fd ps sp) (hr : Room (k + 1) X.A) (hb : Binds X.K fd ps [])
    (hx : PassesAt CX X σ (E σ)) (I : Inv X pins σ H s) (r : Vals vs us)
    (h : ∀ x dx, H x = none → H dx = none → dx ≠ x → sp (.ref x :: vs) (upd (upd H dx (.own x)) x (.ins C dx [])) (fun v H2 => v = .non ∧ Q (.ref x) H2) (E σ)) :
    wpAny (model X.prog X.w) X.A (call (.ref C) us) (EP X pins σ Q) X.xe s := by
  have hq := h (s.heap.objs.size + 1) s.heap.objs.size (I.hok.fresh (Nat.le_succ _)) (I.hok.fresh (Nat.le_refl _)) (Nat.ne_of_lt (Nat.lt_succ_self _))
  have I2 := Inv.made (C := C) I
  have r2 : Vals (V.ref (s.heap.objs.size + 1) :: vs) (Value.ref (s.heap.objs.size + 1) :: us) := .cons rfl r
  have hl : (Value.ref (s.heap.objs.size + 1) :: us).length = ps.length := by
    have e := r2.length
    rw [F.len _ _ _ _ hq] at e
    exact e.symm
  have b := hb _ (Value.ref (s.heap.objs.size + 1) :: us) I2.kIn (by rw [List.append_nil]; exact hl)
  rw [List.append_nil] at b
  refine wpAny_call (make_map (f := f) I.kIn M.makes M.init (beq_iff_eq.mp M.fn) (codeAny_mono (F.run _ X.stack _ _ ⟨Value.ref (s.heap.objs.size + 1) :: us, []⟩ (Value.ref (s.heap.objs.size + 1) :: us) _ _ (E σ) (hr.make C us [])
    (I2.env0.make C us []) b r2 hq) fun r s' hq' => ?_))
  cases r with
  | error e => exact hx pins _ _ e s' I2 hq'
  | ok fl =>
    cases fl with
    | ret u =>
      obtain ⟨v, H', I3, rv, ev, q3⟩ := I2.after hq'
      subst ev
      exact ⟨rv, ⟨V.ref (s.heap.objs.size + 1), H', I3, rfl, q3⟩⟩
    | next => exact False.elim hq'
    | brk => exact False.elim hq'
    | cont => exact False.elim hq'
theorem pe_mkS (M : Mk X.K C f) (F : FnOk X.prog X.w X.K X.mg X.base CX k f fd ps sp) (hr : Room (k + 1) X.A) (hg : Gl X x) (hm : X.mg x = some (.ref C)) (hb : Binds X.K fd ps []) (hx : ∀ σ, PassesAt CX X σ (E σ))
    (ha : PA X (e :: es) t) (hdb : (x == ("__debug__" : Str)) = false) (he : starEach (e :: es) X.env = (false, eval e X.env) :: starEach es X.env) (hpl : (backTo pos (starEach es X.env)).any (·.1) = false) :
    PE X (.Call (.Name x p) (e :: es) [] pos) (tMkS C sp E t) := by
  refine ⟨fun pins s σ H Q I h => ?_⟩
  refine wpAny_Call_Name_kw (ld_glob I hg hm ?_ hdb)
  refine PySem.W.callWith_K (h₀ := X.base) I.ok.mod.kin M.kp (thn (ha.run pos pins s σ H _ I h) fun us s1 ⟨vs, H1, I1, r, q⟩ => ⟨I1.kIn, ?_⟩) he hpl
  exact run_mkS M F hr hb (hx σ) I1 r q
theorem pe_mkS0 (M : Mk X.K C f) (F : FnOk X.prog X.w X.K X.mg X.base CX k f fd ps sp) (hr : Room (k + 1) X.A) (hg : Gl X x) (hm : X.mg x = some (.ref C)) (hb : Binds X.K fd ps []) (hx : ∀ σ, PassesAt CX X σ (E σ))
    (hdb : (x == ("__debug__" : Str)) = false) : PE X (.Call (.Name x p) [] [] pos) (tMkS C sp E tNil) := by
  refine ⟨fun pins s σ H Q I h => ?_⟩
  refine wpAny_Call_Name_kw (ld_glob I hg hm ?_ hdb)
  exact PySem.W.callWith_K0 I.kIn M.kp (run_mkS (us := []) M F hr hb (hx σ) I .nil h)
end
def dflIs : List Int → FP → FP
  | [], g => g
  | n :: ns, g => dflI n (dflIs ns g)
theorem sp_dflIs {K : PySem.W.Frag} {g : FP} {H : Hp} {Q : VK} {Ex : XK} : ∀ {ns : List Int} {vs : List V}, spOf K (dflIs ns g) vs H Q Ex → spOf K g (vs ++ ns.map V.int) H Q Ex
  | [], vs, h => by
    rw [List.map_nil, List.append_nil]
    exact h
  | n :: ns, vs, h => by
    have h2 : spOf K (dflI n (dflIs ns g)) vs H Q Ex := h
    have := sp_dflIs (sp_dflI h2)
    simpa using this
/-- a method m of the class C, by its mirror; ns: whole numbers where the last parameters lack -/
structure MtI (P : Program) (w : World) (K : PySem.W.Frag) (mg : Str → Option Value) (base : Heap) (k : Nat) (C m : Str) (ps : List Str) (ns : List Int) (g : FP) : Prop where
  c : Cls K (He.ga K C)
  ex : ∃ f fd, FnOk P w K mg base (L2.CX P w) k f fd ps (spOf K g) ∧ Meth K (He.ga K C) m f ∧ ∀ j, j ≤ ns.length → ∃ us, Vals ((ns.drop j).map V.int) us ∧ Binds K fd ps us
/-- a class C with its __init__ -/
structure MkI (P : Program) (w : World) (K : PySem.W.Frag) (mg : Str → Option Value) (base : Heap) (k : Nat) (C : Str) (ps : List Str) (g : FP) : Prop where
  mx : mg C = some (.ref (He.ga K C))
  ex : ∃ f fd, FnOk P w K mg base (L2.CX P w) k f fd ps (spOf K g) ∧ Mk K (He.ga K C) f ∧ Binds K fd ps []
section
variable {P : Program} {w : World} {K : PySem.W.Frag} {mg : Str → Option Value} {base : Heap} {C m qual : Str} {params : Arguments} {body : List Stmt} {scope : Scope} {f : Addr} {fd : FuncData} {N ps : List Str} {k np nl : Nat} {asg : List Nat} {fb : FS} {ns : List Int}
theorem mt_mk (c : Cls K (He.ga K C)) (hm : Meth K (He.ga K C) m f) (F : FunD K m qual params body scope [] [] f fd) (S : FnScope N ps scope) (hN : N.length = np + nl) (hp : ps.length = np)
    (hbd : ∀ (kV doc pm : Value) (an : Option Addr) (cdv ct : Value) (us : List Value), us.length = ps.length → bindArgs (PySem.W.fnOf m qual params body scope .none kV doc pm an cdv ct) ⟨us, []⟩ = pure (ps.zip us))
    (hb : ∀ (cdv : Value) (A : Around) (outer : List Env) (s : Shared) (H : Hp) (Ex : XK), Room k (A.deeper (PyProof.Rows.envOfC qual scope s.heap.objs.size f cdv)) → PSs (cxOf (L2.CX P w) P w K mg base N qual scope f cdv A outer s H Ex) body (rS K (fun cls d _ H' => Ex cls d H') (pinsOf np asg) fb)) :
    MtI P w K mg base (k + 1) C m ps [] (fnM np nl asg fb) :=
  ⟨c, f, fd, F.ok S (fun vs H Q Ex h => by rw [(fn_body hN h).1, hp]) (fun cdv A outer s H vs Q Ex hr h => ⟨_, hb cdv A outer s H Ex hr, (fn_body hN h).2⟩), hm, fun j _ => ⟨[], by rw [List.drop_nil]; exact .nil, F.bindsN hbd⟩⟩
theorem mt_mkI (c : Cls K (He.ga K C)) (hm : Meth K (He.ga K C) m f) (F : FunD K m qual params body scope (ns.map V.int) [] f fd) (S : FnScope N ps scope) (hN : N.length = np + nl) (hp : ps.length = np) (hne : ns ≠ []) (hln : ns.length ≤ ps.length)
    (hbd : ∀ j, j ≤ ns.length → ∀ (T : Addr) (kV doc pm : Value) (an : Option Addr) (cdv ct : Value) (us its : List Value), us.length = ps.length - (ns.length - j) → its.length = (ns.map V.int).length → ∃ k, bindArgs (PySem.W.fnOf m qual params body scope (.ref T) kV doc pm an cdv ct) ⟨us, []⟩ = seqItems? (.ref T) >>= k ∧ k (some its.toArray) = pure (ps.zip (us ++ its.drop j)))
    (hb : ∀ (cdv : Value) (A : Around) (outer : List Env) (s : Shared) (H : Hp) (Ex : XK), Room k (A.deeper (PyProof.Rows.envOfC qual scope s.heap.objs.size f cdv)) → PSs (cxOf (L2.CX P w) P w K mg base N qual scope f cdv A outer s H Ex) body (rS K (fun cls d _ H' => Ex cls d H') (pinsOf np asg) fb)) :
    MtI P w K mg base (k + 1) C m ps ns (fnM np nl asg fb) := by
  refine ⟨c, f, fd, F.ok S (fun vs H Q Ex h => by rw [(fn_body hN h).1, hp]) (fun cdv A outer s H vs Q Ex hr h => ⟨_, hb cdv A outer s H Ex hr, (fn_body hN h).2⟩), hm, fun j hj => ?_⟩
  obtain ⟨ds, v, b⟩ := F.binds1 (ps := ps) (ps.length - (ns.length - j)) j (by simpa using hne) (by simp; omega) (hbd j hj)
  exact ⟨ds, by rw [← List.map_drop] at v; exact v, b⟩
theorem mk_mk (M : Mk K (He.ga K C) f) (mx : mg C = some (.ref (He.ga K C))) (F : FunD K m qual params body scope [] [] f fd) (S : FnScope N ps scope) (hN : N.length = np + nl) (hp : ps.length = np)
    (hbd : ∀ (kV doc pm : Value) (an : Option Addr) (cdv ct : Value) (us : List Value), us.length = ps.length → bindArgs (PySem.W.fnOf m qual params body scope .none kV doc pm an cdv ct) ⟨us, []⟩ = pure (ps.zip us))
    (hb : ∀ (cdv : Value) (A : Around) (outer : List Env) (s : Shared) (H : Hp) (Ex : XK), Room k (A.deeper (PyProof.Rows.envOfC qual scope s.heap.objs.size f cdv)) → PSs (cxOf (L2.CX P w) P w K mg base N qual scope f cdv A outer s H Ex) body (rS K (fun cls d _ H' => Ex cls d H') (pinsOf np asg) fb)) :
    MkI P w K mg base (k + 1) C ps (fnM np nl asg fb) :=
  ⟨mx, f, fd, F.ok S (fun vs H Q Ex h => by rw [(fn_body hN h).1, hp]) (fun cdv A outer s H vs Q Ex hr h => ⟨_, hb cdv A outer s H Ex hr, (fn_body hN h).2⟩), M, F.bindsN hbd⟩
end
def isInsM (C m : Str) : M → Bool
  | .ins C' fs => decide (C' = C) && (valG fs m).isNone
  | .fz (.ins C' ds) => decide (C' = C) && (valG ds m).isNone
  | _ => false
theorem isInsM_rep {K : PySem.W.Frag} {F H : Hp} {mm : M} {v : V} {fp : List Addr} {C m : Str} (s : Sub F H) (r : RepM K F H mm v fp) (h : isInsM C m mm = true) : ∃ p dx fs, v = .ref p ∧ H p = some (.ins (He.ga K C) dx fs) ∧ fs.lookup m = none := by
  unfold isInsM at h
  split at h
  · rename_i C' ms
    simp only [Bool.and_eq_true, decide_eq_true_eq, Option.isNone_iff_eq_none] at h
    obtain ⟨rfl, h⟩ := h
    cases r with
    | @ins p _ dx fs _ fq a f hk rs n => exact ⟨p, dx, fs, rfl, a, by rw [valG_look]; exact (valG_keys hk).mpr h⟩
  · rename_i C' ds
    simp only [Bool.and_eq_true, decide_eq_true_eq, Option.isNone_iff_eq_none] at h
    obtain ⟨rfl, h⟩ := h
    have rd := repm_fz r
    cases rd with
    | @ins p _ dx fs _ a hk rs => exact ⟨p, dx, fs, rfl, s _ _ a, by rw [valG_look]; exact (valG_keys hk).mpr h⟩
  · cases h
def methE (C m : Str) (g : FP) (fo : FE) (fa : FA) : FE := fun env => bindO (fo env) fun a env1 => match resA env1 a with
  | some mm => match isInsM C m mm with
    | true => bindO (fa env1) fun as env2 => runP g (a :: as) env2
    | false => none
  | none => none
theorem r_meth {K : PySem.W.Frag} {W : WX} {σ : L2.St} {H : Hp} {C m : Str} {g : FP} {fo : FE} {fa : FA} {Q : VK} (p : rE K W (methE C m g fo fa) σ H Q) :
    rE K W fo σ H fun x H1 => ∃ a dx fs, x = .ref a ∧ H1 a = some (.ins (He.ga K C) dx fs) ∧ fs.lookup m = none ∧ rA K W fa σ H1 fun vs H2 => spOf K g (x :: vs) H2 Q (fun c d H' => W c d σ H') := by
  obtain ⟨F, env, fps, R, p⟩ := p
  refine ⟨F, env, fps, R, ?_⟩
  unfold methE at p
  cases ef : fo env with
  | none => rw [ef] at p; exact p
  | some z =>
    rw [ef] at p
    cases z with
    | ex y env1 => exact p
    | ok a env1 =>
      simp only [bindO_ok] at p
      intro v F1 H1 fps1 fp R1 r d e1
      cases er : resA env1 a with
      | none => rw [er] at p; exact p.elim
      | some mm =>
        simp only [er] at p
        cases ei : isInsM C m mm with
        | false => rw [ei] at p; exact p.elim
        | true =>
          rw [ei] at p
          simp only at p
          obtain ⟨fq, rm⟩ := resA_rep R1 r er
          obtain ⟨q, dx, fs, rfl, hp, hl⟩ := isInsM_rep R1.fr rm ei
          refine ⟨q, dx, fs, rfl, hp, hl, F1, env1, fps1, R1, ?_⟩
          cases eg : fa env1 with
          | none => rw [eg] at p; exact p
          | some z2 =>
            rw [eg] at p
            cases z2 with
            | ex y env2 => exact PX.wide p e1 fun _ h => .inl h
            | ok as env2 =>
              simp only [bindO_ok] at p
              intro vs F2 H2 fps2 fpA R2 rs d2 e2
              obtain ⟨r2, dd⟩ := pendA r d e2
              refine prim_sound R2 (RepAs.cons' r2 rs fun b hb q => dd b hb (.inr q)) (fun b hb q => ?_) (poE.wide p (e1.trans e2 (fun _ h => .inl h) fun b h => h) fun b h => ?_)
              · rcases own_fcons.mp hb with hb | hb
                · exact dd b hb (.inl q)
                · exact d2 b hb q
              · rcases h with h | h
                · exact .inl (.inl h)
                · rcases own_fcons.mp h with h | h
                  · exact .inr (.inr h)
                  · exact .inl (.inr h)
def mkK (C : Str) (env : E) (o : Option OutP) : Option (Out Av) := match o with
  | some (.ok (.fz .non) (some inst :: _)) => some (.ok (.tm inst) env)
  | some (.ex x _) => some (.ex x env)
  | _ => none
def mkE (C : Str) (g : FP) (fa : FA) : FE := fun env => bindO (fa env) fun as env1 => match tms as with
  | some ms => mkK C env1 (g (.ins C [] :: ms))
  | none => none
theorem r_mk {K : PySem.W.Frag} {W : WX} {σ : L2.St} {H : Hp} {C : Str} {g : FP} {fa : FA} {Q : VK} (p : rE K W (mkE C g fa) σ H Q) : rA K W fa σ H fun vs H1 => ∀ x dx, H1 x = none → H1 dx = none → dx ≠ x →
    spOf K g (.ref x :: vs) (upd (upd H1 dx (.own x)) x (.ins (He.ga K C) dx [])) (fun v H2 => v = .non ∧ Q (.ref x) H2) (fun c d H' => W c d σ H') := by
  obtain ⟨F, env, fps, R, p⟩ := p
  refine ⟨F, env, fps, R, ?_⟩
  unfold mkE at p
  cases ef : fa env with
  | none => rw [ef] at p; exact p
  | some z =>
    rw [ef] at p
    cases z with
    | ex y env1 => exact p
    | ok as env1 =>
      simp only [bindO_ok] at p
      intro vs F1 H1 fps1 fpA R1 rs d1 e1 x dx hx hdx hne
      cases et : tms as with
      | none => rw [et] at p; exact p.elim
      | some ms =>
        simp only [et] at p
        obtain ⟨tl, tg⟩ := tms_get et
        have hx2 : (upd H1 dx (.own x)) x = none := by rw [upd_ne (Ne.symm hne)]; exact hx
        have en : ∀ A : Addr → Prop, Ext K F1 H1 A F1 (upd (upd H1 dx (.own x)) x (.ins (He.ga K C) dx [])) (fun b => A b ∨ b = x) := fun A =>
          (Ext.trans (B := A) (C := fun b => A b ∨ b = x) (Ext.new (A := A) (o := .own x) hdx) (Ext.new (A := A) (o := .ins (He.ga K C) dx []) hx2) (fun _ h => .inl h) fun b h => .inl h)
        have fr1 : Sub F1 (upd (upd H1 dx (.own x)) x (.ins (He.ga K C) dx [])) := sub_new (sub_new R1.fr hdx) hx2
        obtain ⟨R1', n1'⟩ := R1.frame (B := fun _ => False) (fun b _ h => h) (en _) fr1
        have ow1 : ∀ b, Own fps1 b → b ≠ x := fun b h e => n1' b h (.inr e)
        have owA : ∀ b, Own fpA b → b ≠ x := fun b ⟨j, hj⟩ e => by
          by_cases hl : j < as.length
          · obtain ⟨w, hw, rw'⟩ := rs.got j _ (List.getElem?_eq_getElem hl)
            have ha := tg j (ms[j]'(by rw [tl]; exact hl)) (List.getElem?_eq_getElem _)
            rw [List.getElem?_eq_getElem hl] at ha
            have hh := Option.some.inj ha
            rw [hh] at rw'
            obtain ⟨⟨o, ho⟩, _⟩ := (show RepM K F1 H1 _ w (fpA j) from rw').live b hj
            rw [e, hx] at ho; cases ho
          · rw [rs.nil j (by omega)] at hj; cases hj
        have RA : REnv K F1 (upd (upd H1 dx (.own x)) x (.ins (He.ga K C) dx [])) (argS (.ref x :: vs)) (argE (.ins C [] :: ms)) (fcons [x] fpA) := by
          refine ⟨fr1, by simp [tl]; exact rs.len.symm, fun j m' h => ?_, fun j h => ?_, fun a c hac b hb q => ?_, R1'.tt⟩
          · have hm := argE_get.mp h
            cases j with
            | zero =>
              simp at hm; subst hm
              exact ⟨.ref x, rfl, .ins upd_same (sub_none R1.fr hx) rfl .nil (fun h => by cases h)⟩
            | succ j =>
              simp at hm
              obtain ⟨w, hw, rw'⟩ := rs.got j _ (tg j m' hm)
              exact ⟨w, argS_get.mpr (by simpa using hw), (pendM (show RepM K F1 H1 m' w (fpA j) from rw') (B := fun _ => False) (fun b _ h => h) (en _)).1⟩
          · cases j with
            | zero => exact absurd rfl (h _)
            | succ j =>
              refine rs.nil j ?_
              rcases Nat.lt_or_ge j as.length with hl | hl
              · have hl2 : j < ms.length := by rw [tl]; exact hl
                exact absurd (argE_get.mpr (show (M.ins C [] :: ms)[j + 1]? = some ms[j] from List.getElem?_eq_getElem hl2)) (h _)
              · exact hl
          · cases a with
            | zero =>
              cases c with
              | zero => exact hac rfl
              | succ c =>
                simp [fcons] at hb
                exact owA b ⟨c, q⟩ hb
            | succ a =>
              cases c with
              | zero =>
                simp [fcons] at q
                exact owA b ⟨a, hb⟩ q
              | succ c => exact rs.dj a c (fun z => hac (by rw [z])) b hb q
        refine ⟨F1, .ins C [] :: ms, fcons [x] fpA, RA, ?_⟩
        have ow2 : ∀ b, Own (fcons [x] fpA) b → Own fpA b ∨ b = x := fun b h => by
          rcases own_fcons.mp h with h | h
          · exact .inr (by simpa using h)
          · exact .inl h
        have dj1 : ∀ b, Own fps1 b → ¬ Own (fcons [x] fpA) b := fun b h q => by
          rcases ow2 b q with q | q
          · exact d1 b q h
          · exact ow1 b h q
        cases eg : g (.ins C [] :: ms) with
        | none => rw [eg] at p; exact p.elim
        | some oo =>
          rw [eg] at p
          cases oo with
          | ex y ms' =>
            simp only [mkK] at p
            intro cls dd F' H' fps' R' rx ex
            obtain ⟨RN, _⟩ := R1'.frame (B := Own (fcons [x] fpA)) dj1 ex R'.fr
            refine p cls dd F' H' fps1 RN rx (e1.trans ((en (Own fpA)).trans ex (B := Own (fcons [x] fpA)) (fun b h => ow2 b h) (C := fun _ => False) fun b h => h.elim) (fun b h => .inr h) (C := Own fps1) fun b h => .inr (.inl h))
          | ok rr ms' =>
            unfold mkK at p
            split at p
            · rename_i inst rest eq
              cases eq
              intro v F' H' fps' fp R' r2 dd ex
              obtain ⟨RN, nN⟩ := R1'.frame (B := Own (fcons [x] fpA)) dj1 ex R'.fr
              obtain ⟨w, hw, rc⟩ := R'.got 0 inst rfl
              cases hw
              refine ⟨rep_non (repm_fz r2), p (.ref x) F' H' fps1 (fps' 0) RN rc (fun b hb q => nN b q (.inl ⟨0, hb⟩)) ?_⟩
              refine e1.trans ((en (Own fpA)).trans ex (B := Own (fcons [x] fpA)) (fun b h => ow2 b h) (C := fun b => b ∈ fps' 0) fun b h => .inl (.inl ⟨0, h⟩)) (fun b h => .inr h) fun b h => h.elim (fun h => .inr (.inl h)) .inl
            · rename_i eq; cases eq
            · exact p.elim
section
variable {X : Cx} {W : WX} {k : Nat} {C m : Str} {ps : List Str} {ns : List Int} {g g' : FP} {o e : Expr} {es : List Expr} {fo : FE} {fa : FA} {p pos apos : Pos} {pl : Sem Bool}
theorem e_meth (G : MtI X.prog X.w X.K X.mg X.base k C m ps ns g) (j : Nat) (hr : Room k X.A) (t : Takes X W) (ho : PE X o (rE X.K W fo)) (ha : PA X (e :: es) (rA X.K W fa)) (hj : j ≤ ns.length := by decide) (hg' : dflIs (ns.drop j) g = g' := by rfl)
    (hst : starEach (e :: es) X.env = (false, eval e X.env) :: starEach es X.env := by rfl) (hpl : (backTo pos (starEach es X.env)).any (·.1) = false := by rfl)
    (ht : eval (.Call (.Attribute o m apos) (e :: es) [] pos) X.env = (do
      let ov ← eval o X.env
      standAt apos.atName
      let (f, first) ← holding [ov] (getMethod ov m pl)
      callWith pos f first (backTo pos (starEach (e :: es) X.env)) (backToKw pos (keywordEach [] X.env))) := by rfl) : PE X (.Call (.Attribute o m apos) (e :: es) [] pos) (rE X.K W (methE C m g' fo fa)) := by
  subst hg'
  obtain ⟨f, fd, F, hm, hd⟩ := G.ex
  obtain ⟨us, v, b⟩ := hd j hj
  refine PE_mono (pe_mtS ho G.c hm F hr b v (fun σ => passAt t σ) ha hst hpl ht) fun σ H Q q => rE_imp (fun x H1 ⟨a, dx, fs, e1, e2, e3, z⟩ => ⟨a, dx, fs, e1, e2, e3, rA_imp (fun vs H2 z => ?_) z⟩) (r_meth q)
  have := sp_dflIs z
  simpa using this
theorem e_meth0 (G : MtI X.prog X.w X.K X.mg X.base k C m ps ns g) (j : Nat) (hr : Room k X.A) (t : Takes X W) (ho : PE X o (rE X.K W fo)) (hj : j ≤ ns.length := by decide) (hg' : dflIs (ns.drop j) g = g' := by rfl)
    (ht : eval (.Call (.Attribute o m apos) [] [] pos) X.env = (do
      let ov ← eval o X.env
      standAt apos.atName
      let (f, first) ← holding [ov] (getMethod ov m pl)
      callWith pos f first (backTo pos (starEach [] X.env)) (backToKw pos (keywordEach [] X.env))) := by rfl) : PE X (.Call (.Attribute o m apos) [] [] pos) (rE X.K W (methE C m g' fo nilA)) := by
  subst hg'
  obtain ⟨f, fd, F, hm, hd⟩ := G.ex
  obtain ⟨us, v, b⟩ := hd j hj
  refine PE_mono (pe_mtS0 ho G.c hm F hr b v (fun σ => passAt t σ) ht) fun σ H Q q => rE_imp (fun x H1 ⟨a, dx, fs, e1, e2, e3, z⟩ => ⟨a, dx, fs, e1, e2, e3, ?_⟩) (r_meth q)
  have := sp_dflIs (ra_nil z)
  show spOf X.K g (x :: ([] ++ _)) H1 Q _
  simpa using this
theorem e_make (G : MkI X.prog X.w X.K X.mg X.base k C ps g) (hr : Room (k + 1) X.A) (hg : Gl X C) (t : Takes X W) (ha : PA X (e :: es) (rA X.K W fa)) (hdb : (C == ("__debug__" : Str)) = false := by decide)
    (he : starEach (e :: es) X.env = (false, eval e X.env) :: starEach es X.env := by rfl) (hpl : (backTo pos (starEach es X.env)).any (·.1) = false := by rfl) : PE X (.Call (.Name C p) (e :: es) [] pos) (rE X.K W (mkE C g fa)) := by
  obtain ⟨f, fd, F, M, b⟩ := G.ex
  exact PE_mono (pe_mkS M F hr hg G.mx b (fun σ => passAt t σ) ha hdb he hpl) fun σ H Q q => r_mk q
theorem e_make0 (G : MkI X.prog X.w X.K X.mg X.base k C ps g) (hr : Room (k + 1) X.A) (hg : Gl X C) (t : Takes X W) (hdb : (C == ("__debug__" : Str)) = false := by decide) : PE X (.Call (.Name C p) [] [] pos) (rE X.K W (mkE C g nilA)) := by
  obtain ⟨f, fd, F, M, b⟩ := G.ex
  exact PE_mono (pe_mkS0 M F hr hg G.mx b (fun σ => passAt t σ) hdb) fun σ H Q q => ra_nil (r_mk q)
end
end Ink
set_option Elab.async false
set_option linter.all false
set_option maxRecDepth 100000
set_option maxHeartbeats 2000000
namespace Ink
open PySem PySem.Spec PyProof.Rows L2
def fmtM : M → Option Str
  | .fz (.str y) => if y.length ≤ sizeLine then some y else none
  | .fz (.int i) => if i.natAbs.log2 < 1920 then some (toString i : Str) else none
  | _ => none
def strM1 : M → Option Str
  | .fz (.str y) => some y
  | _ => none
def fmtE (fe : FE) : FE := fun env => bindO (fe env) fun a env1 => match resA env1 a with
  | some m => match fmtM m with
    | some y => some (.ok (.tm (.fz (.str y))) env1)
    | none => none
  | none => none
/-- the texts one behind the other -/
def jsE : List FE → Str → FE
  | [], acc => fun env => some (.ok (.tm (.fz (.str acc))) env)
  | f :: fs, acc => fun env => bindO (f env) fun a env1 => match resA env1 a with
    | some m => match strM1 m with
      | some y => if (acc ++ y).length ≤ sizeLine then jsE fs (acc ++ y) env1 else none
      | none => none
    | none => none
theorem strM1_at {m : M} {y : Str} (h : strM1 m = some y) : m = .fz (.str y) := by
  unfold strM1 at h
  split at h
  · cases h; rfl
  · cases h
theorem r_js {K : PySem.W.Frag} {W : WX} {σ : L2.St} {Q : VK} : ∀ {fs : List FE} {acc : Str} {H : Hp}, rE K W (jsE fs acc) σ H Q → tJs (fs.map (rE K W)) acc σ H fun out H1 => Q (.str out) H1
  | [], acc, H, ⟨F, env, fps, R, p⟩ => p (.str acc) F H fps [] R (.fz (.str acc)) Own.not_nil (Ext.refl fun b h => h.elim id fun z => by cases z)
  | f :: fs, acc, H, ⟨F, env, fps, R, p⟩ => by
    refine ⟨F, env, fps, R, ?_⟩
    unfold jsE at p
    cases ef : f env with
    | none => rw [ef] at p; exact p
    | some z =>
      rw [ef] at p
      cases z with
      | ex y env1 => exact p
      | ok a env1 =>
        simp only [bindO_ok] at p
        intro v F1 H1 fps1 fp R1 r d e1
        cases er : resA env1 a with
        | none => rw [er] at p; exact p.elim
        | some m =>
          simp only [er] at p
          cases es : strM1 m with
          | none => rw [es] at p; exact p.elim
          | some y =>
            simp only [es] at p
            obtain rfl := strM1_at es
            obtain ⟨fq, rm⟩ := resA_rep R1 r er
            obtain rfl := rep_str (repm_fz rm)
            split at p
            · rename_i hl
              exact ⟨y, rfl, hl, r_js ⟨F1, env1, fps1, R1, poE.wide p (e1.weak fun b h => .inl h) fun b h => h⟩⟩
            · exact p.elim
section
variable {X : Cx} {W : WX} {e v1 v2 : Expr} {es rest : List Expr} {fe f : FE} {fs : List FE} {pos p : Pos}
theorem e_fmt (he : PE X e (rE X.K W fe)) : PE X (.FormattedValue e (-1) none pos) (rE X.K W (fmtE fe)) := PE_mono (pe_fmt he) fun σ H Q ⟨F, env, fps, R, p⟩ => by
  refine ⟨F, env, fps, R, ?_⟩
  unfold fmtE at p
  cases ef : fe env with
  | none => rw [ef] at p; exact p
  | some z =>
    rw [ef] at p
    cases z with
    | ex y env1 => exact p
    | ok a env1 =>
      simp only [bindO_ok] at p
      intro v F1 H1 fps1 fp R1 r d e1
      cases er : resA env1 a with
      | none => rw [er] at p; exact p.elim
      | some m =>
        simp only [er] at p
        obtain ⟨fq, rm⟩ := resA_rep R1 r er
        cases es : fmtM m with
        | none => rw [es] at p; exact p.elim
        | some y =>
          simp only [es] at p
          have fin := p (.str y) F1 H1 fps1 [] R1 (.fz (.str y)) Own.not_nil (e1.weak fun b h => h.elim .inl fun z => by cases z)
          unfold fmtM at es
          split at es
          · split at es
            · rename_i hl
              cases es
              exact .inl ⟨y, rep_str (repm_fz rm), hl, fin⟩
            · cases es
          · split at es
            · rename_i i hl
              cases es
              exact .inr ⟨i, rep_int (repm_fz rm), hl, fin⟩
            · cases es
          · cases es
/-- the parts -/
def PJs (X : Cx) (W : WX) (es : List Expr) (fs : List FE) : Prop := L2.PJ X es (fs.map (rE X.K W))
theorem js_nil : PJs X W [] [] := L2.PJ.nil
theorem js_cons (h : PE X e (rE X.K W f)) (r : PJs X W es fs) : PJs X W (e :: es) (f :: fs) := L2.PJ.cons h r
theorem e_js (h : PJs X W (v1 :: v2 :: rest) fs) : PE X (.JoinedStr (v1 :: v2 :: rest) pos) (rE X.K W (jsE fs Str.empty)) := PE_mono (pe_joined h) fun _ _ _ q => r_js q
end
namespace Ten
open PySem.NumText PySem.Calls
theorem read_ten {c : Nat} (h1 : 48 ≤ c) (h2 : c ≤ 57) : (int_private% "readNumeral") 0 10 [c] = (int_private% "Numeral.value") (((c - 48 : Nat) : Int)) := by
  refine (readNumeral_eq 0 10 [c]).trans ?_
  have : c = 48 ∨ c = 49 ∨ c = 50 ∨ c = 51 ∨ c = 52 ∨ c = 53 ∨ c = 54 ∨ c = 55 ∨ c = 56 ∨ c = 57 := by omega
  rcases this with rfl | rfl | rfl | rfl | rfl | rfl | rfl | rfl | rfl | rfl <;> rfl
theorem seen_ten {x : Str} {c : Nat} (e : x.cps.toList = [c]) (h1 : 48 ≤ c) (h2 : c ≤ 57) : numTextOf x = x.cps.toList ∧ numSeenOf x = x.cps.toList := by
  refine Hx.seen_hex fun d hd => ?_
  rw [e] at hd
  simp at hd
  subst hd
  exact .inl ⟨h1, h2⟩
set_option maxHeartbeats 4000000 in
theorem gives_ten {x : PySem.Str} {u t : Tok} {c : Nat} (e : x.cps.toList = [c]) (h1 : 48 ≤ c) (h2 : c ≤ 57) :
    Gives (Builtin.«int.__new__» ⟨[.type "int", .str x u, .int 10 t], []⟩) (.int (((c - 48 : Nat) : Int))) :=
  .of_wp fun M A E s Q hQ => by
    obtain ⟨hp, g, d, tk, os⟩ := s
    have f1 := F.conv_sub_int
    have f2 := F.madeHere_int
    have f6 : typeOf (.str x u) = pure (.type "str") := rfl
    obtain ⟨e1, e2⟩ := seen_ten e h1 h2
    have hs : (numSeenOf x).length ≤ 640 := by
      rw [e2, e]
      show 1 ≤ 640
      omega
    have hr : (int_private% "readNumeral") 0 10 (numSeenOf x) = (int_private% "Numeral.value") (((c - 48 : Nat) : Int)) := by
      rw [e2, e]
      exact read_ten h1 h2
    have ha : ((numSeenOf x).length == (numTextOf x).length) = true := by
      rw [e1, e2]
      exact beq_self_eq_true _
    have hk := Hx.Hid.mk (And.intro hs (And.intro hr ha))
    clear hs hr ha e1 e2 e h1 h2
    repeat (any_goals (first
      | assumption
      | ((with_reducible show wpAny _ _ ((int_private% "intFromText") _ _ _) _ _ _); refine Hx.wp_textB hk.out.1 hk.out.2.1 hk.out.2.2 ?_)
      | wp_step))
    all_goals first | exact ⟨_, rfl, hQ⟩ | skip
theorem call_ten {prog : Program} {w : World} {A : Around} {E : Value → Shared → Prop} {s : Shared} {Q : Value → Shared → Prop} {x : PySem.Str} {u t : Tok} {c : Nat} (e : x.cps.toList = [c]) (h1 : 48 ≤ c) (h2 : c ≤ 57)
    (hQ : Q (.int (((c - 48 : Nat) : Int)) s.toks) { s with toks := s.toks + 1 }) : wpAny (model prog w) A (call (.type "int") [.str x u, .int 10 t]) Q E s :=
  callType_new F.called_int F.newNe_int (Hx.typeCall_int_2 _ _) (Hx.newCall_int_2 _ _) (fun obj => F.initArgs_range_2 obj _ _) F.entry_int_new (gives_ten e h1 h2).meets (show (Made.int (((c - 48 : Nat) : Int))).post _ s from ⟨rfl, hQ⟩)
end Ten
def rInt10 : List V → Hp → VK → Prop := fun xs H Q => ∃ (x : Str) (c : Nat), xs = [.str x, .int 10] ∧ x.cps.toList = [c] ∧ 48 ≤ c ∧ c ≤ 57 ∧ Q (.int (((c - 48 : Nat) : Int))) H
theorem call_int10 {X : Cx} : CallR X (.type "int") rInt10 := by
  intro pins s σ H xs us Q I r h
  obtain ⟨x, c, rfl, e, h1, h2, q⟩ := h
  obtain ⟨u, w', rfl, r1, r2⟩ := vals2 r
  obtain ⟨t1, rfl⟩ := r1
  obtain ⟨t2, rfl⟩ := r2
  exact Ten.call_ten e h1 h2 ⟨.int (((c - 48 : Nat) : Int)), H, I.tok _, ⟨_, rfl⟩, q⟩
def int10M : M → M → Option M
  | .fz (.str x), .fz (.int i) => match x.cps.toList with
    | [c] => if i = 10 ∧ 48 ≤ c ∧ c ≤ 57 then some (.fz (.int (((c - 48 : Nat) : Int)))) else none
    | _ => none
  | _, _ => none
section
variable {X : Cx} {W : WX} {e e2 : Expr} {fa fb : FE} {p pos : Pos}
theorem e_int10 (hg : Gl X "int") (hm : X.mg "int" = none) (ha : PE X e (rE X.K W fa)) (hb : PE X e2 (rE X.K W fb)) (hs : starEach [e, e2] X.env = (false, eval e X.env) :: starEach [e2] X.env := by rfl) (hs2 : starEach [e2] X.env = (false, eval e2 X.env) :: starEach [] X.env := by rfl)
    (hpl : (backTo pos (starEach [e2] X.env)).any (·.1) = false := by rfl) : PE X (.Call (.Name "int" p) [e, e2] [] pos) (rE X.K W (callE (g2 int10M) (arg2 fa fb))) :=
  e_callTy call_int10 (fun vs H Q Ex p => by
    obtain ⟨x, y, F, a, b, m, fps, rfl, R, r1, r2, h, p⟩ := g2_atC p
    unfold int10M at h
    split at h
    · split at h
      · rename_i c hc
        split at h
        · rename_i hh
          obtain ⟨rfl, h1, h2⟩ := hh
          cases h
          obtain rfl := rep_str (repm_fz r1)
          obtain rfl := rep_int (repm_fz r2)
          exact ⟨_, c, rfl, hc, h1, h2, sp_flat R (.int _) p⟩
        · cases h
      · cases h
    · cases h) hg hm (by decide +kernel) (a_cons ha (a_cons hb a_nil hs2) hs) (he := hs) (hpl := hpl)
end
def rSetd : V → List V → Hp → VK → Prop := fun x vs H Q => ∃ (a : Addr) (kvs : List (Key × V)) (k : Key) (z : V), x = .ref a ∧ vs = [kV k, z] ∧ H a = some (.dK kvs) ∧ kvs.length < sizeLine ∧ (∀ v, valV kvs k = some v → Q v H) ∧ (valV kvs k = none → Q z (upd H a (.dK (putK kvs k z))))
theorem mt_setd {X : Cx} : MtR X "dict.setdefault" rSetd := by
  intro pins s σ H x xs v us Q I rx r h
  obtain ⟨a, kvs, k, z, rfl, rfl, ha, hl, h1, h2⟩ := h
  obtain rfl : v = Value.ref a := rx
  obtain ⟨u, w', rfl, r1, r2⟩ := vals2 r
  exact d_setd I ha r1 r2 hl (fun v hv w' s4 I4 rw' => ⟨v, _, I4, rw', h1 v hv⟩) fun hn w' s4 I4 rw' => ⟨z, _, I4, rw', h2 hn⟩
def sdG : FP := fun ms => match ms with
  | [.dK kvs, k, .fz d] => match keyM k with
    | some kk => if kvs.length < sizeLine then (match valG kvs kk with
      | some (.fz d') => some (.ok (.fz d') [some (.dK kvs), some k, some (.fz d)])
      | some _ => none
      | none => some (.ok (.fz d) [some (.dK (kvs ++ [(kk, .fz d)])), some k, some (.fz d)])) else none
    | none => none
  | _ => none
theorem opm_setd {K : PySem.W.Frag} : OpMt K sdG rSetd := fun x vs H Q Ex p => by
  obtain ⟨F, ms, fps, R, p⟩ := p
  unfold sdG at p
  split at p
  · rename_i kvs k d
    cases ek : keyM k with
    | none => rw [ek] at p; exact p.elim
    | some kk =>
      simp only [ek] at p
      split at p
      · rename_i hl
        have l := R.len
        simp at l
        match vs, l with
        | [y, z], _ =>
          obtain ⟨v0, h0, r0⟩ := R.got 0 _ rfl
          cases h0
          obtain ⟨v1, h1, r1⟩ := R.got 1 _ rfl
          cases h1
          obtain ⟨v2, h2, r2⟩ := R.got 2 _ rfl
          cases h2
          obtain rfl := keyM_rep r1 ek
          have rz := repm_fz r2
          generalize hfp : fps 0 = f0 at r0
          cases r0 with
          | @dK q ws _ fq a f hk rs n =>
            have hlw : ws.length = kvs.length := by have := congrArg List.length hk; simpa using this
            refine ⟨q, ws, kk, z, rfl, rfl, a, by omega, fun v hv => ?_, fun hn => ?_⟩
            · have hv : valG ws kk = some v := hv
              cases ev : valG kvs kk with
              | none => rw [(valG_keys hk).mpr ev] at hv; cases hv
              | some m1 =>
                cases m1 with
                | fz d' =>
                  rw [ev] at p
                  simp only at p
                  obtain ⟨j, e1, _, e3⟩ := valG_at ev
                  obtain ⟨w, f1, fr, g1, g2, _⟩ := rs.focus (j := j) e1
                  rw [e3 ws hk, g1] at hv
                  cases hv
                  exact p v F H fps [] R (.fz (repm_fz g2)) Own.not_nil (Ext.refl fun b h => h.elim id fun z => by cases z)
                | _ => rw [ev] at p; exact p.elim
            · have hn : valG ws kk = none := hn
              have ev : valG kvs kk = none := (valG_keys hk).mp hn
              rw [ev] at p
              simp only at p
              have ep : putK ws kk z = ws ++ [(kk, z)] := by
                unfold putK
                rw [if_neg (by rw [any_none hn]; exact Bool.false_ne_true)]
              rw [ep]
              obtain ⟨k1, q1⟩ := put_new (k := kk) hk rs (RepM.fz (H := H) rz) (fun b _ q => by cases q)
              have hne : ∀ b ∈ fq ++ [], b ≠ q := fun b hb e => n (by rw [← e]; simpa using hb)
              have rM : RepM K F (upd H q (.dK (ws ++ [(kk, z)]))) (.dK (kvs ++ [(kk, .fz d)])) (.ref q) (q :: (fq ++ [])) := .dK upd_same f k1 (q1.frame (Sub.refl _) (fun b hb => upd_ne (hne b hb)) fun b hb => (q1.live b hb).2) fun h => hne q h rfl
              have R2 := args_upd (i := 0) (fp := q :: (fq ++ [])) R rfl (by rw [hfp]; exact List.mem_cons_self ..) f rM fun b hb j hj z => R.dj 0 j (fun q => hj q.symm) b (by rw [hfp]; simpa using hb) z
              refine p z F _ _ [] R2 (.fz rz) Own.not_nil ?_
              refine (Ext.putO R ⟨0, by rw [hfp]; exact List.mem_cons_self ..⟩).weak fun b h => ?_
              rcases h with ⟨j, hj⟩ | h
              · by_cases e0 : j = 0
                · simp only [if_pos e0] at hj
                  exact ⟨0, by rw [hfp]; simpa using hj⟩
                · simp only [if_neg e0] at hj
                  exact ⟨j, hj⟩
              · cases h
      · exact p.elim
  · exact p.elim
section
variable {X : Cx} {W : WX} {o e e2 : Expr} {fa fb : FE} {fc : FC} {i : Nat} {apos cpos : Pos}
theorem e_psd (ho : PE X o (rC X.K i fc)) (ha : PE X e (rE X.K W fa)) (hb : PE X e2 (rE X.K W fb)) (hbase : attributeBase o "setdefault" X.env (eval o X.env) = eval o X.env := by rfl)
    (hfew : ((backTo cpos (starEach [e, e2] X.env)).all (fun x => !x.1) && (backToKw cpos (keywordEach [] X.env)).all (fun x => x.1.isSome)
      && decide (([e, e2]).length + ([] : List Keyword).length + (if ([] : List Keyword).isEmpty then 0 else 1) < 30)) = true := by rfl)
    (hline : (apos.endLine == cpos.line) = true := by rfl) (hs : starEach [e, e2] X.env = (false, eval e X.env) :: starEach [e2] X.env := by rfl) (hs2 : starEach [e2] X.env = (false, eval e2 X.env) :: starEach [] X.env := by rfl) (hplain : (backTo cpos (starEach [e2] X.env)).any (·.1) = false := by rfl) :
    PE X (.Call (.Attribute o "setdefault" apos) [e, e2] [] cpos) (rE X.K W (partE .dct i fc sdG (arg2 (tk fa) (tk fb)))) := e_part (T := .dct) PySem.F.plainAttrs_dict PySem.F.slot_dict_setdefault PySem.F.type_dict_setdefault mt_setd opm_setd ho (a_cons (e_tk ha) (a_cons (e_tk hb) a_nil hs2) hs) hbase hfew hline hs hplain
end
end Ink
set_option Elab.async false
set_option linter.all false
set_option maxRecDepth 100000
set_option maxHeartbeats 0
namespace Lw
section
open PySem L2 Ink
def b_is_name : FS := (retS (andE (chainE (fun i j => decide (i ≤ j)) (fun i j => decide (i ≤ j)) (cE (.int 1)) (callE lenG (arg1 (vE 0))) (cE (.int 6))) (callE (g1 (allM true)) (arg1 (compE (overE itemsA (vE 0)) (nmG 1) yesT (callE (g2 (inF false)) (arg2 (vE 1) (cE (.str "abcdefghijklmnopqrstuvwxyz")))) [1])))))
def m_is_name : FP := fnM 1 1 [] b_is_name
def b_is_least : FS := (retS (chainE (fun i j => decide (i ≤ j)) (fun i j => decide (i ≤ j)) (cE (.int 1)) (vE 0) (cE (.int 3))))
def m_is_least : FP := fnM 1 0 [] b_is_least
def b_is_weight : FS := (retS (chainE (fun i j => decide (i ≤ j)) (fun i j => decide (i ≤ j)) (cE (.int 1)) (vE 0) (cE (.int 9))))
def m_is_weight : FP := fnM 1 0 [] b_is_weight
def b_is_far : FS := (retS (callE leG (arg2 (callE (g1 absM) (arg1 (vE 0))) (cE (.int 9)))))
def m_is_far : FP := fnM 1 0 [] b_is_far
def b_law_bag : FS := (seqS (asgS (compE (overE itemsA (callE sl01 (arg2 (vE 0) (cE (.int 63))))) (nmG 1) yesT (callE (g1 absM) (arg1 (vE 1))) [1]) (nmG 2))
  (seqS (asgS (callE addG (arg2 (cE (.int 1)) (callE lenG (arg1 (vE 2))))) (nmG 3))
  (seqS (forS (overE itemsA (callE sl01 (arg2 (vE 0) (cE (.int 63))))) (nmG 1) (asgS (callE modG (arg2 (callE addG (arg2 (callE addG (arg2 (callE mulG (arg2 (vE 3) (cE (.int 40503)))) (callE (g1 absM) (arg1 (vE 1))))) (callE mulG (arg2 (cE (.int 2)) (callE (g1 intM1) (arg1 (callE ltG (arg2 (vE 1) (cE (.int 0)))))))))) (cE (.int 2147483629)))) (nmG 3)))
  (retS (lstE (consA (tk (vE 2)) (consA (cE (.int 0)) (consA (cE (.int 0)) (consA (tk (vE 3)) nilA)))))))))
def m_law_bag : FP := fnM 1 3 [] b_law_bag
def b_law_pull : FS := (seqS (ifS (tst (callE ltG (arg2 (callE ixF (arg2 (vE 0) (cE (.int 2)))) (cE (.int 2))))) (seqS (augIx (fun i j => i + j) (vE 0) (cE (.int 1)) (cE (.int 1)))
  (seqS (asgS (callE ixF (arg2 (vE 0) (cE (.int 1)))) (nmG 2))
  (seqS (ifS (tst (callE leG (arg2 (callE ixF (arg2 (vE 0) (cE (.int 1)))) (callE lenG (arg1 (callE ixF (arg2 (vE 0) (cE (.int 0))))))))) (seqS (asgS (callE ixF (arg2 (callE ixF (arg2 (vE 0) (cE (.int 0)))) (callE subG (arg2 (callE ixF (arg2 (vE 0) (cE (.int 1)))) (cE (.int 1)))))) (nmG 2))
  (ifS (tst (callE geG (arg2 (vE 2) (callE powG (arg2 (cE (.int 10)) (cE (.int 18))))))) (seqS (setSA (tk (callE fdivG (arg2 (vE 2) (vE 1)))) (vE 0) (cE (.int 2)))
  (retS (callE modG (arg2 (vE 2) (vE 1))))) skipS)) skipS)
  (seqS (asgS (callE modG (arg2 (callE addG (arg2 (callE addG (arg2 (vE 2) (callE mulG (arg2 (callE ixF (arg2 (vE 0) (cE (.int 3)))) (cE (.int 31)))))) (callE mulG (arg2 (callE ixF (arg2 (vE 0) (cE (.int 1)))) (cE (.int 69061)))))) (cE (.int 2147483629)))) (nmG 3))
  (seqS (asgS (callE modG (arg2 (callE addG (arg2 (callE mulG (arg2 (vE 3) (vE 3))) (cE (.int 40961)))) (cE (.int 2147483587)))) (nmG 3))
  (retS (callE modG (arg2 (callE fdivG (arg2 (callE modG (arg2 (callE addG (arg2 (callE mulG (arg2 (vE 3) (vE 3))) (callE ixF (arg2 (vE 0) (cE (.int 1)))))) (cE (.int 1073741789)))) (cE (.int 19)))) (vE 1))))))))) skipS)
  (seqS (asgS (callE modG (arg2 (callE ixF (arg2 (vE 0) (cE (.int 2)))) (vE 1))) (nmG 4))
  (seqS (setSA (tk (callE fdivG (arg2 (callE ixF (arg2 (vE 0) (cE (.int 2)))) (vE 1)))) (vE 0) (cE (.int 2)))
  (retV 4))))
def m_law_pull : FP := fnM 2 3 [] b_law_pull
def b_law_whole : FS := (retS (andE (isiE [.int] (vE 0)) (notE (isiE [.bl] (vE 0)))))
def m_law_whole : FP := fnM 1 0 [] b_law_whole
def b_is_arrow : FS := (seqS (ifS (tst (callE (g2 neM) (arg2 (callE lenG (arg1 (vE 0))) (cE (.int 4))))) (retS (cE (.bl false))) skipS)
  (seqS (asgS (tk (vE 0)) (tupG [(nmG 2), (nmG 3), (nmG 4), (nmG 5)]))
  (retS (andE (chainE (fun i j => decide (i ≤ j)) (fun i j => decide (i < j)) (cE (.int 0)) (vE 2) (vE 1)) (andE (chainE (fun i j => decide (i ≤ j)) (fun i j => decide (i < j)) (cE (.int 0)) (vE 3) (vE 1)) (andE (callE m_is_least (consA (vE 4) nilA)) (callE m_is_weight (consA (vE 5) nilA))))))))
def m_is_arrow : FP := fnM 2 4 [] b_is_arrow
def b_is_saying : FS := (seqS (ifS (tst (callE (g2 neM) (arg2 (callE lenG (arg1 (vE 0))) (cE (.int 3))))) (retS (cE (.bl false))) skipS)
  (seqS (asgS (tk (vE 0)) (tupG [(nmG 2), (nmG 3), (nmG 4)]))
  (retS (andE (chainE (fun i j => decide (i ≤ j)) (fun i j => decide (i < j)) (cE (.int 0)) (vE 2) (vE 1)) (andE (chainE (fun i j => decide (i ≤ j)) (fun i j => decide (i < j)) (cE (.int 0)) (vE 3) (vE 1)) (andE (callE (g2 neM) (arg2 (vE 2) (vE 3))) (callE m_is_far (consA (vE 4) nilA))))))))
def m_is_saying : FP := fnM 2 3 [] b_is_saying
def m_law_alike : Nat → FP
  | 0 => fun _ => none
  | n + 1 => fnM 2 1 [] (seqS (ifS (tst (callE (g2 isNM) (arg2 (vE 1) (cE .non)))) (retS (callE (g2 isNM) (arg2 (vE 0) (cE .non)))) skipS)
  (seqS (ifS (tst (isiE [.bl] (vE 1))) (retS (andE (isiE [.bl] (vE 0)) (callE (g2 eqM) (arg2 (vE 0) (vE 1))))) skipS)
  (seqS (ifS (tst (isiE [.int] (vE 1))) (retS (andE (callE m_law_whole (consA (vE 0) nilA)) (callE (g2 eqM) (arg2 (vE 0) (vE 1))))) skipS)
  (seqS (ifS (tst (isiE [.str] (vE 1))) (retS (andE (isiE [.str] (vE 0)) (callE (g2 eqM) (arg2 (vE 0) (vE 1))))) skipS)
  (seqS (ifS (orT (tst (callE (g2 neM) (arg2 (isiE [.lst] (vE 1)) (isiE [.lst] (vE 0))))) (tst (callE (g2 neM) (arg2 (isiE [.tup] (vE 1)) (isiE [.tup] (vE 0)))))) (retS (cE (.bl false))) skipS)
  (seqS (ifS (orT (notT (tst (isiE [.lst, .tup] (vE 0)))) (tst (callE (g2 neM) (arg2 (callE lenG (arg1 (vE 0))) (callE lenG (arg1 (vE 1))))))) (retS (cE (.bl false))) skipS)
  (retS (callE (g1 (allM true)) (arg1 (compE (rng1 (callE lenG (arg1 (vE 1)))) (nmG 2) yesT (callE (m_law_alike n) (consA (callE ixF (arg2 (vE 0) (vE 2))) (consA (callE ixF (arg2 (vE 1) (vE 2))) nilA))) [2]))))))))))
def b_law_names : FS := (seqS (asgS (lstE nilA) (nmG 2))
  (seqS (asgS (lstE (consA (cE (.str "")) (consA (cE (.str "")) (consA (cE (.str "x")) (consA (cE (.str "box")) (consA (cE (.str "zzzzz")) (consA (cE (.str "a")) nilA))))))) (nmG 3))
  (seqS (forS (rng1 (vE 1)) (nmG 4) (seqS (asgS (callE addG (arg2 (callE ixF (arg2 (cE (.str "abcdefghijklmnopqrstuvwxyz")) (callE modG (arg2 (vE 4) (cE (.int 26)))))) (callE mulG (arg2 (cE (.str "q")) (callE fdivG (arg2 (vE 4) (cE (.int 26)))))))) (nmG 5))
  (exprS (bmE .lst appG (vE 2) (arg1 (tk (callE sl01 (arg2 (callE addG (arg2 (vE 5) (callE ixF (arg2 (vE 3) (callE m_law_pull (consA (vE 0) (consA (cE (.int 6)) nilA))))))) (cE (.int 6))))))))))
  (seqS (asgS (callE m_law_pull (consA (vE 0) (consA (callE (g2 maxM) (arg2 (cE (.int 1)) (vE 1))) nilA))) (nmG 6))
  (retS (callE (g1 tupleM) (arg1 (callE addG (arg2 (callE sl10 (arg2 (vE 2) (vE 6))) (callE sl01 (arg2 (vE 2) (vE 6))))))))))))
def m_law_names : FP := fnM 2 5 [] b_law_names
def b_is_web : FS := (seqS (asgS (tk (vE 0)) (tupG [(nmG 1), (nmG 2), (nmG 3)]))
  (seqS (asgS (callE lenG (arg1 (vE 1))) (nmG 4))
  (seqS (ifS (orT (tst (callE gtG (arg2 (vE 4) (cE (.int 40))))) (orT (tst (callE gtG (arg2 (callE lenG (arg1 (vE 2))) (cE (.int 80))))) (tst (callE gtG (arg2 (callE lenG (arg1 (vE 3))) (cE (.int 20))))))) (retS (cE (.bl false))) skipS)
  (seqS (ifS (orT (notT (tst (callE (g1 (allM true)) (arg1 (compE (overE itemsA (vE 1)) (nmG 5) yesT (callE m_is_name (consA (vE 5) nilA)) [5]))))) (tst (callE (g2 neM) (arg2 (lenSetE (vE 1)) (vE 4))))) (retS (cE (.bl false))) skipS)
  (retS (andE (callE (g1 (allM true)) (arg1 (compE (overE itemsA (vE 2)) (nmG 6) yesT (callE m_is_arrow (consA (vE 6) (consA (vE 4) nilA))) [6]))) (callE (g1 (allM true)) (arg1 (compE (overE itemsA (vE 3)) (nmG 6) yesT (callE m_is_saying (consA (vE 6) (consA (vE 4) nilA))) [6])))))))))
def m_is_web : FP := fnM 1 6 [] b_is_web
def b_law_drawn_web : FS := (seqS (asgS (callE ixF (arg2 (lstE (consA (callE addG (arg2 (cE (.int 1)) (callE m_law_pull (consA (vE 0) (consA (vE 1) nilA))))) (consA (cE (.int 0)) nilA))) (callE (g1 intM1) (arg1 (callE (g2 eqM) (arg2 (callE m_law_pull (consA (vE 0) (consA (cE (.int 20)) nilA))) (cE (.int 0)))))))) (nmG 4))
  (seqS (asgS (lstE nilA) (nmG 5))
  (seqS (forS (rng1 (callE mulG (arg2 (callE m_law_pull (consA (vE 0) (consA (callE addG (arg2 (vE 2) (cE (.int 1)))) nilA))) (callE (g1 intM1) (arg1 (callE gtG (arg2 (vE 4) (cE (.int 0))))))))) (nmG 6) (seqS (asgS (callE m_law_pull (consA (vE 0) (consA (vE 4) nilA))) (nmG 7))
  (seqS (asgS (callE m_law_pull (consA (vE 0) (consA (vE 4) nilA))) (nmG 8))
  (seqS (ifS (tst (callE gtG (arg2 (callE m_law_pull (consA (vE 0) (consA (cE (.int 3)) nilA))) (cE (.int 0))))) (parS 7 8 (consA (callE (g2 minM) (arg2 (vE 7) (vE 8))) (consA (callE (g2 maxM) (arg2 (vE 7) (vE 8))) nilA))) skipS)
  (exprS (bmE .lst appG (vE 5) (arg1 (tk (tupE (consA (tk (vE 7)) (consA (tk (vE 8)) (consA (callE addG (arg2 (cE (.int 1)) (callE m_law_pull (consA (vE 0) (consA (callE ixF (arg2 (lstE (consA (cE (.int 1)) (consA (cE (.int 3)) nilA))) (callE m_law_pull (consA (vE 0) (consA (cE (.int 2)) nilA))))) nilA))))) (consA (callE addG (arg2 (cE (.int 1)) (callE m_law_pull (consA (vE 0) (consA (cE (.int 9)) nilA))))) nilA)))))))))))))
  (seqS (asgS (lstE nilA) (nmG 9))
  (seqS (forS (rng1 (callE mulG (arg2 (callE m_law_pull (consA (vE 0) (consA (callE addG (arg2 (vE 3) (cE (.int 1)))) nilA))) (callE (g1 intM1) (arg1 (callE gtG (arg2 (vE 4) (cE (.int 1))))))))) (nmG 6) (seqS (asgS (callE m_law_pull (consA (vE 0) (consA (vE 4) nilA))) (nmG 7))
  (seqS (asgS (callE modG (arg2 (callE addG (arg2 (callE addG (arg2 (vE 7) (cE (.int 1)))) (callE m_law_pull (consA (vE 0) (consA (callE subG (arg2 (vE 4) (cE (.int 1)))) nilA))))) (vE 4))) (nmG 8))
  (exprS (bmE .lst appG (vE 9) (arg1 (tk (tupE (consA (tk (vE 7)) (consA (tk (vE 8)) (consA (callE ixF (arg2 (lstE (consA (callE subG (arg2 (cE (.int 0)) (cE (.int 9)))) (consA (callE subG (arg2 (cE (.int 0)) (cE (.int 2)))) (consA (callE subG (arg2 (cE (.int 0)) (cE (.int 1)))) (consA (cE (.int 0)) (consA (cE (.int 0)) (consA (cE (.int 1)) (consA (cE (.int 2)) (consA (callE subG (arg2 (callE m_law_pull (consA (vE 0) (consA (cE (.int 19)) nilA))) (cE (.int 9)))) nilA))))))))) (callE m_law_pull (consA (vE 0) (consA (cE (.int 8)) nilA))))) nilA)))))))))))
  (retS (tupE (consA (callE m_law_names (consA (vE 0) (consA (vE 4) nilA))) (consA (callE (g1 tupleM) (arg1 (vE 5))) (consA (callE (g1 tupleM) (arg1 (vE 9))) nilA))))))))))
def m_law_drawn_web : FP := fnM 4 6 [] b_law_drawn_web
def b_need_web : FS := (ifS (notT (tst (callE m_is_web (consA (vE 0) nilA)))) (raiseS "BadWeb") skipS)
def m_need_web : FP := fnM 1 0 [] b_need_web
end
end Lw
set_option Elab.async false
set_option linter.all false
set_option maxRecDepth 100000
set_option maxHeartbeats 0
set_option Elab.async false
set_option linter.all false
set_option maxRecDepth 100000
set_option maxHeartbeats 0
set_option Elab.async false
set_option linter.all false
set_option maxRecDepth 100000
set_option maxHeartbeats 0
set_option Elab.async false
set_option linter.all false
set_option maxRecDepth 100000
set_option maxHeartbeats 0
set_option Elab.async false
set_option linter.all false
set_option maxRecDepth 100000
set_option maxHeartbeats 0
set_option Elab.async false
set_option linter.all false
set_option maxRecDepth 100000
set_option maxHeartbeats 0
set_option Elab.async false
set_option linter.all false
set_option maxRecDepth 100000
set_option maxHeartbeats 0
set_option Elab.async false
set_option linter.all false
set_option maxRecDepth 100000
set_option maxHeartbeats 0
set_option Elab.async false
set_option linter.all false
set_option maxRecDepth 100000
set_option maxHeartbeats 0
set_option Elab.async false
set_option linter.all false
set_option maxRecDepth 100000
set_option maxHeartbeats 0
set_option Elab.async false
set_option linter.all false
set_option maxRecDepth 100000
set_option maxHeartbeats 0
set_option Elab.async false
set_option linter.all false
set_option maxRecDepth 100000
set_option maxHeartbeats 0
set_option Elab.async false
set_option linter.all false
set_option maxRecDepth 100000
set_option maxHeartbeats 0
set_option Elab.async false
set_option linter.all false
set_option maxRecDepth 100000
set_option maxHeartbeats 0
set_option Elab.async false
set_option linter.all false
set_option maxRecDepth 100000
set_option maxHeartbeats 0
set_option Elab.async false
set_option linter.all false
set_option maxRecDepth 100000
set_option maxHeartbeats 0
set_option Elab.async false
set_option linter.all false
set_option maxRecDepth 100000
set_option maxHeartbeats 0
set_option Elab.async false
set_option linter.all false
set_option maxRecDepth 100000
set_option maxHeartbeats 0
set_option Elab.async false
set_option linter.all false
set_option maxRecDepth 100000
set_option maxHeartbeats 0
set_option Elab.async false
set_option linter.all false
set_option maxRecDepth 100000
set_option maxHeartbeats 0
set_option Elab.async false
set_option linter.all false
set_option maxRecDepth 100000
set_option maxHeartbeats 0
set_option Elab.async false
set_option linter.all false
set_option maxRecDepth 100000
set_option maxHeartbeats 0
set_option Elab.async false
set_option linter.all false
set_option maxRecDepth 100000
set_option maxHeartbeats 0
namespace Lw
section
open PySem L2 Ink
def b_Reader___init__ : FS := (seqS (setFS "Reader" "text" (tk (vE 1)) (vE 0))
  (setFS "Reader" "at" (tk (cE (.int 0))) (vE 0)))
def m_Reader___init__ : FP := fnM 2 0 [] b_Reader___init__
def b_Reader_sign : FS := (retS (slice11E (fldE "Reader" "text" (vE 0)) (callE addG (arg2 (fldE "Reader" "at" (vE 0)) (vE 1))) (callE addG (arg2 (callE addG (arg2 (fldE "Reader" "at" (vE 0)) (vE 1))) (cE (.int 1))))))
def m_Reader_sign : FP := fnM 2 0 [] b_Reader_sign
def b_Reader_bar : FS := (raiseN "BadText" "at" (fldE "Reader" "at" (vE 0)))
def m_Reader_bar : FP := fnM 1 0 [] b_Reader_bar
def b_Draft___init__ : FS := (seqS (setFS "Draft" "known" (tk (newE (.dK []))) (vE 0))
  (seqS (setFS "Draft" "arrows" (tk (lstE nilA)) (vE 0))
  (setFS "Draft" "sayings" (tk (lstE nilA)) (vE 0))))
def m_Draft___init__ : FP := fnM 1 0 [] b_Draft___init__
def K_Draft_seen_1 : FE := (partE .dct 0 (flC "Draft" "known" 0) sdG (arg2 (tk (vE 2)) (tk (pureE (callE (g1 lenDM) (arg1 (fldE "Draft" "known" (vE 0))))))))
def b_Draft_seen : FS := (retS (compE (overE itemsA (vE 1)) (nmG 2) yesT K_Draft_seen_1 [2]))
def m_Draft_seen : FP := fnM 2 1 [] b_Draft_seen
def b_Draft_tie : FS := (seqS (asgS (tk (vE 3)) (tupG [(nmG 4), (nmG 5), (nmG 6)]))
  (seqS (ifS (tst (callE (g2 eqM) (arg2 (vE 4) (cE (.str ">"))))) (exprS (partE .lst 0 (flC "Draft" "arrows" 0) appG (arg1 (tk (tupE (consA (tk (vE 1)) (consA (tk (vE 2)) (consA (tk (vE 5)) (consA (tk (vE 6)) nilA))))))))) (exprS (partE .lst 0 (flC "Draft" "sayings" 0) appG (arg1 (tk (tupE (consA (tk (vE 1)) (consA (tk (vE 2)) (consA (tk (vE 5)) nilA)))))))))
  (ifS (tst (callE (g2 eqM) (arg2 (vE 4) (cE (.str "="))))) (exprS (partE .lst 0 (flC "Draft" "sayings" 0) appG (arg1 (tk (tupE (consA (tk (vE 2)) (consA (tk (vE 1)) (consA (tk (vE 5)) nilA)))))))) skipS)))
def m_Draft_tie : FP := fnM 4 3 [] b_Draft_tie
def b_Draft_web : FS := (retS (pureE (tupE (consA (callE (g1 tupleM) (arg1 (callE (g1 listDM) (arg1 (fldE "Draft" "known" (vE 0)))))) (consA (callE (g1 tupleM) (arg1 (fldE "Draft" "arrows" (vE 0)))) (consA (callE (g1 tupleM) (arg1 (fldE "Draft" "sayings" (vE 0)))) nilA))))))
def m_Draft_web : FP := fnM 1 0 [] b_Draft_web
def b_arrow_text : FS := (seqS (asgS (tk (vE 1)) (tupG [(nmG 2), (nmG 3), (nmG 4), (nmG 5)]))
  (seqS (asgS (cE (.str ">")) (nmG 6))
  (seqS (ifS (tst (callE (g2 neM) (arg2 (vE 4) (cE (.int 1))))) (augNm 6 (g2 iaddM) (callE (g1 strM) (arg1 (vE 4)))) skipS)
  (seqS (ifS (tst (callE (g2 neM) (arg2 (vE 5) (cE (.int 1))))) (augNm 6 (g2 iaddM) (jsE [(cE (.str "x")), (fmtE (vE 5))] Str.empty)) skipS)
  (retS (jsE [(fmtE (callE ixF (arg2 (vE 0) (vE 2)))), (cE (.str " ")), (fmtE (vE 6)), (cE (.str " ")), (fmtE (callE ixF (arg2 (vE 0) (vE 3))))] Str.empty))))))
def m_arrow_text : FP := fnM 2 5 [] b_arrow_text
def T_Reader_pass_blanks_1 : FT := (tst (callE (g2 eqM) (arg2 (methE "Reader" "sign" (dflI 0 m_Reader_sign) (vE 0) nilA) (cE (.str " ")))))
noncomputable def b_Reader_pass_blanks : FS := (whileS T_Reader_pass_blanks_1 (augFS "Reader" "at" 0 (· + ·) (cE (.int 1))))
noncomputable def m_Reader_pass_blanks : FP := fnM 1 0 [] b_Reader_pass_blanks
def b_Reader_take : FS := (seqS (asgS (methE "Reader" "sign" (dflI 0 m_Reader_sign) (vE 0) nilA) (nmG 2))
  (seqS (ifS (orT (tst (callE (g2 eqM) (arg2 (vE 2) (cE (.str ""))))) (tst (callE (g2 (inF true)) (arg2 (vE 2) (vE 1))))) (retS (cE (.str ""))) skipS)
  (seqS (augFS "Reader" "at" 0 (· + ·) (cE (.int 1)))
  (retV 2))))
def m_Reader_take : FP := fnM 2 1 [] b_Reader_take
def L_Draft_linked_1 : FS := (exprS (methE "Draft" "tie" m_Draft_tie (vE 0) (consA (vE 4) (consA (vE 5) (consA (vE 3) nilA)))))
def b_Draft_linked : FS := (forS (overE itemsA (vE 1)) (nmG 4) (forS (overE itemsA (vE 2)) (nmG 5) L_Draft_linked_1))
def m_Draft_linked : FP := fnM 4 2 [] b_Draft_linked
def L_Reader_name_1 : FS := (augNm 1 (g2 iaddM) (methE "Reader" "take" m_Reader_take (vE 0) (consA (cE (.str "abcdefghijklmnopqrstuvwxyz")) nilA)))
def T_Reader_name_1 : FT := (andT (tst (callE ltG (arg2 (callE lenG (arg1 (vE 1))) (cE (.int 6))))) (andT (tst (callE (g2 neM) (arg2 (methE "Reader" "sign" (dflI 0 m_Reader_sign) (vE 0) nilA) (cE (.str ""))))) (tst (callE (g2 (inF false)) (arg2 (methE "Reader" "sign" (dflI 0 m_Reader_sign) (vE 0) nilA) (cE (.str "abcdefghijklmnopqrstuvwxyz")))))))
noncomputable def b_Reader_name : FS := (seqS (exprS (methE "Reader" "pass_blanks" m_Reader_pass_blanks (vE 0) nilA))
  (seqS (asgS (cE (.str "")) (nmG 1))
  (seqS (whileS T_Reader_name_1 L_Reader_name_1)
  (seqS (ifS (tst (callE (g2 eqM) (arg2 (vE 1) (cE (.str ""))))) (exprS (methE "Reader" "bar" m_Reader_bar (vE 0) nilA)) skipS)
  (retV 1)))))
noncomputable def m_Reader_name : FP := fnM 1 1 [] b_Reader_name
noncomputable def b_Reader_link : FS := (seqS (exprS (methE "Reader" "pass_blanks" m_Reader_pass_blanks (vE 0) nilA))
  (seqS (ifS (tst (callE (g2 neM) (arg2 (methE "Reader" "take" m_Reader_take (vE 0) (consA (cE (.str "=")) nilA)) (cE (.str ""))))) (retS (tupE (consA (cE (.str "=")) (consA (cE (.int 0)) (consA (cE (.int 0)) nilA))))) skipS)
  (seqS (ifS (tst (callE (g2 neM) (arg2 (methE "Reader" "take" m_Reader_take (vE 0) (consA (cE (.str "<")) nilA)) (cE (.str ""))))) (seqS (asgS (methE "Reader" "take" m_Reader_take (vE 0) (consA (cE (.str "-")) nilA)) (nmG 1))
  (seqS (asgS (methE "Reader" "take" m_Reader_take (vE 0) (consA (cE (.str "0123456789")) nilA)) (nmG 2))
  (seqS (ifS (tst (callE (g2 eqM) (arg2 (vE 2) (cE (.str ""))))) (exprS (methE "Reader" "bar" m_Reader_bar (vE 0) nilA)) skipS)
  (retS (tupE (consA (cE (.str "<")) (consA (ifE (tst (callE (g2 neM) (arg2 (vE 1) (cE (.str ""))))) (callE subG (arg2 (cE (.int 0)) (callE (g1 intAM) (arg1 (vE 2))))) (callE (g1 intAM) (arg1 (vE 2)))) (consA (cE (.int 0)) nilA)))))))) skipS)
  (seqS (ifS (tst (callE (g2 eqM) (arg2 (methE "Reader" "take" m_Reader_take (vE 0) (consA (cE (.str ">")) nilA)) (cE (.str ""))))) (retS (cE .non)) skipS)
  (seqS (asgS (callE (g1 intAM) (arg1 (orTE (methE "Reader" "take" m_Reader_take (vE 0) (consA (cE (.str "123")) nilA)) (cE (.str "1"))))) (nmG 3))
  (seqS (asgS (cE (.int 1)) (nmG 4))
  (seqS (ifS (andT (tst (callE (g2 eqM) (arg2 (methE "Reader" "sign" (dflI 0 m_Reader_sign) (vE 0) nilA) (cE (.str "x"))))) (andT (tst (callE (g2 neM) (arg2 (methE "Reader" "sign" m_Reader_sign (vE 0) (consA (cE (.int 1)) nilA)) (cE (.str ""))))) (tst (callE (g2 (inF false)) (arg2 (methE "Reader" "sign" m_Reader_sign (vE 0) (consA (cE (.int 1)) nilA)) (cE (.str "123456789"))))))) (seqS (augFS "Reader" "at" 0 (· + ·) (cE (.int 1)))
  (asgS (callE (g2 int10M) (arg2 (methE "Reader" "take" m_Reader_take (vE 0) (consA (cE (.str "123456789")) nilA)) (cE (.int 10)))) (nmG 4))) skipS)
  (retS (tupE (consA (cE (.str ">")) (consA (mvE 3) (consA (mvE 4) nilA))))))))))))
noncomputable def m_Reader_link : FP := fnM 1 4 [] b_Reader_link
noncomputable def L_Reader_group_1 : FS := (seqS (exprS (bmE .lst appG (vE 1) (arg1 (tk (methE "Reader" "name" m_Reader_name (vE 0) nilA)))))
  (exprS (methE "Reader" "pass_blanks" m_Reader_pass_blanks (vE 0) nilA)))
def T_Reader_group_1 : FT := (tst (callE (g2 neM) (arg2 (methE "Reader" "take" m_Reader_take (vE 0) (consA (cE (.str ",")) nilA)) (cE (.str "")))))
noncomputable def b_Reader_group : FS := (seqS (exprS (methE "Reader" "pass_blanks" m_Reader_pass_blanks (vE 0) nilA))
  (seqS (ifS (tst (callE (g2 eqM) (arg2 (methE "Reader" "take" m_Reader_take (vE 0) (consA (cE (.str "(")) nilA)) (cE (.str ""))))) (retS (lstE (consA (methE "Reader" "name" m_Reader_name (vE 0) nilA) nilA))) skipS)
  (seqS (asgS (lstE (consA (methE "Reader" "name" m_Reader_name (vE 0) nilA) nilA)) (nmG 1))
  (seqS (exprS (methE "Reader" "pass_blanks" m_Reader_pass_blanks (vE 0) nilA))
  (seqS (whileS T_Reader_group_1 L_Reader_group_1)
  (seqS (ifS (tst (callE (g2 eqM) (arg2 (methE "Reader" "take" m_Reader_take (vE 0) (consA (cE (.str ")")) nilA)) (cE (.str ""))))) (exprS (methE "Reader" "bar" m_Reader_bar (vE 0) nilA)) skipS)
  (retV 1)))))))
noncomputable def m_Reader_group : FP := fnM 1 1 [] b_Reader_group
noncomputable def L_read_statement_1 : FS := (seqS (asgS (methE "Draft" "seen" m_Draft_seen (vE 1) (consA (methE "Reader" "group" m_Reader_group (vE 0) nilA) nilA)) (nmG 4))
  (seqS (exprS (methE "Draft" "linked" m_Draft_linked (vE 1) (consA (vE 2) (consA (vE 4) (consA (vE 3) nilA)))))
  (seqS (asgS (tk (vE 4)) (nmG 2))
  (asgS (methE "Reader" "link" m_Reader_link (vE 0) nilA) (nmG 3)))))
noncomputable def b_read_statement : FS := (seqS (asgS (methE "Draft" "seen" m_Draft_seen (vE 1) (consA (methE "Reader" "group" m_Reader_group (vE 0) nilA) nilA)) (nmG 2))
  (seqS (asgS (methE "Reader" "link" m_Reader_link (vE 0) nilA) (nmG 3))
  (whileS (tst (callE (g2 notNM) (arg2 (vE 3) (cE .non)))) L_read_statement_1)))
noncomputable def m_read_statement : FP := fnM 2 3 [] b_read_statement
def K_web_text_1 : FE := (jsE [(fmtE (callE ixF (arg2 (vE 1) (vE 6)))), (cE (.str " <")), (fmtE (vE 8)), (cE (.str " ")), (fmtE (callE ixF (arg2 (vE 1) (vE 7))))] Str.empty)
def b_web_text : FS := (seqS (exprS (callE m_need_web (consA (vE 0) nilA)))
  (seqS (asgS (tk (vE 0)) (tupG [(nmG 1), (nmG 2), (nmG 3)]))
  (seqS (asgS (callE addG (arg2 (callE (g1 listDM) (arg1 (vE 1))) (compE (overE itemsA (vE 2)) (nmG 5) yesT (callE m_arrow_text (consA (vE 1) (consA (vE 5) nilA))) [5]))) (nmG 4))
  (retS (bmE .str joinG (cE (.str "; ")) (arg1 (callE addG (arg2 (vE 4) (compE (overE itemsA (vE 3)) (tupG [(nmG 6), (nmG 7), (nmG 8)]) yesT K_web_text_1 [6, 7, 8])))))))))
def m_web_text : FP := fnM 1 8 [] b_web_text
noncomputable def L_read_web_1 : FS := (exprS (callE m_read_statement (consA (vE 1) (consA (vE 2) nilA))))
def T_read_web_1 : FT := (tst (callE (g2 neM) (arg2 (methE "Reader" "take" m_Reader_take (vE 1) (consA (cE (.str ";")) nilA)) (cE (.str "")))))
noncomputable def b_read_web : FS := (seqS (asgS (mkE "Reader" m_Reader___init__ (consA (tk (vE 0)) nilA)) (nmG 1))
  (seqS (asgS (mkE "Draft" m_Draft___init__ nilA) (nmG 2))
  (seqS (exprS (methE "Reader" "pass_blanks" m_Reader_pass_blanks (vE 1) nilA))
  (seqS (ifS (tst (callE (g2 neM) (arg2 (methE "Reader" "sign" (dflI 0 m_Reader_sign) (vE 1) nilA) (cE (.str ""))))) (seqS (exprS (callE m_read_statement (consA (vE 1) (consA (vE 2) nilA))))
  (whileS T_read_web_1 L_read_web_1)) skipS)
  (seqS (ifS (tst (callE (g2 neM) (arg2 (methE "Reader" "sign" (dflI 0 m_Reader_sign) (vE 1) nilA) (cE (.str ""))))) (exprS (methE "Reader" "bar" m_Reader_bar (vE 1) nilA)) skipS)
  (seqS (ifS (notT (tst (callE m_is_web (consA (methE "Draft" "web" m_Draft_web (vE 2) nilA) nilA)))) (raiseN "BadText" "at" (callE lenG (arg1 (vE 0)))) skipS)
  (retS (methE "Draft" "web" m_Draft_web (vE 2) nilA))))))))
noncomputable def m_read_web : FP := fnM 1 2 [] b_read_web
end
end Lw
set_option Elab.async false
set_option linter.all false
set_option maxRecDepth 100000
set_option maxHeartbeats 0
namespace Lw
section
open PySem L2 Ink PyProof.Rows
def methN (s : Stmt) (j : Nat) : Stmt := match s with
  | .ClassDef (body := b) .. => b.getD j (.Pass ⟨0, 0, 0, 0⟩)
  | _ => .Pass ⟨0, 0, 0, 0⟩
def top (i : Nat) (j : Nat := 0) : Stmt := match j with
  | 0 => PySem.Challenge.pw_layerink_k27_whole_webs_written_and_read.main.body.getD i (.Pass ⟨0, 0, 0, 0⟩)
  | j + 1 => methN (PySem.Challenge.pw_layerink_k27_whole_webs_written_and_read.main.body.getD i (.Pass ⟨0, 0, 0, 0⟩)) j
def methI (s : Stmt) : Stmt := match s with
  | .ClassDef (body := b) .. => b.getD 0 (.Pass ⟨0, 0, 0, 0⟩)
  | _ => .Pass ⟨0, 0, 0, 0⟩
structure Txt (K : PySem.W.Frag) (mg : Str → Option Value) : Prop where
  b_ValueError : mg "ValueError" = none
  b_abs : mg "abs" = none
  b_all : mg "all" = none
  b_bool : mg "bool" = none
  b_int : mg "int" = none
  b_isinstance : mg "isinstance" = none
  b_len : mg "len" = none
  b_list : mg "list" = none
  b_max : mg "max" = none
  b_min : mg "min" = none
  b_range : mg "range" = none
  b_set : mg "set" = none
  b_str : mg "str" = none
  b_tuple : mg "tuple" = none
  c_LETTERS : ∃ t, mg "LETTERS" = some (.str "abcdefghijklmnopqrstuvwxyz" t)
  c_LONGEST : ∃ t, mg "LONGEST" = some (.int 6 t)
  c_MOST_BOXES : ∃ t, mg "MOST_BOXES" = some (.int 40 t)
  c_MOST_ARROWS : ∃ t, mg "MOST_ARROWS" = some (.int 80 t)
  c_MOST_SAYINGS : ∃ t, mg "MOST_SAYINGS" = some (.int 20 t)
  c_MOST_LEAST : ∃ t, mg "MOST_LEAST" = some (.int 3 t)
  c_MOST_WEIGHT : ∃ t, mg "MOST_WEIGHT" = some (.int 9 t)
  c_MOST_FAR : ∃ t, mg "MOST_FAR" = some (.int 9 t)
  c_LEASTS : ∃ t, mg "LEASTS" = some (.str "123" t)
  c_WEIGHTS : ∃ t, mg "WEIGHTS" = some (.str "123456789" t)
  c_FIGURES : ∃ t, mg "FIGURES" = some (.str "0123456789" t)
  g_BadText : mg "BadText" = some (.ref (He.ga K "BadText"))
  g_BadWeb : mg "BadWeb" = some (.ref (He.ga K "BadWeb"))
  g_InkError : mg "InkError" = some (.ref (He.ga K "InkError"))
  x_BadWeb : ExcK K "BadWeb"
  g_Reader : mg "Reader" = some (.ref (He.ga K "Reader"))
  k_Reader : Cls K (He.ga K "Reader")
  g_Draft : mg "Draft" = some (.ref (He.ga K "Draft"))
  k_Draft : Cls K (He.ga K "Draft")
  f_Reader_text : FdI K "Reader" "text"
  f_Reader_at : FdI K "Reader" "at"
  f_Draft_known : FdI K "Draft" "known"
  f_Draft_arrows : FdI K "Draft" "arrows"
  f_Draft_sayings : FdI K "Draft" "sayings"
section
variable {K : PySem.W.Frag} {mg : Str → Option Value}
def scope_BadText : FnScope [("self" : Str), "at"] [("self" : Str), "at"] (defScope (methI (top 3))) := ⟨rfl, rfl, rfl, by decide +kernel, rfl, by decide +kernel, by decide +kernel⟩
theorem I_BadText {P : Program} {w : World} {base : Heap} (T : Txt K mg) {fd : FuncData} (F : FunD K "__init__" "BadText.__init__" (defArgs (methI (top 3))) (defBody (methI (top 3))) (defScope (methI (top 3))) [] [] (iAd K "BadText") fd) (c : InitC K "BadText" "InkError" "at") : InitN P w K mg base "BadText" "InkError" "at" :=
  initN_mk c T.g_BadText T.g_InkError F scope_BadText rfl rfl rfl rfl (by decide) (by decide) (by decide) (by decide) (fun _ _ _ => ⟨_, rfl⟩) (fun _ _ _ _ _ _ us hl => match us, hl with | [_, _], _ => rfl)
end
def L_law_1 : FS := (exprS (bmE .lst appG (vE 5) (arg1 (tk (bmE .str joinG (cE (.str " ")) (arg1 (lstE (consA (callE ixF (arg2 (callE ixF (arg2 (vE 4) (cE (.int 0)))) (vE 6))) (consA (callE addG (arg2 (cE (.str "<")) (callE (g1 strM) (arg1 (vE 8))))) (consA (callE ixF (arg2 (callE ixF (arg2 (vE 4) (cE (.int 0)))) (vE 7))) nilA))))))))))
def L_law_2 : FS := (seqS (asgS (callE addG (arg2 (callE addG (arg2 (cE (.str ">")) (callE mulG (arg2 (callE (g1 strM) (arg1 (vE 8))) (callE (g1 intM1) (arg1 (callE gtG (arg2 (vE 8) (cE (.int 1)))))))))) (callE mulG (arg2 (callE addG (arg2 (cE (.str "x")) (callE (g1 strM) (arg1 (vE 9))))) (callE (g1 intM1) (arg1 (callE gtG (arg2 (vE 9) (cE (.int 1)))))))))) (nmG 10))
  (exprS (bmE .lst appG (vE 5) (arg1 (tk (bmE .str joinG (cE (.str " ")) (arg1 (lstE (consA (callE ixF (arg2 (callE ixF (arg2 (vE 4) (cE (.int 0)))) (vE 6))) (consA (tk (vE 10)) (consA (callE ixF (arg2 (callE ixF (arg2 (vE 4) (cE (.int 0)))) (vE 7))) nilA)))))))))))
noncomputable def L_law_3 : FS := (seqS (asgS (callE ixF (arg2 (lstE (consA (cE (.int 4)) (consA (cE (.int 9)) (consA (cE (.int 40)) nilA)))) (callE m_law_pull (consA (vE 1) (consA (cE (.int 3)) nilA))))) (nmG 3))
  (seqS (asgS (callE m_law_drawn_web (consA (vE 1) (consA (vE 3) (consA (callE ixF (arg2 (lstE (consA (cE (.int 9)) (consA (cE (.int 80)) nilA))) (callE m_law_pull (consA (vE 1) (consA (cE (.int 2)) nilA))))) (consA (callE ixF (arg2 (lstE (consA (cE (.int 3)) (consA (cE (.int 20)) nilA))) (callE m_law_pull (consA (vE 1) (consA (cE (.int 2)) nilA))))) nilA))))) (nmG 4))
  (seqS (asgS (callE (g1 listDM) (arg1 (callE ixF (arg2 (vE 4) (cE (.int 0)))))) (nmG 5))
  (seqS (forS (overE itemsA (callE ixF (arg2 (vE 4) (cE (.int 1))))) (tupG [(nmG 6), (nmG 7), (nmG 8), (nmG 9)]) L_law_2)
  (seqS (forS (overE itemsA (callE ixF (arg2 (vE 4) (cE (.int 2))))) (tupG [(nmG 6), (nmG 7), (nmG 8)]) L_law_1)
  (seqS (asgS (bmE .str joinG (cE (.str "; ")) (arg1 (vE 5))) (nmG 11))
  (ifS (orT (notT (tst (pureE (callE (m_law_alike 6) (consA (frE (callE m_web_text (consA (vE 4) nilA))) (consA (vE 11) nilA)))))) (notT (tst (pureE (callE (m_law_alike 6) (consA (frE (callE m_read_web (consA (vE 11) nilA))) (consA (vE 4) nilA))))))) (retS (cE (.bl false))) skipS)))))))
noncomputable def b_law : FS := (seqS (asgS (callE m_law_bag (consA (vE 0) nilA)) (nmG 1))
  (seqS (forS (rng1 (cE (.int 3))) (nmG 2) L_law_3)
  (retS (cE (.bl true)))))
noncomputable def m_law : FP := fnM 1 11 [] b_law
variable {P : Program} {w : World} {K : PySem.W.Frag} {mg : Str → Option Value} {base : Heap}
abbrev N_is_name : List Str := ["name", "sign"]
theorem sc_is_name : FnScope ["name", "sign"] ["name"] (defScope (top 13)) := ⟨rfl, rfl, rfl, by decide +kernel, rfl, by decide +kernel, by decide +kernel⟩
theorem G_is_name (T : Txt K mg) {f : Addr} {fd : FuncData} (F : FunD K "is_name" "is_name" (defArgs (top 13)) (defBody (top 13)) (defScope (top 13)) [] [] f fd) (hm : mg "is_name" = some (.ref f)) : Fn P w K mg base 1 "is_name" ["name"] m_is_name := by
  refine fn_mk (N := ["name", "sign"]) (asg := []) F sc_is_name rfl rfl hm (fun _ _ _ _ _ _ us hl => match us, hl with | [_], _ => rfl) (fun cdv A outer s H Ex hr => ?_)
  have sc := sc_is_name
  have po := passes_of (X := cxOf (L2.CX P w) P w K mg base ["name", "sign"] "is_name" (defScope (top 13)) f cdv A outer s H Ex) rfl
  have tk := takes_of (X := cxOf (L2.CX P w) P w K mg base ["name", "sign"] "is_name" (defScope (top 13)) f cdv A outer s H Ex) (E := Ex) rfl rfl rfl rfl
  exact (s_one (s_ret (e_and (e_chain op_le op_le e_int (e_len rfl T.b_len (e_v 0)) (e_globI rfl T.c_LONGEST)) (e_one (e_all rfl rfl T.b_all (e_lc (own := [("sign", 1)]) (S := [1]) rfl sc.nd (i_seq (e_v 0)) (blkOk_by (N := N_is_name) (sc := defScope (top 13)) (own := [("sign", 1)]) (by decide +kernel)) (fun _ _ _ _ _ => (g_name (i := 1) sc.nd rfl (by first | exact Or.inl rfl | exact Or.inr rfl))) (fun _ _ _ _ _ => (ts_nil rfl)) (fun _ _ _ _ _ => (e_inF hr.units (e_v 1) (e_globS rfl T.c_LETTERS)))))))))
theorem sc_is_least : FnScope ["least"] ["least"] (defScope (top 14)) := ⟨rfl, rfl, rfl, by decide +kernel, rfl, by decide +kernel, by decide +kernel⟩
theorem G_is_least (T : Txt K mg) {f : Addr} {fd : FuncData} (F : FunD K "is_least" "is_least" (defArgs (top 14)) (defBody (top 14)) (defScope (top 14)) [] [] f fd) (hm : mg "is_least" = some (.ref f)) : Fn P w K mg base 1 "is_least" ["least"] m_is_least := by
  refine fn_mk (N := ["least"]) (asg := []) F sc_is_least rfl rfl hm (fun _ _ _ _ _ _ us hl => match us, hl with | [_], _ => rfl) (fun cdv A outer s H Ex hr => ?_)
  have sc := sc_is_least
  have po := passes_of (X := cxOf (L2.CX P w) P w K mg base ["least"] "is_least" (defScope (top 14)) f cdv A outer s H Ex) rfl
  have tk := takes_of (X := cxOf (L2.CX P w) P w K mg base ["least"] "is_least" (defScope (top 14)) f cdv A outer s H Ex) (E := Ex) rfl rfl rfl rfl
  exact (s_one (s_ret (e_chain op_le op_le e_int (e_v 0) (e_globI rfl T.c_MOST_LEAST))))
theorem sc_is_weight : FnScope ["weight"] ["weight"] (defScope (top 15)) := ⟨rfl, rfl, rfl, by decide +kernel, rfl, by decide +kernel, by decide +kernel⟩
theorem G_is_weight (T : Txt K mg) {f : Addr} {fd : FuncData} (F : FunD K "is_weight" "is_weight" (defArgs (top 15)) (defBody (top 15)) (defScope (top 15)) [] [] f fd) (hm : mg "is_weight" = some (.ref f)) : Fn P w K mg base 1 "is_weight" ["weight"] m_is_weight := by
  refine fn_mk (N := ["weight"]) (asg := []) F sc_is_weight rfl rfl hm (fun _ _ _ _ _ _ us hl => match us, hl with | [_], _ => rfl) (fun cdv A outer s H Ex hr => ?_)
  have sc := sc_is_weight
  have po := passes_of (X := cxOf (L2.CX P w) P w K mg base ["weight"] "is_weight" (defScope (top 15)) f cdv A outer s H Ex) rfl
  have tk := takes_of (X := cxOf (L2.CX P w) P w K mg base ["weight"] "is_weight" (defScope (top 15)) f cdv A outer s H Ex) (E := Ex) rfl rfl rfl rfl
  exact (s_one (s_ret (e_chain op_le op_le e_int (e_v 0) (e_globI rfl T.c_MOST_WEIGHT))))
theorem sc_is_far : FnScope ["least"] ["least"] (defScope (top 16)) := ⟨rfl, rfl, rfl, by decide +kernel, rfl, by decide +kernel, by decide +kernel⟩
theorem G_is_far (T : Txt K mg) {f : Addr} {fd : FuncData} (F : FunD K "is_far" "is_far" (defArgs (top 16)) (defBody (top 16)) (defScope (top 16)) [] [] f fd) (hm : mg "is_far" = some (.ref f)) : Fn P w K mg base 1 "is_far" ["least"] m_is_far := by
  refine fn_mk (N := ["least"]) (asg := []) F sc_is_far rfl rfl hm (fun _ _ _ _ _ _ us hl => match us, hl with | [_], _ => rfl) (fun cdv A outer s H Ex hr => ?_)
  have sc := sc_is_far
  have po := passes_of (X := cxOf (L2.CX P w) P w K mg base ["least"] "is_far" (defScope (top 16)) f cdv A outer s H Ex) rfl
  have tk := takes_of (X := cxOf (L2.CX P w) P w K mg base ["least"] "is_far" (defScope (top 16)) f cdv A outer s H Ex) (E := Ex) rfl rfl rfl rfl
  exact (s_one (s_ret (e_le (e_abs rfl T.b_abs (e_v 0)) (e_globI rfl T.c_MOST_FAR))))
theorem sc_Reader___init__ : FnScope ["self", "text"] ["self", "text"] (defScope (top 25 1)) := ⟨rfl, rfl, rfl, by decide +kernel, rfl, by decide +kernel, by decide +kernel⟩
theorem G_Reader___init__ (T : Txt K mg) {f : Addr} {fd : FuncData} (F : FunD K "__init__" "Reader.__init__" (defArgs (top 25 1)) (defBody (top 25 1)) (defScope (top 25 1)) [] [] f fd) (hm : Mk K (He.ga K "Reader") f) : MkI P w K mg base 1 "Reader" ["self", "text"] m_Reader___init__ := by
  refine mk_mk (N := ["self", "text"]) (asg := []) hm T.g_Reader F sc_Reader___init__ rfl rfl (fun _ _ _ _ _ _ us hl => match us, hl with | [_, _], _ => rfl) (fun cdv A outer s H Ex hr => ?_)
  have sc := sc_Reader___init__
  have po := passes_of (X := cxOf (L2.CX P w) P w K mg base ["self", "text"] "Reader.__init__" (defScope (top 25 1)) f cdv A outer s H Ex) rfl
  have tk := takes_of (X := cxOf (L2.CX P w) P w K mg base ["self", "text"] "Reader.__init__" (defScope (top 25 1)) f cdv A outer s H Ex) (E := Ex) rfl rfl rfl rfl
  exact (s_cons (s_fld T.f_Reader_text (e_v 0) (e_v 1))
  (s_one (s_fld T.f_Reader_at (e_v 0) e_int)))
theorem sc_Reader_sign : FnScope ["self", "more"] ["self", "more"] (defScope (top 25 2)) := ⟨rfl, rfl, rfl, by decide +kernel, rfl, by decide +kernel, by decide +kernel⟩
theorem G_Reader_sign (T : Txt K mg) {f : Addr} {fd : FuncData} (F : FunD K "sign" "Reader.sign" (defArgs (top 25 2)) (defBody (top 25 2)) (defScope (top 25 2)) [V.int 0] [] f fd) (hm : Meth K (He.ga K "Reader") "sign" f) : MtI P w K mg base 1 "Reader" "sign" ["self", "more"] [0] m_Reader_sign := by
  refine mt_mkI (ns := [0]) (N := ["self", "more"]) (asg := []) T.k_Reader hm F sc_Reader_sign rfl rfl (by decide) (by decide) (fun j hj T kV doc pm an cdv ct us its hl h2 => match j, hj, T, kV, doc, pm, an, cdv, ct, us, its, hl, h2 with | 0, _, _, _, _, _, _, _, _, us, its, hl, h2 => (match us, hl, its, h2 with | [_], _, [_], _ => ⟨_, rfl, rfl⟩) | 1, _, _, _, _, _, _, _, _, us, its, hl, h2 => (match us, hl, its, h2 with | [_, _], _, [_], _ => ⟨_, rfl, rfl⟩) | kk + 2, hj, _, _, _, _, _, _, _, _, _, _, _ => absurd hj (by simp)) (fun cdv A outer s H Ex hr => ?_)
  have sc := sc_Reader_sign
  have po := passes_of (X := cxOf (L2.CX P w) P w K mg base ["self", "more"] "Reader.sign" (defScope (top 25 2)) f cdv A outer s H Ex) rfl
  have tk := takes_of (X := cxOf (L2.CX P w) P w K mg base ["self", "more"] "Reader.sign" (defScope (top 25 2)) f cdv A outer s H Ex) (E := Ex) rfl rfl rfl rfl
  exact (s_one (s_ret (e_slice11 (e_fld T.f_Reader_text (e_v 0)) (e_add (e_fld T.f_Reader_at (e_v 0)) (e_v 1)) (e_add (e_add (e_fld T.f_Reader_at (e_v 0)) (e_v 1)) e_int))))
theorem sc_Reader_bar : FnScope ["self"] ["self"] (defScope (top 25 3)) := ⟨rfl, rfl, rfl, by decide +kernel, rfl, by decide +kernel, by decide +kernel⟩
theorem G_Reader_bar (T : Txt K mg) {f : Addr} {fd : FuncData} (F : FunD K "bar" "Reader.bar" (defArgs (top 25 3)) (defBody (top 25 3)) (defScope (top 25 3)) [] [] f fd) (hm : Meth K (He.ga K "Reader") "bar" f) (IF_BadText : InitN P w K mg base "BadText" "InkError" "at") : MtI P w K mg base 3 "Reader" "bar" ["self"] [] m_Reader_bar := by
  refine mt_mk (N := ["self"]) (asg := []) T.k_Reader hm F sc_Reader_bar rfl rfl (fun _ _ _ _ _ _ us hl => match us, hl with | [_], _ => rfl) (fun cdv A outer s H Ex hr => ?_)
  have sc := sc_Reader_bar
  have po := passes_of (X := cxOf (L2.CX P w) P w K mg base ["self"] "Reader.bar" (defScope (top 25 3)) f cdv A outer s H Ex) rfl
  have tk := takes_of (X := cxOf (L2.CX P w) P w K mg base ["self"] "Reader.bar" (defScope (top 25 3)) f cdv A outer s H Ex) (E := Ex) rfl rfl rfl rfl
  exact (s_one (s_raiseN rfl tk IF_BadText (hr.mono (by omega)) rfl (e_fld T.f_Reader_at (e_v 0))))
theorem sc_Draft___init__ : FnScope ["self"] ["self"] (defScope (top 26 1)) := ⟨rfl, rfl, rfl, by decide +kernel, rfl, by decide +kernel, by decide +kernel⟩
theorem G_Draft___init__ (T : Txt K mg) {f : Addr} {fd : FuncData} (F : FunD K "__init__" "Draft.__init__" (defArgs (top 26 1)) (defBody (top 26 1)) (defScope (top 26 1)) [] [] f fd) (hm : Mk K (He.ga K "Draft") f) : MkI P w K mg base 1 "Draft" ["self"] m_Draft___init__ := by
  refine mk_mk (N := ["self"]) (asg := []) hm T.g_Draft F sc_Draft___init__ rfl rfl (fun _ _ _ _ _ _ us hl => match us, hl with | [_], _ => rfl) (fun cdv A outer s H Ex hr => ?_)
  have sc := sc_Draft___init__
  have po := passes_of (X := cxOf (L2.CX P w) P w K mg base ["self"] "Draft.__init__" (defScope (top 26 1)) f cdv A outer s H Ex) rfl
  have tk := takes_of (X := cxOf (L2.CX P w) P w K mg base ["self"] "Draft.__init__" (defScope (top 26 1)) f cdv A outer s H Ex) (E := Ex) rfl rfl rfl rfl
  exact (s_cons (s_fld T.f_Draft_known (e_v 0) e_dnewK)
  (s_cons (s_fld T.f_Draft_arrows (e_v 0) (e_lst a_nil))
  (s_one (s_fld T.f_Draft_sayings (e_v 0) (e_lst a_nil)))))
abbrev N_Draft_seen : List Str := ["self", "group", "name"]
theorem sc_Draft_seen : FnScope ["self", "group", "name"] ["self", "group"] (defScope (top 26 2)) := ⟨rfl, rfl, rfl, by decide +kernel, rfl, by decide +kernel, by decide +kernel⟩
theorem G_Draft_seen (T : Txt K mg) {f : Addr} {fd : FuncData} (F : FunD K "seen" "Draft.seen" (defArgs (top 26 2)) (defBody (top 26 2)) (defScope (top 26 2)) [] [] f fd) (hm : Meth K (He.ga K "Draft") "seen" f) : MtI P w K mg base 1 "Draft" "seen" ["self", "group"] [] m_Draft_seen := by
  refine mt_mk (N := ["self", "group", "name"]) (asg := []) T.k_Draft hm F sc_Draft_seen rfl rfl (fun _ _ _ _ _ _ us hl => match us, hl with | [_, _], _ => rfl) (fun cdv A outer s H Ex hr => ?_)
  have sc := sc_Draft_seen
  have po := passes_of (X := cxOf (L2.CX P w) P w K mg base ["self", "group", "name"] "Draft.seen" (defScope (top 26 2)) f cdv A outer s H Ex) rfl
  have tk := takes_of (X := cxOf (L2.CX P w) P w K mg base ["self", "group", "name"] "Draft.seen" (defScope (top 26 2)) f cdv A outer s H Ex) (E := Ex) rfl rfl rfl rfl
  exact (s_one (s_ret (e_lc (own := [("name", 2)]) (S := [2]) rfl sc.nd (i_seq (e_v 1)) (blkOk_by (N := N_Draft_seen) (sc := defScope (top 26 2)) (own := [("name", 2)]) (by decide +kernel)) (fun _ _ _ _ _ => (g_name (i := 2) sc.nd rfl (by first | exact Or.inl rfl | exact Or.inr rfl))) (fun _ _ _ _ _ => (ts_nil rfl)) (fun _ _ _ _ _ => (e_psd (c_fl (i := 0) T.f_Draft_known) (e_v 2) (e_pure (e_lenD rfl T.b_len (e_fld T.f_Draft_known (e_v 0)))))))))
theorem sc_Draft_tie : FnScope ["self", "one", "other", "link", "word", "least", "weight"] ["self", "one", "other", "link"] (defScope (top 26 3)) := ⟨rfl, rfl, rfl, by decide +kernel, rfl, by decide +kernel, by decide +kernel⟩
theorem G_Draft_tie (T : Txt K mg) {f : Addr} {fd : FuncData} (F : FunD K "tie" "Draft.tie" (defArgs (top 26 3)) (defBody (top 26 3)) (defScope (top 26 3)) [] [] f fd) (hm : Meth K (He.ga K "Draft") "tie" f) : MtI P w K mg base 1 "Draft" "tie" ["self", "one", "other", "link"] [] m_Draft_tie := by
  refine mt_mk (N := ["self", "one", "other", "link", "word", "least", "weight"]) (asg := []) T.k_Draft hm F sc_Draft_tie rfl rfl (fun _ _ _ _ _ _ us hl => match us, hl with | [_, _, _, _], _ => rfl) (fun cdv A outer s H Ex hr => ?_)
  have sc := sc_Draft_tie
  have po := passes_of (X := cxOf (L2.CX P w) P w K mg base ["self", "one", "other", "link", "word", "least", "weight"] "Draft.tie" (defScope (top 26 3)) f cdv A outer s H Ex) rfl
  have tk := takes_of (X := cxOf (L2.CX P w) P w K mg base ["self", "one", "other", "link", "word", "least", "weight"] "Draft.tie" (defScope (top 26 3)) f cdv A outer s H Ex) (E := Ex) rfl rfl rfl rfl
  exact (s_cons (s_asg (S := [4, 5, 6]) (e_tk (e_v 3)) (g_tup rfl (gs_cons (g_name (i := 4) sc.nd rfl (by first | exact Or.inl rfl | exact Or.inr rfl)) (gs_cons (g_name (i := 5) sc.nd rfl (by first | exact Or.inl rfl | exact Or.inr rfl)) (gs_cons (g_name (i := 6) sc.nd rfl (by first | exact Or.inl rfl | exact Or.inr rfl)) gs_nil)))))
  (s_cons (s_if (t_eq hr.units (e_v 4) e_str) (s_one (s_expr (e_papp (c_fl (i := 0) T.f_Draft_arrows) (e_tup (a_cons (e_tk (e_v 1)) (a_cons (e_tk (e_v 2)) (a_cons (e_tk (e_v 5)) (a_cons (e_tk (e_v 6)) a_nil)))))))) (s_one (s_expr (e_papp (c_fl (i := 0) T.f_Draft_sayings) (e_tup (a_cons (e_tk (e_v 1)) (a_cons (e_tk (e_v 2)) (a_cons (e_tk (e_v 5)) a_nil))))))))
  (s_one (s_if (t_eq hr.units (e_v 4) e_str) (s_one (s_expr (e_papp (c_fl (i := 0) T.f_Draft_sayings) (e_tup (a_cons (e_tk (e_v 2)) (a_cons (e_tk (e_v 1)) (a_cons (e_tk (e_v 5)) a_nil))))))) s_nil))))
theorem sc_Draft_web : FnScope ["self"] ["self"] (defScope (top 26 5)) := ⟨rfl, rfl, rfl, by decide +kernel, rfl, by decide +kernel, by decide +kernel⟩
theorem G_Draft_web (T : Txt K mg) {f : Addr} {fd : FuncData} (F : FunD K "web" "Draft.web" (defArgs (top 26 5)) (defBody (top 26 5)) (defScope (top 26 5)) [] [] f fd) (hm : Meth K (He.ga K "Draft") "web" f) : MtI P w K mg base 1 "Draft" "web" ["self"] [] m_Draft_web := by
  refine mt_mk (N := ["self"]) (asg := []) T.k_Draft hm F sc_Draft_web rfl rfl (fun _ _ _ _ _ _ us hl => match us, hl with | [_], _ => rfl) (fun cdv A outer s H Ex hr => ?_)
  have sc := sc_Draft_web
  have po := passes_of (X := cxOf (L2.CX P w) P w K mg base ["self"] "Draft.web" (defScope (top 26 5)) f cdv A outer s H Ex) rfl
  have tk := takes_of (X := cxOf (L2.CX P w) P w K mg base ["self"] "Draft.web" (defScope (top 26 5)) f cdv A outer s H Ex) (E := Ex) rfl rfl rfl rfl
  exact (s_one (s_ret (e_pure (e_tup (a_cons (e_tuple rfl T.b_tuple (e_listD rfl rfl T.b_list (e_fld T.f_Draft_known (e_v 0)))) (a_cons (e_tuple rfl T.b_tuple (e_fld T.f_Draft_arrows (e_v 0))) (a_cons (e_tuple rfl T.b_tuple (e_fld T.f_Draft_sayings (e_v 0))) a_nil)))))))
theorem sc_arrow_text : FnScope ["names", "arrow", "one", "other", "least", "weight", "link"] ["names", "arrow"] (defScope (top 29)) := ⟨rfl, rfl, rfl, by decide +kernel, rfl, by decide +kernel, by decide +kernel⟩
theorem G_arrow_text (T : Txt K mg) {f : Addr} {fd : FuncData} (F : FunD K "arrow_text" "arrow_text" (defArgs (top 29)) (defBody (top 29)) (defScope (top 29)) [] [] f fd) (hm : mg "arrow_text" = some (.ref f)) : Fn P w K mg base 1 "arrow_text" ["names", "arrow"] m_arrow_text := by
  refine fn_mk (N := ["names", "arrow", "one", "other", "least", "weight", "link"]) (asg := []) F sc_arrow_text rfl rfl hm (fun _ _ _ _ _ _ us hl => match us, hl with | [_, _], _ => rfl) (fun cdv A outer s H Ex hr => ?_)
  have sc := sc_arrow_text
  have po := passes_of (X := cxOf (L2.CX P w) P w K mg base ["names", "arrow", "one", "other", "least", "weight", "link"] "arrow_text" (defScope (top 29)) f cdv A outer s H Ex) rfl
  have tk := takes_of (X := cxOf (L2.CX P w) P w K mg base ["names", "arrow", "one", "other", "least", "weight", "link"] "arrow_text" (defScope (top 29)) f cdv A outer s H Ex) (E := Ex) rfl rfl rfl rfl
  exact (s_cons (s_asg (S := [2, 3, 4, 5]) (e_tk (e_v 1)) (g_tup rfl (gs_cons (g_name (i := 2) sc.nd rfl (by first | exact Or.inl rfl | exact Or.inr rfl)) (gs_cons (g_name (i := 3) sc.nd rfl (by first | exact Or.inl rfl | exact Or.inr rfl)) (gs_cons (g_name (i := 4) sc.nd rfl (by first | exact Or.inl rfl | exact Or.inr rfl)) (gs_cons (g_name (i := 5) sc.nd rfl (by first | exact Or.inl rfl | exact Or.inr rfl)) gs_nil))))))
  (s_cons (s_set (i := 6) sc.nd rfl (by first | exact Or.inl rfl | exact Or.inr rfl) e_str)
  (s_cons (s_if (t_ne hr.units (e_v 4) e_int) (s_one (s_augadd (i := 6) sc.nd rfl (by first | exact Or.inl rfl | exact Or.inr rfl) (e_strF rfl T.b_str (e_v 4)))) s_nil)
  (s_cons (s_if (t_ne hr.units (e_v 5) e_int) (s_one (s_augadd (i := 6) sc.nd rfl (by first | exact Or.inl rfl | exact Or.inr rfl) (e_js (js_cons e_str (js_cons (e_fmt (e_v 5)) js_nil))))) s_nil)
  (s_one (s_ret (e_js (js_cons (e_fmt (e_itemF hr.units (e_v 0) (e_v 2))) (js_cons e_str (js_cons (e_fmt (e_v 6)) (js_cons e_str (js_cons (e_fmt (e_itemF hr.units (e_v 0) (e_v 3))) js_nil))))))))))))
abbrev N_law_bag : List Str := ["_law_script", "_law_one", "_law_cells", "_law_salt"]
theorem sc_law_bag : FnScope ["_law_script", "_law_one", "_law_cells", "_law_salt"] ["_law_script"] (defScope (top 33)) := ⟨rfl, rfl, rfl, by decide +kernel, rfl, by decide +kernel, by decide +kernel⟩
theorem G_law_bag (T : Txt K mg) {f : Addr} {fd : FuncData} (F : FunD K "_law_bag" "_law_bag" (defArgs (top 33)) (defBody (top 33)) (defScope (top 33)) [] [] f fd) (hm : mg "_law_bag" = some (.ref f)) : Fn P w K mg base 1 "_law_bag" ["_law_script"] m_law_bag := by
  refine fn_mk (N := ["_law_script", "_law_one", "_law_cells", "_law_salt"]) (asg := []) F sc_law_bag rfl rfl hm (fun _ _ _ _ _ _ us hl => match us, hl with | [_], _ => rfl) (fun cdv A outer s H Ex hr => ?_)
  have sc := sc_law_bag
  have po := passes_of (X := cxOf (L2.CX P w) P w K mg base ["_law_script", "_law_one", "_law_cells", "_law_salt"] "_law_bag" (defScope (top 33)) f cdv A outer s H Ex) rfl
  have tk := takes_of (X := cxOf (L2.CX P w) P w K mg base ["_law_script", "_law_one", "_law_cells", "_law_salt"] "_law_bag" (defScope (top 33)) f cdv A outer s H Ex) (E := Ex) rfl rfl rfl rfl
  exact (s_cons (s_setLc (own := [("_law_one", 1)]) (i := 2) (S := [1]) rfl sc.nd rfl rfl (sw_true rfl rfl rfl (by decide +kernel)) (i_seq (e_slice01 (e_v 0) e_int)) (blkOk_by (N := N_law_bag) (sc := defScope (top 33)) (own := [("_law_one", 1)]) (by decide +kernel)) (fun _ _ _ _ _ => (g_name (i := 1) sc.nd rfl (by first | exact Or.inl rfl | exact Or.inr rfl))) (fun _ _ _ _ _ => (ts_nil rfl)) (fun _ _ _ _ _ => (e_abs rfl T.b_abs (e_v 1))))
  (s_cons (s_set (i := 3) sc.nd rfl (by first | exact Or.inl rfl | exact Or.inr rfl) (e_add e_int (e_len rfl T.b_len (e_v 2))))
  (s_cons (s_for (S := [1]) po rfl (i_seq (e_slice01 (e_v 0) e_int)) (g_name (i := 1) sc.nd rfl (by first | exact Or.inl rfl | exact Or.inr rfl)) (s_one (s_set (i := 3) sc.nd rfl (by first | exact Or.inl rfl | exact Or.inr rfl) (e_mod (e_add (e_add (e_mul (e_v 3) e_int) (e_abs rfl T.b_abs (e_v 1))) (e_mul e_int (e_int1 rfl T.b_int (e_lt (e_v 1) e_int)))) e_int))))
  (s_one (s_ret (e_lst (a_cons (e_tk (e_v 2)) (a_cons e_int (a_cons e_int (a_cons (e_tk (e_v 3)) a_nil))))))))))
theorem sc_law_pull : FnScope ["_law_bag_here", "_law_many", "_law_seed", "_law_blend", "_law_drawn"] ["_law_bag_here", "_law_many"] (defScope (top 36)) := ⟨rfl, rfl, rfl, by decide +kernel, rfl, by decide +kernel, by decide +kernel⟩
theorem G_law_pull (T : Txt K mg) {f : Addr} {fd : FuncData} (F : FunD K "_law_pull" "_law_pull" (defArgs (top 36)) (defBody (top 36)) (defScope (top 36)) [] [] f fd) (hm : mg "_law_pull" = some (.ref f)) : Fn P w K mg base 1 "_law_pull" ["_law_bag_here", "_law_many"] m_law_pull := by
  refine fn_mk (N := ["_law_bag_here", "_law_many", "_law_seed", "_law_blend", "_law_drawn"]) (asg := []) F sc_law_pull rfl rfl hm (fun _ _ _ _ _ _ us hl => match us, hl with | [_, _], _ => rfl) (fun cdv A outer s H Ex hr => ?_)
  have sc := sc_law_pull
  have po := passes_of (X := cxOf (L2.CX P w) P w K mg base ["_law_bag_here", "_law_many", "_law_seed", "_law_blend", "_law_drawn"] "_law_pull" (defScope (top 36)) f cdv A outer s H Ex) rfl
  have tk := takes_of (X := cxOf (L2.CX P w) P w K mg base ["_law_bag_here", "_law_many", "_law_seed", "_law_blend", "_law_drawn"] "_law_pull" (defScope (top 36)) f cdv A outer s H Ex) (E := Ex) rfl rfl rfl rfl
  exact (s_cons (s_if (t_lt (e_itemF hr.units (e_v 0) e_int) e_int) (s_cons (s_augix iop_add (e_v 0) e_int e_int)
  (s_cons (s_set (i := 2) sc.nd rfl (by first | exact Or.inl rfl | exact Or.inr rfl) (e_itemF hr.units (e_v 0) e_int))
  (s_cons (s_if (t_le (e_itemF hr.units (e_v 0) e_int) (e_len rfl T.b_len (e_itemF hr.units (e_v 0) e_int))) (s_cons (s_set (i := 2) sc.nd rfl (by first | exact Or.inl rfl | exact Or.inr rfl) (e_itemF hr.units (e_itemF hr.units (e_v 0) e_int) (e_sub (e_itemF hr.units (e_v 0) e_int) e_int)))
  (s_one (s_if (t_ge (e_v 2) (e_pow e_int e_int)) (s_cons (s_setitemA hr.units (e_fdiv (e_v 2) (e_v 1)) (e_v 0) e_int)
  (s_one (s_ret (e_mod (e_v 2) (e_v 1))))) s_nil))) s_nil)
  (s_cons (s_set (i := 3) sc.nd rfl (by first | exact Or.inl rfl | exact Or.inr rfl) (e_mod (e_add (e_add (e_v 2) (e_mul (e_itemF hr.units (e_v 0) e_int) e_int)) (e_mul (e_itemF hr.units (e_v 0) e_int) e_int)) e_int))
  (s_cons (s_set (i := 3) sc.nd rfl (by first | exact Or.inl rfl | exact Or.inr rfl) (e_mod (e_add (e_mul (e_v 3) (e_v 3)) e_int) e_int))
  (s_one (s_ret (e_mod (e_fdiv (e_mod (e_add (e_mul (e_v 3) (e_v 3)) (e_itemF hr.units (e_v 0) e_int)) e_int) e_int) (e_v 1))))))))) s_nil)
  (s_cons (s_set (i := 4) sc.nd rfl (by first | exact Or.inl rfl | exact Or.inr rfl) (e_mod (e_itemF hr.units (e_v 0) e_int) (e_v 1)))
  (s_cons (s_setitemA hr.units (e_fdiv (e_itemF hr.units (e_v 0) e_int) (e_v 1)) (e_v 0) e_int)
  (s_one (s_retv (L2.pv 4))))))
theorem sc_law_whole : FnScope ["_law_found"] ["_law_found"] (defScope (top 37)) := ⟨rfl, rfl, rfl, by decide +kernel, rfl, by decide +kernel, by decide +kernel⟩
theorem G_law_whole (T : Txt K mg) {f : Addr} {fd : FuncData} (F : FunD K "_law_whole" "_law_whole" (defArgs (top 37)) (defBody (top 37)) (defScope (top 37)) [] [] f fd) (hm : mg "_law_whole" = some (.ref f)) : Fn P w K mg base 1 "_law_whole" ["_law_found"] m_law_whole := by
  refine fn_mk (N := ["_law_found"]) (asg := []) F sc_law_whole rfl rfl hm (fun _ _ _ _ _ _ us hl => match us, hl with | [_], _ => rfl) (fun cdv A outer s H Ex hr => ?_)
  have sc := sc_law_whole
  have po := passes_of (X := cxOf (L2.CX P w) P w K mg base ["_law_found"] "_law_whole" (defScope (top 37)) f cdv A outer s H Ex) rfl
  have tk := takes_of (X := cxOf (L2.CX P w) P w K mg base ["_law_found"] "_law_whole" (defScope (top 37)) f cdv A outer s H Ex) (E := Ex) rfl rfl rfl rfl
  exact (s_one (s_ret (e_and (e_isi .int (by decide) rfl T.b_isinstance rfl T.b_int (by decide +kernel) (e_v 0)) (e_one (e_not (e_isi .bl (by decide) rfl T.b_isinstance rfl T.b_bool (by decide +kernel) (e_v 0)))))))
theorem sc_is_arrow : FnScope ["arrow", "many", "one", "other", "least", "weight"] ["arrow", "many"] (defScope (top 17)) := ⟨rfl, rfl, rfl, by decide +kernel, rfl, by decide +kernel, by decide +kernel⟩
theorem G_is_arrow (T : Txt K mg) {f : Addr} {fd : FuncData} (F : FunD K "is_arrow" "is_arrow" (defArgs (top 17)) (defBody (top 17)) (defScope (top 17)) [] [] f fd) (hm : mg "is_arrow" = some (.ref f)) (G_is_least : Fn P w K mg base 1 "is_least" ["least"] m_is_least) (G_is_weight : Fn P w K mg base 1 "is_weight" ["weight"] m_is_weight) : Fn P w K mg base 2 "is_arrow" ["arrow", "many"] m_is_arrow := by
  refine fn_mk (N := ["arrow", "many", "one", "other", "least", "weight"]) (asg := []) F sc_is_arrow rfl rfl hm (fun _ _ _ _ _ _ us hl => match us, hl with | [_, _], _ => rfl) (fun cdv A outer s H Ex hr => ?_)
  have sc := sc_is_arrow
  have po := passes_of (X := cxOf (L2.CX P w) P w K mg base ["arrow", "many", "one", "other", "least", "weight"] "is_arrow" (defScope (top 17)) f cdv A outer s H Ex) rfl
  have tk := takes_of (X := cxOf (L2.CX P w) P w K mg base ["arrow", "many", "one", "other", "least", "weight"] "is_arrow" (defScope (top 17)) f cdv A outer s H Ex) (E := Ex) rfl rfl rfl rfl
  exact (s_cons (s_if (t_ne hr.units (e_len rfl T.b_len (e_v 0)) e_int) (s_one (s_ret e_bl)) s_nil)
  (s_cons (s_asg (S := [2, 3, 4, 5]) (e_tk (e_v 0)) (g_tup rfl (gs_cons (g_name (i := 2) sc.nd rfl (by first | exact Or.inl rfl | exact Or.inr rfl)) (gs_cons (g_name (i := 3) sc.nd rfl (by first | exact Or.inl rfl | exact Or.inr rfl)) (gs_cons (g_name (i := 4) sc.nd rfl (by first | exact Or.inl rfl | exact Or.inr rfl)) (gs_cons (g_name (i := 5) sc.nd rfl (by first | exact Or.inl rfl | exact Or.inr rfl)) gs_nil))))))
  (s_one (s_ret (e_and (e_chain op_le op_lt e_int (e_v 2) (e_v 1)) (e_and (e_chain op_le op_lt e_int (e_v 3) (e_v 1)) (e_and (e_call G_is_least (hr.mono (by omega)) rfl tk (a_cons (e_v 4) a_nil)) (e_one (e_call G_is_weight (hr.mono (by omega)) rfl tk (a_cons (e_v 5) a_nil))))))))))
theorem sc_is_saying : FnScope ["saying", "many", "one", "other", "least"] ["saying", "many"] (defScope (top 18)) := ⟨rfl, rfl, rfl, by decide +kernel, rfl, by decide +kernel, by decide +kernel⟩
theorem G_is_saying (T : Txt K mg) {f : Addr} {fd : FuncData} (F : FunD K "is_saying" "is_saying" (defArgs (top 18)) (defBody (top 18)) (defScope (top 18)) [] [] f fd) (hm : mg "is_saying" = some (.ref f)) (G_is_far : Fn P w K mg base 1 "is_far" ["least"] m_is_far) : Fn P w K mg base 2 "is_saying" ["saying", "many"] m_is_saying := by
  refine fn_mk (N := ["saying", "many", "one", "other", "least"]) (asg := []) F sc_is_saying rfl rfl hm (fun _ _ _ _ _ _ us hl => match us, hl with | [_, _], _ => rfl) (fun cdv A outer s H Ex hr => ?_)
  have sc := sc_is_saying
  have po := passes_of (X := cxOf (L2.CX P w) P w K mg base ["saying", "many", "one", "other", "least"] "is_saying" (defScope (top 18)) f cdv A outer s H Ex) rfl
  have tk := takes_of (X := cxOf (L2.CX P w) P w K mg base ["saying", "many", "one", "other", "least"] "is_saying" (defScope (top 18)) f cdv A outer s H Ex) (E := Ex) rfl rfl rfl rfl
  exact (s_cons (s_if (t_ne hr.units (e_len rfl T.b_len (e_v 0)) e_int) (s_one (s_ret e_bl)) s_nil)
  (s_cons (s_asg (S := [2, 3, 4]) (e_tk (e_v 0)) (g_tup rfl (gs_cons (g_name (i := 2) sc.nd rfl (by first | exact Or.inl rfl | exact Or.inr rfl)) (gs_cons (g_name (i := 3) sc.nd rfl (by first | exact Or.inl rfl | exact Or.inr rfl)) (gs_cons (g_name (i := 4) sc.nd rfl (by first | exact Or.inl rfl | exact Or.inr rfl)) gs_nil)))))
  (s_one (s_ret (e_and (e_chain op_le op_lt e_int (e_v 2) (e_v 1)) (e_and (e_chain op_le op_lt e_int (e_v 3) (e_v 1)) (e_and (e_ne hr.units (e_v 2) (e_v 3)) (e_one (e_call G_is_far (hr.mono (by omega)) rfl tk (a_cons (e_v 4) a_nil))))))))))
theorem sc_Reader_pass_blanks : FnScope ["self"] ["self"] (defScope (top 25 4)) := ⟨rfl, rfl, rfl, by decide +kernel, rfl, by decide +kernel, by decide +kernel⟩
theorem G_Reader_pass_blanks (T : Txt K mg) {f : Addr} {fd : FuncData} (F : FunD K "pass_blanks" "Reader.pass_blanks" (defArgs (top 25 4)) (defBody (top 25 4)) (defScope (top 25 4)) [] [] f fd) (hm : Meth K (He.ga K "Reader") "pass_blanks" f) (G_Reader_sign : MtI P w K mg base 1 "Reader" "sign" ["self", "more"] [0] m_Reader_sign) : MtI P w K mg base 2 "Reader" "pass_blanks" ["self"] [] m_Reader_pass_blanks := by
  refine mt_mk (N := ["self"]) (asg := []) T.k_Reader hm F sc_Reader_pass_blanks rfl rfl (fun _ _ _ _ _ _ us hl => match us, hl with | [_], _ => rfl) (fun cdv A outer s H Ex hr => ?_)
  have sc := sc_Reader_pass_blanks
  have po := passes_of (X := cxOf (L2.CX P w) P w K mg base ["self"] "Reader.pass_blanks" (defScope (top 25 4)) f cdv A outer s H Ex) rfl
  have tk := takes_of (X := cxOf (L2.CX P w) P w K mg base ["self"] "Reader.pass_blanks" (defScope (top 25 4)) f cdv A outer s H Ex) (E := Ex) rfl rfl rfl rfl
  exact (s_one (s_while po (t_eq hr.units (e_meth0 G_Reader_sign 0 (hr.mono (by omega)) tk (e_v 0)) e_str) (s_one (s_augFadd (i := 0) T.f_Reader_at e_int))))
theorem sc_Reader_take : FnScope ["self", "signs", "found"] ["self", "signs"] (defScope (top 25 5)) := ⟨rfl, rfl, rfl, by decide +kernel, rfl, by decide +kernel, by decide +kernel⟩
theorem G_Reader_take (T : Txt K mg) {f : Addr} {fd : FuncData} (F : FunD K "take" "Reader.take" (defArgs (top 25 5)) (defBody (top 25 5)) (defScope (top 25 5)) [] [] f fd) (hm : Meth K (He.ga K "Reader") "take" f) (G_Reader_sign : MtI P w K mg base 1 "Reader" "sign" ["self", "more"] [0] m_Reader_sign) : MtI P w K mg base 2 "Reader" "take" ["self", "signs"] [] m_Reader_take := by
  refine mt_mk (N := ["self", "signs", "found"]) (asg := []) T.k_Reader hm F sc_Reader_take rfl rfl (fun _ _ _ _ _ _ us hl => match us, hl with | [_, _], _ => rfl) (fun cdv A outer s H Ex hr => ?_)
  have sc := sc_Reader_take
  have po := passes_of (X := cxOf (L2.CX P w) P w K mg base ["self", "signs", "found"] "Reader.take" (defScope (top 25 5)) f cdv A outer s H Ex) rfl
  have tk := takes_of (X := cxOf (L2.CX P w) P w K mg base ["self", "signs", "found"] "Reader.take" (defScope (top 25 5)) f cdv A outer s H Ex) (E := Ex) rfl rfl rfl rfl
  exact (s_cons (s_set (i := 2) sc.nd rfl (by first | exact Or.inl rfl | exact Or.inr rfl) (e_meth0 G_Reader_sign 0 (hr.mono (by omega)) tk (e_v 0)))
  (s_cons (s_if (PW.pt (t_or (t_eq hr.units (e_v 2) e_str) (t_or1 (t_notinF hr.units (e_v 2) (e_v 1))))) (s_one (s_ret e_str)) s_nil)
  (s_cons (s_augFadd (i := 0) T.f_Reader_at e_int)
  (s_one (s_retv (L2.pv 2))))))
theorem sc_Draft_linked : FnScope ["self", "ones", "others", "link", "one", "other"] ["self", "ones", "others", "link"] (defScope (top 26 4)) := ⟨rfl, rfl, rfl, by decide +kernel, rfl, by decide +kernel, by decide +kernel⟩
theorem G_Draft_linked (T : Txt K mg) {f : Addr} {fd : FuncData} (F : FunD K "linked" "Draft.linked" (defArgs (top 26 4)) (defBody (top 26 4)) (defScope (top 26 4)) [] [] f fd) (hm : Meth K (He.ga K "Draft") "linked" f) (G_Draft_tie : MtI P w K mg base 1 "Draft" "tie" ["self", "one", "other", "link"] [] m_Draft_tie) : MtI P w K mg base 2 "Draft" "linked" ["self", "ones", "others", "link"] [] m_Draft_linked := by
  refine mt_mk (N := ["self", "ones", "others", "link", "one", "other"]) (asg := []) T.k_Draft hm F sc_Draft_linked rfl rfl (fun _ _ _ _ _ _ us hl => match us, hl with | [_, _, _, _], _ => rfl) (fun cdv A outer s H Ex hr => ?_)
  have sc := sc_Draft_linked
  have po := passes_of (X := cxOf (L2.CX P w) P w K mg base ["self", "ones", "others", "link", "one", "other"] "Draft.linked" (defScope (top 26 4)) f cdv A outer s H Ex) rfl
  have tk := takes_of (X := cxOf (L2.CX P w) P w K mg base ["self", "ones", "others", "link", "one", "other"] "Draft.linked" (defScope (top 26 4)) f cdv A outer s H Ex) (E := Ex) rfl rfl rfl rfl
  exact (s_one (s_for (S := [4]) po rfl (i_seq (e_v 1)) (g_name (i := 4) sc.nd rfl (by first | exact Or.inl rfl | exact Or.inr rfl)) (s_one (s_for (S := [5]) po rfl (i_seq (e_v 2)) (g_name (i := 5) sc.nd rfl (by first | exact Or.inl rfl | exact Or.inr rfl)) (s_one (s_expr (e_meth G_Draft_tie 0 (hr.mono (by omega)) tk (e_v 0) (a_cons (e_v 4) (a_cons (e_v 5) (a_cons (e_v 3) a_nil))))))))))
abbrev N_law_alike : List Str := ["_law_found", "_law_due", "_law_at"]
theorem sc_law_alike : FnScope ["_law_found", "_law_due", "_law_at"] ["_law_found", "_law_due"] (defScope (top 32)) := ⟨rfl, rfl, rfl, by decide +kernel, rfl, by decide +kernel, by decide +kernel⟩
theorem G_law_alike_n (T : Txt K mg) {f : Addr} {fd : FuncData} (F : FunD K "_law_alike" "_law_alike" (defArgs (top 32)) (defBody (top 32)) (defScope (top 32)) [] [] f fd) (hm : mg "_law_alike" = some (.ref f)) (G_law_whole : Fn P w K mg base 1 "_law_whole" ["_law_found"] m_law_whole) : ∀ n : Nat, Fn P w K mg base (n + 2) "_law_alike" ["_law_found", "_law_due"] (m_law_alike n)
  | 0 => fn_none F hm (fun _ _ _ _ _ _ us hl => match us, hl with | [_, _], _ => rfl)
  | n + 1 => by
    have G_law_alike := G_law_alike_n T F hm G_law_whole n
    refine fn_mk (N := ["_law_found", "_law_due", "_law_at"]) (asg := []) F sc_law_alike rfl rfl hm (fun _ _ _ _ _ _ us hl => match us, hl with | [_, _], _ => rfl) (fun cdv A outer s H Ex hr => ?_)
    have sc := sc_law_alike
    have po := passes_of (X := cxOf (L2.CX P w) P w K mg base ["_law_found", "_law_due", "_law_at"] "_law_alike" (defScope (top 32)) f cdv A outer s H Ex) rfl
    have tk := takes_of (X := cxOf (L2.CX P w) P w K mg base ["_law_found", "_law_due", "_law_at"] "_law_alike" (defScope (top 32)) f cdv A outer s H Ex) (E := Ex) rfl rfl rfl rfl
    exact (s_cons (s_if (t_isN (e_v 1) e_non) (s_one (s_ret (e_isN (e_v 0) e_non))) s_nil)
  (s_cons (s_if (t_val (e_isi .bl (by decide) rfl T.b_isinstance rfl T.b_bool (by decide +kernel) (e_v 1))) (s_one (s_ret (e_and (e_isi .bl (by decide) rfl T.b_isinstance rfl T.b_bool (by decide +kernel) (e_v 0)) (e_one (e_eq hr.units (e_v 0) (e_v 1)))))) s_nil)
  (s_cons (s_if (t_val (e_isi .int (by decide) rfl T.b_isinstance rfl T.b_int (by decide +kernel) (e_v 1))) (s_one (s_ret (e_and (e_call G_law_whole (hr.mono (by omega)) rfl tk (a_cons (e_v 0) a_nil)) (e_one (e_eq hr.units (e_v 0) (e_v 1)))))) s_nil)
  (s_cons (s_if (t_val (e_isi .str (by decide) rfl T.b_isinstance rfl T.b_str (by decide +kernel) (e_v 1))) (s_one (s_ret (e_and (e_isi .str (by decide) rfl T.b_isinstance rfl T.b_str (by decide +kernel) (e_v 0)) (e_one (e_eq hr.units (e_v 0) (e_v 1)))))) s_nil)
  (s_cons (s_if (PW.pt (t_or (t_ne hr.units (e_isi .lst (by decide) rfl T.b_isinstance rfl T.b_list (by decide +kernel) (e_v 1)) (e_isi .lst (by decide) rfl T.b_isinstance rfl T.b_list (by decide +kernel) (e_v 0))) (t_or1 (t_ne hr.units (e_isi .tup (by decide) rfl T.b_isinstance rfl T.b_tuple (by decide +kernel) (e_v 1)) (e_isi .tup (by decide) rfl T.b_isinstance rfl T.b_tuple (by decide +kernel) (e_v 0)))))) (s_one (s_ret e_bl)) s_nil)
  (s_cons (s_if (PW.pt (t_or (t_not (t_val (e_isi2 .lst .tup (by decide) (by decide) rfl T.b_isinstance rfl T.b_list (by decide +kernel) rfl T.b_tuple (by decide +kernel) (e_v 0)))) (t_or1 (t_ne hr.units (e_len rfl T.b_len (e_v 0)) (e_len rfl T.b_len (e_v 1)))))) (s_one (s_ret e_bl)) s_nil)
  (s_one (s_ret (e_all rfl rfl T.b_all (e_lc (own := [("_law_at", 2)]) (S := [2]) rfl sc.nd (i_range1 rfl T.b_range (e_len rfl T.b_len (e_v 1))) (blkOk_by (N := N_law_alike) (sc := defScope (top 32)) (own := [("_law_at", 2)]) (by decide +kernel)) (fun _ _ _ _ _ => (g_name (i := 2) sc.nd rfl (by first | exact Or.inl rfl | exact Or.inr rfl))) (fun _ _ _ _ _ => (ts_nil rfl)) (fun _ _ _ _ _ => (e_call G_law_alike (hr.mono (by omega)) rfl takes0 (a_cons (e_itemF hr.units (e_v 0) (e_v 2)) (a_cons (e_itemF hr.units (e_v 1) (e_v 2)) a_nil))))))))))))))
theorem sc_law_names : FnScope ["_law_bag_here", "_law_many", "_law_found", "_law_tail", "_law_k", "_law_first", "_law_at"] ["_law_bag_here", "_law_many"] (defScope (top 35)) := ⟨rfl, rfl, rfl, by decide +kernel, rfl, by decide +kernel, by decide +kernel⟩
theorem G_law_names (T : Txt K mg) {f : Addr} {fd : FuncData} (F : FunD K "_law_names" "_law_names" (defArgs (top 35)) (defBody (top 35)) (defScope (top 35)) [] [] f fd) (hm : mg "_law_names" = some (.ref f)) (G_law_pull : Fn P w K mg base 1 "_law_pull" ["_law_bag_here", "_law_many"] m_law_pull) : Fn P w K mg base 2 "_law_names" ["_law_bag_here", "_law_many"] m_law_names := by
  refine fn_mk (N := ["_law_bag_here", "_law_many", "_law_found", "_law_tail", "_law_k", "_law_first", "_law_at"]) (asg := []) F sc_law_names rfl rfl hm (fun _ _ _ _ _ _ us hl => match us, hl with | [_, _], _ => rfl) (fun cdv A outer s H Ex hr => ?_)
  have sc := sc_law_names
  have po := passes_of (X := cxOf (L2.CX P w) P w K mg base ["_law_bag_here", "_law_many", "_law_found", "_law_tail", "_law_k", "_law_first", "_law_at"] "_law_names" (defScope (top 35)) f cdv A outer s H Ex) rfl
  have tk := takes_of (X := cxOf (L2.CX P w) P w K mg base ["_law_bag_here", "_law_many", "_law_found", "_law_tail", "_law_k", "_law_first", "_law_at"] "_law_names" (defScope (top 35)) f cdv A outer s H Ex) (E := Ex) rfl rfl rfl rfl
  exact (s_cons (s_set (i := 2) sc.nd rfl (by first | exact Or.inl rfl | exact Or.inr rfl) (e_lst a_nil))
  (s_cons (s_set (i := 3) sc.nd rfl (by first | exact Or.inl rfl | exact Or.inr rfl) (e_lst (a_cons e_str (a_cons e_str (a_cons e_str (a_cons e_str (a_cons e_str (a_cons e_str a_nil))))))))
  (s_cons (s_for (S := [4]) po rfl (i_range1 rfl T.b_range (e_v 1)) (g_name (i := 4) sc.nd rfl (by first | exact Or.inl rfl | exact Or.inr rfl)) (s_cons (s_set (i := 5) sc.nd rfl (by first | exact Or.inl rfl | exact Or.inr rfl) (e_add (e_itemF hr.units e_str (e_mod (e_v 4) e_int)) (e_mul e_str (e_fdiv (e_v 4) e_int))))
  (s_one (s_expr (e_append (e_v 2) (e_slice01 (e_add (e_v 5) (e_itemF hr.units (e_v 3) (e_call G_law_pull (hr.mono (by omega)) rfl tk (a_cons (e_v 0) (a_cons e_int a_nil))))) e_int))))))
  (s_cons (s_set (i := 6) sc.nd rfl (by first | exact Or.inl rfl | exact Or.inr rfl) (e_call G_law_pull (hr.mono (by omega)) rfl tk (a_cons (e_v 0) (a_cons (e_max2 rfl rfl T.b_max e_int (e_v 1)) a_nil))))
  (s_one (s_ret (e_tuple rfl T.b_tuple (e_add (e_slice10 (e_v 2) (e_v 6)) (e_slice01 (e_v 2) (e_v 6))))))))))
abbrev N_is_web : List Str := ["web", "names", "arrows", "sayings", "many", "name", "row"]
theorem sc_is_web : FnScope ["web", "names", "arrows", "sayings", "many", "name", "row"] ["web"] (defScope (top 19)) := ⟨rfl, rfl, rfl, by decide +kernel, rfl, by decide +kernel, by decide +kernel⟩
theorem G_is_web (T : Txt K mg) {f : Addr} {fd : FuncData} (F : FunD K "is_web" "is_web" (defArgs (top 19)) (defBody (top 19)) (defScope (top 19)) [] [] f fd) (hm : mg "is_web" = some (.ref f)) (G_is_arrow : Fn P w K mg base 2 "is_arrow" ["arrow", "many"] m_is_arrow) (G_is_name : Fn P w K mg base 1 "is_name" ["name"] m_is_name) (G_is_saying : Fn P w K mg base 2 "is_saying" ["saying", "many"] m_is_saying) : Fn P w K mg base 3 "is_web" ["web"] m_is_web := by
  refine fn_mk (N := ["web", "names", "arrows", "sayings", "many", "name", "row"]) (asg := []) F sc_is_web rfl rfl hm (fun _ _ _ _ _ _ us hl => match us, hl with | [_], _ => rfl) (fun cdv A outer s H Ex hr => ?_)
  have sc := sc_is_web
  have po := passes_of (X := cxOf (L2.CX P w) P w K mg base ["web", "names", "arrows", "sayings", "many", "name", "row"] "is_web" (defScope (top 19)) f cdv A outer s H Ex) rfl
  have tk := takes_of (X := cxOf (L2.CX P w) P w K mg base ["web", "names", "arrows", "sayings", "many", "name", "row"] "is_web" (defScope (top 19)) f cdv A outer s H Ex) (E := Ex) rfl rfl rfl rfl
  exact (s_cons (s_asg (S := [1, 2, 3]) (e_tk (e_v 0)) (g_tup rfl (gs_cons (g_name (i := 1) sc.nd rfl (by first | exact Or.inl rfl | exact Or.inr rfl)) (gs_cons (g_name (i := 2) sc.nd rfl (by first | exact Or.inl rfl | exact Or.inr rfl)) (gs_cons (g_name (i := 3) sc.nd rfl (by first | exact Or.inl rfl | exact Or.inr rfl)) gs_nil)))))
  (s_cons (s_set (i := 4) sc.nd rfl (by first | exact Or.inl rfl | exact Or.inr rfl) (e_len rfl T.b_len (e_v 1)))
  (s_cons (s_if (PW.pt (t_or (t_gt (e_v 4) (e_globI rfl T.c_MOST_BOXES)) (t_or (t_gt (e_len rfl T.b_len (e_v 2)) (e_globI rfl T.c_MOST_ARROWS)) (t_or1 (t_gt (e_len rfl T.b_len (e_v 3)) (e_globI rfl T.c_MOST_SAYINGS)))))) (s_one (s_ret e_bl)) s_nil)
  (s_cons (s_if (PW.pt (t_or (t_not (t_val (e_all rfl rfl T.b_all (e_lc (own := [("name", 5)]) (S := [5]) rfl sc.nd (i_seq (e_v 1)) (blkOk_by (N := N_is_web) (sc := defScope (top 19)) (own := [("name", 5)]) (by decide +kernel)) (fun _ _ _ _ _ => (g_name (i := 5) sc.nd rfl (by first | exact Or.inl rfl | exact Or.inr rfl))) (fun _ _ _ _ _ => (ts_nil rfl)) (fun _ _ _ _ _ => (e_call G_is_name (hr.mono (by omega)) rfl takes0 (a_cons (e_v 5) a_nil))))))) (t_or1 (t_ne hr.units (e_lenset rfl rfl T.b_len rfl T.b_set (e_v 1)) (e_v 4))))) (s_one (s_ret e_bl)) s_nil)
  (s_one (s_ret (e_and (e_all rfl rfl T.b_all (e_lc (own := [("row", 6)]) (S := [6]) rfl sc.nd (i_seq (e_v 2)) (blkOk_by (N := N_is_web) (sc := defScope (top 19)) (own := [("row", 6)]) (by decide +kernel)) (fun _ _ _ _ _ => (g_name (i := 6) sc.nd rfl (by first | exact Or.inl rfl | exact Or.inr rfl))) (fun _ _ _ _ _ => (ts_nil rfl)) (fun _ _ _ _ _ => (e_call G_is_arrow (hr.mono (by omega)) rfl takes0 (a_cons (e_v 6) (a_cons (e_v 4) a_nil)))))) (e_one (e_all rfl rfl T.b_all (e_lc (own := [("row", 6)]) (S := [6]) rfl sc.nd (i_seq (e_v 3)) (blkOk_by (N := N_is_web) (sc := defScope (top 19)) (own := [("row", 6)]) (by decide +kernel)) (fun _ _ _ _ _ => (g_name (i := 6) sc.nd rfl (by first | exact Or.inl rfl | exact Or.inr rfl))) (fun _ _ _ _ _ => (ts_nil rfl)) (fun _ _ _ _ _ => (e_call G_is_saying (hr.mono (by omega)) rfl takes0 (a_cons (e_v 6) (a_cons (e_v 4) a_nil))))))))))))))
theorem sc_Reader_name : FnScope ["self", "found"] ["self"] (defScope (top 25 6)) := ⟨rfl, rfl, rfl, by decide +kernel, rfl, by decide +kernel, by decide +kernel⟩
theorem G_Reader_name (T : Txt K mg) {f : Addr} {fd : FuncData} (F : FunD K "name" "Reader.name" (defArgs (top 25 6)) (defBody (top 25 6)) (defScope (top 25 6)) [] [] f fd) (hm : Meth K (He.ga K "Reader") "name" f) (G_Reader_bar : MtI P w K mg base 3 "Reader" "bar" ["self"] [] m_Reader_bar) (G_Reader_pass_blanks : MtI P w K mg base 2 "Reader" "pass_blanks" ["self"] [] m_Reader_pass_blanks) (G_Reader_sign : MtI P w K mg base 1 "Reader" "sign" ["self", "more"] [0] m_Reader_sign) (G_Reader_take : MtI P w K mg base 2 "Reader" "take" ["self", "signs"] [] m_Reader_take) : MtI P w K mg base 4 "Reader" "name" ["self"] [] m_Reader_name := by
  refine mt_mk (N := ["self", "found"]) (asg := []) T.k_Reader hm F sc_Reader_name rfl rfl (fun _ _ _ _ _ _ us hl => match us, hl with | [_], _ => rfl) (fun cdv A outer s H Ex hr => ?_)
  have sc := sc_Reader_name
  have po := passes_of (X := cxOf (L2.CX P w) P w K mg base ["self", "found"] "Reader.name" (defScope (top 25 6)) f cdv A outer s H Ex) rfl
  have tk := takes_of (X := cxOf (L2.CX P w) P w K mg base ["self", "found"] "Reader.name" (defScope (top 25 6)) f cdv A outer s H Ex) (E := Ex) rfl rfl rfl rfl
  exact (s_cons (s_expr (e_meth0 G_Reader_pass_blanks 0 (hr.mono (by omega)) tk (e_v 0)))
  (s_cons (s_set (i := 1) sc.nd rfl (by first | exact Or.inl rfl | exact Or.inr rfl) e_str)
  (s_cons (s_while po (PW.pt (t_and (t_lt (e_len rfl T.b_len (e_v 1)) (e_globI rfl T.c_LONGEST)) (t_and (t_ne hr.units (e_meth0 G_Reader_sign 0 (hr.mono (by omega)) tk (e_v 0)) e_str) (t_and1 (t_inF hr.units (e_meth0 G_Reader_sign 0 (hr.mono (by omega)) tk (e_v 0)) (e_globS rfl T.c_LETTERS)))))) (s_one (s_augadd (i := 1) sc.nd rfl (by first | exact Or.inl rfl | exact Or.inr rfl) (e_meth G_Reader_take 0 (hr.mono (by omega)) tk (e_v 0) (a_cons (e_globS rfl T.c_LETTERS) a_nil)))))
  (s_cons (s_if (t_eq hr.units (e_v 1) e_str) (s_one (s_expr (e_meth0 G_Reader_bar 0 (hr.mono (by omega)) tk (e_v 0)))) s_nil)
  (s_one (s_retv (L2.pv 1)))))))
theorem sc_Reader_link : FnScope ["self", "minus", "figure", "least", "weight"] ["self"] (defScope (top 25 8)) := ⟨rfl, rfl, rfl, by decide +kernel, rfl, by decide +kernel, by decide +kernel⟩
theorem G_Reader_link (T : Txt K mg) {f : Addr} {fd : FuncData} (F : FunD K "link" "Reader.link" (defArgs (top 25 8)) (defBody (top 25 8)) (defScope (top 25 8)) [] [] f fd) (hm : Meth K (He.ga K "Reader") "link" f) (G_Reader_bar : MtI P w K mg base 3 "Reader" "bar" ["self"] [] m_Reader_bar) (G_Reader_pass_blanks : MtI P w K mg base 2 "Reader" "pass_blanks" ["self"] [] m_Reader_pass_blanks) (G_Reader_sign : MtI P w K mg base 1 "Reader" "sign" ["self", "more"] [0] m_Reader_sign) (G_Reader_take : MtI P w K mg base 2 "Reader" "take" ["self", "signs"] [] m_Reader_take) : MtI P w K mg base 4 "Reader" "link" ["self"] [] m_Reader_link := by
  refine mt_mk (N := ["self", "minus", "figure", "least", "weight"]) (asg := []) T.k_Reader hm F sc_Reader_link rfl rfl (fun _ _ _ _ _ _ us hl => match us, hl with | [_], _ => rfl) (fun cdv A outer s H Ex hr => ?_)
  have sc := sc_Reader_link
  have po := passes_of (X := cxOf (L2.CX P w) P w K mg base ["self", "minus", "figure", "least", "weight"] "Reader.link" (defScope (top 25 8)) f cdv A outer s H Ex) rfl
  have tk := takes_of (X := cxOf (L2.CX P w) P w K mg base ["self", "minus", "figure", "least", "weight"] "Reader.link" (defScope (top 25 8)) f cdv A outer s H Ex) (E := Ex) rfl rfl rfl rfl
  exact (s_cons (s_expr (e_meth0 G_Reader_pass_blanks 0 (hr.mono (by omega)) tk (e_v 0)))
  (s_cons (s_if (t_ne hr.units (e_meth G_Reader_take 0 (hr.mono (by omega)) tk (e_v 0) (a_cons e_str a_nil)) e_str) (s_one (s_ret (e_tup (a_cons e_str (a_cons e_int (a_cons e_int a_nil)))))) s_nil)
  (s_cons (s_if (t_ne hr.units (e_meth G_Reader_take 0 (hr.mono (by omega)) tk (e_v 0) (a_cons e_str a_nil)) e_str) (s_cons (s_set (i := 1) sc.nd rfl (by first | exact Or.inl rfl | exact Or.inr rfl) (e_meth G_Reader_take 0 (hr.mono (by omega)) tk (e_v 0) (a_cons e_str a_nil)))
  (s_cons (s_set (i := 2) sc.nd rfl (by first | exact Or.inl rfl | exact Or.inr rfl) (e_meth G_Reader_take 0 (hr.mono (by omega)) tk (e_v 0) (a_cons (e_globS rfl T.c_FIGURES) a_nil)))
  (s_cons (s_if (t_eq hr.units (e_v 2) e_str) (s_one (s_expr (e_meth0 G_Reader_bar 0 (hr.mono (by omega)) tk (e_v 0)))) s_nil)
  (s_one (s_ret (e_tup (a_cons e_str (a_cons (e_if (t_ne hr.units (e_v 1) e_str) (e_sub e_int (e_intA rfl T.b_int (e_v 2))) (e_intA rfl T.b_int (e_v 2))) (a_cons e_int a_nil))))))))) s_nil)
  (s_cons (s_if (t_eq hr.units (e_meth G_Reader_take 0 (hr.mono (by omega)) tk (e_v 0) (a_cons e_str a_nil)) e_str) (s_one (s_ret e_non)) s_nil)
  (s_cons (s_set (i := 3) sc.nd rfl (by first | exact Or.inl rfl | exact Or.inr rfl) (e_intA rfl T.b_int (e_orT (e_meth G_Reader_take 0 (hr.mono (by omega)) tk (e_v 0) (a_cons (e_globS rfl T.c_LEASTS) a_nil)) (e_one e_str))))
  (s_cons (s_set (i := 4) sc.nd rfl (by first | exact Or.inl rfl | exact Or.inr rfl) e_int)
  (s_cons (s_if (PW.pt (t_and (t_eq hr.units (e_meth0 G_Reader_sign 0 (hr.mono (by omega)) tk (e_v 0)) e_str) (t_and (t_ne hr.units (e_meth G_Reader_sign 1 (hr.mono (by omega)) tk (e_v 0) (a_cons e_int a_nil)) e_str) (t_and1 (t_inF hr.units (e_meth G_Reader_sign 1 (hr.mono (by omega)) tk (e_v 0) (a_cons e_int a_nil)) (e_globS rfl T.c_WEIGHTS)))))) (s_cons (s_augFadd (i := 0) T.f_Reader_at e_int)
  (s_one (s_set (i := 4) sc.nd rfl (by first | exact Or.inl rfl | exact Or.inr rfl) (e_int10 rfl T.b_int (e_meth G_Reader_take 0 (hr.mono (by omega)) tk (e_v 0) (a_cons (e_globS rfl T.c_WEIGHTS) a_nil)) e_int)))) s_nil)
  (s_one (s_ret (e_tup (a_cons e_str (a_cons (e_mv 3) (a_cons (e_mv 4) a_nil)))))))))))))
theorem sc_law_drawn_web : FnScope ["_law_bag_here", "_law_most", "_law_most_arrows", "_law_most_told", "_law_many", "_law_rows_now", "_law_k", "_law_one", "_law_other", "_law_told_now"] ["_law_bag_here", "_law_most", "_law_most_arrows", "_law_most_told"] (defScope (top 34)) := ⟨rfl, rfl, rfl, by decide +kernel, rfl, by decide +kernel, by decide +kernel⟩
theorem G_law_drawn_web (T : Txt K mg) {f : Addr} {fd : FuncData} (F : FunD K "_law_drawn_web" "_law_drawn_web" (defArgs (top 34)) (defBody (top 34)) (defScope (top 34)) [] [] f fd) (hm : mg "_law_drawn_web" = some (.ref f)) (G_law_names : Fn P w K mg base 2 "_law_names" ["_law_bag_here", "_law_many"] m_law_names) (G_law_pull : Fn P w K mg base 1 "_law_pull" ["_law_bag_here", "_law_many"] m_law_pull) : Fn P w K mg base 3 "_law_drawn_web" ["_law_bag_here", "_law_most", "_law_most_arrows", "_law_most_told"] m_law_drawn_web := by
  refine fn_mk (N := ["_law_bag_here", "_law_most", "_law_most_arrows", "_law_most_told", "_law_many", "_law_rows_now", "_law_k", "_law_one", "_law_other", "_law_told_now"]) (asg := []) F sc_law_drawn_web rfl rfl hm (fun _ _ _ _ _ _ us hl => match us, hl with | [_, _, _, _], _ => rfl) (fun cdv A outer s H Ex hr => ?_)
  have sc := sc_law_drawn_web
  have po := passes_of (X := cxOf (L2.CX P w) P w K mg base ["_law_bag_here", "_law_most", "_law_most_arrows", "_law_most_told", "_law_many", "_law_rows_now", "_law_k", "_law_one", "_law_other", "_law_told_now"] "_law_drawn_web" (defScope (top 34)) f cdv A outer s H Ex) rfl
  have tk := takes_of (X := cxOf (L2.CX P w) P w K mg base ["_law_bag_here", "_law_most", "_law_most_arrows", "_law_most_told", "_law_many", "_law_rows_now", "_law_k", "_law_one", "_law_other", "_law_told_now"] "_law_drawn_web" (defScope (top 34)) f cdv A outer s H Ex) (E := Ex) rfl rfl rfl rfl
  exact (s_cons (s_set (i := 4) sc.nd rfl (by first | exact Or.inl rfl | exact Or.inr rfl) (e_itemF hr.units (e_lst (a_cons (e_add e_int (e_call G_law_pull (hr.mono (by omega)) rfl tk (a_cons (e_v 0) (a_cons (e_v 1) a_nil)))) (a_cons e_int a_nil))) (e_int1 rfl T.b_int (e_eq hr.units (e_call G_law_pull (hr.mono (by omega)) rfl tk (a_cons (e_v 0) (a_cons e_int a_nil))) e_int))))
  (s_cons (s_set (i := 5) sc.nd rfl (by first | exact Or.inl rfl | exact Or.inr rfl) (e_lst a_nil))
  (s_cons (s_for (S := [6]) po rfl (i_range1 rfl T.b_range (e_mul (e_call G_law_pull (hr.mono (by omega)) rfl tk (a_cons (e_v 0) (a_cons (e_add (e_v 2) e_int) a_nil))) (e_int1 rfl T.b_int (e_gt (e_v 4) e_int)))) (g_name (i := 6) sc.nd rfl (by first | exact Or.inl rfl | exact Or.inr rfl)) (s_cons (s_set (i := 7) sc.nd rfl (by first | exact Or.inl rfl | exact Or.inr rfl) (e_call G_law_pull (hr.mono (by omega)) rfl tk (a_cons (e_v 0) (a_cons (e_v 4) a_nil))))
  (s_cons (s_set (i := 8) sc.nd rfl (by first | exact Or.inl rfl | exact Or.inr rfl) (e_call G_law_pull (hr.mono (by omega)) rfl tk (a_cons (e_v 0) (a_cons (e_v 4) a_nil))))
  (s_cons (s_if (t_gt (e_call G_law_pull (hr.mono (by omega)) rfl tk (a_cons (e_v 0) (a_cons e_int a_nil))) e_int) (s_one (s_par rfl sc.nd rfl rfl (by decide) rfl rfl (a_cons (e_min2 rfl rfl T.b_min (e_v 7) (e_v 8)) (a_cons (e_max2 rfl rfl T.b_max (e_v 7) (e_v 8)) a_nil)))) s_nil)
  (s_one (s_expr (e_append (e_v 5) (e_tup (a_cons (e_tk (e_v 7)) (a_cons (e_tk (e_v 8)) (a_cons (e_add e_int (e_call G_law_pull (hr.mono (by omega)) rfl tk (a_cons (e_v 0) (a_cons (e_itemF hr.units (e_lst (a_cons e_int (a_cons e_int a_nil))) (e_call G_law_pull (hr.mono (by omega)) rfl tk (a_cons (e_v 0) (a_cons e_int a_nil)))) a_nil)))) (a_cons (e_add e_int (e_call G_law_pull (hr.mono (by omega)) rfl tk (a_cons (e_v 0) (a_cons e_int a_nil)))) a_nil))))))))))))
  (s_cons (s_set (i := 9) sc.nd rfl (by first | exact Or.inl rfl | exact Or.inr rfl) (e_lst a_nil))
  (s_cons (s_for (S := [6]) po rfl (i_range1 rfl T.b_range (e_mul (e_call G_law_pull (hr.mono (by omega)) rfl tk (a_cons (e_v 0) (a_cons (e_add (e_v 3) e_int) a_nil))) (e_int1 rfl T.b_int (e_gt (e_v 4) e_int)))) (g_name (i := 6) sc.nd rfl (by first | exact Or.inl rfl | exact Or.inr rfl)) (s_cons (s_set (i := 7) sc.nd rfl (by first | exact Or.inl rfl | exact Or.inr rfl) (e_call G_law_pull (hr.mono (by omega)) rfl tk (a_cons (e_v 0) (a_cons (e_v 4) a_nil))))
  (s_cons (s_set (i := 8) sc.nd rfl (by first | exact Or.inl rfl | exact Or.inr rfl) (e_mod (e_add (e_add (e_v 7) e_int) (e_call G_law_pull (hr.mono (by omega)) rfl tk (a_cons (e_v 0) (a_cons (e_sub (e_v 4) e_int) a_nil)))) (e_v 4)))
  (s_one (s_expr (e_append (e_v 9) (e_tup (a_cons (e_tk (e_v 7)) (a_cons (e_tk (e_v 8)) (a_cons (e_itemF hr.units (e_lst (a_cons (e_sub e_int e_int) (a_cons (e_sub e_int e_int) (a_cons (e_sub e_int e_int) (a_cons e_int (a_cons e_int (a_cons e_int (a_cons e_int (a_cons (e_sub (e_call G_law_pull (hr.mono (by omega)) rfl tk (a_cons (e_v 0) (a_cons e_int a_nil))) e_int) a_nil))))))))) (e_call G_law_pull (hr.mono (by omega)) rfl tk (a_cons (e_v 0) (a_cons e_int a_nil)))) a_nil))))))))))
  (s_one (s_ret (e_tup (a_cons (e_call G_law_names (hr.mono (by omega)) rfl tk (a_cons (e_v 0) (a_cons (e_v 4) a_nil))) (a_cons (e_tuple rfl T.b_tuple (e_v 5)) (a_cons (e_tuple rfl T.b_tuple (e_v 9)) a_nil)))))))))))
theorem sc_need_web : FnScope ["web"] ["web"] (defScope (top 20)) := ⟨rfl, rfl, rfl, by decide +kernel, rfl, by decide +kernel, by decide +kernel⟩
theorem G_need_web (T : Txt K mg) {f : Addr} {fd : FuncData} (F : FunD K "need_web" "need_web" (defArgs (top 20)) (defBody (top 20)) (defScope (top 20)) [] [] f fd) (hm : mg "need_web" = some (.ref f)) (G_is_web : Fn P w K mg base 3 "is_web" ["web"] m_is_web) : Fn P w K mg base 4 "need_web" ["web"] m_need_web := by
  refine fn_mk (N := ["web"]) (asg := []) F sc_need_web rfl rfl hm (fun _ _ _ _ _ _ us hl => match us, hl with | [_], _ => rfl) (fun cdv A outer s H Ex hr => ?_)
  have sc := sc_need_web
  have po := passes_of (X := cxOf (L2.CX P w) P w K mg base ["web"] "need_web" (defScope (top 20)) f cdv A outer s H Ex) rfl
  have tk := takes_of (X := cxOf (L2.CX P w) P w K mg base ["web"] "need_web" (defScope (top 20)) f cdv A outer s H Ex) (E := Ex) rfl rfl rfl rfl
  exact (s_one (s_if (t_not (t_val (e_call G_is_web (hr.mono (by omega)) rfl tk (a_cons (e_v 0) a_nil)))) (s_one (s_raise rfl tk T.g_BadWeb T.x_BadWeb rfl)) s_nil))
theorem sc_Reader_group : FnScope ["self", "found"] ["self"] (defScope (top 25 7)) := ⟨rfl, rfl, rfl, by decide +kernel, rfl, by decide +kernel, by decide +kernel⟩
theorem G_Reader_group (T : Txt K mg) {f : Addr} {fd : FuncData} (F : FunD K "group" "Reader.group" (defArgs (top 25 7)) (defBody (top 25 7)) (defScope (top 25 7)) [] [] f fd) (hm : Meth K (He.ga K "Reader") "group" f) (G_Reader_bar : MtI P w K mg base 3 "Reader" "bar" ["self"] [] m_Reader_bar) (G_Reader_name : MtI P w K mg base 4 "Reader" "name" ["self"] [] m_Reader_name) (G_Reader_pass_blanks : MtI P w K mg base 2 "Reader" "pass_blanks" ["self"] [] m_Reader_pass_blanks) (G_Reader_take : MtI P w K mg base 2 "Reader" "take" ["self", "signs"] [] m_Reader_take) : MtI P w K mg base 5 "Reader" "group" ["self"] [] m_Reader_group := by
  refine mt_mk (N := ["self", "found"]) (asg := []) T.k_Reader hm F sc_Reader_group rfl rfl (fun _ _ _ _ _ _ us hl => match us, hl with | [_], _ => rfl) (fun cdv A outer s H Ex hr => ?_)
  have sc := sc_Reader_group
  have po := passes_of (X := cxOf (L2.CX P w) P w K mg base ["self", "found"] "Reader.group" (defScope (top 25 7)) f cdv A outer s H Ex) rfl
  have tk := takes_of (X := cxOf (L2.CX P w) P w K mg base ["self", "found"] "Reader.group" (defScope (top 25 7)) f cdv A outer s H Ex) (E := Ex) rfl rfl rfl rfl
  exact (s_cons (s_expr (e_meth0 G_Reader_pass_blanks 0 (hr.mono (by omega)) tk (e_v 0)))
  (s_cons (s_if (t_eq hr.units (e_meth G_Reader_take 0 (hr.mono (by omega)) tk (e_v 0) (a_cons e_str a_nil)) e_str) (s_one (s_ret (e_lst (a_cons (e_meth0 G_Reader_name 0 (hr.mono (by omega)) tk (e_v 0)) a_nil)))) s_nil)
  (s_cons (s_set (i := 1) sc.nd rfl (by first | exact Or.inl rfl | exact Or.inr rfl) (e_lst (a_cons (e_meth0 G_Reader_name 0 (hr.mono (by omega)) tk (e_v 0)) a_nil)))
  (s_cons (s_expr (e_meth0 G_Reader_pass_blanks 0 (hr.mono (by omega)) tk (e_v 0)))
  (s_cons (s_while po (t_ne hr.units (e_meth G_Reader_take 0 (hr.mono (by omega)) tk (e_v 0) (a_cons e_str a_nil)) e_str) (s_cons (s_expr (e_append (e_v 1) (e_meth0 G_Reader_name 0 (hr.mono (by omega)) tk (e_v 0))))
  (s_one (s_expr (e_meth0 G_Reader_pass_blanks 0 (hr.mono (by omega)) tk (e_v 0))))))
  (s_cons (s_if (t_eq hr.units (e_meth G_Reader_take 0 (hr.mono (by omega)) tk (e_v 0) (a_cons e_str a_nil)) e_str) (s_one (s_expr (e_meth0 G_Reader_bar 0 (hr.mono (by omega)) tk (e_v 0)))) s_nil)
  (s_one (s_retv (L2.pv 1)))))))))
theorem sc_read_statement : FnScope ["reader", "draft", "here", "link", "there"] ["reader", "draft"] (defScope (top 27)) := ⟨rfl, rfl, rfl, by decide +kernel, rfl, by decide +kernel, by decide +kernel⟩
theorem G_read_statement (T : Txt K mg) {f : Addr} {fd : FuncData} (F : FunD K "read_statement" "read_statement" (defArgs (top 27)) (defBody (top 27)) (defScope (top 27)) [] [] f fd) (hm : mg "read_statement" = some (.ref f)) (G_Draft_linked : MtI P w K mg base 2 "Draft" "linked" ["self", "ones", "others", "link"] [] m_Draft_linked) (G_Draft_seen : MtI P w K mg base 1 "Draft" "seen" ["self", "group"] [] m_Draft_seen) (G_Reader_group : MtI P w K mg base 5 "Reader" "group" ["self"] [] m_Reader_group) (G_Reader_link : MtI P w K mg base 4 "Reader" "link" ["self"] [] m_Reader_link) : Fn P w K mg base 6 "read_statement" ["reader", "draft"] m_read_statement := by
  refine fn_mk (N := ["reader", "draft", "here", "link", "there"]) (asg := []) F sc_read_statement rfl rfl hm (fun _ _ _ _ _ _ us hl => match us, hl with | [_, _], _ => rfl) (fun cdv A outer s H Ex hr => ?_)
  have sc := sc_read_statement
  have po := passes_of (X := cxOf (L2.CX P w) P w K mg base ["reader", "draft", "here", "link", "there"] "read_statement" (defScope (top 27)) f cdv A outer s H Ex) rfl
  have tk := takes_of (X := cxOf (L2.CX P w) P w K mg base ["reader", "draft", "here", "link", "there"] "read_statement" (defScope (top 27)) f cdv A outer s H Ex) (E := Ex) rfl rfl rfl rfl
  exact (s_cons (s_set (i := 2) sc.nd rfl (by first | exact Or.inl rfl | exact Or.inr rfl) (e_meth G_Draft_seen 0 (hr.mono (by omega)) tk (e_v 1) (a_cons (e_meth0 G_Reader_group 0 (hr.mono (by omega)) tk (e_v 0)) a_nil)))
  (s_cons (s_set (i := 3) sc.nd rfl (by first | exact Or.inl rfl | exact Or.inr rfl) (e_meth0 G_Reader_link 0 (hr.mono (by omega)) tk (e_v 0)))
  (s_one (s_while po (t_notN (e_v 3) e_non) (s_cons (s_set (i := 4) sc.nd rfl (by first | exact Or.inl rfl | exact Or.inr rfl) (e_meth G_Draft_seen 0 (hr.mono (by omega)) tk (e_v 1) (a_cons (e_meth0 G_Reader_group 0 (hr.mono (by omega)) tk (e_v 0)) a_nil)))
  (s_cons (s_expr (e_meth G_Draft_linked 0 (hr.mono (by omega)) tk (e_v 1) (a_cons (e_v 2) (a_cons (e_v 4) (a_cons (e_v 3) a_nil)))))
  (s_cons (s_set (i := 2) sc.nd rfl (by first | exact Or.inl rfl | exact Or.inr rfl) (e_tk (e_v 4)))
  (s_one (s_set (i := 3) sc.nd rfl (by first | exact Or.inl rfl | exact Or.inr rfl) (e_meth0 G_Reader_link 0 (hr.mono (by omega)) tk (e_v 0)))))))))))
abbrev N_web_text : List Str := ["web", "names", "arrows", "sayings", "found", "arrow", "one", "other", "least"]
theorem sc_web_text : FnScope ["web", "names", "arrows", "sayings", "found", "arrow", "one", "other", "least"] ["web"] (defScope (top 30)) := ⟨rfl, rfl, rfl, by decide +kernel, rfl, by decide +kernel, by decide +kernel⟩
theorem G_web_text (T : Txt K mg) {f : Addr} {fd : FuncData} (F : FunD K "web_text" "web_text" (defArgs (top 30)) (defBody (top 30)) (defScope (top 30)) [] [] f fd) (hm : mg "web_text" = some (.ref f)) (G_arrow_text : Fn P w K mg base 1 "arrow_text" ["names", "arrow"] m_arrow_text) (G_need_web : Fn P w K mg base 4 "need_web" ["web"] m_need_web) : Fn P w K mg base 5 "web_text" ["web"] m_web_text := by
  refine fn_mk (N := ["web", "names", "arrows", "sayings", "found", "arrow", "one", "other", "least"]) (asg := []) F sc_web_text rfl rfl hm (fun _ _ _ _ _ _ us hl => match us, hl with | [_], _ => rfl) (fun cdv A outer s H Ex hr => ?_)
  have sc := sc_web_text
  have po := passes_of (X := cxOf (L2.CX P w) P w K mg base ["web", "names", "arrows", "sayings", "found", "arrow", "one", "other", "least"] "web_text" (defScope (top 30)) f cdv A outer s H Ex) rfl
  have tk := takes_of (X := cxOf (L2.CX P w) P w K mg base ["web", "names", "arrows", "sayings", "found", "arrow", "one", "other", "least"] "web_text" (defScope (top 30)) f cdv A outer s H Ex) (E := Ex) rfl rfl rfl rfl
  exact (s_cons (s_expr (e_call G_need_web (hr.mono (by omega)) rfl tk (a_cons (e_v 0) a_nil)))
  (s_cons (s_asg (S := [1, 2, 3]) (e_tk (e_v 0)) (g_tup rfl (gs_cons (g_name (i := 1) sc.nd rfl (by first | exact Or.inl rfl | exact Or.inr rfl)) (gs_cons (g_name (i := 2) sc.nd rfl (by first | exact Or.inl rfl | exact Or.inr rfl)) (gs_cons (g_name (i := 3) sc.nd rfl (by first | exact Or.inl rfl | exact Or.inr rfl)) gs_nil)))))
  (s_cons (s_set (i := 4) sc.nd rfl (by first | exact Or.inl rfl | exact Or.inr rfl) (e_add (e_listD rfl rfl T.b_list (e_v 1)) (e_lc (own := [("arrow", 5)]) (S := [5]) rfl sc.nd (i_seq (e_v 2)) (blkOk_by (N := N_web_text) (sc := defScope (top 30)) (own := [("arrow", 5)]) (by decide +kernel)) (fun _ _ _ _ _ => (g_name (i := 5) sc.nd rfl (by first | exact Or.inl rfl | exact Or.inr rfl))) (fun _ _ _ _ _ => (ts_nil rfl)) (fun _ _ _ _ _ => (e_call G_arrow_text (hr.mono (by omega)) rfl takes0 (a_cons (e_v 1) (a_cons (e_v 5) a_nil)))))))
  (s_one (s_ret (e_join e_str (e_add (e_v 4) (e_lc (own := [("one", 6), ("other", 7), ("least", 8)]) (S := [6, 7, 8]) rfl sc.nd (i_seq (e_v 3)) (blkOk_by (N := N_web_text) (sc := defScope (top 30)) (own := [("one", 6), ("other", 7), ("least", 8)]) (by decide +kernel)) (fun _ _ _ _ _ => (g_tup rfl (gs_cons (g_name (i := 6) sc.nd rfl (by first | exact Or.inl rfl | exact Or.inr rfl)) (gs_cons (g_name (i := 7) sc.nd rfl (by first | exact Or.inl rfl | exact Or.inr rfl)) (gs_cons (g_name (i := 8) sc.nd rfl (by first | exact Or.inl rfl | exact Or.inr rfl)) gs_nil))))) (fun _ _ _ _ _ => (ts_nil rfl)) (fun _ _ _ _ _ => (e_js (js_cons (e_fmt (e_itemF hr.units (e_v 1) (e_v 6))) (js_cons e_str (js_cons (e_fmt (e_v 8)) (js_cons e_str (js_cons (e_fmt (e_itemF hr.units (e_v 1) (e_v 7))) js_nil)))))))))))))))
theorem sc_read_web : FnScope ["text", "reader", "draft"] ["text"] (defScope (top 28)) := ⟨rfl, rfl, rfl, by decide +kernel, rfl, by decide +kernel, by decide +kernel⟩
theorem G_read_web (T : Txt K mg) {f : Addr} {fd : FuncData} (F : FunD K "read_web" "read_web" (defArgs (top 28)) (defBody (top 28)) (defScope (top 28)) [] [] f fd) (hm : mg "read_web" = some (.ref f)) (IF_BadText : InitN P w K mg base "BadText" "InkError" "at") (G_Draft___init__ : MkI P w K mg base 1 "Draft" ["self"] m_Draft___init__) (G_Draft_web : MtI P w K mg base 1 "Draft" "web" ["self"] [] m_Draft_web) (G_Reader___init__ : MkI P w K mg base 1 "Reader" ["self", "text"] m_Reader___init__) (G_Reader_bar : MtI P w K mg base 3 "Reader" "bar" ["self"] [] m_Reader_bar) (G_Reader_pass_blanks : MtI P w K mg base 2 "Reader" "pass_blanks" ["self"] [] m_Reader_pass_blanks) (G_Reader_sign : MtI P w K mg base 1 "Reader" "sign" ["self", "more"] [0] m_Reader_sign) (G_Reader_take : MtI P w K mg base 2 "Reader" "take" ["self", "signs"] [] m_Reader_take) (G_is_web : Fn P w K mg base 3 "is_web" ["web"] m_is_web) (G_read_statement : Fn P w K mg base 6 "read_statement" ["reader", "draft"] m_read_statement) : Fn P w K mg base 7 "read_web" ["text"] m_read_web := by
  refine fn_mk (N := ["text", "reader", "draft"]) (asg := []) F sc_read_web rfl rfl hm (fun _ _ _ _ _ _ us hl => match us, hl with | [_], _ => rfl) (fun cdv A outer s H Ex hr => ?_)
  have sc := sc_read_web
  have po := passes_of (X := cxOf (L2.CX P w) P w K mg base ["text", "reader", "draft"] "read_web" (defScope (top 28)) f cdv A outer s H Ex) rfl
  have tk := takes_of (X := cxOf (L2.CX P w) P w K mg base ["text", "reader", "draft"] "read_web" (defScope (top 28)) f cdv A outer s H Ex) (E := Ex) rfl rfl rfl rfl
  exact (s_cons (s_set (i := 1) sc.nd rfl (by first | exact Or.inl rfl | exact Or.inr rfl) (e_make G_Reader___init__ (hr.mono (by omega)) rfl tk (a_cons (e_tk (e_v 0)) a_nil)))
  (s_cons (s_set (i := 2) sc.nd rfl (by first | exact Or.inl rfl | exact Or.inr rfl) (e_make0 G_Draft___init__ (hr.mono (by omega)) rfl tk))
  (s_cons (s_expr (e_meth0 G_Reader_pass_blanks 0 (hr.mono (by omega)) tk (e_v 1)))
  (s_cons (s_if (t_ne hr.units (e_meth0 G_Reader_sign 0 (hr.mono (by omega)) tk (e_v 1)) e_str) (s_cons (s_expr (e_call G_read_statement (hr.mono (by omega)) rfl tk (a_cons (e_v 1) (a_cons (e_v 2) a_nil))))
  (s_one (s_while po (t_ne hr.units (e_meth G_Reader_take 0 (hr.mono (by omega)) tk (e_v 1) (a_cons e_str a_nil)) e_str) (s_one (s_expr (e_call G_read_statement (hr.mono (by omega)) rfl tk (a_cons (e_v 1) (a_cons (e_v 2) a_nil)))))))) s_nil)
  (s_cons (s_if (t_ne hr.units (e_meth0 G_Reader_sign 0 (hr.mono (by omega)) tk (e_v 1)) e_str) (s_one (s_expr (e_meth0 G_Reader_bar 0 (hr.mono (by omega)) tk (e_v 1)))) s_nil)
  (s_cons (s_if (t_not (t_val (e_call G_is_web (hr.mono (by omega)) rfl tk (a_cons (e_meth0 G_Draft_web 0 (hr.mono (by omega)) tk (e_v 2)) a_nil)))) (s_one (s_raiseN rfl tk IF_BadText (hr.mono (by omega)) rfl (e_len rfl T.b_len (e_v 0)))) s_nil)
  (s_one (s_ret (e_meth0 G_Draft_web 0 (hr.mono (by omega)) tk (e_v 2))))))))))
theorem sc_law : FnScope ["_law_script", "_law_bag_here", "_law_turn", "_law_most", "_law_web", "_law_rows_now", "_law_one", "_law_other", "_law_drop_by", "_law_load_by", "_law_link", "_law_text"] ["_law_script"] (defScope (top 38)) := ⟨rfl, rfl, rfl, by decide +kernel, rfl, by decide +kernel, by decide +kernel⟩
theorem G_law (T : Txt K mg) {f : Addr} {fd : FuncData} (F : FunD K "law" "law" (defArgs (top 38)) (defBody (top 38)) (defScope (top 38)) [] [] f fd) (hf : f = He.ga K "law") (TB : LamX.TabB base mg (He.cT K ("law", none)).1 (He.cT K ("law", none)).2) (TI : tlOf K ("law", none) ∈ TL K) (G_law_alike : Fn P w K mg base 8 "_law_alike" ["_law_found", "_law_due"] (m_law_alike 6)) (G_law_bag : Fn P w K mg base 1 "_law_bag" ["_law_script"] m_law_bag) (G_law_drawn_web : Fn P w K mg base 3 "_law_drawn_web" ["_law_bag_here", "_law_most", "_law_most_arrows", "_law_most_told"] m_law_drawn_web) (G_law_pull : Fn P w K mg base 1 "_law_pull" ["_law_bag_here", "_law_many"] m_law_pull) (G_read_web : Fn P w K mg base 7 "read_web" ["text"] m_read_web) (G_web_text : Fn P w K mg base 5 "web_text" ["web"] m_web_text) : FnG P w K mg base (L2.CX P w) 9 f fd ["_law_script"] (spOf K m_law) := by
  refine fn_mkO (N := ["_law_script", "_law_bag_here", "_law_turn", "_law_most", "_law_web", "_law_rows_now", "_law_one", "_law_other", "_law_drop_by", "_law_load_by", "_law_link", "_law_text"]) (asg := []) F hf sc_law rfl rfl (fun cdv A outer s H Ex hco hgd hr => ?_)
  have sc := sc_law
  have po := passes_of (X := cxOf (L2.CX P w) P w K mg base ["_law_script", "_law_bag_here", "_law_turn", "_law_most", "_law_web", "_law_rows_now", "_law_one", "_law_other", "_law_drop_by", "_law_load_by", "_law_link", "_law_text"] "law" (defScope (top 38)) f cdv A outer s H Ex) rfl
  have tk := takes_of (X := cxOf (L2.CX P w) P w K mg base ["_law_script", "_law_bag_here", "_law_turn", "_law_most", "_law_web", "_law_rows_now", "_law_one", "_law_other", "_law_drop_by", "_law_load_by", "_law_link", "_law_text"] "law" (defScope (top 38)) f cdv A outer s H Ex) (E := Ex) rfl rfl rfl rfl
  exact (s_cons (s_set (i := 1) sc.nd rfl (by first | exact Or.inl rfl | exact Or.inr rfl) (e_call G_law_bag (hr.mono (by omega)) rfl tk (a_cons (e_v 0) a_nil)))
  (s_cons (s_for (S := [2]) po rfl (i_range1 rfl T.b_range e_int) (g_name (i := 2) sc.nd rfl (by first | exact Or.inl rfl | exact Or.inr rfl)) (s_cons (s_set (i := 3) sc.nd rfl (by first | exact Or.inl rfl | exact Or.inr rfl) (e_itemF hr.units (e_lst (a_cons e_int (a_cons e_int (a_cons e_int a_nil)))) (e_call G_law_pull (hr.mono (by omega)) rfl tk (a_cons (e_v 1) (a_cons e_int a_nil)))))
  (s_cons (s_set (i := 4) sc.nd rfl (by first | exact Or.inl rfl | exact Or.inr rfl) (e_call G_law_drawn_web (hr.mono (by omega)) rfl tk (a_cons (e_v 1) (a_cons (e_v 3) (a_cons (e_itemF hr.units (e_lst (a_cons e_int (a_cons e_int a_nil))) (e_call G_law_pull (hr.mono (by omega)) rfl tk (a_cons (e_v 1) (a_cons e_int a_nil)))) (a_cons (e_itemF hr.units (e_lst (a_cons e_int (a_cons e_int a_nil))) (e_call G_law_pull (hr.mono (by omega)) rfl tk (a_cons (e_v 1) (a_cons e_int a_nil)))) a_nil))))))
  (s_cons (s_set (i := 5) sc.nd rfl (by first | exact Or.inl rfl | exact Or.inr rfl) (e_listD rfl rfl T.b_list (e_itemF hr.units (e_v 4) e_int)))
  (s_cons (s_for (S := [6, 7, 8, 9]) po rfl (i_seq (e_itemF hr.units (e_v 4) e_int)) (g_tup rfl (gs_cons (g_name (i := 6) sc.nd rfl (by first | exact Or.inl rfl | exact Or.inr rfl)) (gs_cons (g_name (i := 7) sc.nd rfl (by first | exact Or.inl rfl | exact Or.inr rfl)) (gs_cons (g_name (i := 8) sc.nd rfl (by first | exact Or.inl rfl | exact Or.inr rfl)) (gs_cons (g_name (i := 9) sc.nd rfl (by first | exact Or.inl rfl | exact Or.inr rfl)) gs_nil))))) (s_cons (s_set (i := 10) sc.nd rfl (by first | exact Or.inl rfl | exact Or.inr rfl) (e_add (e_add e_str (e_mul (e_strF rfl T.b_str (e_v 8)) (e_int1 rfl T.b_int (e_gt (e_v 8) e_int)))) (e_mul (e_add e_str (e_strF rfl T.b_str (e_v 9))) (e_int1 rfl T.b_int (e_gt (e_v 9) e_int)))))
  (s_one (s_expr (e_append (e_v 5) (e_join e_str (e_lst (a_cons (e_itemF hr.units (e_itemF hr.units (e_v 4) e_int) (e_v 6)) (a_cons (e_tk (e_v 10)) (a_cons (e_itemF hr.units (e_itemF hr.units (e_v 4) e_int) (e_v 7)) a_nil))))))))))
  (s_cons (s_for (S := [6, 7, 8]) po rfl (i_seq (e_itemF hr.units (e_v 4) e_int)) (g_tup rfl (gs_cons (g_name (i := 6) sc.nd rfl (by first | exact Or.inl rfl | exact Or.inr rfl)) (gs_cons (g_name (i := 7) sc.nd rfl (by first | exact Or.inl rfl | exact Or.inr rfl)) (gs_cons (g_name (i := 8) sc.nd rfl (by first | exact Or.inl rfl | exact Or.inr rfl)) gs_nil)))) (s_one (s_expr (e_append (e_v 5) (e_join e_str (e_lst (a_cons (e_itemF hr.units (e_itemF hr.units (e_v 4) e_int) (e_v 6)) (a_cons (e_add e_str (e_strF rfl T.b_str (e_v 8))) (a_cons (e_itemF hr.units (e_itemF hr.units (e_v 4) e_int) (e_v 7)) a_nil)))))))))
  (s_cons (s_set (i := 11) sc.nd rfl (by first | exact Or.inl rfl | exact Or.inr rfl) (e_join e_str (e_v 5)))
  (s_one (s_if (PW.pt (t_or (t_not (t_val (e_pure (e_call G_law_alike (hr.mono (by omega)) rfl tk (a_cons (e_fr (e_call G_web_text (hr.mono (by omega)) rfl tk (a_cons (e_v 4) a_nil))) (a_cons (e_v 11) a_nil)))))) (t_or1 (t_not (t_val (e_pure (e_call G_law_alike (hr.mono (by omega)) rfl tk (a_cons (e_fr (e_call G_read_web (hr.mono (by omega)) rfl tk (a_cons (e_v 11) a_nil))) (a_cons (e_v 4) a_nil))))))))) (s_one (s_ret e_bl)) s_nil)))))))))
  (s_one (s_ret e_bl))))
end
end Lw
set_option Elab.async false
set_option linter.all false
set_option maxRecDepth 100000
set_option maxHeartbeats 2000000
namespace Ink
open PySem L2
def kFl2 (env : E) (o : Option D) : Option (Out Av) := match o with
  | some d => some (.ok (.tm (.fz d)) env)
  | none => none
@[simp] theorem kFl2_0 {env : E} {d : D} : kFl2 env (some d) = some (.ok (.tm (.fz d)) env) := (rfl)
def kFl1 (C x : Str) (env : E) (o : Option M) : Option (Out Av) := match o with
  | some m => kFl2 env (insD C x m)
  | none => none
@[simp] theorem kFl1_0 {C x : Str} {env : E} {m : M} : kFl1 C x env (some m) = kFl2 env (insD C x m) := (rfl)
def kFl (C x : Str) (o : Option (Out Av)) : Option (Out Av) := match o with
  | some (.ok a env1) => kFl1 C x env1 (resA env1 a)
  | some (.ex y env1) => some (.ex y env1)
  | none => none
@[simp] theorem kFl_0 {C x : Str} {a : Av} {env1 : E} : kFl C x (some (.ok a env1)) = kFl1 C x env1 (resA env1 a) := (rfl)
@[simp] theorem ev_fldE {C x : Str} {fo : FE} {env : E} : fldE C x fo env = kFl C x (fo env) := by
  unfold fldE kFl bindO
  cases fo env with
  | none => rfl
  | some o => cases o with
    | ex y e => rfl
    | ok a e =>
      simp only []
      unfold kFl1 kFl2
      cases resA e a with
      | none => rfl
      | some m => simp only [] <;> cases insD C x m <;> rfl
def kMt3 (g : FP) (a : Av) (o : Option (Out (List Av))) : Option (Out Av) := match o with
  | some (.ok as env2) => runP g (a :: as) env2
  | some (.ex x env2) => some (.ex x env2)
  | none => none
@[simp] theorem kMt3_0 {g : FP} {a : Av} {as : List Av} {env2 : E} : kMt3 g a (some (.ok as env2)) = runP g (a :: as) env2 := (rfl)
@[simp] theorem kMt3_1 {g : FP} {a : Av} {x : Xc} {env2 : E} : kMt3 g a (some (.ex x env2)) = some (.ex x env2) := (rfl)
def kMt2 (g : FP) (fa : FA) (a : Av) (env : E) (b : Bool) : Option (Out Av) := match b with
  | true => kMt3 g a (fa env)
  | false => none
@[simp] theorem kMt2_0 {g : FP} {fa : FA} {a : Av} {env : E} : kMt2 g fa a env true = kMt3 g a (fa env) := (rfl)
def kMt1 (C m : Str) (g : FP) (fa : FA) (a : Av) (env : E) (o : Option M) : Option (Out Av) := match o with
  | some mm => kMt2 g fa a env (isInsM C m mm)
  | none => none
@[simp] theorem kMt1_0 {C m : Str} {g : FP} {fa : FA} {a : Av} {env : E} {mm : M} : kMt1 C m g fa a env (some mm) = kMt2 g fa a env (isInsM C m mm) := (rfl)
def kMt (C m : Str) (g : FP) (fa : FA) (o : Option (Out Av)) : Option (Out Av) := match o with
  | some (.ok a env1) => kMt1 C m g fa a env1 (resA env1 a)
  | some (.ex x env1) => some (.ex x env1)
  | none => none
@[simp] theorem kMt_0 {C m : Str} {g : FP} {fa : FA} {a : Av} {env1 : E} : kMt C m g fa (some (.ok a env1)) = kMt1 C m g fa a env1 (resA env1 a) := (rfl)
@[simp] theorem kMt_1 {C m : Str} {g : FP} {fa : FA} {x : Xc} {env1 : E} : kMt C m g fa (some (.ex x env1)) = some (.ex x env1) := (rfl)
@[simp] theorem ev_methE {C m : Str} {g : FP} {fo : FE} {fa : FA} {env : E} : methE C m g fo fa env = kMt C m g fa (fo env) := by
  unfold methE kMt bindO
  cases fo env with
  | none => rfl
  | some o => cases o with
    | ex y e => rfl
    | ok a e =>
      simp only []
      unfold kMt1
      cases resA e a with
      | none => rfl
      | some mm =>
        simp only []
        unfold kMt2
        cases isInsM C m mm with
        | false => rfl
        | true =>
          simp only []
          unfold kMt3
          cases fa e with
          | none => rfl
          | some o => cases o <;> rfl
def kMk2 (C : Str) (g : FP) (env : E) (o : Option (List M)) : Option (Out Av) := match o with
  | some ms => mkK C env (g (.ins C [] :: ms))
  | none => none
@[simp] theorem kMk2_0 {C : Str} {g : FP} {env : E} {ms : List M} : kMk2 C g env (some ms) = mkK C env (g (.ins C [] :: ms)) := (rfl)
def kMk (C : Str) (g : FP) (o : Option (Out (List Av))) : Option (Out Av) := match o with
  | some (.ok as env1) => kMk2 C g env1 (tms as)
  | some (.ex x env1) => some (.ex x env1)
  | none => none
@[simp] theorem kMk_0 {C : Str} {g : FP} {as : List Av} {env1 : E} : kMk C g (some (.ok as env1)) = kMk2 C g env1 (tms as) := (rfl)
@[simp] theorem ev_mkE {C : Str} {g : FP} {fa : FA} {env : E} : mkE C g fa env = kMk C g (fa env) := by
  unfold mkE kMk bindO
  cases fa env with
  | none => rfl
  | some o => cases o with
    | ex y e => rfl
    | ok as e =>
      simp only []
      unfold kMk2
      cases tms as <;> rfl
@[simp] theorem mkK_0 {C : Str} {env : E} {inst : M} {r : E} : mkK C env (some (.ok (.fz .non) (some inst :: r))) = some (.ok (.tm inst) env) := (rfl)
def kFc (C x : Str) (env : E) (m : M) : Option (E × Way) := match m with
  | .ins C' fs => if C' = C ∧ (valG fs x).isSome = true then some (env, .fl x) else none
  | _ => none
@[simp] theorem ev_flC {C x : Str} {i : Nat} {env : E} : flC C x i env = match env[i]? with
    | some (some m) => kFc C x env m
    | _ => none := by
  unfold flC kFc
  cases env[i]? with
  | none => rfl
  | some o => cases o with
    | none => rfl
    | some m => cases m <;> rfl
@[simp] theorem ev_setFS {C x : Str} {fe fo : FE} {env : E} : setFS C x fe fo env = kExp (callE (setFG C x) (consA fe (consA fo nilA)) env) := by
  unfold setFS bindS kExp
  cases callE (setFG C x) (consA fe (consA fo nilA)) env with
  | none => rfl
  | some o => cases o <;> rfl
def kAf3 (C x : Str) (i : Nat) (f : Int → Int → Int) (a : Int) (env : E) (o : Option Int) : Option Fl := match o with
  | some b => kExp (runP (setFG C x) [.tm (.fz (.int (f a b))), .sl i] env)
  | none => none
@[simp] theorem kAf3_0 {C x : Str} {i : Nat} {f : Int → Int → Int} {a b : Int} {env : E} : kAf3 C x i f a env (some b) = kExp (runP (setFG C x) [.tm (.fz (.int (f a b))), .sl i] env) := (rfl)
def kAf2 (C x : Str) (i : Nat) (f : Int → Int → Int) (a : Int) (o : Option (Out Av)) : Option Fl := match o with
  | some (.ok c env1) => kAf3 C x i f a env1 (intA c env1)
  | some (.ex y env1) => some (.ex y env1)
  | none => none
@[simp] theorem kAf2_0 {C x : Str} {i : Nat} {f : Int → Int → Int} {a : Int} {c : Av} {env1 : E} : kAf2 C x i f a (some (.ok c env1)) = kAf3 C x i f a env1 (intA c env1) := (rfl)
def kAf1 (C x : Str) (i : Nat) (f : Int → Int → Int) (fe : FE) (env : E) (o : Option D) : Option Fl := match o with
  | some (.int a) => kAf2 C x i f a (fe env)
  | _ => none
@[simp] theorem kAf1_0 {C x : Str} {i : Nat} {f : Int → Int → Int} {fe : FE} {env : E} {a : Int} : kAf1 C x i f fe env (some (.int a)) = kAf2 C x i f a (fe env) := (rfl)
@[simp] theorem ev_augFS {C x : Str} {i : Nat} {f : Int → Int → Int} {fe : FE} {env : E} : augFS C x i f fe env = match env[i]? with
    | some (some m) => kAf1 C x i f fe env (insD C x m)
    | _ => none := by
  unfold augFS
  cases env[i]? with
  | none => rfl
  | some o => cases o with
    | none => rfl
    | some m =>
      simp only []
      unfold kAf1
      cases insD C x m with
      | none => rfl
      | some d => cases d with
        | int a =>
          simp only []
          unfold kAf2 bindS
          cases fe env with
          | none => rfl
          | some o => cases o with
            | ex y e => rfl
            | ok c e =>
              simp only []
              unfold kAf3 kExp
              cases intA c e with
              | none => rfl
              | some b => simp only [] <;> cases runP (setFG C x) [.tm (.fz (.int (f a b))), .sl i] e <;> first | rfl | (rename_i o; cases o <;> rfl)
        | _ => rfl
def kFm2 (env : E) (o : Option Str) : Option (Out Av) := match o with
  | some y => some (.ok (.tm (.fz (.str y))) env)
  | none => none
@[simp] theorem kFm2_0 {env : E} {y : Str} : kFm2 env (some y) = some (.ok (.tm (.fz (.str y))) env) := (rfl)
def kFm1 (env : E) (o : Option M) : Option (Out Av) := match o with
  | some m => kFm2 env (fmtM m)
  | none => none
@[simp] theorem kFm1_0 {env : E} {m : M} : kFm1 env (some m) = kFm2 env (fmtM m) := (rfl)
def kFm (o : Option (Out Av)) : Option (Out Av) := match o with
  | some (.ok a env1) => kFm1 env1 (resA env1 a)
  | some (.ex y env1) => some (.ex y env1)
  | none => none
@[simp] theorem kFm_0 {a : Av} {env1 : E} : kFm (some (.ok a env1)) = kFm1 env1 (resA env1 a) := (rfl)
@[simp] theorem ev_fmtE {fe : FE} {env : E} : fmtE fe env = kFm (fe env) := by
  unfold fmtE kFm bindO
  cases fe env with
  | none => rfl
  | some o => cases o with
    | ex y e => rfl
    | ok a e =>
      simp only []
      unfold kFm1 kFm2
      cases resA e a with
      | none => rfl
      | some m => simp only [] <;> cases fmtM m <;> rfl
@[simp] theorem fmtM_0 {y : Str} : fmtM (.fz (.str y)) = if y.length ≤ sizeLine then some y else none := (rfl)
@[simp] theorem fmtM_1 {i : Int} : fmtM (.fz (.int i)) = if i.natAbs.log2 < 1920 then some (toString i : Str) else none := (rfl)
@[simp] theorem strM1_0 {y : Str} : strM1 (.fz (.str y)) = some y := (rfl)
def kJs2 (fs : List FE) (acc : Str) (env : E) (o : Option Str) : Option (Out Av) := match o with
  | some y => if (acc ++ y).length ≤ sizeLine then jsE fs (acc ++ y) env else none
  | none => none
@[simp] theorem kJs2_0 {fs : List FE} {acc : Str} {env : E} {y : Str} : kJs2 fs acc env (some y) = if (acc ++ y).length ≤ sizeLine then jsE fs (acc ++ y) env else none := (rfl)
def kJs1 (fs : List FE) (acc : Str) (env : E) (o : Option M) : Option (Out Av) := match o with
  | some m => kJs2 fs acc env (strM1 m)
  | none => none
@[simp] theorem kJs1_0 {fs : List FE} {acc : Str} {env : E} {m : M} : kJs1 fs acc env (some m) = kJs2 fs acc env (strM1 m) := (rfl)
def kJs (fs : List FE) (acc : Str) (o : Option (Out Av)) : Option (Out Av) := match o with
  | some (.ok a env1) => kJs1 fs acc env1 (resA env1 a)
  | some (.ex y env1) => some (.ex y env1)
  | none => none
@[simp] theorem kJs_0 {fs : List FE} {acc : Str} {a : Av} {env1 : E} : kJs fs acc (some (.ok a env1)) = kJs1 fs acc env1 (resA env1 a) := (rfl)
@[simp] theorem ev_js0 {acc : Str} {env : E} : jsE [] acc env = some (.ok (.tm (.fz (.str acc))) env) := (rfl)
@[simp] theorem ev_js {f : FE} {fs : List FE} {acc : Str} {env : E} : jsE (f :: fs) acc env = kJs fs acc (f env) := by
  rw [show jsE (f :: fs) acc env = bindO (f env) (fun a env1 => match resA env1 a with
    | some m => match strM1 m with
      | some y => if (acc ++ y).length ≤ sizeLine then jsE fs (acc ++ y) env1 else none
      | none => none
    | none => none) from rfl]
  unfold kJs bindO
  cases f env with
  | none => rfl
  | some o => cases o with
    | ex y e => rfl
    | ok a e =>
      simp only []
      unfold kJs1 kJs2
      cases resA e a with
      | none => rfl
      | some m => simp only [] <;> cases strM1 m <;> rfl
@[simp] theorem ev_int10 {x : Str} {i : Int} : int10M (.fz (.str x)) (.fz (.int i)) = match x.cps.toList with
    | [c] => if i = 10 ∧ 48 ≤ c ∧ c ≤ 57 then some (.fz (.int (((c - 48 : Nat) : Int)))) else none
    | _ => none := (rfl)
def kSq2 (kvs : List (Key × M)) (k : M) (d : D) (kk : Key) (o : Option M) : Option OutP := match o with
  | some (.fz d') => some (.ok (.fz d') [some (.dK kvs), some k, some (.fz d)])
  | some _ => none
  | none => some (.ok (.fz d) [some (.dK (kvs ++ [(kk, .fz d)])), some k, some (.fz d)])
@[simp] theorem kSq2_0 {kvs : List (Key × M)} {k : M} {d d' : D} {kk : Key} : kSq2 kvs k d kk (some (.fz d')) = some (.ok (.fz d') [some (.dK kvs), some k, some (.fz d)]) := (rfl)
@[simp] theorem kSq2_1 {kvs : List (Key × M)} {k : M} {d : D} {kk : Key} : kSq2 kvs k d kk none = some (.ok (.fz d) [some (.dK (kvs ++ [(kk, .fz d)])), some k, some (.fz d)]) := (rfl)
def kSq1 (kvs : List (Key × M)) (k : M) (d : D) (o : Option Key) : Option OutP := match o with
  | some kk => if kvs.length < sizeLine then kSq2 kvs k d kk (valG kvs kk) else none
  | none => none
@[simp] theorem kSq1_0 {kvs : List (Key × M)} {k : M} {d : D} {kk : Key} : kSq1 kvs k d (some kk) = if kvs.length < sizeLine then kSq2 kvs k d kk (valG kvs kk) else none := (rfl)
@[simp] theorem ev_sdG {kvs : List (Key × M)} {k : M} {d : D} : sdG [.dK kvs, k, .fz d] = kSq1 kvs k d (keyM k) := by
  show (match keyM k with
    | some kk => if kvs.length < sizeLine then (match valG kvs kk with
      | some (.fz d') => some (.ok (.fz d') [some (.dK kvs), some k, some (.fz d)])
      | some _ => none
      | none => some (.ok (.fz d) [some (.dK (kvs ++ [(kk, .fz d)])), some k, some (.fz d)])) else none
    | none => none : Option OutP) = _
  unfold kSq1 kSq2
  cases keyM k <;> rfl
end Ink
set_option Elab.async false
set_option linter.all false
set_option maxRecDepth 100000
set_option maxHeartbeats 0
namespace Lw
open PySem L2 Ink
structure Bag where
  c : List Int
  i : Nat
  s : Int
  z : Int
def Bag.m (b : Bag) : M := .lst [.fz (.lst (b.c.map D.int)), .fz (.int (b.i : Nat)), .fz (.int b.s), .fz (.int b.z)]
@[simp] theorem isFz_bag {b : Bag} : isFz b.m = false := rfl
theorem small_emod (a n : Int) (h : 0 < n) (h2 : n < 2 ^ 64) : mulC (a % n) (a % n) = true := by
  have h0 := Int.emod_nonneg a (show n ≠ 0 by omega)
  have h1 := Int.emod_lt_of_pos a h
  simp only [mulC, Bool.or_eq_true, Bool.and_eq_true, decide_eq_true_eq]
  omega
theorem mulC_r {i j : Int} (h : -(2 ^ 64) < j) (h2 : j < 2 ^ 64) : mulC i j = true := by
  simp only [mulC, Bool.or_eq_true, Bool.and_eq_true, decide_eq_true_eq]
  exact .inr ⟨h, h2⟩
def blend0 (x z i : Int) : Int := (x + z * 31 + i * 69061) % 2147483629
def blend1 (b : Int) : Int := (b * b + 40961) % 2147483587
def blend (x z i n : Int) : Int := ((blend1 (blend0 x z i) * blend1 (blend0 x z i) + i) % 1073741789) / 19 % n
theorem pull_ok (b : Bag) (n : Int) (hn : 0 < n) (hn2 : n < 1208925819614629174706176) : ∃ (r : Int) (b' : Bag), 0 ≤ r ∧ r < n ∧ m_law_pull [b.m, .fz (.int n)] = some (.ok (.fz (.int r)) [some b'.m, some (.fz (.int n))]) := by
  obtain ⟨c, i, s, z⟩ := b
  by_cases hs : s < 2
  · by_cases hl : (i : Int) + 1 ≤ c.length
    · obtain ⟨x, hx1, hx⟩ := atI_at (xs := c.map D.int) (i := (i : Int)) (by omega) (by simp; omega)
      obtain ⟨y, rfl⟩ : ∃ y, x = D.int y := by
        have := List.mem_of_getElem? hx1
        simp only [List.mem_map] at this
        obtain ⟨y, _, e⟩ := this
        exact ⟨y, e.symm⟩
      by_cases hb : (10 : Int) ^ 18 ≤ y
      · refine ⟨y % n, ⟨c, i + 1, y / n, z⟩, Int.emod_nonneg _ (by omega), Int.emod_lt_of_pos _ hn, ?_⟩
        have hb' : (1000000000000000000 : Int) ≤ y := by simpa using hb
        simp [m_law_pull, b_law_pull, Bag.m, hs, hl, hn, hn2]
        simp at hx
        simp [hx, hl, hb', hn, hn2]
      · refine ⟨blend y z (i + 1) n, ⟨c, i + 1, s, z⟩, Int.emod_nonneg _ (by omega), Int.emod_lt_of_pos _ hn, ?_⟩
        have hb' : ¬ (1000000000000000000 : Int) ≤ y := by simpa using hb
        simp [m_law_pull, b_law_pull, Bag.m, hs, hl, hn, hn2]
        simp at hx
        simp [hx, hl, hb', hn, hn2, mulC_r, small_emod, blend, blend0, blend1]
    · refine ⟨blend (i + 1) z (i + 1) n, ⟨c, i + 1, s, z⟩, Int.emod_nonneg _ (by omega), Int.emod_lt_of_pos _ hn, ?_⟩
      simp [m_law_pull, b_law_pull, Bag.m, hs, hl, hn, hn2, mulC_r, small_emod, blend, blend0, blend1]
  · refine ⟨s % n, ⟨c, i, s / n, z⟩, Int.emod_nonneg _ (by omega), Int.emod_lt_of_pos _ hn, ?_⟩
    simp [m_law_pull, b_law_pull, Bag.m, hs, hn, hn2]
open Classical in
/-- what is pulled, and the bag behind -/
noncomputable def pv (b : Bag) (n : Int) : Int := if h : 0 < n ∧ n < 1208925819614629174706176 then (pull_ok b n h.1 h.2).choose else 0
open Classical in
noncomputable def pb (b : Bag) (n : Int) : Bag := if h : 0 < n ∧ n < 1208925819614629174706176 then (pull_ok b n h.1 h.2).choose_spec.choose else b
theorem pull_all {b : Bag} {n : Int} (h : 0 < n) (h2 : n < 1208925819614629174706176) : 0 ≤ pv b n ∧ pv b n < n ∧ m_law_pull [b.m, .fz (.int n)] = some (.ok (.fz (.int (pv b n))) [some (pb b n).m, some (.fz (.int n))]) := by
  unfold pv pb
  rw [dif_pos ⟨h, h2⟩, dif_pos ⟨h, h2⟩]
  exact (pull_ok b n h h2).choose_spec.choose_spec
theorem pv_0 {b : Bag} {n : Int} (h : 0 < n) (h2 : n < 1208925819614629174706176) : 0 ≤ pv b n := (pull_all h h2).1
theorem pv_lt {b : Bag} {n : Int} (h : 0 < n) (h2 : n < 1208925819614629174706176) : pv b n < n := (pull_all h h2).2.1
@[simp] theorem pull_eq {b : Bag} {n : Int} (h : 0 < n) (h2 : n < 1208925819614629174706176) : m_law_pull [b.m, .fz (.int n)] = some (.ok (.fz (.int (pv b n))) [some (pb b n).m, some (.fz (.int n))]) := (pull_all h h2).2.2
end Lw
set_option Elab.async false
set_option linter.all false
set_option maxRecDepth 100000
set_option maxHeartbeats 0
namespace Lw
open PySem L2 Ink
structure Web where
  names : List Str
  arrows : List (List Int)
  told : List (List Int)
def rowD (r : List Int) : D := .tup (r.map D.int)
def Web.d (w : Web) : D := .tup [.tup (w.names.map D.str), .tup (w.arrows.map rowD), .tup (w.told.map rowD)]
abbrev letters : Str := "abcdefghijklmnopqrstuvwxyz"
def isNameB (x : Str) : Bool := (decide ((1 : Int) ≤ x.length) && decide ((x.length : Int) ≤ 6)) && (x.cps.toList.all fun c => decide (c ∈ letters.cps.toList))
def isArrowB (n : Int) (r : List Int) : Bool := match r with
  | [a, b, l, w] => (decide (0 ≤ a) && decide (a < n)) && ((decide (0 ≤ b) && decide (b < n)) && ((decide (1 ≤ l) && decide (l ≤ 3)) && (decide (1 ≤ w) && decide (w ≤ 9))))
  | _ => false
def isSayingB (n : Int) (r : List Int) : Bool := match r with
  | [a, b, l] => (decide (0 ≤ a) && decide (a < n)) && ((decide (0 ≤ b) && decide (b < n)) && (!decide (a = b) && decide ((if l < 0 then -l else l) ≤ 9)))
  | _ => false
theorem inSign {c : Nat} {t : Str} : inM false (.fz (.str ⟨#[c]⟩)) (.fz (.str t)) = some (.fz (.bl (decide (c ∈ t.cps.toList)))) := rfl
theorem signs_all (x : Str) (p : Nat → Bool) : allM true (.lst (x.cps.toList.map fun c => M.fz (.bl (p c)))) = some (.fz (.bl (x.cps.toList.all p))) := by
  have h := all_map (fun d => match d with | .int i => p i.toNat | _ => false) (x.cps.toList.map fun c => D.int (c : Nat))
  simp only [List.map_map, List.all_map] at h
  exact h
theorem comp_signs {fe : FE} {i : Nat} (x : Str) (p : Nat → Bool) (env : E) (hw : env.set i none = env) (h : ∀ c : Nat, ∃ env2, fe (env.set i (some (.fz (.str ⟨#[c]⟩)))) = some (.ok (.tm (.fz (.bl (p c)))) env2) ∧ env2.set i none = env) :
    compD (nmG i) yesT fe [i] (x.cps.toList.map fun c => D.str ⟨#[c]⟩) env = some (x.cps.toList.map fun c => M.fz (.bl (p c)), env) := by
  generalize x.cps.toList = l
  induction l with
  | nil => rfl
  | cons c l ih =>
    obtain ⟨env2, e, e2⟩ := h c
    simp only [List.map_cons, compD, nmG, yesT, e, wipeE, e2, ih]
theorem cps_len (x : Str) : x.cps.toList.length = x.length := rfl
theorem is_name_eq {x : Str} (h : x.length ≤ 16777216) : m_is_name [.fz (.str x)] = some (.ok (.fz (.bl (isNameB x))) [some (.fz (.str x))]) := by
  have hl : x.cps.toList.length ≤ 16777216 := by rw [cps_len]; exact h
  have h2 : x.cps.size ≤ 16777216 := h
  simp [m_is_name, b_is_name, h]
  rw [if_pos h2, comp_signs x (fun c => decide (c ∈ letters.cps.toList)) [some (.fz (.str x)), none] rfl (fun c => ⟨_, by simp [inSign]; rfl, rfl⟩)]
  simp [signs_all, isNameB]
@[simp] theorem is_least_eq {i : Int} : m_is_least [.fz (.int i)] = some (.ok (.fz (.bl (decide (1 ≤ i) && decide (i ≤ 3)))) [some (.fz (.int i))]) := by
  simp [m_is_least, b_is_least]
@[simp] theorem is_weight_eq {i : Int} : m_is_weight [.fz (.int i)] = some (.ok (.fz (.bl (decide (1 ≤ i) && decide (i ≤ 9)))) [some (.fz (.int i))]) := by
  simp [m_is_weight, b_is_weight]
@[simp] theorem is_far_eq {i : Int} : m_is_far [.fz (.int i)] = some (.ok (.fz (.bl (decide ((if i < 0 then -i else i) ≤ 9)))) [some (.fz (.int i))]) := by
  simp [m_is_far, b_is_far]
theorem is_arrow_eq {r : List Int} {n : Int} : m_is_arrow [.fz (rowD r), .fz (.int n)] = some (.ok (.fz (.bl (isArrowB n r))) [some (.fz (rowD r)), some (.fz (.int n))]) := by
  by_cases hl : r.length = 4
  · match r, hl with
    | [a, b, l, w], _ => simp [m_is_arrow, b_is_arrow, rowD, isArrowB]
  · have hz : isArrowB n r = false := by
      unfold isArrowB
      split
      · simp at hl
      · rfl
    have h4 : ((r.length : Nat) : Int) ≠ 4 := by omega
    simp [m_is_arrow, b_is_arrow, rowD, h4, hz]
theorem is_saying_eq {r : List Int} {n : Int} : m_is_saying [.fz (rowD r), .fz (.int n)] = some (.ok (.fz (.bl (isSayingB n r))) [some (.fz (rowD r)), some (.fz (.int n))]) := by
  by_cases hl : r.length = 3
  · match r, hl with
    | [a, b, l], _ => simp [m_is_saying, b_is_saying, rowD, isSayingB]
  · have hz : isSayingB n r = false := by
      unfold isSayingB
      split
      · simp at hl
      · rfl
    have h4 : ((r.length : Nat) : Int) ≠ 3 := by omega
    simp [m_is_saying, b_is_saying, rowD, h4, hz]
def isWebB (w : Web) : Bool := (decide (w.names.length ≤ 40) && (decide (w.arrows.length ≤ 80) && decide (w.told.length ≤ 20))) && ((w.names.all isNameB && decide ((ddS w.names).length = w.names.length)) && ((w.arrows.all (isArrowB w.names.length)) && (w.told.all (isSayingB w.names.length))))
theorem is_web_eq {w : Web} (hn : ∀ x ∈ w.names, x.length ≤ 16777216) : m_is_web [.fz w.d] = some (.ok (.fz (.bl (isWebB w))) [some (.fz w.d)]) := by
  obtain ⟨ns, as, ts⟩ := w
  by_cases h1 : ns.length ≤ 40
  case neg =>
    have h1' : (40 : Int) < ns.length := by omega
    have hz : isWebB ⟨ns, as, ts⟩ = false := by simp [isWebB, h1]
    simp [m_is_web, b_is_web, Web.d, h1', hz]
  by_cases h2 : as.length ≤ 80
  case neg =>
    have h1' : ¬ (40 : Int) < ns.length := by omega
    have h2' : (80 : Int) < as.length := by omega
    have hz : isWebB ⟨ns, as, ts⟩ = false := by simp [isWebB, h2]
    simp [m_is_web, b_is_web, Web.d, h1', h2', hz]
  by_cases h3 : ts.length ≤ 20
  case neg =>
    have h1' : ¬ (40 : Int) < ns.length := by omega
    have h2' : ¬ (80 : Int) < as.length := by omega
    have h3' : (20 : Int) < ts.length := by omega
    have hz : isWebB ⟨ns, as, ts⟩ = false := by simp [isWebB, h3]
    simp [m_is_web, b_is_web, Web.d, h1', h2', h3', hz]
  have h1' : ¬ (40 : Int) < ns.length := by omega
  have h2' : ¬ (80 : Int) < as.length := by omega
  have h3' : ¬ (20 : Int) < ts.length := by omega
  have l1 : ns.length ≤ 16777216 := by omega
  have l2 : as.length ≤ 16777216 := by omega
  have l3 : ts.length ≤ 16777216 := by omega
  have l4 : ns.length ≤ 4000 := by omega
  simp [m_is_web, b_is_web, Web.d, h1', h2', h3', l1]
  rw [comp_list D.str (fun x => M.fz (.bl (isNameB x)))]
  case a => exact fun x hx => ⟨_, _, rfl, rfl, by simp [is_name_eq (hn x hx)]; rfl, rfl⟩
  simp [l4, strsD_map]
  cases hA : ns.all isNameB with
  | false => 
    have hz : isWebB ⟨ns, as, ts⟩ = false := by simp [isWebB, hA]
    simp [hz]
  | true =>
    by_cases hd : (ddS ns).length = ns.length
    case neg =>
      have hz : isWebB ⟨ns, as, ts⟩ = false := by simp [isWebB, hd]
      have hd' : ¬ ((ddS ns).length : Int) = ns.length := by omega
      simp [hz, hd']
    simp [hd, l2]
    rw [comp_list rowD (fun x => M.fz (.bl (isArrowB ns.length x)))]
    case a => exact fun x hx => ⟨_, _, rfl, rfl, by simp [is_arrow_eq]; rfl, rfl⟩
    simp [l3]
    rw [comp_list rowD (fun x => M.fz (.bl (isSayingB ns.length x)))]
    case a => exact fun x hx => ⟨_, _, rfl, rfl, by simp [is_saying_eq]; rfl, rfl⟩
    simp [isWebB, hA, hd, h1, h2, h3]
end Lw
set_option Elab.async false
set_option linter.all false
set_option maxRecDepth 100000
set_option maxHeartbeats 0
namespace Lw
open PySem L2 Ink
theorem ddS_len : ∀ (xs acc : List Str), acc.Nodup → (xs.foldl stepS acc).length ≤ acc.length + xs.length ∧ ((xs.foldl stepS acc).length = acc.length + xs.length ↔ (acc ++ xs).Nodup)
  | [], acc, h => by simp [h]
  | x :: xs, acc, h => by
    rw [List.foldl_cons]
    by_cases hx : x ∈ acc
    · have e : stepS acc x = acc := by
        unfold stepS
        rw [if_pos]
        simp only [List.any_eq_true, beq_iff_eq]
        exact ⟨x, hx, rfl⟩
      rw [e]
      obtain ⟨h1, h2⟩ := ddS_len xs acc h
      refine ⟨by simp only [List.length_cons]; omega, ⟨fun q => by simp only [List.length_cons] at q; omega, fun q => ?_⟩⟩
      rw [List.nodup_append] at q
      exact absurd rfl (q.2.2 x hx x (List.mem_cons_self ..))
    · have e : stepS acc x = acc ++ [x] := by
        unfold stepS
        rw [if_neg]
        simp only [List.any_eq_true, beq_iff_eq]
        rintro ⟨y, hy, rfl⟩
        exact hx hy
      rw [e]
      obtain ⟨h1, h2⟩ := ddS_len xs (acc ++ [x]) (by
        rw [List.nodup_append]
        exact ⟨h, by simp, fun a ha b hb => by simp at hb; subst hb; exact fun e => hx (e ▸ ha)⟩)
      simp only [List.length_append, List.length_cons, List.length_nil, List.append_assoc, List.cons_append, List.nil_append] at h1 h2 ⊢
      refine ⟨by omega, ?_⟩
      rw [← h2]
      omega
theorem ddS_nodup (xs : List Str) : (ddS xs).length = xs.length ↔ xs.Nodup := by
  have h := (ddS_len xs [] List.nodup_nil).2
  simpa [ddS] using h
end Lw
set_option Elab.async false
set_option linter.all false
set_option maxRecDepth 100000
set_option maxHeartbeats 0
namespace Lw
open PySem L2 Ink
theorem bag_ok (ns : List Int) : ∃ b : Bag, m_law_bag [.fz (.scr ns)] = some (.ok b.m [some (.fz (.scr ns))]) := by
  have hl : (cutL ns none (some 63)).length ≤ 16777216 := by
    rw [cutL_to (by omega)]
    simp
    omega
  generalize hx : cutL ns none (some 63) = xs at hl
  simp [m_law_bag, b_law_bag, hx, hl]
  rw [comp_list D.int (fun n => M.fz (.int (if n < 0 then -n else n)))]
  case a => exact fun x hx => ⟨_, _, rfl, rfl, by simp; rfl, rfl⟩
  simp [hx]
  generalize hL : loopD _ _ _ _ = o
  have key : ∃ env', o = some (.nx env') ∧ ∃ o1 z, env' = [some (.fz (.scr ns)), o1, some (.lst (xs.map fun n => M.fz (.int (if n < 0 then -n else n)))), some (.fz (.int z))] := by
    rw [← hL]
    refine loop_list D.int (fun _ env => ∃ o1 z, env = [some (.fz (.scr ns)), o1, some (.lst (xs.map fun n => M.fz (.int (if n < 0 then -n else n)))), some (.fz (.int z))]) xs 0 _ ?_ ⟨_, _, rfl⟩
    rintro j y env hd ⟨o1, z, rfl⟩
    by_cases hy : y < 0
    · simp [hy, mulC_r]
    · simp [hy, mulC_r]
  obtain ⟨env1, e1, o1, z, rfl⟩ := key
  rw [e1]
  simp
  exact ⟨⟨xs.map fun n => if n < 0 then -n else n, 0, 0, z⟩, by simp [Bag.m]⟩
def tails : List Str := ["", "", "x", "box", "zzzzz", "a"]
def firstS (k : Nat) : Str := ⟨#[letters.cps.toList.getD (k % 26) 0]⟩ ++ repS "q" (k / 26)
def nameOf (k : Nat) (t : Str) : Str := cutS (firstS k ++ t) none (some 6)
def keyOf (x : Str) : Nat × Nat := (x.cps.toList.getD 0 0 - 97, if x.cps.toList.getD 1 0 = 113 then 1 else 0)
theorem names_all : ∀ k ∈ List.range 40, ∀ t ∈ tails, isNameB (nameOf k t) = true ∧ keyOf (nameOf k t) = (k % 26, k / 26) ∧ (firstS k).length + t.length ≤ 100 ∧ (firstS k ++ t).length ≤ 100 ∧ (repS "q" (k / 26)).length ≤ 100 := by decide +kernel
def NamesTo (k : Nat) (xs : List Str) : Prop := xs.length = k ∧ ∀ j x, xs[j]? = some x → ∃ t ∈ tails, x = nameOf j t
theorem NamesTo.nodup {k : Nat} {xs : List Str} (hk : k ≤ 40) (h : NamesTo k xs) : xs.Nodup := by
  rw [List.nodup_iff_pairwise_ne, List.pairwise_iff_getElem]
  intro i j hi hj hij e
  obtain ⟨t, ht, e1⟩ := h.2 i _ (List.getElem?_eq_getElem hi)
  obtain ⟨u, hu, e2⟩ := h.2 j _ (List.getElem?_eq_getElem hj)
  have hl := h.1
  have a1 := (names_all i (by simp; omega) t ht).2.1
  have a2 := (names_all j (by simp; omega) u hu).2.1
  rw [← e1, e, e2, a2] at a1
  injection a1 with p q
  omega
theorem NamesTo.names {k : Nat} {xs : List Str} (hk : k ≤ 40) (h : NamesTo k xs) : ∀ x ∈ xs, isNameB x = true := by
  intro x hx
  obtain ⟨i, hi, e⟩ := List.mem_iff_getElem.mp hx
  obtain ⟨t, ht, e1⟩ := h.2 i x (by rw [← e]; exact List.getElem?_eq_getElem hi)
  rw [e1]
  have hl := h.1
  exact (names_all i (by simp; omega) t ht).1
theorem NamesTo.next {k : Nat} {xs : List Str} {t : Str} (h : NamesTo k xs) (ht : t ∈ tails) : NamesTo (k + 1) (xs ++ [nameOf k t]) := by
  refine ⟨by simp [h.1], fun j x hx => ?_⟩
  by_cases hj : j < xs.length
  · rw [List.getElem?_append_left hj] at hx
    exact h.2 j x hx
  · rw [List.getElem?_append_right (by omega)] at hx
    obtain ⟨hl, e⟩ := List.getElem?_eq_some_iff.mp hx
    simp at hl e
    have : j = k := by have := h.1; omega
    subst this
    exact ⟨t, ht, e.symm⟩
def tailsM : M := .lst [.fz (.str ""), .fz (.str ""), .fz (.str "x"), .fz (.str "box"), .fz (.str "zzzzz"), .fz (.str "a")]
def NamesP (n : Nat) (xs : List Str) : Prop := ∃ ys, NamesTo n ys ∧ xs.Perm ys
theorem names_okP (b : Bag) (n : Nat) (hn : n ≤ 40) : ∃ (b' : Bag) (xs : List Str), (xs.length = n ∧ NamesP n xs) ∧ xs.Nodup ∧ (∀ x ∈ xs, isNameB x = true) ∧ m_law_names [b.m, .fz (.int (n : Nat))] = some (.ok (.fz (.tup (xs.map D.str))) [some b'.m, some (.fz (.int (n : Nat)))]) := by
  have hf : -4611686018427387904 ≤ (n : Int) ∧ (n : Int) < 4611686018427387904 := by omega
  simp [m_law_names, b_law_names, hf]
  generalize hL : loopD _ _ _ _ = o
  have key : ∃ env', o = some (.nx env') ∧ ∃ (b' : Bag) (xs : List Str) (o4 o5 : Option M), NamesTo n xs ∧ env' = [some b'.m, some (.fz (.int (n : Nat))), some (.lst (xs.map fun x => M.fz (.str x))), some tailsM, o4, o5, none] := by
    rw [← hL]
    refine loop_range (fun k env => ∃ (b' : Bag) (xs : List Str) (o4 o5 : Option M), NamesTo k xs ∧ env = [some b'.m, some (.fz (.int (n : Nat))), some (.lst (xs.map fun x => M.fz (.str x))), some tailsM, o4, o5, none]) n _ ?_ ⟨b, [], none, none, ⟨rfl, fun j x h => by simp at h⟩, rfl⟩
    rintro j env hj ⟨b', xs, o4, o5, hx, rfl⟩
    obtain ⟨y, hy, ey⟩ := atI_mem (xs := tails.map D.str) (i := pv b' 6) (pv_0 (by omega) (by omega)) (by have := pv_lt (b := b') (n := 6) (by omega) (by omega); simpa [tails] using this)
    simp only [List.mem_map] at hy
    obtain ⟨t, ht, rfl⟩ := hy
    obtain ⟨n1, n2, n3, n4, n5⟩ := names_all j (by simp; omega) t ht
    have hlt : j % 26 < letters.cps.toList.length := by
      have : letters.cps.toList.length = 26 := by decide +kernel
      omega
    obtain ⟨c0, hc0⟩ : ∃ c, letters.cps.toList[j % 26]? = some c := ⟨_, List.getElem?_eq_getElem hlt⟩
    have e1 : atI letters.cps.toList ((j : Int) % 26) = some c0 := by
      rw [show (j : Int) % 26 = ((j % 26 : Nat) : Int) by omega, Ink.atI_nat, hc0]
    have q1 : (Str.ofString "abcdefghijklmnopqrstuvwxyz").length = 26 := by decide +kernel
    have q2 : (Str.ofString "q").length = 1 := by decide +kernel
    have q3 : (0 : Int) ≤ (j : Int) / 26 := by omega
    have q4 : (j : Int) / 26 ≤ 1000 := by omega
    have q5 : ((j : Int) / 26).toNat = j / 26 := by omega
    have q6 : (⟨#[c0]⟩ : Str).length = 1 := rfl
    have q7 : 1 + (repS (Str.ofString "q") (j / 26)).length ≤ 16777216 := by
      have : (repS (Str.ofString "q") (j / 26)).length ≤ 100 := n5
      omega
    have q8 : (firstS j).length + t.length ≤ 16777216 := by omega
    have q9 : (firstS j ++ t).length ≤ 16777216 := by omega
    have q10 : (⟨#[c0]⟩ ++ repS (Str.ofString "q") (j / 26) : Str) = firstS j := by
      unfold firstS
      rw [List.getD_eq_getElem?_getD, hc0]
      rfl
    have q11 : xs.length < 16777216 := by have := hx.1; omega
    have ey' : atI [D.str (Str.ofString ""), D.str (Str.ofString ""), D.str (Str.ofString "x"), D.str (Str.ofString "box"), D.str (Str.ofString "zzzzz"), D.str (Str.ofString "a")] (pv b' 6) = some (D.str t) := ey
    simp [q1, e1, q2, q3, q4, q5, q6, q7, q10, tailsM, ey', q8, q9, q11]
    exact ⟨pb b' 6, xs ++ [nameOf j t], hx.next ht, rfl, by simp; rfl⟩
  obtain ⟨env1, e1, b1, xs, o4, o5, hx, rfl⟩ := key
  rw [e1]
  have fin : ∀ z : Int, 0 ≤ z → ((xs.drop z.toNat ++ xs.take z.toNat).length = n ∧ NamesP n (xs.drop z.toNat ++ xs.take z.toNat)) ∧ (xs.drop z.toNat ++ xs.take z.toNat).Nodup ∧ ∀ x ∈ xs.drop z.toNat ++ xs.take z.toNat, isNameB x = true := fun z hz => by
    have hp : (xs.drop z.toNat ++ xs.take z.toNat).Perm xs := by
      have := List.perm_append_comm (l₁ := xs.drop z.toNat) (l₂ := xs.take z.toNat)
      rwa [List.take_append_drop] at this
    exact ⟨⟨by rw [hp.length_eq]; exact hx.1, xs, hx, hp⟩, hp.nodup_iff.mpr (hx.nodup hn), fun x h => hx.names hn x (hp.mem_iff.mp h)⟩
  have hl : xs.length ≤ 40 := by rw [hx.1]; exact hn
  have mx : ∃ k : Int, 0 < k ∧ k < 1208925819614629174706176 ∧ maxM (.fz (.int 1)) (.fz (.int (n : Nat))) = some (.fz (.int k)) := by
    exact ⟨if (1 : Int) < n then n else 1, by split <;> omega, by split <;> omega, ev_max⟩
  obtain ⟨k, hk, hk2, ek⟩ := mx
  rw [ev_max] at ek
  injection ek with ek
  injection ek with ek
  injection ek with ek
  have h0 := pv_0 (b := b1) hk hk2
  have hs : (cutL (xs.map D.str) (some (pv b1 k)) none).length + (cutL (xs.map D.str) none (some (pv b1 k))).length ≤ 16777216 := by
    rw [cutL_from h0, cutL_to h0]
    simp
    omega
  simp [ek, hk, hk2, hs]
  refine ⟨pb b1 k, _, (fin _ h0).1, (fin _ h0).2.1, (fin _ h0).2.2, ?_, rfl⟩
  rw [cutL_from h0, cutL_to h0]
  simp
end Lw
set_option Elab.async false
set_option linter.all false
set_option maxRecDepth 100000
set_option maxHeartbeats 0
namespace Lw
open PySem L2 Ink
theorem arrow_made {m a b l w : Int} (h1 : 0 ≤ a) (h2 : a < m) (h3 : 0 ≤ b) (h4 : b < m) (h5 : 1 ≤ l) (h6 : l ≤ 3) (h7 : 1 ≤ w) (h8 : w ≤ 9) : isArrowB m [a, b, l, w] = true := by
  simp [isArrowB, *]
theorem saying_made {m a b l : Int} (h1 : 0 ≤ a) (h2 : a < m) (h3 : 0 ≤ b) (h4 : b < m) (h5 : a ≠ b) (h6 : -9 ≤ l) (h7 : l ≤ 9) : isSayingB m [a, b, l] = true := by
  have q : (if l < 0 then -l else l) ≤ 9 := by split <;> omega
  simp [isSayingB, *]
def dwE (b : Bag) (x1 x2 x3 m : Int) (rows : List (List Int)) (o6 o7 o8 o9 : Option M) : E := [some b.m, some (.fz (.int x1)), some (.fz (.int x2)), some (.fz (.int x3)), some (.fz (.int m)), some (.lst (rows.map fun r => M.fz (rowD r))), o6, o7, o8, o9]
theorem drawn_okP (b : Bag) (x1 x2 x3 : Nat) (h1 : 1 ≤ x1) (h1' : x1 ≤ 40) (h2 : x2 ≤ 80) (h3 : x3 ≤ 20) : ∃ (b' : Bag) (w : Web), (isWebB w = true ∧ NamesP w.names.length w.names) ∧ w.names.length ≤ x1 ∧ w.arrows.length ≤ x2 ∧ w.told.length ≤ x3 ∧
    m_law_drawn_web [b.m, .fz (.int (x1 : Nat)), .fz (.int (x2 : Nat)), .fz (.int (x3 : Nat))] = some (.ok (.fz w.d) [some b'.m, some (.fz (.int (x1 : Nat))), some (.fz (.int (x2 : Nat))), some (.fz (.int (x3 : Nat)))]) := by
  simp only [m_law_drawn_web, b_law_drawn_web, ev_fnM, ev_seqS]
  generalize hS : asgS _ (nmG 4) _ = o
  have key : ∃ (b' : Bag) (m : Nat), m ≤ x1 ∧ o = some (.nx [some b'.m, some (.fz (.int (x1 : Nat))), some (.fz (.int (x2 : Nat))), some (.fz (.int (x3 : Nat))), some (.fz (.int (m : Nat))), none, none, none, none, none]) := by
    have p1 : (0 : Int) < (x1 : Nat) := by omega
    have p2 : ((x1 : Nat) : Int) < 1208925819614629174706176 := by omega
    have p3 : 0 < x1 := h1
    have p4 : x1 < 1208925819614629174706176 := by omega
    have q0 := pv_0 (b := b) p1 p2
    have q1 := pv_lt (b := b) p1 p2
    rw [← hS]
    by_cases h20 : pv (pb b (x1 : Nat)) 20 = 0
    · refine ⟨pb (pb b (x1 : Nat)) 20, 0, by omega, ?_⟩
      simp [p1, p2, p3, p4, h20]
    · refine ⟨pb (pb b (x1 : Nat)) 20, (1 + pv b (x1 : Nat)).toNat, by omega, ?_⟩
      have e : (((1 + pv b (x1 : Nat)).toNat : Nat) : Int) = 1 + pv b (x1 : Nat) := by omega
      rw [e]
      simp [p1, p2, p3, p4, h20]
  obtain ⟨b1, m, hm, rfl⟩ := key
  clear hS
  simp [-ev_rng1]
  generalize hR : rng1 _ _ = r
  have key : ∃ (b' : Bag) (c : Nat), c ≤ x2 ∧ (0 < c → 0 < m) ∧ r = some (.ok (rangeD 0 (c : Nat)) (dwE b' x1 x2 x3 m [] none none none none)) := by
    have p1 : (0 : Int) < (x2 : Nat) + 1 := by omega
    have p2 : ((x2 : Nat) : Int) + 1 < 1208925819614629174706176 := by omega
    have q0 := pv_0 (b := b1) p1 p2
    have q1 := pv_lt (b := b1) p1 p2
    rw [← hR]
    by_cases hm0 : 0 < m
    · have hm0' : 0 < (m : Int) := by omega
      have f1 : -4611686018427387904 ≤ pv b1 ((x2 : Nat) + 1) ∧ pv b1 ((x2 : Nat) + 1) < 4611686018427387904 := by omega
      refine ⟨pb b1 ((x2 : Nat) + 1), (pv b1 ((x2 : Nat) + 1)).toNat, by omega, fun _ => hm0, ?_⟩
      have e : (((pv b1 ((x2 : Nat) + 1)).toNat : Nat) : Int) = pv b1 ((x2 : Nat) + 1) := by omega
      rw [e]
      simp [p1, p2, hm0', hm0, mulC_r, f1, dwE]
    · have hm1 : m = 0 := by omega
      subst hm1
      refine ⟨pb b1 ((x2 : Nat) + 1), 0, by omega, fun h => by omega, ?_⟩
      simp [p1, p2, mulC_r, dwE]
  obtain ⟨b2, c, hc, hcm, rfl⟩ := key
  clear hR
  simp [-ev_rng1]
  generalize hL : loopD _ _ _ _ = o
  have key : ∃ env', o = some (.nx env') ∧ ∃ (b' : Bag) (rows : List (List Int)) (o6 o7 o8 : Option M), rows.length = c ∧ (∀ r ∈ rows, isArrowB (m : Nat) r = true) ∧ env' = dwE b' x1 x2 x3 m rows o6 o7 o8 none := by
    rw [← hL]
    refine loop_range (fun k env => ∃ (b' : Bag) (rows : List (List Int)) (o6 o7 o8 : Option M), rows.length = k ∧ (∀ r ∈ rows, isArrowB (m : Nat) r = true) ∧ env = dwE b' x1 x2 x3 m rows o6 o7 o8 none) c _ ?_ ⟨b2, [], none, none, none, rfl, fun r h => by simp at h, rfl⟩
    rintro j env hj ⟨b3, rows, o6, o7, o8, hl, hr, rfl⟩
    have m0 : 0 < m := hcm (by omega)
    have m1 : 0 < (m : Int) := by omega
    have m2 : (m : Int) < 1208925819614629174706176 := by omega
    have m3 : m < 1208925819614629174706176 := by omega
    have hl2 : rows.length < 16777216 := by omega
    have a0 := pv_0 (b := b3) m1 m2
    have a1 := pv_lt (b := b3) m1 m2
    have c0 := pv_0 (b := pb b3 m) m1 m2
    have c1 := pv_lt (b := pb b3 m) m1 m2
    generalize e1 : pv b3 m = one at a0 a1
    generalize e2 : pv (pb b3 m) m = other at c0 c1
    generalize eB : pb (pb (pb b3 m) m) 3 = b4
    have t0 := pv_0 (b := b4) (n := 2) (by omega) (by omega)
    have t1 := pv_lt (b := b4) (n := 2) (by omega) (by omega)
    have done : ∀ (k a b : Int), 0 < k → k ≤ 3 → 0 ≤ a → a < m → 0 ≤ b → b < m → ∃ (b' : Bag) (rows' : List (List Int)), rows'.length = j + 1 ∧ (∀ r ∈ rows', isArrowB (m : Nat) r = true) ∧ (pb (pb (pb b4 2) k) 9).m = b'.m ∧
        (rows.map fun r => M.fz (rowD r)) ++ [M.fz (.tup [.int a, .int b, .int (1 + pv (pb b4 2) k), .int (1 + pv (pb (pb b4 2) k) 9)])] = rows'.map fun r => M.fz (rowD r) := fun k a b k0 k3 ha ha2 hb hb2 => by
      have u0 := pv_0 (b := pb b4 2) k0 (by omega)
      have u1 := pv_lt (b := pb b4 2) k0 (by omega)
      have v0 := pv_0 (b := pb (pb b4 2) k) (n := 9) (by omega) (by omega)
      have v1 := pv_lt (b := pb (pb b4 2) k) (n := 9) (by omega) (by omega)
      refine ⟨_, rows ++ [[a, b, 1 + pv (pb b4 2) k, 1 + pv (pb (pb b4 2) k) 9]], by simp [hl], fun r hm => ?_, rfl, by simp [rowD]⟩
      rcases List.mem_append.mp hm with h | h
      · exact hr r h
      · simp at h
        subst h
        exact arrow_made ha ha2 hb hb2 (by omega) (by omega) (by omega) (by omega)
    have mn0 : 0 ≤ (if other < one then other else one) ∧ (if other < one then other else one) < m := by split <;> omega
    have mx0 : 0 ≤ (if one < other then other else one) ∧ (if one < other then other else one) < m := by split <;> omega
    by_cases h3 : 0 < pv (pb (pb b3 m) m) 3
    · rcases (show pv b4 2 = 0 ∨ pv b4 2 = 1 by omega) with h | h
      · simp [dwE, m0, m1, m2, m3, e1, e2, eB, h3, h, hl2]
        exact done 1 _ _ (by omega) (by omega) mn0.1 mn0.2 mx0.1 mx0.2
      · simp [dwE, m0, m1, m2, m3, e1, e2, eB, h3, h, hl2]
        exact done 3 _ _ (by omega) (by omega) mn0.1 mn0.2 mx0.1 mx0.2
    · rcases (show pv b4 2 = 0 ∨ pv b4 2 = 1 by omega) with h | h
      · simp [dwE, m0, m1, m2, m3, e1, e2, eB, h3, h, hl2]
        exact done 1 _ _ (by omega) (by omega) a0 a1 c0 c1
      · simp [dwE, m0, m1, m2, m3, e1, e2, eB, h3, h, hl2]
        exact done 3 _ _ (by omega) (by omega) a0 a1 c0 c1
  obtain ⟨env1, e1, b3, rows, o6, o7, o8, hl, hr, rfl⟩ := key
  subst e1
  clear hL
  simp [-ev_rng1, dwE]
  generalize hR : rng1 _ _ = r
  have key : ∃ (b' : Bag) (d : Nat), d ≤ x3 ∧ (0 < d → 1 < m) ∧ r = some (.ok (rangeD 0 (d : Nat)) (dwE b' x1 x2 x3 m rows o6 o7 o8 (some (.lst [])))) := by
    have p1 : (0 : Int) < (x3 : Nat) + 1 := by omega
    have p2 : ((x3 : Nat) : Int) + 1 < 1208925819614629174706176 := by omega
    have q0 := pv_0 (b := b3) p1 p2
    have q1 := pv_lt (b := b3) p1 p2
    rw [← hR]
    by_cases hm0 : 1 < m
    · have hm0' : 1 < (m : Int) := by omega
      have f1 : -4611686018427387904 ≤ pv b3 ((x3 : Nat) + 1) ∧ pv b3 ((x3 : Nat) + 1) < 4611686018427387904 := by omega
      refine ⟨pb b3 ((x3 : Nat) + 1), (pv b3 ((x3 : Nat) + 1)).toNat, by omega, fun _ => hm0, ?_⟩
      have e : (((pv b3 ((x3 : Nat) + 1)).toNat : Nat) : Int) = pv b3 ((x3 : Nat) + 1) := by omega
      rw [e]
      simp [p1, p2, hm0', hm0, mulC_r, f1, dwE]
    · have hm1 : ¬ 1 < (m : Int) := by omega
      refine ⟨pb b3 ((x3 : Nat) + 1), 0, by omega, fun h => by omega, ?_⟩
      simp [p1, p2, mulC_r, dwE, hm0, hm1]
  obtain ⟨b4, d, hd, hdm, rfl⟩ := key
  clear hR
  simp
  generalize hL : loopD _ _ _ _ = o
  have key : ∃ env', o = some (.nx env') ∧ ∃ (b' : Bag) (told : List (List Int)) (o6 o7 o8 : Option M), told.length = d ∧ (∀ r ∈ told, isSayingB (m : Nat) r = true) ∧ env' = dwE b' x1 x2 x3 m rows o6 o7 o8 (some (.lst (told.map fun r => M.fz (rowD r)))) := by
    rw [← hL]
    refine loop_range (fun k env => ∃ (b' : Bag) (told : List (List Int)) (o6 o7 o8 : Option M), told.length = k ∧ (∀ r ∈ told, isSayingB (m : Nat) r = true) ∧ env = dwE b' x1 x2 x3 m rows o6 o7 o8 (some (.lst (told.map fun r => M.fz (rowD r))))) d _ ?_ ⟨b4, [], _, _, _, rfl, fun r h => by simp at h, rfl⟩
    rintro j env hj ⟨b5, told, o6, o7, o8, hl, hr, rfl⟩
    have m0 : 1 < m := hdm (by omega)
    have m1 : 0 < (m : Int) := by omega
    have m1' : 0 < m := by omega
    have m2 : (m : Int) < 1208925819614629174706176 := by omega
    have m3 : m < 1208925819614629174706176 := by omega
    have m4 : 0 < (m : Int) - 1 := by omega
    have m5 : (m : Int) - 1 < 1208925819614629174706176 := by omega
    have hl2 : told.length < 16777216 := by omega
    have a0 := pv_0 (b := b5) m1 m2
    have a1 := pv_lt (b := b5) m1 m2
    have c0 := pv_0 (b := pb b5 m) m4 m5
    have c1 := pv_lt (b := pb b5 m) m4 m5
    have pm := pull_eq (b := pb b5 m) m4 m5
    generalize e1 : pv b5 m = one at a0 a1
    generalize e2 : pv (pb b5 m) (m - 1) = p at c0 c1 pm
    generalize eB : pb (pb b5 m) (m - 1) = b6 at pm
    have u0 := pv_0 (b := b6) (n := 19) (by omega) (by omega)
    have u1 := pv_lt (b := b6) (n := 19) (by omega) (by omega)
    have t0 := pv_0 (b := pb b6 19) (n := 8) (by omega) (by omega)
    have t1 := pv_lt (b := pb b6 19) (n := 8) (by omega) (by omega)
    obtain ⟨x, hx, ex⟩ := atI_mem (xs := [D.int (-9), D.int (-2), D.int (-1), D.int 0, D.int 0, D.int 1, D.int 2, D.int (pv b6 19 - 9)]) (i := pv (pb b6 19) 8) t0 (by simpa using t1)
    obtain ⟨y, rfl, y1, y2⟩ : ∃ y, x = D.int y ∧ -9 ≤ y ∧ y ≤ 9 := by
      simp at hx
      rcases hx with h | h | h | h | h | h | h <;> exact ⟨_, h, by omega, by omega⟩
    have o0 := Int.emod_nonneg (one + 1 + p) (show (m : Int) ≠ 0 by omega)
    have o1 := Int.emod_lt_of_pos (one + 1 + p) m1
    have o2 : one ≠ (one + 1 + p) % m := by
      by_cases h : one + 1 + p < m
      · rw [Int.emod_eq_of_lt (by omega) h]
        omega
      · have e : (one + 1 + p) % m = one + 1 + p - m := by
          rw [← Int.sub_emod_right, Int.emod_eq_of_lt (by omega) (by omega)]
        omega
    simp [dwE, m0, m1, m1', m2, m3, pm, e1, ex, hl2]
    refine ⟨pb (pb b6 19) 8, told ++ [[one, (one + 1 + p) % m, y]], by simp [hl], fun r hm => ?_, rfl, by simp [rowD]⟩
    rcases List.mem_append.mp hm with h | h
    · exact hr r h
    · simp at h
      subst h
      exact saying_made a0 a1 o0 o1 o2 y1 y2
  obtain ⟨env1, e1, b5, told, o6, o7, o8, hl3, hr3, rfl⟩ := key
  subst e1
  clear hL
  obtain ⟨b6, xs, ⟨n1, nP⟩, n2, n3, en⟩ := names_okP b5 m (by omega)
  simp [dwE, en]
  refine ⟨b6, ⟨xs, rows, told⟩, ⟨?_, by simpa [n1] using nP⟩, by simpa [n1] using hm, by simpa [hl] using hc, by simpa [hl3] using hd, rfl, rfl⟩
  have z := (ddS_nodup xs).mpr n2
  simp only [isWebB, z, n1, hl, hl3, Bool.and_eq_true, decide_eq_true_eq, List.all_eq_true]
  exact ⟨⟨by omega, by omega, by omega⟩, ⟨n3, trivial⟩, hr, hr3⟩
end Lw
set_option Elab.async false
set_option linter.all false
set_option maxRecDepth 100000
set_option maxHeartbeats 0
namespace Lw
open PySem L2 Ink
@[simp] theorem isNon_d {d : D} (h : d ≠ .non) : isNon (.fz d) = false := by cases d <;> first | rfl | exact absurd rfl h
@[simp] theorem isNon_l {ms : List M} : isNon (.lst ms) = false := (rfl)
@[simp] theorem isNon_n : isNon (.fz .non) = true := (rfl)
@[simp] theorem kd_bl {b : Bool} : kdM (.fz (.bl b)) = some .bl := (rfl)
@[simp] theorem kd_int {b : Int} : kdM (.fz (.int b)) = some .int := (rfl)
@[simp] theorem kd_str {b : Str} : kdM (.fz (.str b)) = some .str := (rfl)
@[simp] theorem kd_non : kdM (.fz .non) = some .non := (rfl)
@[simp] theorem kd_fl {b : List D} : kdM (.fz (.lst b)) = some .lst := (rfl)
@[simp] theorem kd_tup {b : List D} : kdM (.fz (.tup b)) = some .tup := (rfl)
@[simp] theorem kd_lst {b : List M} : kdM (.lst b) = some .lst := (rfl)
end Lw
set_option Elab.async false
set_option linter.all false
set_option maxRecDepth 100000
set_option maxHeartbeats 0
namespace Lw
open PySem L2 Ink
inductive Rch {α : Type} (R : α → α → Prop) : α → α → Prop
  | refl (x : α) : Rch R x x
  | step {x y z : α} : R x y → Rch R y z → Rch R x z
theorem Rch.trans {α : Type} {R : α → α → Prop} {x y z : α} (a : Rch R x y) (b : Rch R y z) : Rch R x z := by
  induction a with
  | refl => exact b
  | step h _ ih => exact .step h (ih b)
theorem Rch.tail {α : Type} {R : α → α → Prop} {x y z : α} (a : Rch R x y) (b : R y z) : Rch R x z := a.trans (.step b (.refl _))
theorem Rch.mono {α : Type} {R S : α → α → Prop} {x y : α} (a : Rch R x y) (h : ∀ a b, R a b → S a b) : Rch S x y := by
  induction a with
  | refl => exact .refl _
  | step q _ ih => exact .step (h _ _ q) ih
theorem nodup_le {α : Type} [DecidableEq α] : ∀ {xs ys : List α}, xs.Nodup → (∀ x ∈ xs, x ∈ ys) → xs.length ≤ ys.length
  | [], _, _, _ => Nat.zero_le _
  | x :: xs, ys, hn, hs => by
    rw [List.nodup_cons] at hn
    have hx := hs x (List.mem_cons_self ..)
    have ih := nodup_le (xs := xs) (ys := ys.erase x) hn.2 fun y hy => by
      rw [List.mem_erase_of_ne]
      · exact hs y (List.mem_cons_of_mem _ hy)
      · intro e; subst e; exact hn.1 hy
    rw [List.length_erase_of_mem hx] at ih
    have := List.length_pos_of_mem hx
    simp only [List.length_cons]
    omega
abbrev kI (x : Int) : Key := Sum.inl x
def prD (p : Int × Int) : D := .tup [.int p.1, .int p.2]
end Lw
set_option Elab.async false
set_option linter.all false
set_option maxRecDepth 100000
set_option maxHeartbeats 0
namespace Lw
open PySem L2 Ink
def EdgR (es : List (Int × Int)) (x y : Int) : Prop := (x, y) ∈ es
structure GoI (es : List (Int × Int)) (first : Int) (row : List Int) : Prop where
  nd : row.Nodup
  hd : row[0]? = some first
  rc : ∀ y ∈ row, Rch (EdgR es) first y
  sub : ∀ y ∈ row, y ∈ first :: es.map (·.2)
theorem GoI.len {es : List (Int × Int)} {first : Int} {row : List Int} (h : GoI es first row) : row.length ≤ es.length + 1 := by
  have := nodup_le h.nd h.sub
  simpa using this
theorem GoI.add {es : List (Int × Int)} {first : Int} {row : List Int} (h : GoI es first row) {x y : Int} (hx : x ∈ row) (he : (x, y) ∈ es) (hy : y ∉ row) : GoI es first (row ++ [y]) := by
  refine ⟨?_, ?_, fun z hz => ?_, fun z hz => ?_⟩
  · rw [List.nodup_append]
    exact ⟨h.nd, by simp, fun a ha b hb e => by simp at hb; subst hb; subst e; exact hy ha⟩
  · have := h.hd
    rw [List.getElem?_append_left]
    · exact this
    · exact (List.getElem?_eq_some_iff.mp this).1
  · rcases List.mem_append.mp hz with q | q
    · exact h.rc z q
    · simp at q; subst q; exact (h.rc x hx).tail he
  · rcases List.mem_append.mp hz with q | q
    · exact h.sub z q
    · simp at q; subst q
      exact List.mem_cons_of_mem _ (List.mem_map.mpr ⟨(x, z), he, rfl⟩)
structure GoJ (es : List (Int × Int)) (first : Int) (row : List Int) (x : Int) (k : Nat) (row' : List Int) : Prop where
  inv : GoI es first row'
  pre : ∀ (i : Nat) z, row[i]? = some z → row'[i]? = some z
  done : ∀ i < k, ∀ p, es[i]? = some p → p.1 = x → p.2 ∈ row'
  sub : ∀ y ∈ row, y ∈ row'
theorem GoJ.same {es : List (Int × Int)} {first : Int} {row : List Int} {x : Int} {k : Nat} {row' : List Int} (h : GoJ es first row x k row') {p : Int × Int} (hp : es[k]? = some p) (hd : p.1 = x → p.2 ∈ row') : GoJ es first row x (k + 1) row' :=
  ⟨h.inv, h.pre, fun i hi q hq hx => by
    by_cases e : i = k
    · subst e; rw [hp] at hq; cases hq; exact hd hx
    · exact h.done i (by omega) q hq hx, h.sub⟩
theorem GoJ.more {es : List (Int × Int)} {first : Int} {row : List Int} {x : Int} {k : Nat} {row' : List Int} (h : GoJ es first row x k row') {y : Int} (hp : es[k]? = some (x, y)) (hx : x ∈ row') (hy : y ∉ row') : GoJ es first row x (k + 1) (row' ++ [y]) :=
  ⟨h.inv.add hx (List.mem_of_getElem? hp) hy, fun i z hz => by
    have h' := h.pre i z hz
    rw [List.getElem?_append_left (List.getElem?_eq_some_iff.mp h').1]; exact h', fun i hi q hq hxx => by
    by_cases e : i = k
    · subst e; rw [hp] at hq; cases hq; simp
    · exact List.mem_append_left _ (h.done i (by omega) q hq hxx), fun z hz => List.mem_append_left _ (h.sub z hz)⟩
end Lw
set_option Elab.async false
set_option linter.all false
set_option maxRecDepth 100000
set_option maxHeartbeats 0
namespace Lw
open PySem L2 Ink
abbrev Ahd := List (Int × List (Int × Int))
def nb (A : Ahd) (x : Int) : List (Int × Int) := (valG A x).getD []
def NbR (N : Int → List (Int × Int)) (x y : Int) : Prop := ∃ a, (a, y) ∈ N x
structure WyI (A : Ahd) (m : Nat) (first : Int) (row : List Int) (pre : Int → Option (Int × Int)) : Prop where
  nd : row.Nodup
  hd : row[0]? = some first
  p0 : pre first = none
  ps : ∀ (i : Nat) y, row[i]? = some y → 0 < i → ∃ a x, ∃ j : Nat, pre y = some (a, x) ∧ j < i ∧ row[j]? = some x ∧ (a, y) ∈ nb A x
  rc : ∀ y ∈ row, Rch (NbR (nb A)) first y
  sub : ∀ y ∈ row, 0 ≤ y ∧ y < m
theorem nodup_range {row : List Int} {m : Nat} (h : row.Nodup) (hs : ∀ y ∈ row, 0 ≤ y ∧ y < m) : row.length ≤ m := by
  have := nodup_le (ys := (List.range m).map fun k : Nat => (k : Int)) h fun y hy => by
    obtain ⟨h1, h2⟩ := hs y hy
    exact List.mem_map.mpr ⟨y.toNat, by simp; omega, by omega⟩
  simpa using this
theorem WyI.len {A : Ahd} {m : Nat} {first : Int} {row : List Int} {pre : Int → Option (Int × Int)} (h : WyI A m first row pre) : row.length ≤ m := nodup_range h.nd h.sub
def setP (pre : Int → Option (Int × Int)) (y : Int) (p : Int × Int) : Int → Option (Int × Int) := fun z => if z = y then some p else pre z
theorem WyI.add {A : Ahd} {m : Nat} {first : Int} {row : List Int} {pre : Int → Option (Int × Int)} (h : WyI A m first row pre) {a x y : Int} {j : Nat} (hx : row[j]? = some x) (he : (a, y) ∈ nb A x) (hy : y ∉ row) (hU : 0 ≤ y ∧ y < m) :
    WyI A m first (row ++ [y]) (setP pre y (a, x)) := by
  have hf : first ∈ row := List.mem_of_getElem? h.hd
  have hjl := (List.getElem?_eq_some_iff.mp hx).1
  refine ⟨?_, ?_, ?_, fun i z hz hi => ?_, fun z hz => ?_, fun z hz => ?_⟩
  · rw [List.nodup_append]
    exact ⟨h.nd, by simp, fun a ha b hb e => by simp at hb; subst hb; subst e; exact hy ha⟩
  · rw [List.getElem?_append_left (List.getElem?_eq_some_iff.mp h.hd).1]; exact h.hd
  · unfold setP
    rw [if_neg fun q : first = y => hy (q ▸ hf)]; exact h.p0
  · by_cases hl : i < row.length
    · rw [List.getElem?_append_left hl] at hz
      obtain ⟨a', x', j', h1, h2, h3, h4⟩ := h.ps i z hz hi
      refine ⟨a', x', j', ?_, h2, ?_, h4⟩
      · unfold setP
        rw [if_neg fun q : z = y => hy (q ▸ List.mem_of_getElem? hz)]; exact h1
      · rw [List.getElem?_append_left (List.getElem?_eq_some_iff.mp h3).1]; exact h3
    · rw [List.getElem?_append_right (by omega)] at hz
      have hi0 : i - row.length = 0 := by
        rcases Nat.eq_zero_or_pos (i - row.length) with q | q
        · exact q
        · rw [List.getElem?_eq_none (by simp; omega)] at hz; cases hz
      rw [hi0] at hz
      simp at hz
      subst hz
      refine ⟨a, x, j, by unfold setP; rw [if_pos rfl], by omega, ?_, he⟩
      rw [List.getElem?_append_left hjl]; exact hx
  · rcases List.mem_append.mp hz with q | q
    · exact h.rc z q
    · simp at q; subst q; exact (h.rc x (List.mem_of_getElem? hx)).tail ⟨a, he⟩
  · rcases List.mem_append.mp hz with q | q
    · exact h.sub z q
    · simp at q; subst q; exact hU
end Lw
set_option Elab.async false
set_option linter.all false
set_option maxRecDepth 100000
set_option maxHeartbeats 0
namespace Lw
open PySem L2 Ink
structure Arr where
  one : Int
  other : Int
  least : Int
  weight : Int
def Arr.row (a : Arr) : List Int := [a.one, a.other, a.least, a.weight]
structure Arr.Ok (n : Int) (a : Arr) : Prop where
  o0 : 0 ≤ a.one
  o1 : a.one < n
  t0 : 0 ≤ a.other
  t1 : a.other < n
  l0 : 1 ≤ a.least
  l1 : a.least ≤ 3
  w0 : 1 ≤ a.weight
  w1 : a.weight ≤ 9
theorem arr_of {n : Int} {r : List Int} (h : isArrowB n r = true) : ∃ a : Arr, r = a.row ∧ a.Ok n := by
  unfold isArrowB at h
  split at h
  · rename_i a b l w
    simp at h
    exact ⟨⟨a, b, l, w⟩, rfl, ⟨h.1.1, h.1.2, h.2.1.1, h.2.1.2, h.2.2.1.1, h.2.2.1.2, h.2.2.2.1, h.2.2.2.2⟩⟩
  · cases h
theorem map_of {α β : Type} {f : α → β} {P : α → Prop} : ∀ {ys : List β}, (∀ y ∈ ys, ∃ x, y = f x ∧ P x) → ∃ xs : List α, ys = xs.map f ∧ ∀ x ∈ xs, P x
  | [], _ => ⟨[], rfl, fun x h => by cases h⟩
  | y :: ys, h => by
    obtain ⟨x, e, hx⟩ := h y (List.mem_cons_self ..)
    obtain ⟨xs, e2, hs⟩ := map_of fun z hz => h z (List.mem_cons_of_mem _ hz)
    refine ⟨x :: xs, by simp [e, e2], fun z hz => ?_⟩
    rcases List.mem_cons.mp hz with q | q
    · subst q; exact hx
    · exact hs z q
theorem arrs_of {w : Web} (h : isWebB w = true) : ∃ as : List Arr, w.arrows = as.map Arr.row ∧ (∀ a ∈ as, a.Ok (w.names.length : Nat)) ∧ as.length ≤ 80 ∧ w.names.length ≤ 40 := by
  simp only [isWebB, Bool.and_eq_true, List.all_eq_true, decide_eq_true_eq] at h
  obtain ⟨as, e, ha⟩ := map_of fun r hr => arr_of (h.2.2.1 r hr)
  refine ⟨as, e, ha, ?_, h.1.1⟩
  have := h.1.2.1
  rw [e, List.length_map] at this
  exact this
@[simp] theorem noL_pr {p : Int × Int} : noL (prD p) = true := by simp [prD]
def intsM (xs : List Int) : M := .lst (xs.map fun x => .fz (.int x))
end Lw
set_option Elab.async false
set_option linter.all false
set_option maxRecDepth 100000
set_option maxHeartbeats 0
namespace Lw
open PySem L2 Ink
section
variable {α : Type} (enc : α → D)
def lsM (A : List (Int × List α)) : M := .dK (A.map fun p => (kI p.1, M.lst (p.2.map fun q => M.fz (enc q))))
def lsD (A : List (Int × List α)) : D := .dK (A.map fun p => (kI p.1, .lst (p.2.map enc)))
theorem frz_ls (A : List (Int × List α)) : frz (lsM enc A) = some (lsD enc A) := by
  unfold lsM lsD
  rw [frz_dK, frzK_map (g := fun p : Int × List α => D.lst (p.2.map enc)) fun x _ => by simp]
  rfl
theorem noT_ls (A : List (Int × List α)) : noT (lsM enc A) = true := by
  unfold lsM
  simp [List.all_eq_true]
variable {enc}
@[simp] theorem bor_ls {A : List (Int × List α)} : borO (some (lsM enc A)) = some (.fz (lsD enc A)) := by
  rw [borO_m, frz_ls, noT_ls]; rfl
@[simp] theorem isFz_ls {A : List (Int × List α)} : isFz (lsM enc A) = false := rfl
@[simp] theorem unfz_ls {A : List (Int × List α)} {r : List M} : unfz (lsM enc A :: r) = none := rfl
end
/-- one more behind a key -/
def addA {α : Type} (A : List (Int × List α)) (x : Int) (q : α) : List (Int × List α) := match valG A x with
  | some ps => chgG A x (ps ++ [q])
  | none => A ++ [(x, [q])]
theorem valG_chg {κ α : Type} [DecidableEq κ] {x y : κ} {a b : α} : ∀ {A : List (κ × α)}, valG A x = some b → valG (chgG A x a) y = if y = x then some a else valG A y
  | [], h => by simp [valG] at h
  | (k, c) :: A, h => by
    by_cases e : k = x
    · subst e
      by_cases q : y = k
      · subst q
        simp [chgG, valG]
      · have q2 : ¬ k = y := fun z => q z.symm
        simp [chgG, valG, q, q2]
    · rw [valG_neg e] at h
      have ih := valG_chg (y := y) (a := a) h
      simp only [chgG, if_neg e]
      by_cases q : k = y
      · subst q
        rw [valG_pos, if_neg e, valG_pos]
      · rw [valG_neg q, valG_neg q, ih]
theorem valG_app {κ α : Type} [DecidableEq κ] {x y : κ} {a : α} : ∀ {A : List (κ × α)}, valG A x = none → valG (A ++ [(x, a)]) y = if y = x then some a else valG A y
  | [], _ => by
    by_cases q : y = x
    · subst q; simp [valG]
    · have q2 : ¬ x = y := fun z => q z.symm
      simp [valG, q, q2]
  | (k, c) :: A, h => by
    by_cases e : k = x
    · subst e; rw [valG_pos] at h; cases h
    · rw [valG_neg e] at h
      have ih := valG_app (y := y) (a := a) h
      rw [List.cons_append]
      by_cases q : k = y
      · subst q
        rw [valG_pos, if_neg e, valG_pos]
      · rw [valG_neg q, valG_neg q, ih]
theorem nb_add (A : Ahd) (x y : Int) (q : Int × Int) : nb (addA A x q) y = if y = x then nb A x ++ [q] else nb A y := by
  unfold nb addA
  cases h : valG A x with
  | none =>
    simp only []
    rw [valG_app h]
    by_cases e : y = x
    · simp [e]
    · simp [e]
  | some ps =>
    simp only []
    rw [valG_chg h]
    by_cases e : y = x
    · simp [e]
    · simp [e]
structure AhdOk (A : Ahd) (kept : List (Int × Int × Int)) : Prop where
  nb : ∀ x a y, (a, y) ∈ nb A x ↔ (a, x, y) ∈ kept
  len : A.length ≤ kept.length
  lens : ∀ p ∈ A, p.2.length ≤ kept.length
theorem valG_mem {κ α : Type} [DecidableEq κ] {x : κ} {a : α} : ∀ {A : List (κ × α)}, valG A x = some a → (x, a) ∈ A
  | [], h => by simp [valG] at h
  | (k, c) :: A, h => by
    by_cases e : k = x
    · subst e; rw [valG_pos] at h; cases h; exact List.mem_cons_self ..
    · rw [valG_neg e] at h; exact List.mem_cons_of_mem _ (valG_mem h)
theorem chg_len {κ α : Type} [DecidableEq κ] {x : κ} {a : α} : ∀ {A : List (κ × α)}, (chgG A x a).length = A.length
  | [] => rfl
  | (k, c) :: A => by
    by_cases e : k = x
    · simp [chgG, e]
    · simp [chgG, e, chg_len]
theorem chg_mem {κ α : Type} [DecidableEq κ] {x : κ} {a : α} {p : κ × α} : ∀ {A : List (κ × α)}, p ∈ chgG A x a → p ∈ A ∨ p = (x, a)
  | [], h => by simp [chgG] at h
  | (k, c) :: A, h => by
    by_cases e : k = x
    · subst e
      simp only [chgG, if_true] at h
      rcases List.mem_cons.mp h with q | q
      · exact .inr q
      · exact .inl (List.mem_cons_of_mem _ q)
    · simp only [chgG, if_neg e] at h
      rcases List.mem_cons.mp h with q | q
      · exact .inl (q ▸ List.mem_cons_self ..)
      · exact (chg_mem q).imp (List.mem_cons_of_mem _) id
theorem AhdOk.add {A : Ahd} {kept : List (Int × Int × Int)} (h : AhdOk A kept) (a x y : Int) : AhdOk (addA A x (a, y)) (kept ++ [(a, x, y)]) := by
  refine ⟨fun x' a' y' => ?_, ?_, fun p hp => ?_⟩
  · rw [nb_add]
    by_cases e : x' = x
    · subst e
      rw [if_pos rfl, List.mem_append, List.mem_append, h.nb]
      simp
    · rw [if_neg e, List.mem_append, h.nb]
      simp [e]
  · unfold addA
    have := h.len
    split
    · rw [chg_len]; simp; omega
    · simp; omega
  · unfold addA at hp
    rw [List.length_append]
    simp only [List.length_singleton]
    split at hp
    · rename_i ps hv
      rcases chg_mem hp with q | q
      · have := h.lens p q; omega
      · subst q
        have := h.lens _ (valG_mem hv)
        simp at this ⊢
        omega
    · rcases List.mem_append.mp hp with q | q
      · have := h.lens p q; omega
      · simp at q; subst q; simp
end Lw
set_option Elab.async false
set_option linter.all false
set_option maxRecDepth 100000
set_option maxHeartbeats 0
namespace Lw
open PySem L2 Ink
/-- what _law_alike can look at within n calls -/
def alOk : Nat → D → Prop
  | 0, _ => False
  | n + 1, d => match d with
    | .non => True
    | .bl _ => True
    | .int _ => True
    | .str _ => True
    | .lst ds => ds.length ≤ 1000000 ∧ ∀ x ∈ ds, alOk n x
    | .tup ds => ds.length ≤ 1000000 ∧ ∀ x ∈ ds, alOk n x
    | _ => False
theorem range_map (n : Nat) : rangeD 0 (n : Int) = (List.range n).map fun k => D.int (k : Nat) := by
  unfold rangeD
  simp
theorem range_len (n : Nat) : (rangeD 0 (n : Int)).length = n := by rw [range_map]; simp
theorem alike_comp {n : Nat} {ds : List D} (q : D) (hq : ∀ i : Int, ixF [.fz q, .fz (.int i)] = kG [some (.fz q), some (.fz (.int i))] (match atI ds i with | some d => some (.fz d) | none => none)) (ih : ∀ x ∈ ds, m_law_alike n [.fz x, .fz x] = some (.ok (.fz (.bl true)) [some (.fz x), some (.fz x)])) :
    compD (nmG 2) yesT (callE (m_law_alike n) (consA (callE ixF (arg2 (vE 0) (vE 2))) (consA (callE ixF (arg2 (vE 1) (vE 2))) nilA))) [2] (rangeD 0 ds.length) [some (.fz q), some (.fz q), none] = some ((List.range ds.length).map (fun _ => .fz (.bl true)), [some (.fz q), some (.fz q), none]) := by
  rw [range_map]
  refine comp_list (fun k : Nat => D.int (k : Nat)) (fun _ => .fz (.bl true)) _ (List.range ds.length) fun k hk => ?_
  have hlt : k < ds.length := by simpa using hk
  have hx := ih ds[k] (List.getElem_mem hlt)
  simp [-ev_ixF, hq, hlt, hx, wipeE]
theorem alike_same : ∀ (n : Nat) (d : D), alOk n d → m_law_alike n [.fz d, .fz d] = some (.ok (.fz (.bl true)) [some (.fz d), some (.fz d)])
  | 0, _, h => h.elim
  | n + 1, .non, _ => by simp [m_law_alike, kdSub]
  | n + 1, .bl b, _ => by simp [m_law_alike, kdSub]
  | n + 1, .int i, _ => by simp [m_law_alike, kdSub, m_law_whole, b_law_whole]
  | n + 1, .str i, _ => by simp [m_law_alike, kdSub]
  | n + 1, .dK _, h => h.elim
  | n + 1, .dT _, h => h.elim
  | n + 1, .scr _, h => h.elim
  | n + 1, .ins _ _, h => h.elim
  | n + 1, .lst ds, h => by
    have ih := fun x hx => alike_same n x (h.2 x hx)
    have hl := h.1
    have fit : -4611686018427387904 ≤ (ds.length : Int) ∧ (ds.length : Int) < 4611686018427387904 := by omega
    rw [m_law_alike]
    simp [kdSub, fit]
    rw [range_len, if_pos (by omega), alike_comp (D.lst ds) (fun i => by simp <;> cases atI ds i <;> rfl) ih]
    simp
  | n + 1, .tup ds, h => by
    have ih := fun x hx => alike_same n x (h.2 x hx)
    have hl := h.1
    have fit : -4611686018427387904 ≤ (ds.length : Int) ∧ (ds.length : Int) < 4611686018427387904 := by omega
    rw [m_law_alike]
    simp [kdSub, fit]
    rw [range_len, if_pos (by omega), alike_comp (D.tup ds) (fun i => by simp <;> cases atI ds i <;> rfl) ih]
    simp
theorem web_names {w : Web} (h : isWebB w = true) : ∀ x ∈ w.names, x.length ≤ 16777216 := by
  simp only [isWebB, Bool.and_eq_true, List.all_eq_true] at h
  intro x hx
  have := h.2.1.1 x hx
  simp only [isNameB, Bool.and_eq_true, decide_eq_true_eq] at this
  have := this.1.2
  omega
theorem need_web_eq {w : Web} (h : isWebB w = true) : m_need_web [.fz w.d] = some (.ok (.fz .non) [some (.fz w.d)]) := by
  have := is_web_eq (w := w) (web_names h)
  rw [h] at this
  simp [m_need_web, b_need_web, this]
end Lw
set_option Elab.async false
set_option linter.all false
set_option maxRecDepth 100000
set_option maxHeartbeats 1000000
namespace Lw
open PySem L2 Ink TL
/-- a while loop, step by step -/
theorem while_f {c : FT} {b : FS} {env e1 : E} (h : c env = some (.ok false e1)) : whileS c b env = some (.nx e1) := whileS_eq (n := 1) (by rw [whileN, h])
theorem while_t {c : FT} {b : FS} {env e1 e2 : E} {fl : Fl} (h : c env = some (.ok true e1)) (h2 : b e1 = some (.nx e2)) (h3 : whileS c b e2 = some fl) : whileS c b env = some fl := by
  obtain ⟨n, hn⟩ := whileS_at h3
  exact whileS_eq (n := n + 1) (by rw [whileN, h]; simp only [h2]; exact hn)
theorem while_x {c : FT} {b : FS} {env e1 e2 : E} {x : Xc} (h : c env = some (.ok true e1)) (h2 : b e1 = some (.ex x e2)) : whileS c b env = some (.ex x e2) := whileS_eq (n := 1) (by rw [whileN, h]; simp only [h2])
/-- a reader -/
def RdM (x : Str) (k : Int) : M := .ins "Reader" [("text", .fz (.str x)), ("at", .fz (.int k))]
@[simp] theorem rd_text {x : Str} {k : Int} : insD "Reader" "text" (RdM x k) = some (.str x) := (rfl)
@[simp] theorem rd_at {x : Str} {k : Int} : insD "Reader" "at" (RdM x k) = some (.int k) := (rfl)
@[simp] theorem rd_set {x : Str} {k j : Int} : setFG "Reader" "at" [.fz (.int j), RdM x k] = some (.ok (.fz .non) [none, some (RdM x j)]) := (rfl)
@[simp] theorem rd_isFz {x : Str} {k : Int} : isFz (RdM x k) = false := (rfl)
@[simp] theorem rd_m1 {x : Str} {k : Int} : isInsM "Reader" "sign" (RdM x k) = true := (rfl)
@[simp] theorem rd_m2 {x : Str} {k : Int} : isInsM "Reader" "bar" (RdM x k) = true := (rfl)
@[simp] theorem rd_m3 {x : Str} {k : Int} : isInsM "Reader" "pass_blanks" (RdM x k) = true := (rfl)
@[simp] theorem rd_m4 {x : Str} {k : Int} : isInsM "Reader" "take" (RdM x k) = true := (rfl)
@[simp] theorem rd_m5 {x : Str} {k : Int} : isInsM "Reader" "name" (RdM x k) = true := (rfl)
@[simp] theorem rd_m6 {x : Str} {k : Int} : isInsM "Reader" "group" (RdM x k) = true := (rfl)
@[simp] theorem rd_m7 {x : Str} {k : Int} : isInsM "Reader" "link" (RdM x k) = true := (rfl)
/-- the first sign, or the empty text -/
def sg (l : List Nat) : Str := ⟨(l.take 1).toArray⟩
theorem sg_c {c : Nat} {l : List Nat} : sg (c :: l) = ⟨#[c]⟩ := rfl
theorem sg_n : sg [] = "" := rfl
theorem sg_ne {c : Nat} {l : List Nat} : ¬ sg (c :: l) = "" := fun e => by
  have := congrArg tl e
  cases this
theorem sg_one {c d : Nat} {l : List Nat} {y : Str} (hy : tl y = [d]) : sg (c :: l) = y ↔ c = d := by
  constructor
  · intro e
    have := congrArg tl e
    rw [hy] at this
    exact (List.cons.inj this).1
  · rintro rfl
    exact ext_tl (by rw [hy]; rfl)
theorem sg_no {d : Nat} {y : Str} (hy : tl y = [d]) : ¬ sg [] = y := fun e => by
  have := congrArg tl e
  rw [hy] at this
  cases this
theorem cut_one (x : Str) (n : Nat) : cutS x (some (n : Int)) (some ((n : Int) + 1)) = sg ((tl x).drop n) := by
  unfold cutS sg
  rw [show ((n : Int) + 1) = ((n + 1 : Nat) : Int) by omega, HT.sIx_nat, HT.sIx_nat, len_tl]
  have e : ((tl x).drop (min n (tl x).length)).take (min (n + 1) (tl x).length - min n (tl x).length) = ((tl x).drop n).take 1 := by
    by_cases h : n < (tl x).length
    · rw [Nat.min_eq_left (by omega), Nat.min_eq_left (by omega)]
      congr 1
      omega
    · rw [Nat.min_eq_right (by omega), Nat.min_eq_right (by omega), List.drop_eq_nil_of_le (Nat.le_refl _), List.drop_eq_nil_of_le (show (tl x).length ≤ n by omega)]
      simp
  exact congrArg (fun l : List Nat => (⟨l.toArray⟩ : Str)) e
theorem sign_at {x : Str} {k j : Nat} (hx : x.length ≤ 1000000) : m_Reader_sign [RdM x k, .fz (.int j)] = some (.ok (.fz (.str (sg ((tl x).drop (k + j))))) [some (RdM x k), some (.fz (.int j))]) := by
  have h1 : x.length ≤ 16777216 := by omega
  have e := cut_one x (k + j)
  rw [show ((k + j : Nat) : Int) = (k : Int) + (j : Int) by omega] at e
  unfold m_Reader_sign b_Reader_sign
  simp [h1, e]
/-- the reader of the text l that has r ahead -/
def RS (l r : List Nat) : M := RdM ⟨l.toArray⟩ ((l.length - r.length : Nat) : Int)
@[simp] theorem rs_isFz {l r : List Nat} : isFz (RS l r) = false := (rfl)
@[simp] theorem rs_m1 {l r : List Nat} : isInsM "Reader" "sign" (RS l r) = true := (rfl)
@[simp] theorem rs_m2 {l r : List Nat} : isInsM "Reader" "bar" (RS l r) = true := (rfl)
@[simp] theorem rs_m3 {l r : List Nat} : isInsM "Reader" "pass_blanks" (RS l r) = true := (rfl)
@[simp] theorem rs_m4 {l r : List Nat} : isInsM "Reader" "take" (RS l r) = true := (rfl)
@[simp] theorem rs_m5 {l r : List Nat} : isInsM "Reader" "name" (RS l r) = true := (rfl)
@[simp] theorem rs_m6 {l r : List Nat} : isInsM "Reader" "group" (RS l r) = true := (rfl)
@[simp] theorem rs_m7 {l r : List Nat} : isInsM "Reader" "link" (RS l r) = true := (rfl)
theorem suf_drop {l r : List Nat} (h : r <:+ l) : l.drop (l.length - r.length) = r := by
  obtain ⟨p, rfl⟩ := h
  rw [List.length_append, Nat.add_sub_cancel]
  simp
theorem sign0_eq {l r : List Nat} (h : r <:+ l) (hl : l.length ≤ 1000000) : dflI 0 m_Reader_sign [RS l r] = some (.ok (.fz (.str (sg r))) [some (RS l r)]) := by
  have e := sign_at (x := ⟨l.toArray⟩) (k := l.length - r.length) (j := 0) hl
  rw [tl_mk, Nat.add_zero, suf_drop h] at e
  have e2 : m_Reader_sign ([RS l r] ++ [.fz (.int 0)]) = some (.ok (.fz (.str (sg r))) [some (RS l r), some (.fz (.int 0))]) := e
  unfold dflI
  rw [e2]
  rfl
theorem sign1_eq {l r : List Nat} (h : r <:+ l) (hl : l.length ≤ 1000000) : m_Reader_sign [RS l r, .fz (.int 1)] = some (.ok (.fz (.str (sg (r.drop 1)))) [some (RS l r), some (.fz (.int 1))]) := by
  have e := sign_at (x := ⟨l.toArray⟩) (k := l.length - r.length) (j := 1) hl
  rw [tl_mk, ← List.drop_drop, suf_drop h] at e
  exact e
theorem rs_next {l r : List Nat} {c : Nat} (h : c :: r <:+ l) : RdM ⟨l.toArray⟩ (((l.length - (c :: r).length : Nat) : Int) + 1) = RS l r := by
  unfold RS
  have := h.length_le
  rw [List.length_cons] at this ⊢
  congr 1
  omega
theorem adv_eq {l r : List Nat} {c : Nat} {env : E} (h : c :: r <:+ l) : augFS "Reader" "at" 0 (· + ·) (cE (.int 1)) (some (RS l (c :: r)) :: env) = some (.nx (some (RS l r) :: env)) := by
  rw [← rs_next h]
  generalize e : RS l (c :: r) = m
  unfold RS at e
  subst e
  simp
theorem suf_t {l r : List Nat} {c : Nat} (h : c :: r <:+ l) : r <:+ l := (List.suffix_cons c r).trans h
/-- behind blanks -/
def blk (r : List Nat) : List Nat := r.dropWhile (· == 32)
theorem blk_suf (r : List Nat) : blk r <:+ r := List.dropWhile_suffix _
theorem pass_loop {l : List Nat} (hl : l.length ≤ 1000000) : ∀ {r : List Nat}, r <:+ l → whileS T_Reader_pass_blanks_1 (augFS "Reader" "at" 0 (· + ·) (cE (.int 1))) [some (RS l r)] = some (.nx [some (RS l (blk r))])
  | [], h => while_f (by simp [T_Reader_pass_blanks_1, sign0_eq h hl, sg_no (y := " ") rfl, blk])
  | c :: r, h => by
    by_cases hc : c = 32
    · subst hc
      refine while_t (e1 := [some (RS l (32 :: r))]) (e2 := [some (RS l r)]) ?_ (adv_eq h) ?_
      · simp [T_Reader_pass_blanks_1, sign0_eq h hl, (sg_one (c := 32) (l := r) (y := " ") rfl).mpr rfl]
      · rw [show blk (32 :: r) = blk r from rfl]
        exact pass_loop hl (suf_t h)
    · have n : ¬ sg (c :: r) = " " := fun z => hc ((sg_one (y := " ") rfl).mp z)
      have eb : blk (c :: r) = c :: r := by
        unfold blk
        rw [List.dropWhile_cons_of_neg (by simpa using hc)]
      rw [eb]
      exact while_f (by simp [T_Reader_pass_blanks_1, sign0_eq h hl, n])
theorem pass_eq {l r : List Nat} (h : r <:+ l) (hl : l.length ≤ 1000000) : m_Reader_pass_blanks [RS l r] = some (.ok (.fz .non) [some (RS l (blk r))]) := by
  simp [m_Reader_pass_blanks, b_Reader_pass_blanks, pass_loop hl h]
def tkV (S : List Nat) (r : List Nat) : List Nat := match r with
  | c :: _ => if c ∈ S then [c] else []
  | [] => []
def tkR (S : List Nat) (r : List Nat) : List Nat := match r with
  | c :: r' => if c ∈ S then r' else c :: r'
  | [] => []
theorem tkR_suf (S r : List Nat) : tkR S r <:+ r := by
  unfold tkR
  split
  · split
    · exact List.suffix_cons _ _
    · exact List.suffix_rfl
  · exact List.suffix_rfl
theorem inSignT {c : Nat} {t : Str} : inM true (.fz (.str ⟨#[c]⟩)) (.fz (.str t)) = some (.fz (.bl (!decide (c ∈ t.cps.toList)))) := rfl
theorem take_eq {l r : List Nat} {y : Str} (h : r <:+ l) (hl : l.length ≤ 1000000) : m_Reader_take [RS l r, .fz (.str y)] = some (.ok (.fz (.str ⟨(tkV (tl y) r).toArray⟩)) [some (RS l (tkR (tl y) r)), some (.fz (.str y))]) := by
  have e := sign0_eq h hl
  match r, h, e with
  | [], h, e =>
    rw [sg_n] at e
    simp [m_Reader_take, b_Reader_take, e, tkV, tkR]
    rfl
  | c :: r', h, e =>
    have a := adv_eq (env := [some (.fz (.str y)), some (.fz (.str (sg (c :: r'))))]) h
    rw [sg_c] at e a
    have n : ¬ (⟨#[c]⟩ : Str) = "" := sg_ne (l := r')
    by_cases hc : c ∈ tl y
    · have hc2 : c ∈ y.cps := by simpa using hc
      simp [m_Reader_take, b_Reader_take, e, n, inSignT, tkV, tkR, hc, hc2, a, -ev_augFS]
    · have hc2 : ¬ c ∈ y.cps := by simpa using hc
      simp [m_Reader_take, b_Reader_take, e, n, inSignT, tkV, tkR, hc, hc2]
      rfl
end Lw
set_option Elab.async false
set_option linter.all false
set_option maxRecDepth 100000
set_option maxHeartbeats 1000000
namespace Lw
open PySem L2 Ink TL
/-- what a reading tells, and what it leaves; or where it stands still -/
inductive RR (α : Type) where
  | ok (a : α) (r : List Nat)
  | bad (r : List Nat)
def badX (l r : List Nat) : Xc := ⟨"BadText", some [("at", .int ((l.length - r.length : Nat) : Int))]⟩
def outR {α : Type} (f : α → M) (l : List Nat) (o : RR α) : Option OutP := match o with
  | .ok a r => some (.ok (f a) [some (RS l r)])
  | .bad r => some (.ex (badX l r) [some (RS l r)])
def okR {α : Type} (r0 : List Nat) (o : RR α) : Prop := match o with
  | .ok _ r => r <:+ r0
  | .bad r => r <:+ r0
theorem okR.mono {α : Type} {r0 r1 : List Nat} {o : RR α} (h : okR r0 o) (s : r0 <:+ r1) : okR r1 o := by
  cases o <;> exact List.IsSuffix.trans h s
theorem log_small {n : Nat} (h : n ≤ 1000000) : n.log2 < 1920 := by
  by_cases h0 : n = 0
  · subst h0; decide
  · refine (Nat.log2_lt h0).mpr (Nat.lt_of_lt_of_le (show n < 2 ^ 20 by omega) (Nat.pow_le_pow_right (by omega) (by omega)))
theorem bar_eq {l r : List Nat} (hl : l.length ≤ 1000000) : m_Reader_bar [RS l r] = some (.ex (badX l r) [some (RS l r)]) := by
  have h1 : insD "Reader" "at" (RS l r) = some (.int ((l.length - r.length : Nat) : Int)) := rfl
  have h2 : (l.length - r.length).log2 < 1920 := log_small (by omega)
  unfold badX
  generalize hn : l.length - r.length = n at *
  simp [m_Reader_bar, b_Reader_bar, h1, h2, fzA]
def isLet (c : Nat) : Bool := decide (c ∈ letters.cps.toList)
def nmS : Nat → List Nat → List Nat → List Nat × List Nat
  | 0, acc, r => (acc, r)
  | n + 1, acc, c :: r => if isLet c = true then nmS n (acc ++ [c]) r else (acc, c :: r)
  | n + 1, acc, [] => (acc, [])
theorem nmS_suf : ∀ {n : Nat} {acc r : List Nat}, (nmS n acc r).2 <:+ r
  | 0, acc, r => List.suffix_rfl
  | n + 1, acc, c :: r => by
    rw [nmS]
    split
    · exact nmS_suf.trans (List.suffix_cons _ _)
    · exact List.suffix_rfl
  | n + 1, acc, [] => List.suffix_rfl
def nameR (r : List Nat) : RR (List Nat) := match nmS 6 [] (blk r) with
  | ([], r') => .bad r'
  | (w, r') => .ok w r'
def strL (w : List Nat) : M := .fz (.str ⟨w.toArray⟩)
theorem app_l (a b : List Nat) : ((⟨a.toArray⟩ : Str) ++ ⟨b.toArray⟩) = ⟨(a ++ b).toArray⟩ := ext_tl (by rw [tl_append])
theorem str_nil {w : List Nat} : (⟨w.toArray⟩ : Str) = "" ↔ w = [] := by
  constructor
  · intro e
    have := congrArg tl e
    exact this
  · rintro rfl; rfl
theorem nm_loop {l : List Nat} (hl : l.length ≤ 1000000) : ∀ {n : Nat} {acc r : List Nat}, r <:+ l → n + acc.length = 6 →
    whileS T_Reader_name_1 L_Reader_name_1 [some (RS l r), some (strL acc)] = some (.nx [some (RS l (nmS n acc r).2), some (strL (nmS n acc r).1)])
  | 0, acc, r, h, hn => while_f (by
      have e1 : ¬ ((acc.length : Nat) : Int) < 6 := by omega
      have z0 : acc.length ≤ 16777216 := by omega
      have e2 : (⟨acc.toArray⟩ : Str).length = acc.length := rfl
      unfold strL
      simp [T_Reader_name_1, e1, e2, z0, nmS])
  | n + 1, acc, [], h, hn => while_f (by
      have e1 : ((acc.length : Nat) : Int) < 6 := by omega
      have z0 : acc.length ≤ 16777216 := by omega
      have e2 : (⟨acc.toArray⟩ : Str).length = acc.length := rfl
      unfold strL
      simp [T_Reader_name_1, e1, e2, z0, nmS, sign0_eq h hl, sg_n])
  | n + 1, acc, c :: r, h, hn => by
    have e1 : ((acc.length : Nat) : Int) < 6 := by omega
    have z0 : acc.length ≤ 16777216 := by omega
    have e2 : (⟨acc.toArray⟩ : Str).length = acc.length := rfl
    have s := sign0_eq h hl
    rw [sg_c] at s
    have n0 : ¬ (⟨#[c]⟩ : Str) = "" := sg_ne (l := r)
    rw [nmS]
    by_cases hc : isLet c = true
    · have hc1 : c ∈ (tl letters) := of_decide_eq_true hc
      have hc2 : c ∈ (Str.ofString "abcdefghijklmnopqrstuvwxyz").cps := by simpa using hc1
      have tq := take_eq (y := letters) h hl
      have v1 : tkV (tl letters) (c :: r) = [c] := by show (if c ∈ tl letters then [c] else []) = _; exact if_pos hc1
      have v2 : tkR (tl letters) (c :: r) = r := by show (if c ∈ tl letters then r else c :: r) = _; exact if_pos hc1
      rw [v1, v2] at tq
      rw [if_pos hc]
      refine while_t (e1 := [some (RS l (c :: r)), some (strL acc)]) (e2 := [some (RS l r), some (strL (acc ++ [c]))]) ?_ ?_ (nm_loop hl (suf_t h) (by rw [List.length_append]; simp; omega))
      · unfold strL
        simp [T_Reader_name_1, e1, e2, z0, s, n0, inSign, hc2]
      · have a := app_l acc [c]
        have z : acc.length + 1 ≤ 16777216 := by omega
        unfold strL
        have e3 : (⟨#[c]⟩ : Str).length = 1 := rfl
        have a : ((⟨acc.toArray⟩ : Str) ++ ⟨#[c]⟩) = ⟨(acc ++ [c]).toArray⟩ := a
        simp [L_Reader_name_1, tq, iaddM, e2, e3, z, a]
    · have hc1 : ¬ c ∈ (tl letters) := fun z => hc (decide_eq_true z)
      have hc2 : ¬ c ∈ (Str.ofString "abcdefghijklmnopqrstuvwxyz").cps := by simpa using hc1
      rw [if_neg hc]
      exact while_f (by
        unfold strL
        simp [T_Reader_name_1, e1, e2, z0, s, n0, inSign, hc2])
theorem nameR_ok (r : List Nat) : okR r (nameR r) := by
  have s := nmS_suf (n := 6) (acc := []) (r := blk r)
  have s2 := s.trans (blk_suf r)
  unfold nameR
  split
  · rename_i r' e; rw [e] at s2; exact s2
  · rename_i w r' _ e; rw [e] at s2; exact s2
theorem name_eq {l r : List Nat} (h : r <:+ l) (hl : l.length ≤ 1000000) : m_Reader_name [RS l r] = outR strL l (nameR r) := by
  have p := pass_eq h hl
  have hb := (blk_suf r).trans h
  have lo := nm_loop hl (n := 6) (acc := []) hb rfl
  have hs := nmS_suf (n := 6) (acc := []) (r := blk r)
  unfold nameR
  match e : nmS 6 [] (blk r) with
  | ([], r') =>
    rw [e] at lo hs
    have z : strL [] = .fz (.str "") := rfl
    rw [z] at lo
    have b := bar_eq (r := r') hl
    simp [m_Reader_name, b_Reader_name, p, lo, b, outR]
  | (c :: w, r') =>
    rw [e] at lo
    have n0 : ¬ (⟨(c :: w).toArray⟩ : Str) = "" := fun z => by have := str_nil.mp z; cases this
    unfold strL at lo
    have z : (.fz (.str ⟨[].toArray⟩) : M) = .fz (.str "") := rfl
    rw [z] at lo
    simp only [] at lo
    generalize hg : (⟨(c :: w).toArray⟩ : Str) = g at *
    simp [m_Reader_name, b_Reader_name, p, lo, n0, outR, strL, hg]
end Lw
set_option Elab.async false
set_option linter.all false
set_option maxRecDepth 100000
set_option maxHeartbeats 1000000
namespace Lw
open PySem L2 Ink TL
theorem tkR_none {S r : List Nat} (h : tkV S r = []) : tkR S r = r := by
  cases r with
  | nil => rfl
  | cons c r =>
    by_cases hc : c ∈ S
    · have : tkV S (c :: r) = [c] := if_pos hc
      rw [this] at h; cases h
    · exact if_neg hc
theorem tkR_some {S r : List Nat} (h : ¬ tkV S r = []) : ∃ c, r = c :: tkR S r ∧ c ∈ S ∧ tkV S r = [c] := by
  cases r with
  | nil => exact (h rfl).elim
  | cons c r =>
    by_cases hc : c ∈ S
    · exact ⟨c, by rw [show tkR S (c :: r) = r from if_pos hc], hc, if_pos hc⟩
    · exact (h (if_neg hc)).elim
theorem take1 {l r : List Nat} {y : Str} {S : List Nat} (hy : tl y = S) (h : r <:+ l) (hl : l.length ≤ 1000000) : m_Reader_take [RS l r, .fz (.str y)] = some (.ok (.fz (.str ⟨(tkV S r).toArray⟩)) [some (RS l (tkR S r)), some (.fz (.str y))]) := by
  subst hy
  exact take_eq h hl
def loopR : Nat → List (List Nat) → List Nat → RR (List (List Nat))
  | 0, _, r => .bad r
  | n + 1, ws, r => if tkV [44] r = [] then .ok ws r else match nameR (tkR [44] r) with
    | .bad r' => .bad r'
    | .ok w r1 => loopR n (ws ++ [w]) (blk r1)
def groupR (r : List Nat) : RR (List (List Nat)) := if tkV [40] (blk r) = [] then (match nameR (blk r) with
    | .ok w r' => .ok [w] r'
    | .bad r' => .bad r')
  else match nameR (tkR [40] (blk r)) with
    | .bad r' => .bad r'
    | .ok w r1 => match loopR (r1.length + 1) [w] (blk r1) with
      | .bad r' => .bad r'
      | .ok ws r2 => if tkV [41] r2 = [] then .bad r2 else .ok ws (tkR [41] r2)
def wsM (ws : List (List Nat)) : M := .lst (ws.map strL)
theorem loopR_ok : ∀ {n : Nat} {ws : List (List Nat)} {r : List Nat}, okR r (loopR n ws r)
  | 0, ws, r => List.suffix_rfl
  | n + 1, ws, r => by
    rw [loopR]
    split
    · exact List.suffix_rfl
    · have s := nameR_ok (tkR [44] r)
      have t := tkR_suf [44] r
      cases e : nameR (tkR [44] r) with
      | bad r' => rw [e] at s; exact List.IsSuffix.trans s t
      | ok w r1 =>
        rw [e] at s
        exact (loopR_ok (n := n)).mono ((blk_suf r1).trans (List.IsSuffix.trans s t))
theorem group_loop {l : List Nat} (hl : l.length ≤ 1000000) : ∀ {n : Nat} {ws : List (List Nat)} {r : List Nat}, r <:+ l → r.length < n → ws.length + r.length ≤ 1000001 →
    (∀ ws' r', loopR n ws r = .ok ws' r' → whileS T_Reader_group_1 L_Reader_group_1 [some (RS l r), some (wsM ws)] = some (.nx [some (RS l r'), some (wsM ws')]) ∧ ws'.length + r'.length ≤ 1000001) ∧
    (∀ r', loopR n ws r = .bad r' → ∃ o, whileS T_Reader_group_1 L_Reader_group_1 [some (RS l r), some (wsM ws)] = some (.ex (badX l r') [some (RS l r'), o]))
  | 0, ws, r, h, hn, hw => by omega
  | n + 1, ws, r, h, hn, hw => by
    have tq := take1 (y := ",") (S := [44]) rfl h hl
    rw [loopR]
    by_cases hv : tkV [44] r = []
    · rw [if_pos hv]
      have e0 : (⟨(tkV [44] r).toArray⟩ : Str) = "" := str_nil.mpr hv
      rw [tkR_none hv, e0] at tq
      refine ⟨fun ws' r' e => ?_, fun r' e => (by cases e)⟩
      cases e
      exact ⟨while_f (by simp [T_Reader_group_1, tq]), hw⟩
    · rw [if_neg hv]
      have e0 : ¬ (⟨(tkV [44] r).toArray⟩ : Str) = "" := fun z => hv (str_nil.mp z)
      have t := tkR_suf [44] r
      have ht := t.trans h
      have hlt : (tkR [44] r).length < r.length := by
        obtain ⟨c, e, _⟩ := tkR_some hv
        have := congrArg List.length e
        rw [List.length_cons] at this
        omega
      have nq := name_eq ht hl
      have s := nameR_ok (tkR [44] r)
      have c1 : T_Reader_group_1 [some (RS l r), some (wsM ws)] = some (.ok true [some (RS l (tkR [44] r)), some (wsM ws)]) := by simp [T_Reader_group_1, tq, e0]
      cases e : nameR (tkR [44] r) with
      | bad r' =>
        rw [e] at nq
        simp only [outR] at nq
        refine ⟨fun ws' r2 z => (by cases z), fun r2 z => ?_⟩
        cases z
        refine ⟨some (wsM ws), while_x c1 ?_⟩
        unfold wsM
        simp [L_Reader_group_1, nq]
      | ok w r1 =>
        rw [e] at nq s
        simp only [outR] at nq
        have s2 : r1 <:+ l := List.IsSuffix.trans s ht
        have p := pass_eq s2 hl
        have hb := (blk_suf r1).trans s2
        have l1 : (blk r1).length ≤ r1.length := (blk_suf r1).length_le
        have l2 : r1.length ≤ (tkR [44] r).length := List.IsSuffix.length_le s
        have z : ws.length < sizeLine := by rw [Ink.sizeLine_eq]; omega
        have c2 : L_Reader_group_1 [some (RS l (tkR [44] r)), some (wsM ws)] = some (.nx [some (RS l (blk r1)), some (wsM (ws ++ [w]))]) := by
          have z2 : ws.length < 16777216 := by omega
          unfold wsM
          simp [L_Reader_group_1, nq, p, z2, strL]
        obtain ⟨g1, g2⟩ := group_loop hl (n := n) (ws := ws ++ [w]) hb (by omega) (by rw [List.length_append]; simp; omega)
        refine ⟨fun ws' r2 z => ?_, fun r2 z => ?_⟩
        · obtain ⟨a, b⟩ := g1 ws' r2 z
          exact ⟨while_t c1 c2 a, b⟩
        · obtain ⟨o, a⟩ := g2 r2 z
          exact ⟨o, while_t c1 c2 a⟩
theorem groupR_ok (r : List Nat) : okR r (groupR r) := by
  have b := blk_suf r
  unfold groupR
  split
  · have s := nameR_ok (blk r)
    cases e : nameR (blk r) with
    | ok w r' => rw [e] at s; exact List.IsSuffix.trans s b
    | bad r' => rw [e] at s; exact List.IsSuffix.trans s b
  · have s := nameR_ok (tkR [40] (blk r))
    have t := (tkR_suf [40] (blk r)).trans b
    cases e : nameR (tkR [40] (blk r)) with
    | bad r' => rw [e] at s; exact List.IsSuffix.trans s t
    | ok w r1 =>
      rw [e] at s
      have s2 : r1 <:+ r := List.IsSuffix.trans s t
      have q := loopR_ok (n := r1.length + 1) (ws := [w]) (r := blk r1)
      simp only []
      cases e2 : loopR (r1.length + 1) [w] (blk r1) with
      | bad r' => rw [e2] at q; exact List.IsSuffix.trans q ((blk_suf r1).trans s2)
      | ok ws r2 =>
        rw [e2] at q
        have q2 : r2 <:+ r := List.IsSuffix.trans q ((blk_suf r1).trans s2)
        simp only []
        split
        · exact q2
        · exact (tkR_suf [41] r2).trans q2
theorem group_eq {l r : List Nat} (h : r <:+ l) (hl : l.length ≤ 1000000) : m_Reader_group [RS l r] = outR wsM l (groupR r) := by
  have p := pass_eq h hl
  have hb := (blk_suf r).trans h
  have tq := take1 (y := "(") (S := [40]) rfl hb hl
  unfold groupR
  by_cases hv : tkV [40] (blk r) = []
  · rw [if_pos hv]
    have e0 : (⟨(tkV [40] (blk r)).toArray⟩ : Str) = "" := str_nil.mpr hv
    rw [tkR_none hv, e0] at tq
    have nq := name_eq hb hl
    cases e : nameR (blk r) with
    | ok w r' =>
      rw [e] at nq
      simp only [outR] at nq ⊢
      simp [m_Reader_group, b_Reader_group, p, tq, nq, wsM, strL]
    | bad r' =>
      rw [e] at nq
      simp only [outR] at nq ⊢
      simp [m_Reader_group, b_Reader_group, p, tq, nq]
  · rw [if_neg hv]
    have e0 : ¬ (⟨(tkV [40] (blk r)).toArray⟩ : Str) = "" := fun z => hv (str_nil.mp z)
    have t := tkR_suf [40] (blk r)
    have ht := t.trans hb
    have nq := name_eq ht hl
    have s := nameR_ok (tkR [40] (blk r))
    cases e : nameR (tkR [40] (blk r)) with
    | bad r' =>
      rw [e] at nq
      simp only [outR] at nq ⊢
      simp [m_Reader_group, b_Reader_group, p, tq, nq, e0]
    | ok w r1 =>
      rw [e] at nq s
      simp only [outR] at nq ⊢
      have s2 : r1 <:+ l := List.IsSuffix.trans s ht
      have p2 := pass_eq s2 hl
      have hb2 := (blk_suf r1).trans s2
      have l1 : (blk r1).length ≤ r1.length := (blk_suf r1).length_le
      have l2 := s2.length_le
      obtain ⟨g1, g2⟩ := group_loop hl (n := r1.length + 1) (ws := [w]) hb2 (by omega) (by simp; omega)
      have q := loopR_ok (n := r1.length + 1) (ws := [w]) (r := blk r1)
      have w1 : wsM [w] = .lst [strL w] := rfl
      cases e2 : loopR (r1.length + 1) [w] (blk r1) with
      | bad r' =>
        obtain ⟨o, a⟩ := g2 r' e2
        rw [w1] at a
        unfold strL at a nq
        simp [m_Reader_group, b_Reader_group, p, tq, nq, e0, p2, a]
      | ok ws r2 =>
        obtain ⟨a, _⟩ := g1 ws r2 e2
        rw [e2] at q
        have q2 : r2 <:+ l := List.IsSuffix.trans q hb2
        have tq2 := take1 (y := ")") (S := [41]) rfl q2 hl
        rw [w1] at a
        unfold strL at a nq
        simp only []
        by_cases hv2 : tkV [41] r2 = []
        · rw [if_pos hv2]
          have e3 : (⟨(tkV [41] r2).toArray⟩ : Str) = "" := str_nil.mpr hv2
          rw [tkR_none hv2, e3] at tq2
          have b := bar_eq (r := r2) hl
          simp [m_Reader_group, b_Reader_group, p, tq, nq, e0, p2, a, tq2, b]
        · rw [if_neg hv2]
          have e3 : ¬ (⟨(tkV [41] r2).toArray⟩ : Str) = "" := fun z => hv2 (str_nil.mp z)
          simp [m_Reader_group, b_Reader_group, p, tq, nq, e0, p2, a, tq2, e3]
end Lw
set_option Elab.async false
set_option linter.all false
set_option maxRecDepth 100000
set_option maxHeartbeats 1000000
namespace Lw
open PySem L2 Ink TL
def figsL : List Nat := [48, 49, 50, 51, 52, 53, 54, 55, 56, 57]
def wtsL : List Nat := [49, 50, 51, 52, 53, 54, 55, 56, 57]
/-- a link: its sign, its numbers -/
structure Lk where
  w : Nat
  a : Int
  b : Int
def lkD : Option Lk → D
  | none => .non
  | some k => .tup [.str ⟨#[k.w]⟩, .int k.a, .int k.b]
def lstV (v : List Nat) (d : Int) : Int := match v with
  | c :: _ => ((c - 48 : Nat) : Int)
  | [] => d
def xwt (r : List Nat) : Option (Nat × List Nat) := match r with
  | 120 :: c :: r3 => if c ∈ wtsL then some (c, r3) else none
  | _ => none
def linkR (r : List Nat) : RR (Option Lk) :=
  if ¬ tkV [61] (blk r) = [] then .ok (some ⟨61, 0, 0⟩) (tkR [61] (blk r))
  else if ¬ tkV [60] (blk r) = [] then
    (match tkV figsL (tkR [45] (tkR [60] (blk r))) with
    | [] => .bad (tkR [45] (tkR [60] (blk r)))
    | c :: _ => .ok (some ⟨60, if tkV [45] (tkR [60] (blk r)) = [] then ((c - 48 : Nat) : Int) else 0 - ((c - 48 : Nat) : Int), 0⟩) (tkR figsL (tkR [45] (tkR [60] (blk r)))))
  else if tkV [62] (blk r) = [] then .ok none (blk r)
  else match xwt (tkR [49, 50, 51] (tkR [62] (blk r))) with
    | some (c, r3) => .ok (some ⟨62, lstV (tkV [49, 50, 51] (tkR [62] (blk r))) 1, ((c - 48 : Nat) : Int)⟩) r3
    | none => .ok (some ⟨62, lstV (tkV [49, 50, 51] (tkR [62] (blk r))) 1, 1⟩) (tkR [49, 50, 51] (tkR [62] (blk r)))
theorem xwt_at {r r3 : List Nat} {c : Nat} (h : xwt r = some (c, r3)) : r = 120 :: c :: r3 ∧ c ∈ wtsL := by
  unfold xwt at h
  split at h
  · split at h
    · rename_i h2
      cases h
      exact ⟨rfl, h2⟩
    · cases h
  · cases h
theorem xwt_suf {r r3 : List Nat} {c : Nat} (h : xwt r = some (c, r3)) : r3 <:+ r := by
  rw [(xwt_at h).1]
  exact (List.suffix_cons _ _).trans (List.suffix_cons _ _)
theorem linkR_ok (r : List Nat) : okR r (linkR r) := by
  have b := blk_suf r
  have t : ∀ S r', r' <:+ r → tkR S r' <:+ r := fun S r' h => (tkR_suf S r').trans h
  unfold linkR
  split
  · exact t _ _ b
  · split
    · split
      · exact t _ _ (t _ _ b)
      · exact t _ _ (t _ _ (t _ _ b))
    · split
      · exact b
      · split
        · rename_i e
          exact (xwt_suf e).trans (t _ _ (t _ _ b))
        · exact t _ _ (t _ _ b)
theorem fig_text : ((List.range 10).all fun a => decide (PySem.intText? ⟨#[48 + a]⟩ = some (a : Int))) = true := by decide +kernel
theorem fig_int {c : Nat} (h : c ∈ figsL) : PySem.intText? ⟨#[c]⟩ = some ((c - 48 : Nat) : Int) := by
  have e : ∃ a, a < 10 ∧ c = 48 + a := by
    unfold figsL at h
    simp at h
    exact ⟨c - 48, by omega, by omega⟩
  obtain ⟨a, ha, rfl⟩ := e
  have := of_decide_eq_true (List.all_eq_true.mp fig_text a (List.mem_range.mpr ha))
  rw [Nat.add_sub_cancel_left]
  exact this
theorem int_fig {c : Nat} (h : c ∈ figsL) : intAM (.fz (.str ⟨#[c]⟩)) = some (.fz (.int ((c - 48 : Nat) : Int))) := by
  have e : (⟨#[c]⟩ : Str).length ≤ 640 := by show 1 ≤ 640; omega
  unfold intAM
  simp only [fig_int h]
  rw [if_pos e]
theorem int_one : intAM (.fz (.str "1")) = some (.fz (.int 1)) := int_fig (c := 49) (by simp [figsL])
theorem link_eq {l r : List Nat} (h : r <:+ l) (hl : l.length ≤ 1000000) : m_Reader_link [RS l r] = outR (fun k => .fz (lkD k)) l (linkR r) := by
  have p := pass_eq h hl
  have hb := (blk_suf r).trans h
  have t61 := take1 (y := "=") (S := [61]) rfl hb hl
  have t60 := take1 (y := "<") (S := [60]) rfl hb hl
  have t62 := take1 (y := ">") (S := [62]) rfl hb hl
  unfold linkR
  generalize blk r = r1 at *
  by_cases h61 : tkV [61] r1 = []
  case neg =>
    have e0 : ¬ (⟨(tkV [61] r1).toArray⟩ : Str) = "" := fun z => h61 (str_nil.mp z)
    rw [if_pos h61]
    simp [m_Reader_link, b_Reader_link, p, t61, e0, outR, lkD]
    rfl
  rw [if_neg (by simpa using h61)]
  rw [tkR_none h61, str_nil.mpr h61] at t61
  by_cases h60 : tkV [60] r1 = []
  case neg =>
    have e0 : ¬ (⟨(tkV [60] r1).toArray⟩ : Str) = "" := fun z => h60 (str_nil.mp z)
    rw [if_pos h60]
    have s2 := (tkR_suf [60] r1).trans hb
    have t45 := take1 (y := "-") (S := [45]) rfl s2 hl
    have s3 := (tkR_suf [45] (tkR [60] r1)).trans s2
    have tf := take1 (y := "0123456789") (S := figsL) rfl s3 hl
    generalize tkR [60] r1 = r2 at *
    generalize hm : (⟨(tkV [45] r2).toArray⟩ : Str) = mi at *
    have hmi : (mi = "") ↔ tkV [45] r2 = [] := by rw [← hm]; exact str_nil
    generalize tkR [45] r2 = r3 at *
    by_cases hf : tkV figsL r3 = []
    · rw [hf]
      rw [tkR_none hf, str_nil.mpr hf] at tf
      have b := bar_eq (r := r3) hl
      simp [m_Reader_link, b_Reader_link, p, t61, t60, e0, t45, tf, b, outR]
    · obtain ⟨c, ec, hc, ev⟩ := tkR_some hf
      rw [ev]
      rw [ev] at tf
      have e1 : ¬ (⟨#[c]⟩ : Str) = "" := sg_ne (l := [])
      have ci := int_fig hc
      by_cases hz : tkV [45] r2 = []
      · have hz2 := hmi.mpr hz
        simp [m_Reader_link, b_Reader_link, p, t61, t60, e0, t45, tf, outR, e1, ci, lkD, hz, hz2]
        rfl
      · have hz2 : ¬ mi = "" := fun z => hz (hmi.mp z)
        simp [m_Reader_link, b_Reader_link, p, t61, t60, e0, t45, tf, outR, e1, ci, lkD, hz, hz2]
        rfl
  rw [if_neg (by simpa using h60)]
  rw [tkR_none h60, str_nil.mpr h60] at t60
  by_cases h62 : tkV [62] r1 = []
  case pos =>
    rw [if_pos h62]
    rw [tkR_none h62, str_nil.mpr h62] at t62
    simp [m_Reader_link, b_Reader_link, p, t61, t60, t62, outR, lkD]
  rw [if_neg h62]
  have e0 : ¬ (⟨(tkV [62] r1).toArray⟩ : Str) = "" := fun z => h62 (str_nil.mp z)
  have s2 := (tkR_suf [62] r1).trans hb
  generalize tkR [62] r1 = r2 at *
  have tl3 := take1 (y := "123") (S := [49, 50, 51]) rfl s2 hl
  have s3 := (tkR_suf [49, 50, 51] r2).trans s2
  -- the least
  have hle : ∃ v : Str, v = ⟨(tkV [49, 50, 51] r2).toArray⟩ ∧ v.length ≤ 16777216 ∧ ((v = "" ∧ lstV (tkV [49, 50, 51] r2) 1 = 1) ∨ (((v.length : Int) != 0) = true ∧ intAM (.fz (.str v)) = some (.fz (.int (lstV (tkV [49, 50, 51] r2) 1))))) := by
    refine ⟨_, rfl, ?_⟩
    by_cases hv : tkV [49, 50, 51] r2 = []
    · rw [hv]
      exact ⟨by show 0 ≤ _; omega, .inl ⟨rfl, rfl⟩⟩
    · obtain ⟨c, _, hc, ev⟩ := tkR_some hv
      rw [ev]
      refine ⟨by show 1 ≤ _; omega, .inr ⟨rfl, ?_⟩⟩
      exact int_fig (by unfold figsL; simp at hc ⊢; omega)
  obtain ⟨v, ev, lv, hv⟩ := hle
  rw [← ev] at tl3
  generalize lstV (tkV [49, 50, 51] r2) 1 = le at *
  generalize tkR [49, 50, 51] r2 = r3 at *
  have sg0 := sign0_eq s3 hl
  have sg1 := sign1_eq s3 hl
  have orE : ∀ (env : E) (o : Option M), env = some (RS l r2) :: env.tail → o = o → True := fun _ _ _ _ => trivial
  have first : ∀ rest : FS, True := fun _ => trivial
  have tru0 : truM (.fz (.str "")) = some false := rfl
  have tru1 : ((v.length : Int) != 0) = true → truM (.fz (.str v)) = some true := fun z => by
    have z2 : v.length ≤ sizeLine := by rw [Ink.sizeLine_eq]; exact lv
    unfold truM
    simp only [if_pos z2, z]
  cases hx : xwt r3 with
  | some q =>
    obtain ⟨c, r4⟩ := q
    obtain ⟨rfl, hc⟩ := xwt_at hx
    rw [sg_c] at sg0
    have sg1 : m_Reader_sign [RS l (120 :: c :: r4), .fz (.int 1)] = some (.ok (.fz (.str ⟨#[c]⟩)) [some (RS l (120 :: c :: r4)), some (.fz (.int 1))]) := sg1
    have x1 : (⟨#[120]⟩ : Str) = "x" := rfl
    have n1 : ¬ (⟨#[c]⟩ : Str) = "" := sg_ne (l := [])
    have hc2 : c ∈ (Str.ofString "123456789").cps := Array.mem_def.mpr (show c ∈ (Str.ofString "123456789").cps.toList from hc)
    have tw := take1 (y := "123456789") (S := wtsL) rfl (suf_t s3) hl
    rw [show tkV wtsL (c :: r4) = [c] from if_pos hc, show tkR wtsL (c :: r4) = r4 from if_pos hc] at tw
    have tt : int10M (.fz (.str ⟨#[c]⟩)) (.fz (.int 10)) = some (.fz (.int ((c - 48 : Nat) : Int))) := by
      unfold wtsL at hc
      simp at hc
      have : 48 ≤ c ∧ c ≤ 57 := by omega
      simp [this]
    have ad := fun env : E => adv_eq (env := env) s3
    simp only [outR, lkD]
    rcases hv with ⟨rfl, e⟩ | ⟨z, e⟩
    · subst e
      simp [m_Reader_link, b_Reader_link, p, t61, t60, t62, e0, tl3, orTE, truA, tru0, int_one, sg0, sg1, x1, n1, inSign, hc2, ad, tw, tt, -ev_augFS, -ev_int10, -intAM_s]
      rfl
    · simp [m_Reader_link, b_Reader_link, p, t61, t60, t62, e0, tl3, orTE, truA, tru1 z, e, sg0, sg1, x1, n1, inSign, hc2, ad, tw, tt, -ev_augFS, -ev_int10, -intAM_s]
      rfl
  | none =>
    simp only [outR, lkD]
    have cond : (andT (tst (callE (g2 eqM) (arg2 (methE "Reader" "sign" (dflI 0 m_Reader_sign) (vE 0) nilA) (cE (.str "x"))))) (andT (tst (callE (g2 neM) (arg2 (methE "Reader" "sign" m_Reader_sign (vE 0) (consA (cE (.int 1)) nilA)) (cE (.str ""))))) (tst (callE (g2 (inF false)) (arg2 (methE "Reader" "sign" m_Reader_sign (vE 0) (consA (cE (.int 1)) nilA)) (cE (.str "123456789"))))))) [some (RS l r3), none, none, some (.fz (.int le)), some (.fz (.int 1))] = some (.ok false [some (RS l r3), none, none, some (.fz (.int le)), some (.fz (.int 1))]) := by
      match r3, sg0, sg1, hx with
      | [], sg0, sg1, hx =>
        have n := sg_no (y := "x") (d := 120) rfl
        simp [sg0, n]
      | d :: r4, sg0, sg1, hx =>
        rw [sg_c] at sg0
        by_cases hd : d = 120
        · subst hd
          have x1 : (⟨#[120]⟩ : Str) = "x" := rfl
          match r4, sg1, hx with
          | [], sg1, hx =>
            have sg1 : m_Reader_sign [RS l [120], .fz (.int 1)] = some (.ok (.fz (.str "")) [some (RS l [120]), some (.fz (.int 1))]) := sg1
            simp [sg0, x1, sg1]
          | c :: r5, sg1, hx =>
            have sg1 : m_Reader_sign [RS l (120 :: c :: r5), .fz (.int 1)] = some (.ok (.fz (.str ⟨#[c]⟩)) [some (RS l (120 :: c :: r5)), some (.fz (.int 1))]) := sg1
            have n1 : ¬ (⟨#[c]⟩ : Str) = "" := sg_ne (l := [])
            have hc : ¬ c ∈ wtsL := fun z => by
              have : xwt (120 :: c :: r5) = some (c, r5) := if_pos z
              rw [this] at hx; cases hx
            have hc2 : ¬ c ∈ (Str.ofString "123456789").cps := fun z => hc (show c ∈ (Str.ofString "123456789").cps.toList from Array.mem_def.mp z)
            simp [sg0, x1, sg1, n1, inSign, hc2]
        · have n : ¬ (⟨#[d]⟩ : Str) = "x" := fun z => hd ((sg_one (c := d) (l := []) (y := "x") rfl).mp z)
          simp [sg0, n]
    rcases hv with ⟨rfl, e⟩ | ⟨z, e⟩
    · subst e
      simp [m_Reader_link, b_Reader_link, p, t61, t60, t62, e0, tl3, orTE, truA, tru0, int_one, cond, -ev_andT, -intAM_s]
      rfl
    · simp [m_Reader_link, b_Reader_link, p, t61, t60, t62, e0, tl3, orTE, truA, tru1 z, e, cond, -ev_andT, -intAM_s]
      rfl
end Lw
set_option Elab.async false
set_option linter.all false
set_option maxRecDepth 100000
set_option maxHeartbeats 1000000
namespace Lw
open PySem L2 Ink TL
structure Dft where
  ns : List Str
  ar : List (List Int)
  sy : List (List Int)
def knM (ns : List Str) : List (Key × M) := ns.zipIdx.map fun p => (.inr p.1, .fz (.int (p.2 : Nat)))
def knD (ns : List Str) : List (Key × D) := ns.zipIdx.map fun p => (.inr p.1, .int (p.2 : Nat))
def rwsM (ar : List (List Int)) : M := .lst (ar.map fun r => .fz (rowD r))
def DrM (d : Dft) : M := .ins "Draft" [("known", .dK (knM d.ns)), ("arrows", rwsM d.ar), ("sayings", rwsM d.sy)]
def DrF (d : Dft) : D := .ins "Draft" [("known", .dK (knD d.ns)), ("arrows", .lst (d.ar.map rowD)), ("sayings", .lst (d.sy.map rowD))]
theorem frzK_kn (l : List (Str × Nat)) : frzK (l.map fun p => ((.inr p.1 : Key), M.fz (.int (p.2 : Nat)))) = some (l.map fun p => ((.inr p.1 : Key), D.int (p.2 : Nat))) := by
  induction l with
  | nil => rfl
  | cons p l ih =>
    rw [List.map_cons, frzK]
    simp [ih]
theorem noTK_kn (l : List (Str × Nat)) : noTK (l.map fun p => ((.inr p.1 : Key), M.fz (.int (p.2 : Nat)))) = true := by
  induction l with
  | nil => rfl
  | cons p l ih =>
    rw [List.map_cons, noTK]
    simp [ih, noT]
theorem frz_rws (ar : List (List Int)) : frz (rwsM ar) = some (.lst (ar.map rowD)) := by
  unfold rwsM
  simp
theorem noT_rws (ar : List (List Int)) : noT (rwsM ar) = true := by
  unfold rwsM
  rw [noT]
  induction ar with
  | nil => rfl
  | cons a ar ih =>
    rw [List.map_cons, noTs]
    simp [ih, noT]
theorem bor_dr (d : Dft) : borO (some (DrM d)) = some (.fz (DrF d)) := by
  have h1 : noT (DrM d) = true := by
    unfold DrM
    rw [noT, noTF, noTF, noTF, noTF, noT, noT_rws, noT_rws]
    unfold knM
    rw [noTK_kn]
    rfl
  have h2 : frz (DrM d) = some (DrF d) := by
    unfold DrM DrF
    rw [frz, frzF, frzF, frzF, frzF, frz_rws, frz_rws, frz]
    unfold knM knD
    rw [frzK_kn]
  rw [borO_m, h1, h2]
  rfl
@[simp] theorem dr_isFz {d : Dft} : isFz (DrM d) = false := (rfl)
@[simp] theorem dr_m1 {d : Dft} : isInsM "Draft" "seen" (DrM d) = true := (rfl)
@[simp] theorem dr_m2 {d : Dft} : isInsM "Draft" "tie" (DrM d) = true := (rfl)
@[simp] theorem dr_m3 {d : Dft} : isInsM "Draft" "linked" (DrM d) = true := (rfl)
@[simp] theorem dr_m4 {d : Dft} : isInsM "Draft" "web" (DrM d) = true := (rfl)
@[simp] theorem dr_f1 {d : Dft} : insD "Draft" "known" (.fz (DrF d)) = some (.dK (knD d.ns)) := (rfl)
@[simp] theorem dr_f2 {d : Dft} : insD "Draft" "arrows" (.fz (DrF d)) = some (.lst (d.ar.map rowD)) := (rfl)
@[simp] theorem dr_f3 {d : Dft} : insD "Draft" "sayings" (.fz (DrF d)) = some (.lst (d.sy.map rowD)) := (rfl)
@[simp] theorem dr_c1 {d : Dft} {env : E} : kFc "Draft" "known" env (DrM d) = some (env, .fl "known") := (rfl)
@[simp] theorem dr_c2 {d : Dft} {env : E} : kFc "Draft" "arrows" env (DrM d) = some (env, .fl "arrows") := (rfl)
@[simp] theorem dr_c3 {d : Dft} {env : E} : kFc "Draft" "sayings" env (DrM d) = some (env, .fl "sayings") := (rfl)
@[simp] theorem dr_g1 {d : Dft} : getC (DrM d) (.fl "known") = some (.dK (knM d.ns)) := (rfl)
@[simp] theorem dr_g2 {d : Dft} : getC (DrM d) (.fl "arrows") = some (.lst (d.ar.map fun r => .fz (rowD r))) := (rfl)
@[simp] theorem dr_g3 {d : Dft} : getC (DrM d) (.fl "sayings") = some (.lst (d.sy.map fun r => .fz (rowD r))) := (rfl)
@[simp] theorem dr_p1 {d : Dft} {ns : List Str} : putC (DrM d) (.fl "known") (.dK (knM ns)) = some (DrM { d with ns := ns }) := (rfl)
theorem dr_p2 {d : Dft} {m : M} {ar : List (List Int)} (h : m = rwsM ar) : putC (DrM d) (.fl "arrows") m = some (DrM { d with ar := ar }) := by subst h; rfl
theorem dr_p3 {d : Dft} {m : M} {sy : List (List Int)} (h : m = rwsM sy) : putC (DrM d) (.fl "sayings") m = some (DrM { d with sy := sy }) := by subst h; rfl
def knAdd (ns : List Str) (x : Str) : List Str := if x ∈ ns then ns else ns ++ [x]
def knAll (ns xs : List Str) : List Str := xs.foldl knAdd ns
theorem knAdd_pre (ns : List Str) (x : Str) : ns <+: knAdd ns x := by
  unfold knAdd
  split
  · exact List.prefix_rfl
  · exact List.prefix_append _ _
theorem knAll_pre : ∀ (xs ns : List Str), ns <+: knAll ns xs
  | [], ns => List.prefix_rfl
  | x :: xs, ns => (knAdd_pre ns x).trans (knAll_pre xs (knAdd ns x))
theorem knAdd_mem (ns : List Str) (x : Str) : x ∈ knAdd ns x := by
  unfold knAdd
  split
  · assumption
  · simp
theorem idx_pre {ns ms : List Str} {x : Str} (h : ns <+: ms) (hx : x ∈ ns) : ms.idxOf x = ns.idxOf x := by
  obtain ⟨r, rfl⟩ := h
  rw [List.idxOf_append, if_pos hx]
theorem knAdd_idx {ns : List Str} {x : Str} (h : ¬ x ∈ ns) : (knAdd ns x).idxOf x = ns.length := by
  unfold knAdd
  rw [if_neg h, List.idxOf_append, if_neg h]
  simp
theorem val_kn (x : Str) : ∀ (ns : List Str) (k : Nat), valG ((ns.zipIdx k).map fun p => ((.inr p.1 : Key), M.fz (.int (p.2 : Nat)))) (.inr x) = if x ∈ ns then some (.fz (.int ((k + ns.idxOf x : Nat) : Int))) else none
  | [], k => by simp [valG]
  | y :: ns, k => by
    rw [List.zipIdx_cons, List.map_cons]
    by_cases e : y = x
    · subst e
      rw [valG_pos, if_pos (List.mem_cons_self ..), List.idxOf_cons_self]
      simp
    · rw [valG_neg (fun z => e (by injection z)), val_kn x ns (k + 1)]
      have e2 : ¬ x = y := fun z => e z.symm
      by_cases hx : x ∈ ns
      · rw [if_pos hx, if_pos (List.mem_cons_of_mem _ hx)]
        have e3 : (y :: ns).idxOf x = ns.idxOf x + 1 := by
          rw [List.idxOf_cons]
          have : (y == x) = false := by simpa using e
          rw [this]
          rfl
        rw [e3]
        congr 3
        omega
      · rw [if_neg hx, if_neg (by simp [e2, hx])]
theorem kn_app (ns : List Str) (x : Str) : knM ns ++ [(.inr x, .fz (.int (ns.length : Nat)))] = knM (ns ++ [x]) := by
  unfold knM
  rw [List.zipIdx_append, List.map_append]
  simp
theorem kn_len (ns : List Str) : (knM ns).length = ns.length := by unfold knM; simp
theorem knD_len (ns : List Str) : (knD ns).length = ns.length := by unfold knD; simp
theorem sd_eq {ns : List Str} {x : Str} (hl : ns.length < 16777216) : sdG [.dK (knM ns), .fz (.str x), .fz (.int (ns.length : Nat))] = some (.ok (.fz (.int (((knAdd ns x).idxOf x : Nat) : Int))) [some (.dK (knM (knAdd ns x))), some (.fz (.str x)), some (.fz (.int (ns.length : Nat)))]) := by
  have hz : (knM ns).length < sizeLine := by rw [kn_len, Ink.sizeLine_eq]; exact hl
  have v : valG (knM ns) (.inr x) = if x ∈ ns then some (.fz (.int ((ns.idxOf x : Nat) : Int))) else none := by
    have := val_kn x ns 0
    rw [Nat.zero_add] at this
    exact this
  rw [ev_sdG]
  show kSq1 _ _ _ (some (.inr x)) = _
  rw [kSq1_0, if_pos hz, v]
  by_cases hx : x ∈ ns
  · rw [if_pos hx, kSq2_0]
    unfold knAdd
    rw [if_pos hx]
  · rw [if_neg hx, kSq2_1, kn_app, knAdd_idx hx]
    unfold knAdd
    rw [if_neg hx]
theorem seen_one {d : Dft} {g : Option M} {x : Str} (hl : d.ns.length < 16777216) : K_Draft_seen_1 [some (DrM d), g, some (.fz (.str x))] = some (.ok (.tm (.fz (.int (((knAdd d.ns x).idxOf x : Nat) : Int)))) [some (DrM { d with ns := knAdd d.ns x }), g, some (.fz (.str x))]) := by
  have s := sd_eq (x := x) hl
  have z : d.ns.length ≤ 16777216 := by omega
  unfold K_Draft_seen_1
  simp [bor_dr, knD_len, z, s, noLMs, noLM, noL]
end Lw
set_option Elab.async false
set_option linter.all false
set_option maxRecDepth 100000
set_option maxHeartbeats 1000000
namespace Lw
open PySem L2 Ink TL
def sL (w : List Nat) : Str := ⟨w.toArray⟩
def idxs (ns : List Str) (xs : List Str) : List Int := xs.map fun x => ((ns.idxOf x : Nat) : Int)
theorem comp_seen : ∀ (xs : List Str) (d : Dft) (g : Option M), d.ns.length + xs.length < 16777216 →
    compD (nmG 2) yesT K_Draft_seen_1 [2] (xs.map D.str) [some (DrM d), g, none] = some ((idxs (knAll d.ns xs) xs).map fun i => .fz (.int i), [some (DrM { d with ns := knAll d.ns xs }), g, none])
  | [], d, g, h => rfl
  | x :: xs, d, g, h => by
    rw [List.length_cons] at h
    have s := seen_one (g := g) (x := x) (d := d) (by omega)
    have hl : (knAdd d.ns x).length ≤ d.ns.length + 1 := by
      unfold knAdd
      split
      · omega
      · simp
    have ih := comp_seen xs { d with ns := knAdd d.ns x } g (by show (knAdd d.ns x).length + _ < _; omega)
    have hx : (knAll d.ns (x :: xs)).idxOf x = (knAdd d.ns x).idxOf x := idx_pre (knAll_pre xs (knAdd d.ns x)) (knAdd_mem d.ns x)
    rw [List.map_cons, compD]
    have e0 : nmG 2 (.fz (.str x)) [some (DrM d), g, none] = some [some (DrM d), g, some (.fz (.str x))] := rfl
    rw [e0]
    simp only [yesT, s, wipeE]
    have e1 : [some (DrM { d with ns := knAdd d.ns x }), g, some (M.fz (.str x))].set 2 none = [some (DrM { d with ns := knAdd d.ns x }), g, none] := rfl
    have e2 : wipeE [some (DrM { d with ns := knAdd d.ns x }), g, some (M.fz (.str x))] [2] = [some (DrM { d with ns := knAdd d.ns x }), g, none] := rfl
    rw [e1, show compD (nmG 2) yesT K_Draft_seen_1 [2] (xs.map D.str) [some (DrM { d with ns := knAdd d.ns x }), g, none] = _ from ih]
    unfold idxs
    rw [List.map_cons, hx]
    rfl
theorem seen_eq {d : Dft} {ws : List (List Nat)} (h : d.ns.length + ws.length < 16777216) : m_Draft_seen [DrM d, wsM ws] = some (.ok (.lst ((idxs (knAll d.ns (ws.map sL)) (ws.map sL)).map fun i => .fz (.int i))) [some (DrM { d with ns := knAll d.ns (ws.map sL) }), some (.fz (.lst (ws.map fun w => .str (sL w))))]) := by
  have c := comp_seen (ws.map sL) d (some (.fz (.lst (ws.map fun w => .str (sL w))))) (by rw [List.length_map]; exact h)
  rw [List.map_map] at c
  have z : ws.length ≤ 16777216 := by omega
  have e : frzs (ws.map strL) = some (ws.map fun w => .str (sL w)) := frzs_mapf (fun w => .str (sL w)) ws
  have c2 : compD (nmG 2) yesT K_Draft_seen_1 [2] (ws.map fun w => D.str (sL w)) [some (DrM d), some (.fz (.lst (ws.map fun w => .str (sL w)))), none] = _ := c
  unfold wsM
  simp [m_Draft_seen, b_Draft_seen, e, z, c2]
theorem noL_row (r : List Int) : noL (rowD r) = true := by
  unfold rowD
  rw [noL]
  induction r with
  | nil => rfl
  | cons a r ih =>
    rw [List.map_cons, noLs, ih]
    rfl
def tie1 (k : Lk) (i j : Int) (d : Dft) : Dft := if k.w = 62 then { d with ar := d.ar ++ [[i, j, k.a, k.b]] } else if k.w = 61 then { d with sy := (d.sy ++ [[i, j, k.a]]) ++ [[j, i, k.a]] } else { d with sy := d.sy ++ [[i, j, k.a]] }
def tieN (d : Dft) : Nat := d.ar.length + d.sy.length
theorem rws_app (ar : List (List Int)) (r : List Int) : (.lst ((ar.map fun r => .fz (rowD r)) ++ [.fz (rowD r)]) : M) = rwsM (ar ++ [r]) := by
  unfold rwsM
  simp
theorem tie_eq {d : Dft} {k : Lk} {i j : Int} (hk : k.w = 60 ∨ k.w = 61 ∨ k.w = 62) (h : tieN d + 2 < 16777216) :
    m_Draft_tie [DrM d, .fz (.int i), .fz (.int j), .fz (lkD (some k))] = some (.ok (.fz .non) [some (DrM (tie1 k i j d)), some (.fz (.int i)), some (.fz (.int j)), some (.fz (lkD (some k)))]) := by
  unfold tieN at h
  have z1 : d.ar.length < 16777216 := by omega
  have z2 : d.sy.length < 16777216 := by omega
  have z3 : d.sy.length + 1 < 16777216 := by omega
  have p1 : (⟨#[60]⟩ : Str) = ">" ↔ False := by decide +kernel
  have p2 : (⟨#[60]⟩ : Str) = "=" ↔ False := by decide +kernel
  have p3 : (⟨#[61]⟩ : Str) = ">" ↔ False := by decide +kernel
  have p4 : (⟨#[61]⟩ : Str) = "=" ↔ True := by decide +kernel
  have p5 : (⟨#[62]⟩ : Str) = ">" ↔ True := by decide +kernel
  have p6 : (⟨#[62]⟩ : Str) = "=" ↔ False := by decide +kernel
  obtain ⟨w, a, b⟩ := k
  have q1 : ∀ r : List Int, putC (DrM d) (.fl "sayings") (.lst ((d.sy.map fun r => .fz (rowD r)) ++ [.fz (rowD r)])) = some (DrM { d with sy := d.sy ++ [r] }) := fun r => dr_p3 (rws_app _ _)
  have q2 : ∀ r : List Int, putC (DrM d) (.fl "arrows") (.lst ((d.ar.map fun r => .fz (rowD r)) ++ [.fz (rowD r)])) = some (DrM { d with ar := d.ar ++ [r] }) := fun r => dr_p2 (rws_app _ _)
  have q3 : ∀ r r2 : List Int, putC (DrM { d with sy := d.sy ++ [r] }) (.fl "sayings") (.lst ((d.sy.map fun r => .fz (rowD r)) ++ [.fz (rowD r), .fz (rowD r2)])) = some (DrM { d with sy := d.sy ++ [r, r2] }) := fun r r2 => dr_p3 (d := { d with sy := d.sy ++ [r] }) (sy := d.sy ++ [r, r2]) (by unfold rwsM; simp)
  have r3 : ∀ a b c : Int, (.tup [.int a, .int b, .int c] : D) = rowD [a, b, c] := fun _ _ _ => rfl
  have r4 : ∀ a b c e : Int, (.tup [.int a, .int b, .int c, .int e] : D) = rowD [a, b, c, e] := fun _ _ _ _ => rfl
  rcases hk with hk | hk | hk
  · simp only at hk
    subst hk
    have e1 : tie1 ⟨60, a, b⟩ i j d = { d with sy := d.sy ++ [[i, j, a]] } := rfl
    rw [e1]
    simp [m_Draft_tie, b_Draft_tie, lkD, p1, p2, z1, z2, noLMs, noLM, noL_row, r3, q1]
    done
  · simp only at hk
    subst hk
    have e1 : tie1 ⟨61, a, b⟩ i j d = { d with sy := (d.sy ++ [[i, j, a]]) ++ [[j, i, a]] } := rfl
    rw [e1]
    simp [m_Draft_tie, b_Draft_tie, lkD, p3, p4, z1, z2, z3, noLMs, noLM, noL_row, r3, q1, q3]
    done
  · simp only at hk
    subst hk
    have e1 : tie1 ⟨62, a, b⟩ i j d = { d with ar := d.ar ++ [[i, j, a, b]] } := rfl
    rw [e1]
    simp [m_Draft_tie, b_Draft_tie, lkD, p5, p6, z1, z2, noLMs, noLM, noL_row, r4, q2]
    done
end Lw
set_option Elab.async false
set_option linter.all false
set_option maxRecDepth 100000
set_option maxHeartbeats 1000000
namespace Lw
open PySem L2 Ink TL
/-- whole numbers, owned or not -/
def Li (m : M) (xs : List Int) : Prop := m = .lst (xs.map fun i => .fz (.int i)) ∨ m = .fz (.lst (xs.map D.int))
def linkedD (k : Lk) (is js : List Int) (d : Dft) : Dft := is.foldl (fun d i => js.foldl (fun d j => tie1 k i j d) d) d
theorem tie1_n (k : Lk) (i j : Int) (d : Dft) : tieN (tie1 k i j d) ≤ tieN d + 2 := by
  unfold tie1 tieN
  split
  · simp; omega
  · split
    · simp; omega
    · simp; omega
theorem tie1_ns (k : Lk) (i j : Int) (d : Dft) : (tie1 k i j d).ns = d.ns := by
  unfold tie1
  split
  · rfl
  · split <;> rfl
theorem inner_n (k : Lk) (i : Int) : ∀ (js : List Int) (d : Dft), tieN (js.foldl (fun d j => tie1 k i j d) d) ≤ tieN d + 2 * js.length
  | [], d => by simp
  | j :: js, d => by
    rw [List.foldl_cons, List.length_cons]
    have h1 := inner_n k i js (tie1 k i j d)
    have h2 := tie1_n k i j d
    omega
theorem inner_ns (k : Lk) (i : Int) : ∀ (js : List Int) (d : Dft), (js.foldl (fun d j => tie1 k i j d) d).ns = d.ns
  | [], d => rfl
  | j :: js, d => by rw [List.foldl_cons, inner_ns k i js, tie1_ns]
theorem linked_n (k : Lk) (js : List Int) : ∀ (is : List Int) (d : Dft), tieN (linkedD k is js d) ≤ tieN d + 2 * (is.length * js.length)
  | [], d => by simp [linkedD]
  | i :: is, d => by
    have h1 := linked_n k js is (js.foldl (fun d j => tie1 k i j d) d)
    have h2 := inner_n k i js d
    unfold linkedD at h1 ⊢
    rw [List.foldl_cons, List.length_cons, Nat.add_mul, Nat.one_mul]
    omega
theorem linked_ns (k : Lk) (js : List Int) : ∀ (is : List Int) (d : Dft), (linkedD k is js d).ns = d.ns
  | [], d => rfl
  | i :: is, d => by
    have h1 := linked_ns k js is (js.foldl (fun d j => tie1 k i j d) d)
    unfold linkedD at h1 ⊢
    rw [List.foldl_cons, h1, inner_ns]
section
variable {k : Lk} (hk : k.w = 60 ∨ k.w = 61 ∨ k.w = 62)
include hk
theorem inner_eq {i : Int} {o1 o2 : Option M} : ∀ (js : List Int) (d : Dft) (x : Option M), tieN d + 2 * js.length < 16777216 →
    ∃ y, loopD (nmG 5) L_Draft_linked_1 (js.map D.int) [some (DrM d), o1, o2, some (.fz (lkD (some k))), some (.fz (.int i)), x] = some (.nx [some (DrM (js.foldl (fun d j => tie1 k i j d) d)), o1, o2, some (.fz (lkD (some k))), some (.fz (.int i)), y])
  | [], d, x, h => ⟨x, rfl⟩
  | j :: js, d, x, h => by
    rw [List.length_cons] at h
    have t := tie_eq (d := d) (i := i) (j := j) hk (by omega)
    have t2 := tie1_n k i j d
    obtain ⟨y, e⟩ := inner_eq (i := i) (o1 := o1) (o2 := o2) js (tie1 k i j d) (some (.fz (.int j))) (by omega)
    refine ⟨y, ?_⟩
    rw [List.map_cons, loopD]
    have e0 : nmG 5 (.fz (.int j)) [some (DrM d), o1, o2, some (.fz (lkD (some k))), some (.fz (.int i)), x] = some [some (DrM d), o1, o2, some (.fz (lkD (some k))), some (.fz (.int i)), some (.fz (.int j))] := rfl
    have e1 : L_Draft_linked_1 [some (DrM d), o1, o2, some (.fz (lkD (some k))), some (.fz (.int i)), some (.fz (.int j))] = some (.nx [some (DrM (tie1 k i j d)), o1, o2, some (.fz (lkD (some k))), some (.fz (.int i)), some (.fz (.int j))]) := by
      generalize lkD (some k) = q at *
      simp [L_Draft_linked_1, t]
    rw [e0]
    simp only [e1]
    rw [List.foldl_cons]
    exact e
theorem outer_eq {o1 : Option M} {js : List Int} (hj : js.length < 16777216) : ∀ (is : List Int) (d : Dft) (o2 : M) (x y : Option M), Li o2 js → tieN d + 2 * (is.length * js.length) < 16777216 →
    ∃ o2' x' y', Li o2' js ∧ loopD (nmG 4) (forS (overE itemsA (vE 2)) (nmG 5) L_Draft_linked_1) (is.map D.int) [some (DrM d), o1, some o2, some (.fz (lkD (some k))), x, y] = some (.nx [some (DrM (linkedD k is js d)), o1, some o2', some (.fz (lkD (some k))), x', y'])
  | [], d, o2, x, y, ho, h => ⟨o2, x, y, ho, rfl⟩
  | i :: is, d, o2, x, y, ho, h => by
    rw [List.length_cons, Nat.add_mul, Nat.one_mul] at h
    obtain ⟨y1, e1⟩ := inner_eq hk (i := i) (o1 := o1) (o2 := some (.fz (.lst (js.map D.int)))) js d y (by omega)
    have h2 := inner_n k i js d
    obtain ⟨o3, x', y', ho3, e2⟩ := outer_eq (o1 := o1) (js := js) hj is (js.foldl (fun d j => tie1 k i j d) d) (.fz (.lst (js.map D.int))) (some (.fz (.int i))) y1 (.inr rfl) (by omega)
    refine ⟨o3, x', y', ho3, ?_⟩
    rw [List.map_cons, loopD]
    have e0 : nmG 4 (.fz (.int i)) [some (DrM d), o1, some o2, some (.fz (lkD (some k))), x, y] = some [some (DrM d), o1, some o2, some (.fz (lkD (some k))), some (.fz (.int i)), y] := rfl
    have ez : frzs (js.map fun i => M.fz (.int i)) = some (js.map D.int) := frzs_mapf D.int js
    have z : js.length ≤ 16777216 := by omega
    have e3 : (forS (overE itemsA (vE 2)) (nmG 5) L_Draft_linked_1) [some (DrM d), o1, some o2, some (.fz (lkD (some k))), some (.fz (.int i)), y] = some (.nx [some (DrM (js.foldl (fun d j => tie1 k i j d) d)), o1, some (.fz (.lst (js.map D.int))), some (.fz (lkD (some k))), some (.fz (.int i)), y1]) := by
      generalize lkD (some k) = q at *
      rcases ho with rfl | rfl
      · simp [ez, z, e1]
      · simp [z, e1]
    rw [e0]
    simp only [e3]
    exact e2
theorem linked_eq {d : Dft} {o1 o2 : M} {is js : List Int} (h1 : Li o1 is) (h2 : Li o2 js) (hi : is.length < 16777216) (hj : js.length < 16777216) (h : tieN d + 2 * (is.length * js.length) < 16777216) :
    ∃ o2', Li o2' js ∧ m_Draft_linked [DrM d, o1, o2, .fz (lkD (some k))] = some (.ok (.fz .non) [some (DrM (linkedD k is js d)), some (.fz (.lst (is.map D.int))), some o2', some (.fz (lkD (some k)))]) := by
  obtain ⟨o3, x', y', ho, e⟩ := outer_eq hk (o1 := some (.fz (.lst (is.map D.int)))) hj is d o2 none none h2 h
  refine ⟨o3, ho, ?_⟩
  have ez : frzs (is.map fun i => M.fz (.int i)) = some (is.map D.int) := frzs_mapf D.int is
  have z : is.length ≤ 16777216 := by omega
  generalize lkD (some k) = q at *
  generalize hF : (forS (overE itemsA (vE 2)) (nmG 5) L_Draft_linked_1) = F at *
  rcases h1 with rfl | rfl
  · simp [m_Draft_linked, b_Draft_linked, hF, ez, z, e]
  · simp [m_Draft_linked, b_Draft_linked, hF, z, e]
end
theorem nmS_len : ∀ {n : Nat} {acc r : List Nat}, (nmS n acc r).1.length + (nmS n acc r).2.length = acc.length + r.length
  | 0, acc, r => rfl
  | n + 1, acc, c :: r => by
    rw [nmS]
    split
    · have := nmS_len (n := n) (acc := acc ++ [c]) (r := r)
      rw [this]
      simp
      omega
    · rfl
  | n + 1, acc, [] => rfl
theorem nameR_len {r w r' : List Nat} (h : nameR r = .ok w r') : r'.length < r.length ∧ w ≠ [] := by
  have l := nmS_len (n := 6) (acc := []) (r := blk r)
  have l2 := (blk_suf r).length_le
  unfold nameR at h
  split at h
  · cases h
  · rename_i w0 r0 hne e
    cases h
    rw [e] at l
    cases w with
    | nil => exact (hne rfl).elim
    | cons c w =>
      simp at l
      exact ⟨by omega, by simp⟩
theorem tkR_len (S r : List Nat) : (tkR S r).length ≤ r.length := (tkR_suf S r).length_le
theorem loopR_len : ∀ {n : Nat} {ws : List (List Nat)} {r : List Nat} {ws' : List (List Nat)} {r' : List Nat}, loopR n ws r = .ok ws' r' → ws'.length + r'.length ≤ ws.length + r.length
  | 0, ws, r, ws', r', h => by cases h
  | n + 1, ws, r, ws', r', h => by
    rw [loopR] at h
    split at h
    · cases h; omega
    · have t := tkR_len [44] r
      cases e : nameR (tkR [44] r) with
      | bad r1 => rw [e] at h; cases h
      | ok w r1 =>
        rw [e] at h
        have a := (nameR_len e).1
        have b := loopR_len h
        have c := (blk_suf r1).length_le
        rw [List.length_append] at b
        simp at b
        omega
theorem groupR_len {r : List Nat} {ws : List (List Nat)} {r' : List Nat} (h : groupR r = .ok ws r') : ws.length + r'.length ≤ r.length := by
  have b := (blk_suf r).length_le
  unfold groupR at h
  split at h
  · cases e : nameR (blk r) with
    | bad r1 => rw [e] at h; cases h
    | ok w r1 =>
      rw [e] at h
      cases h
      have := (nameR_len e).1
      simp
      omega
  · have t := tkR_len [40] (blk r)
    cases e : nameR (tkR [40] (blk r)) with
    | bad r1 => rw [e] at h; cases h
    | ok w r1 =>
      rw [e] at h
      simp only at h
      have a := (nameR_len e).1
      have c := (blk_suf r1).length_le
      cases e2 : loopR (r1.length + 1) [w] (blk r1) with
      | bad r2 => rw [e2] at h; cases h
      | ok ws2 r2 =>
        rw [e2] at h
        simp only at h
        have q := loopR_len e2
        have t2 := tkR_len [41] r2
        split at h
        · cases h
        · cases h
          simp at q
          omega
end Lw
set_option Elab.async false
set_option linter.all false
set_option maxRecDepth 100000
set_option maxHeartbeats 1000000
namespace Lw
open PySem L2 Ink TL
def seenD (d : Dft) (ws : List (List Nat)) : Dft := { d with ns := knAll d.ns (ws.map sL) }
def seenI (d : Dft) (ws : List (List Nat)) : List Int := idxs (knAll d.ns (ws.map sL)) (ws.map sL)
def stL : Nat → Dft → List Int → Option Lk → List Nat → RR Dft
  | _, d, _, none, r => .ok d r
  | 0, _, _, some _, r => .bad r
  | n + 1, d, hs, some k, r => match groupR r with
    | .bad r' => .bad r'
    | .ok ws r1 => match linkR r1 with
      | .bad r' => .bad r'
      | .ok lk r2 => stL n (linkedD k hs (seenI d ws) (seenD d ws)) (seenI d ws) lk r2
def stmtR (d : Dft) (r : List Nat) : RR Dft := match groupR r with
  | .bad r' => .bad r'
  | .ok ws r1 => match linkR r1 with
    | .bad r' => .bad r'
    | .ok lk r2 => stL (r2.length + 1) (seenD d ws) (seenI d ws) lk r2
theorem knAll_len : ∀ (xs ns : List Str), (knAll ns xs).length ≤ ns.length + xs.length
  | [], ns => by simp [knAll]
  | x :: xs, ns => by
    have h := knAll_len xs (knAdd ns x)
    have h2 : (knAdd ns x).length ≤ ns.length + 1 := by
      unfold knAdd
      split
      · omega
      · simp
    unfold knAll at h ⊢
    rw [List.foldl_cons, List.length_cons]
    omega
theorem seenI_len (d : Dft) (ws : List (List Nat)) : (seenI d ws).length = ws.length := by unfold seenI idxs; simp
theorem linkR_some {r r' : List Nat} {k : Lk} (h : linkR r = .ok (some k) r') : r'.length < r.length ∧ (k.w = 60 ∨ k.w = 61 ∨ k.w = 62) := by
  have b := (blk_suf r).length_le
  have c : ∀ S q : List Nat, ¬ tkV S q = [] → (tkR S q).length < q.length := fun S q hv => by
    obtain ⟨c, e, _⟩ := tkR_some hv
    have := congrArg List.length e
    rw [List.length_cons] at this
    omega
  unfold linkR at h
  split at h
  · rename_i h1
    cases h
    have := c _ _ h1
    exact ⟨by omega, .inr (.inl rfl)⟩
  · split at h
    · rename_i h2
      have c2 := c _ _ h2
      have c3 := tkR_len [45] (tkR [60] (blk r))
      split at h
      · cases h
      · cases h
        have c4 := tkR_len figsL (tkR [45] (tkR [60] (blk r)))
        exact ⟨by omega, .inl rfl⟩
    · split at h
      · cases h
      · rename_i h3
        have c2 := c _ _ h3
        have c3 := tkR_len [49, 50, 51] (tkR [62] (blk r))
        split at h
        · rename_i e
          cases h
          have := (xwt_suf e).length_le
          exact ⟨by omega, .inr (.inr rfl)⟩
        · cases h
          exact ⟨by omega, .inr (.inr rfl)⟩
theorem linkR_len {r r' : List Nat} {k : Option Lk} (h : linkR r = .ok k r') : r'.length ≤ r.length := by
  have := linkR_ok r
  rw [h] at this
  exact List.IsSuffix.length_le this
structure Bd (N : Nat) (r : List Nat) (d : Dft) : Prop where
  t : tieN d ≤ 2 * ((N - r.length) * (N - r.length))
  n : d.ns.length + r.length ≤ N
theorem sq_step {c g c1 h : Nat} (h1 : c + g ≤ c1) (h2 : h ≤ c) : 2 * (c * c) + 2 * (h * g) ≤ 2 * (c1 * c1) := by
  have a := Nat.mul_le_mul h1 h1
  rw [Nat.add_mul, Nat.mul_add, Nat.mul_add] at a
  have b := Nat.mul_le_mul_right g h2
  omega
theorem sq_small {c : Nat} (h : c ≤ 2800) : 2 * (c * c) ≤ 15680000 := by
  have := Nat.mul_le_mul h h
  omega
theorem Bd.step {N : Nat} {r r1 : List Nat} {d : Dft} {ws : List (List Nat)} {hs : List Int} {k : Lk} (b : Bd N r d) (hh : hs.length + r.length ≤ N) (hg : ws.length + r1.length ≤ r.length) : Bd N r1 (linkedD k hs (seenI d ws) (seenD d ws)) := by
  refine ⟨?_, ?_⟩
  · have q := linked_n k (seenI d ws) hs (seenD d ws)
    rw [seenI_len] at q
    have q2 : tieN (seenD d ws) = tieN d := rfl
    have s := sq_step (c := N - r.length) (g := ws.length) (c1 := N - r1.length) (h := hs.length) (by omega) (by omega)
    have := b.t
    omega
  · rw [linked_ns]
    have := knAll_len (ws.map sL) d.ns
    rw [List.length_map] at this
    have := b.n
    show (knAll d.ns (ws.map sL)).length + _ ≤ _
    omega
theorem Bd.down {N : Nat} {r r1 : List Nat} {d : Dft} (b : Bd N r d) (h : r1.length ≤ r.length) : Bd N r1 d := by
  refine ⟨?_, by have := b.n; omega⟩
  have a := Nat.mul_le_mul (show N - r.length ≤ N - r1.length by omega) (show N - r.length ≤ N - r1.length by omega)
  have := b.t
  omega
theorem Bd.seen {N : Nat} {r r1 : List Nat} {d : Dft} {ws : List (List Nat)} (b : Bd N r d) (hg : ws.length + r1.length ≤ r.length) : Bd N r1 (seenD d ws) := by
  have q := b.down (r1 := r1) (by omega)
  refine ⟨q.t, ?_⟩
  have := knAll_len (ws.map sL) d.ns
  rw [List.length_map] at this
  have := b.n
  show (knAll d.ns (ws.map sL)).length + _ ≤ _
  omega
theorem seenM {d : Dft} {ws : List (List Nat)} (h : d.ns.length + ws.length < 16777216) : ∃ g, m_Draft_seen [DrM d, wsM ws] = some (.ok (.lst ((seenI d ws).map fun i => .fz (.int i))) [some (DrM (seenD d ws)), some g]) := ⟨_, seen_eq h⟩
theorem st_loop {l : List Nat} (hl : l.length ≤ 2800) : ∀ {n : Nat} {d : Dft} {hs : List Int} {lk : Option Lk} {r : List Nat} {h0 : M} {x : Option M}, r <:+ l → (∀ k, lk = some k → r.length < n) → (∀ k, lk = some k → k.w = 60 ∨ k.w = 61 ∨ k.w = 62) → Bd l.length r d → hs.length + r.length ≤ l.length → Li h0 hs →
    (∀ d' r', stL n d hs lk r = .ok d' r' → r' <:+ l ∧ r'.length ≤ r.length ∧ Bd l.length r' d' ∧ ∃ a b c, whileS (tst (callE (g2 notNM) (arg2 (vE 3) (cE .non)))) L_read_statement_1 [some (RS l r), some (DrM d), some h0, some (.fz (lkD lk)), x] = some (.nx [some (RS l r'), some (DrM d'), a, b, c])) ∧
    (∀ r', stL n d hs lk r = .bad r' → r' <:+ l ∧ ∃ o a b c, whileS (tst (callE (g2 notNM) (arg2 (vE 3) (cE .non)))) L_read_statement_1 [some (RS l r), some (DrM d), some h0, some (.fz (lkD lk)), x] = some (.ex (badX l r') [some (RS l r'), o, a, b, c]))
  | 0, d, hs, some k, r, h0, x, h, hn, hk, hb, hh, li => absurd (hn k rfl) (by omega)
  | n, d, hs, none, r, h0, x, h, hn, hk, hb, hh, li => by
    have e0 : stL n d hs none r = .ok d r := by cases n <;> rfl
    rw [e0]
    refine ⟨fun d' r' e => ?_, fun r' e => (by cases e)⟩
    cases e
    exact ⟨h, Nat.le_refl _, hb, some h0, some (.fz .non), x, while_f (by simp [lkD])⟩
  | n + 1, d, hs, some k, r, h0, x, h, hn, hk, hb, hh, li => by
    have hl2 : l.length ≤ 1000000 := by omega
    have kk := hk k rfl
    have c1 : (tst (callE (g2 notNM) (arg2 (vE 3) (cE .non)))) [some (RS l r), some (DrM d), some h0, some (.fz (lkD (some k))), x] = some (.ok true [some (RS l r), some (DrM d), some h0, some (.fz (lkD (some k))), x]) := by
      unfold lkD
      simp
    have gq := group_eq h hl2
    have gs := groupR_ok r
    rw [stL]
    cases e : groupR r with
    | bad r1 =>
      rw [e] at gq gs
      simp only [outR] at gq
      refine ⟨fun d' r' z => (by cases z), fun r' z => ?_⟩
      cases z
      refine ⟨List.IsSuffix.trans gs h, some (DrM d), some h0, some (.fz (lkD (some k))), x, while_x c1 ?_⟩
      generalize lkD (some k) = q at *
      simp [L_read_statement_1, gq]
    | ok ws r1 =>
      rw [e] at gq gs
      simp only [outR] at gq
      have s1 : r1 <:+ l := List.IsSuffix.trans gs h
      have gl := groupR_len e
      have dn := hb.n
      have dt := hb.t
      have lr := h.length_le
      obtain ⟨g, sn⟩ := seenM (d := d) (ws := ws) (by omega)
      have bs := hb.step (k := k) hh gl
      have q2 := linked_n k (seenI d ws) hs (seenD d ws)
      have s3 := sq_step (c := l.length - r.length) (g := ws.length) (c1 := l.length - r1.length) (h := hs.length) (by omega) (by omega)
      have s4 := sq_small (c := l.length - r1.length) (by omega)
      have e5 : tieN (seenD d ws) = tieN d := rfl
      obtain ⟨o2, ho2, lq⟩ := linked_eq (d := seenD d ws) kk (o1 := h0) (o2 := .lst ((seenI d ws).map fun i => .fz (.int i))) li (.inl rfl) (by omega) (by rw [seenI_len]; omega) (by rw [seenI_len]; omega)
      have kq := link_eq s1 hl2
      have ks := linkR_ok r1
      have ot : ∃ q3, takeA (.sl 4) [some (RS l r1), some (DrM (linkedD k hs (seenI d ws) (seenD d ws))), some (.fz (.lst (hs.map D.int))), some (.fz (lkD (some k))), some o2] = some (.fz (.lst ((seenI d ws).map D.int)), q3) ∧ q3 = [some (RS l r1), some (DrM (linkedD k hs (seenI d ws) (seenD d ws))), some (.fz (.lst (hs.map D.int))), some (.fz (lkD (some k))), some (.fz (.lst ((seenI d ws).map D.int)))] := by
        have ez : frzs ((seenI d ws).map fun i => M.fz (.int i)) = some ((seenI d ws).map D.int) := frzs_mapf D.int _
        rcases ho2 with rfl | rfl
        · refine ⟨_, ?_, rfl⟩
          simp [takeA, ez]
        · refine ⟨_, ?_, rfl⟩
          simp [takeA]
      obtain ⟨q3, ot, rfl⟩ := ot
      cases e2 : linkR r1 with
      | bad r2 =>
        rw [e2] at kq ks
        simp only [outR] at kq
        refine ⟨fun d' r' z => (by change (match linkR r1 with | .bad r' => (RR.bad r' : RR Dft) | .ok lk r2 => stL n (linkedD k hs (seenI d ws) (seenD d ws)) (seenI d ws) lk r2) = _ at z; rw [e2] at z; cases z), fun r' z => ?_⟩
        change (match linkR r1 with | .bad r' => (RR.bad r' : RR Dft) | .ok lk r2 => stL n (linkedD k hs (seenI d ws) (seenD d ws)) (seenI d ws) lk r2) = _ at z; rw [e2] at z
        cases z
        refine ⟨List.IsSuffix.trans ks s1, some (DrM (linkedD k hs (seenI d ws) (seenD d ws))), some (.fz (.lst ((seenI d ws).map D.int))), some (.fz (lkD (some k))), some (.fz (.lst ((seenI d ws).map D.int))), while_x c1 ?_⟩
        generalize lkD (some k) = q at *
        generalize wsM ws = wm at *
        simp [L_read_statement_1, gq, sn, lq, tk, ot, kq]
      | ok lk r2 =>
        rw [e2] at kq ks
        simp only [outR] at kq
        have s2 : r2 <:+ l := List.IsSuffix.trans ks s1
        have ll := linkR_len e2
        have c2 : L_read_statement_1 [some (RS l r), some (DrM d), some h0, some (.fz (lkD (some k))), x] = some (.nx [some (RS l r2), some (DrM (linkedD k hs (seenI d ws) (seenD d ws))), some (.fz (.lst ((seenI d ws).map D.int))), some (.fz (lkD lk)), some (.fz (.lst ((seenI d ws).map D.int)))]) := by
          generalize lkD (some k) = q at *
          generalize wsM ws = wm at *
          simp [L_read_statement_1, gq, sn, lq, tk, ot, kq]
        have hk2 : ∀ k', lk = some k' → (k'.w = 60 ∨ k'.w = 61 ∨ k'.w = 62) ∧ r2.length < r1.length := fun k' z => by
          rw [z] at e2
          have := linkR_some e2
          exact ⟨this.2, this.1⟩
        have hrn := hn k rfl
        obtain ⟨g1, g2⟩ := st_loop hl (n := n) (d := linkedD k hs (seenI d ws) (seenD d ws)) (hs := seenI d ws) (lk := lk) (h0 := .fz (.lst ((seenI d ws).map D.int))) (x := some (.fz (.lst ((seenI d ws).map D.int)))) s2 (fun k' z => by have := (hk2 k' z).2; omega) (fun k' z => (hk2 k' z).1) (bs.down ll) (by rw [seenI_len]; omega) (.inr rfl)
        refine ⟨fun d' r' z => ?_, fun r' z => ?_⟩
        · change (match linkR r1 with | .bad r' => (RR.bad r' : RR Dft) | .ok lk r2 => stL n (linkedD k hs (seenI d ws) (seenD d ws)) (seenI d ws) lk r2) = _ at z; rw [e2] at z
          obtain ⟨a1, a2, a3, a, b, c, a4⟩ := g1 d' r' z
          exact ⟨a1, by omega, a3, a, b, c, while_t c1 c2 a4⟩
        · change (match linkR r1 with | .bad r' => (RR.bad r' : RR Dft) | .ok lk r2 => stL n (linkedD k hs (seenI d ws) (seenD d ws)) (seenI d ws) lk r2) = _ at z; rw [e2] at z
          obtain ⟨a1, o, a, b, c, a4⟩ := g2 r' z
          exact ⟨a1, o, a, b, c, while_t c1 c2 a4⟩
end Lw
set_option Elab.async false
set_option linter.all false
set_option maxRecDepth 100000
set_option maxHeartbeats 1000000
namespace Lw
open PySem L2 Ink TL
theorem statement_eq {l r : List Nat} {d : Dft} (hl : l.length ≤ 2800) (h : r <:+ l) (hb : Bd l.length r d) :
    (∀ d' r', stmtR d r = .ok d' r' → r' <:+ l ∧ r'.length ≤ r.length ∧ Bd l.length r' d' ∧ m_read_statement [RS l r, DrM d] = some (.ok (.fz .non) [some (RS l r'), some (DrM d')])) ∧
    (∀ r', stmtR d r = .bad r' → r' <:+ l ∧ ∃ o, m_read_statement [RS l r, DrM d] = some (.ex (badX l r') [some (RS l r'), o])) := by
  have hl2 : l.length ≤ 1000000 := by omega
  have gq := group_eq h hl2
  have gs := groupR_ok r
  unfold stmtR
  cases e : groupR r with
  | bad r1 =>
    rw [e] at gq gs
    simp only [outR] at gq
    refine ⟨fun d' r' z => (by cases z), fun r' z => ?_⟩
    cases z
    refine ⟨List.IsSuffix.trans gs h, some (DrM d), ?_⟩
    simp [m_read_statement, b_read_statement, gq]
  | ok ws r1 =>
    rw [e] at gq gs
    simp only [outR] at gq
    have s1 : r1 <:+ l := List.IsSuffix.trans gs h
    have gl := groupR_len e
    have dn := hb.n
    have lr := h.length_le
    obtain ⟨g, sn⟩ := seenM (d := d) (ws := ws) (by omega)
    have kq := link_eq s1 hl2
    have ks := linkR_ok r1
    have bs := hb.seen gl
    generalize hT : (tst (callE (g2 notNM) (arg2 (vE 3) (cE .non)))) = T
    simp only []
    cases e2 : linkR r1 with
    | bad r2 =>
      rw [e2] at kq ks
      simp only [outR] at kq
      refine ⟨fun d' r' z => (by cases z), fun r' z => ?_⟩
      cases z
      refine ⟨List.IsSuffix.trans ks s1, some (DrM (seenD d ws)), ?_⟩
      generalize wsM ws = wm at *
      simp [m_read_statement, b_read_statement, gq, sn, kq]
    | ok lk r2 =>
      rw [e2] at kq ks
      simp only [outR] at kq
      have s2 : r2 <:+ l := List.IsSuffix.trans ks s1
      have ll := linkR_len e2
      obtain ⟨a1, a2⟩ := st_loop hl (n := r2.length + 1) (d := seenD d ws) (hs := seenI d ws) (lk := lk) (h0 := .lst ((seenI d ws).map fun i => .fz (.int i))) (x := none) s2 (fun _ _ => by omega) (fun k z => by rw [z] at e2; exact (linkR_some e2).2) (bs.down ll) (by rw [seenI_len]; omega) (.inl rfl)
      rw [hT] at a1 a2
      refine ⟨fun d' r' z => ?_, fun r' z => ?_⟩
      · obtain ⟨b1, b2, b3, a, b, c, b4⟩ := a1 d' r' z
        refine ⟨b1, by omega, b3, ?_⟩
        generalize wsM ws = wm at *
        simp [m_read_statement, b_read_statement, gq, sn, kq, hT, b4]
      · obtain ⟨b1, o, a, b, c, b4⟩ := a2 r' z
        refine ⟨b1, o, ?_⟩
        generalize wsM ws = wm at *
        simp [m_read_statement, b_read_statement, gq, sn, kq, hT, b4]
def wbR : Nat → Dft → List Nat → RR Dft
  | 0, _, r => .bad r
  | n + 1, d, r => if tkV [59] r = [] then .ok d r else match stmtR d (tkR [59] r) with
    | .bad r' => .bad r'
    | .ok d' r' => wbR n d' r'
theorem web_loop {l : List Nat} {x : Str} (hl : l.length ≤ 2800) : ∀ {n : Nat} {d : Dft} {r : List Nat}, r <:+ l → r.length < n → Bd l.length r d →
    (∀ d' r', wbR n d r = .ok d' r' → r' <:+ l ∧ Bd l.length r' d' ∧ whileS T_read_web_1 L_read_web_1 [some (.fz (.str x)), some (RS l r), some (DrM d)] = some (.nx [some (.fz (.str x)), some (RS l r'), some (DrM d')])) ∧
    (∀ r', wbR n d r = .bad r' → r' <:+ l ∧ ∃ o, whileS T_read_web_1 L_read_web_1 [some (.fz (.str x)), some (RS l r), some (DrM d)] = some (.ex (badX l r') [some (.fz (.str x)), some (RS l r'), o]))
  | 0, d, r, h, hn, hb => by omega
  | n + 1, d, r, h, hn, hb => by
    have hl2 : l.length ≤ 1000000 := by omega
    have tq := take1 (y := ";") (S := [59]) rfl h hl2
    rw [wbR]
    by_cases hv : tkV [59] r = []
    · rw [if_pos hv]
      have e0 : (⟨(tkV [59] r).toArray⟩ : Str) = "" := str_nil.mpr hv
      rw [tkR_none hv, e0] at tq
      refine ⟨fun d' r' e => ?_, fun r' e => (by cases e)⟩
      cases e
      exact ⟨h, hb, while_f (by simp [T_read_web_1, tq])⟩
    · rw [if_neg hv]
      have e0 : ¬ (⟨(tkV [59] r).toArray⟩ : Str) = "" := fun z => hv (str_nil.mp z)
      have ht := (tkR_suf [59] r).trans h
      have hlt : (tkR [59] r).length < r.length := by
        obtain ⟨c, e, _⟩ := tkR_some hv
        have := congrArg List.length e
        rw [List.length_cons] at this
        omega
      have c1 : T_read_web_1 [some (.fz (.str x)), some (RS l r), some (DrM d)] = some (.ok true [some (.fz (.str x)), some (RS l (tkR [59] r)), some (DrM d)]) := by simp [T_read_web_1, tq, e0]
      obtain ⟨s1, s2⟩ := statement_eq hl ht (hb.down (by omega))
      cases e : stmtR d (tkR [59] r) with
      | bad r1 =>
        obtain ⟨a1, o, a2⟩ := s2 r1 e
        refine ⟨fun d' r' z => (by cases z), fun r' z => ?_⟩
        cases z
        exact ⟨a1, o, while_x c1 (by simp [L_read_web_1, a2])⟩
      | ok d1 r1 =>
        obtain ⟨a1, a2, a3, a4⟩ := s1 d1 r1 e
        have c2 : L_read_web_1 [some (.fz (.str x)), some (RS l (tkR [59] r)), some (DrM d)] = some (.nx [some (.fz (.str x)), some (RS l r1), some (DrM d1)]) := by simp [L_read_web_1, a4]
        obtain ⟨g1, g2⟩ := web_loop hl (n := n) (d := d1) (r := r1) a1 (by omega) a3
        refine ⟨fun d' r' z => ?_, fun r' z => ?_⟩
        · obtain ⟨b1, b2, b3⟩ := g1 d' r' z
          exact ⟨b1, b2, while_t c1 c2 b3⟩
        · obtain ⟨b1, o, b3⟩ := g2 r' z
          exact ⟨b1, o, while_t c1 c2 b3⟩
def dft0 : Dft := ⟨[], [], []⟩
def readR (l : List Nat) : RR Dft := match (if blk l = [] then (RR.ok dft0 [] : RR Dft) else match stmtR dft0 (blk l) with
    | .bad r => .bad r
    | .ok d r => wbR (r.length + 1) d r) with
  | .bad r => .bad r
  | .ok d r => if r = [] then .ok d r else .bad r
def Dft.web (d : Dft) : Web := ⟨d.ns, d.ar, d.sy⟩
theorem rdInit {x : Str} : m_Reader___init__ [.ins "Reader" [], .fz (.str x)] = some (.ok (.fz .non) [some (RdM x 0), some (.fz (.str x))]) := by
  have a1 : setFG "Reader" "text" [.fz (.str x), .ins "Reader" []] = some (.ok (.fz .non) [none, some (.ins "Reader" [("text", .fz (.str x))])]) := rfl
  have a2 : setFG "Reader" "at" [.fz (.int 0), .ins "Reader" [("text", .fz (.str x))]] = some (.ok (.fz .non) [none, some (RdM x 0)]) := rfl
  simp [m_Reader___init__, b_Reader___init__, a1, a2]
theorem drInit : m_Draft___init__ [.ins "Draft" []] = some (.ok (.fz .non) [some (DrM dft0)]) := by
  have a1 : setFG "Draft" "known" [.dK [], .ins "Draft" []] = some (.ok (.fz .non) [none, some (.ins "Draft" [("known", .dK [])])]) := rfl
  have a2 : setFG "Draft" "arrows" [.lst [], .ins "Draft" [("known", .dK [])]] = some (.ok (.fz .non) [none, some (.ins "Draft" [("known", .dK []), ("arrows", .lst [])])]) := rfl
  have a3 : setFG "Draft" "sayings" [.lst [], .ins "Draft" [("known", .dK []), ("arrows", .lst [])]] = some (.ok (.fz .non) [none, some (DrM dft0)]) := rfl
  simp [m_Draft___init__, b_Draft___init__, a1, a2, a3]
theorem noLs_map {α : Type} {f : α → D} (h : ∀ a, noL (f a) = true) : ∀ xs : List α, noLs (xs.map f) = true
  | [] => rfl
  | x :: xs => by rw [List.map_cons, noLs, h, noLs_map h xs]; rfl
theorem noL_web (w : Web) : noL w.d = true := by
  unfold Web.d
  rw [noL, noLs, noLs, noLs, noLs, noL, noL, noL, noLs_map (fun _ => rfl), noLs_map noL_row, noLs_map noL_row]
  rfl
theorem keys_kn (ns : List Str) : ((knD ns).map fun kv => keyD kv.1) = ns.map D.str := by
  unfold knD
  rw [List.map_map]
  have : ∀ (ns : List Str) (k : Nat), ((ns.zipIdx k).map ((fun kv : Key × D => keyD kv.1) ∘ fun p => ((.inr p.1 : Key), D.int (p.2 : Nat)))) = ns.map D.str := by
    intro ns
    induction ns with
    | nil => intro k; rfl
    | cons x ns ih => intro k; rw [List.zipIdx_cons, List.map_cons, ih]; rfl
  exact this ns 0
theorem draft_web_eq {d : Dft} (h1 : d.ns.length ≤ 1000000) (h2 : d.ar.length ≤ 16777216) (h3 : d.sy.length ≤ 16777216) : m_Draft_web [DrM d] = some (.ok (.fz d.web.d) [some (DrM d)]) := by
  have z1 : d.ns.length ≤ 16777216 := by omega
  have n := noL_web d.web
  have e1 : listDM (.fz (.dK (knD d.ns))) = some (.lst ((d.ns.map D.str).map M.fz)) := by
    show some (M.lst (((knD d.ns).map fun kv => keyD kv.1).map M.fz)) = _
    rw [keys_kn]
  have e2 : (.tup [.tup (d.ns.map D.str), .tup (d.ar.map rowD), .tup (d.sy.map rowD)] : D) = d.web.d := rfl
  simp [m_Draft_web, b_Draft_web, bor_dr, e1, z1, h2, h3, e2, noLM, n]
end Lw
set_option Elab.async false
set_option linter.all false
set_option maxRecDepth 100000
set_option maxHeartbeats 1000000
namespace Lw
open PySem L2 Ink TL
noncomputable def tailS : FS := (seqS (ifS (tst (callE (g2 neM) (arg2 (methE "Reader" "sign" (dflI 0 m_Reader_sign) (vE 1) nilA) (cE (.str ""))))) (exprS (methE "Reader" "bar" m_Reader_bar (vE 1) nilA)) skipS)
  (seqS (ifS (notT (tst (callE m_is_web (consA (methE "Draft" "web" m_Draft_web (vE 2) nilA) nilA)))) (raiseN "BadText" "at" (callE lenG (arg1 (vE 0)))) skipS)
  (retS (methE "Draft" "web" m_Draft_web (vE 2) nilA))))
def badN (n : Nat) : Xc := ⟨"BadText", some [("at", .int (n : Int))]⟩
theorem tail_eq {l r : List Nat} {x : Str} {d : Dft} (hl : l.length ≤ 2800) (hx : x.length ≤ 2800) (h : r <:+ l) (hb : Bd l.length r d) (hn : ∀ y ∈ d.ns, y.length ≤ 16777216) : tailS [some (.fz (.str x)), some (RS l r), some (DrM d)] =
    if r = [] then (if isWebB d.web = true then some (.rt (.fz d.web.d) [some (.fz (.str x)), some (RS l r), some (DrM d)]) else some (.ex (badN x.length) [some (.fz (.str x)), some (RS l r), some (DrM d)])) else some (.ex (badX l r) [some (.fz (.str x)), some (RS l r), some (DrM d)]) := by
  have hl2 : l.length ≤ 1000000 := by omega
  have s := sign0_eq h hl2
  have t := sq_small (c := l.length - r.length) (by omega)
  have bt := hb.t
  have bn := hb.n
  unfold tieN at bt
  have w := draft_web_eq (d := d) (by omega) (by omega) (by omega)
  have iw := is_web_eq (w := d.web) hn
  cases r with
  | nil =>
    rw [sg_n] at s
    rw [if_pos rfl]
    have lx : x.length ≤ 16777216 := by omega
    have lg : x.length.log2 < 1920 := log_small (by omega)
    cases hw : isWebB d.web with
    | true =>
      rw [hw] at iw
      rw [if_pos rfl]
      simp [tailS, s, w, iw]
    | false =>
      rw [hw] at iw
      rw [if_neg Bool.false_ne_true]
      simp [tailS, s, w, iw, lx, lg, fzA, badN]
  | cons c r =>
    have n0 : ¬ sg (c :: r) = "" := sg_ne
    have b := bar_eq (r := c :: r) hl2
    rw [if_neg (by simp)]
    simp [tailS, s, n0, b]
theorem rs_all (x : Str) : RdM x 0 = RS (tl x) (tl x) := by
  unfold RS
  rw [Nat.sub_self, mk_tl]
  rfl
theorem bd0 (l : List Nat) (r : List Nat) (h : r.length ≤ l.length) : Bd l.length r dft0 := ⟨Nat.zero_le _, by show 0 + _ ≤ _; omega⟩
/-- names that are read are short -/
theorem kn_short {n : Nat} : ∀ {xs ns : List Str}, (∀ y ∈ ns, y.length ≤ n) → (∀ y ∈ xs, y.length ≤ n) → ∀ y ∈ knAll ns xs, y.length ≤ n
  | [], ns, h, _, y, hy => h y hy
  | x :: xs, ns, h, hx, y, hy => kn_short (xs := xs) (ns := knAdd ns x) (fun z hz => by
      unfold knAdd at hz
      split at hz
      · exact h z hz
      · rcases List.mem_append.mp hz with hz | hz
        · exact h z hz
        · rw [List.mem_singleton.mp hz]
          exact hx x (List.mem_cons_self ..)) (fun z hz => hx z (List.mem_cons_of_mem _ hz)) y hy
theorem nameR_short {r w r' : List Nat} (h : nameR r = .ok w r') : w.length ≤ r.length := by
  have l := nmS_len (n := 6) (acc := []) (r := blk r)
  have l2 := (blk_suf r).length_le
  unfold nameR at h
  split at h
  · cases h
  · rename_i w0 r0 hne e
    cases h
    rw [e] at l
    simp at l
    omega
theorem loopR_short {N : Nat} : ∀ {n : Nat} {ws : List (List Nat)} {r : List Nat} {ws' : List (List Nat)} {r' : List Nat}, loopR n ws r = .ok ws' r' → r.length ≤ N → (∀ w ∈ ws, w.length ≤ N) → ∀ w ∈ ws', w.length ≤ N
  | 0, ws, r, ws', r', h, _, _ => by cases h
  | n + 1, ws, r, ws', r', h, hr, hw => by
    rw [loopR] at h
    split at h
    · cases h; exact hw
    · have t := tkR_len [44] r
      cases e : nameR (tkR [44] r) with
      | bad r1 => rw [e] at h; cases h
      | ok w r1 =>
        rw [e] at h
        have a := (nameR_len e).1
        have s := nameR_short e
        have c := (blk_suf r1).length_le
        refine loopR_short h (by omega) fun v hv => ?_
        rcases List.mem_append.mp hv with hv | hv
        · exact hw v hv
        · rw [List.mem_singleton.mp hv]; omega
theorem groupR_short {N : Nat} {r : List Nat} {ws : List (List Nat)} {r' : List Nat} (h : groupR r = .ok ws r') (hr : r.length ≤ N) : ∀ w ∈ ws, w.length ≤ N := by
  have b := (blk_suf r).length_le
  unfold groupR at h
  split at h
  · cases e : nameR (blk r) with
    | bad r1 => rw [e] at h; cases h
    | ok w r1 =>
      rw [e] at h
      cases h
      intro v hv
      rw [List.mem_singleton.mp hv]
      have := nameR_short e
      omega
  · have t := tkR_len [40] (blk r)
    cases e : nameR (tkR [40] (blk r)) with
    | bad r1 => rw [e] at h; cases h
    | ok w r1 =>
      rw [e] at h
      simp only at h
      have a := (nameR_len e).1
      have s := nameR_short e
      have c := (blk_suf r1).length_le
      cases e2 : loopR (r1.length + 1) [w] (blk r1) with
      | bad r2 => rw [e2] at h; cases h
      | ok ws2 r2 =>
        rw [e2] at h
        simp only at h
        have q := loopR_short (N := N) e2 (by omega) (fun v hv => by rw [List.mem_singleton.mp hv]; omega)
        split at h
        · cases h
        · cases h; exact q
theorem stL_short {N : Nat} : ∀ {n : Nat} {d : Dft} {hs : List Int} {lk : Option Lk} {r : List Nat} {d' : Dft} {r' : List Nat}, stL n d hs lk r = .ok d' r' → r.length ≤ N → (∀ y ∈ d.ns, y.length ≤ N) → ∀ y ∈ d'.ns, y.length ≤ N
  | n, d, hs, none, r, d', r', h, hr, hd => by
    have e0 : stL n d hs none r = .ok d r := by cases n <;> rfl
    rw [e0] at h
    cases h
    exact hd
  | 0, d, hs, some k, r, d', r', h, hr, hd => by cases h
  | n + 1, d, hs, some k, r, d', r', h, hr, hd => by
    rw [stL] at h
    cases e : groupR r with
    | bad r1 => rw [e] at h; cases h
    | ok ws r1 =>
      rw [e] at h
      change (match linkR r1 with | .bad r' => (RR.bad r' : RR Dft) | .ok lk r2 => stL n (linkedD k hs (seenI d ws) (seenD d ws)) (seenI d ws) lk r2) = _ at h
      have gl := groupR_len e
      have gs := groupR_short (N := N) e hr
      cases e2 : linkR r1 with
      | bad r2 => rw [e2] at h; cases h
      | ok lk r2 =>
        rw [e2] at h
        have ll := linkR_len e2
        refine stL_short h (by omega) ?_
        rw [linked_ns]
        refine kn_short hd fun y hy => ?_
        obtain ⟨w, hw, rfl⟩ := List.mem_map.mp hy
        exact gs w hw
theorem stmtR_short {N : Nat} {d d' : Dft} {r r' : List Nat} (h : stmtR d r = .ok d' r') (hr : r.length ≤ N) (hd : ∀ y ∈ d.ns, y.length ≤ N) : ∀ y ∈ d'.ns, y.length ≤ N := by
  unfold stmtR at h
  cases e : groupR r with
  | bad r1 => rw [e] at h; cases h
  | ok ws r1 =>
    rw [e] at h
    change (match linkR r1 with | .bad r' => (RR.bad r' : RR Dft) | .ok lk r2 => stL (r2.length + 1) (seenD d ws) (seenI d ws) lk r2) = _ at h
    have gl := groupR_len e
    have gs := groupR_short (N := N) e hr
    cases e2 : linkR r1 with
    | bad r2 => rw [e2] at h; cases h
    | ok lk r2 =>
      rw [e2] at h
      have ll := linkR_len e2
      refine stL_short h (by omega) (kn_short hd fun y hy => ?_)
      obtain ⟨w, hw, rfl⟩ := List.mem_map.mp hy
      exact gs w hw
theorem wbR_short {N : Nat} {l : List Nat} (hl : l.length ≤ 2800) : ∀ {n : Nat} {d : Dft} {r : List Nat} {d' : Dft} {r' : List Nat}, wbR n d r = .ok d' r' → r <:+ l → Bd l.length r d → r.length ≤ N → (∀ y ∈ d.ns, y.length ≤ N) → ∀ y ∈ d'.ns, y.length ≤ N
  | 0, d, r, d', r', h, _, _, _, _ => by cases h
  | n + 1, d, r, d', r', h, hs, hb, hr, hd => by
    rw [wbR] at h
    split at h
    · cases h; exact hd
    · have t := tkR_len [59] r
      have ht := (tkR_suf [59] r).trans hs
      cases e : stmtR d (tkR [59] r) with
      | bad r1 => rw [e] at h; cases h
      | ok d1 r1 =>
        rw [e] at h
        obtain ⟨a1, a2, a3, _⟩ := (statement_eq hl ht (hb.down t)).1 d1 r1 e
        exact wbR_short hl h a1 a3 (by omega) (stmtR_short e (by omega) hd)
def readM (x : Str) : Option OutP := match readR (tl x) with
  | .bad r => some (.ex (badX (tl x) r) [some (.fz (.str x))])
  | .ok d _ => if isWebB d.web = true then some (.ok (.fz d.web.d) [some (.fz (.str x))]) else some (.ex (badN x.length) [some (.fz (.str x))])
theorem read_web_eq {x : Str} (hx : x.length ≤ 2800) : m_read_web [.fz (.str x)] = readM x := by
  have hl : (tl x).length ≤ 2800 := by rw [← len_tl]; exact hx
  have hl2 : (tl x).length ≤ 1000000 := by omega
  have hi := rdInit (x := x)
  rw [rs_all] at hi
  have di := drInit
  have p := pass_eq (l := tl x) List.suffix_rfl hl2
  have hb := blk_suf (tl x)
  have s := sign0_eq hb hl2
  have e0 : b_read_web = seqS (asgS (mkE "Reader" m_Reader___init__ (consA (tk (vE 0)) nilA)) (nmG 1))
    (seqS (asgS (mkE "Draft" m_Draft___init__ nilA) (nmG 2))
    (seqS (exprS (methE "Reader" "pass_blanks" m_Reader_pass_blanks (vE 1) nilA))
    (seqS (ifS (tst (callE (g2 neM) (arg2 (methE "Reader" "sign" (dflI 0 m_Reader_sign) (vE 1) nilA) (cE (.str ""))))) (seqS (exprS (callE m_read_statement (consA (vE 1) (consA (vE 2) nilA))))
    (whileS T_read_web_1 L_read_web_1)) skipS) tailS))) := rfl
  unfold readM readR
  cases hq : blk (tl x) with
  | nil =>
    rw [hq] at p s hb
    rw [sg_n] at s
    have te := tail_eq (x := x) (l := tl x) (r := []) (d := dft0) hl hx hb (bd0 _ _ (by simp)) (fun y hy => by cases hy)
    rw [if_pos rfl] at te
    have n0 : isWebB dft0.web = true := by decide +kernel
    rw [if_pos n0] at te
    rw [if_pos rfl]
    simp only []
    rw [if_pos trivial]
    simp only [n0, if_true]
    unfold m_read_web
    rw [e0]
    generalize tailS = T at *
    simp [hi, di, p, s, te]
  | cons c r =>
    rw [hq] at p s hb
    have n1 : ¬ sg (c :: r) = "" := sg_ne
    rw [if_neg (by simp)]
    obtain ⟨s1, s2⟩ := statement_eq hl hb (bd0 (tl x) (c :: r) hb.length_le)
    cases e : stmtR dft0 (c :: r) with
    | bad r1 =>
      obtain ⟨a1, o, a2⟩ := s2 r1 e
      unfold m_read_web
      rw [e0]
      generalize tailS = T at *
      simp [hi, di, p, s, n1, a2]
    | ok d1 r1 =>
      obtain ⟨a1, a2, a3, a4⟩ := s1 d1 r1 e
      have sh := stmtR_short (N := 2800) e (by have := hb.length_le; omega) (fun y hy => by cases hy)
      obtain ⟨g1, g2⟩ := web_loop (x := x) hl (n := r1.length + 1) a1 (by omega) a3
      simp only []
      cases e2 : wbR (r1.length + 1) d1 r1 with
      | bad r2 =>
        obtain ⟨b1, o, b2⟩ := g2 r2 e2
        unfold m_read_web
        rw [e0]
        generalize tailS = T at *
        simp [hi, di, p, s, n1, a4, b2]
      | ok d2 r2 =>
        obtain ⟨b1, b2, b3⟩ := g1 d2 r2 e2
        have sh2 := wbR_short (N := 2800) hl e2 a1 a3 (by have := a1.length_le; omega) sh
        have te := tail_eq (x := x) hl hx b1 b2 (fun y hy => by have := sh2 y hy; omega)
        simp only []
        by_cases hr : r2 = []
        · subst hr
          rw [if_pos rfl] at te ⊢
          simp only []
          by_cases hw : isWebB d2.web = true
          · rw [if_pos hw] at te ⊢
            unfold m_read_web
            rw [e0]
            generalize tailS = T at *
            simp [hi, di, p, s, n1, a4, b3, te]
          · rw [if_neg hw] at te ⊢
            unfold m_read_web
            rw [e0]
            generalize tailS = T at *
            simp [hi, di, p, s, n1, a4, b3, te]
        · rw [if_neg hr] at te ⊢
          unfold m_read_web
          rw [e0]
          generalize tailS = T at *
          simp [hi, di, p, s, n1, a4, b3, te]
end Lw
set_option Elab.async false
set_option linter.all false
set_option maxRecDepth 100000
set_option maxHeartbeats 1000000
namespace Lw
open PySem L2 Ink TL
/-- what a statement may end at -/
def Endish (r : List Nat) : Prop := r = [] ∨ ∃ q, r = 59 :: q
theorem Endish.tk {r : List Nat} (h : Endish r) {S : List Nat} (hs : ¬ 59 ∈ S) : tkV S r = [] := by
  rcases h with rfl | ⟨q, rfl⟩
  · rfl
  · exact if_neg hs
theorem Endish.blk {r : List Nat} (h : Endish r) : blk r = r := by
  rcases h with rfl | ⟨q, rfl⟩ <;> rfl
theorem link_none {r : List Nat} (h : Endish r) : linkR r = .ok none r := by
  unfold linkR
  rw [h.blk, h.tk (by simp), h.tk (by simp), h.tk (by simp)]
  simp
/-- a name's signs -/
structure NmOk (w : List Nat) : Prop where
  ne : w ≠ []
  le : w.length ≤ 6
  al : ∀ c ∈ w, isLet c = true
def Stop (r : List Nat) : Prop := r = [] ∨ ∃ c q, r = c :: q ∧ isLet c = false
theorem Endish.stop {r : List Nat} (h : Endish r) : Stop r := by
  rcases h with rfl | ⟨q, rfl⟩
  · exact .inl rfl
  · exact .inr ⟨59, q, rfl, by decide +kernel⟩
theorem stop_sp (r : List Nat) : Stop (32 :: r) := .inr ⟨32, r, rfl, by decide +kernel⟩
theorem nmS_read {r : List Nat} (hr : Stop r) : ∀ (w : List Nat) (n : Nat) (acc : List Nat), w.length ≤ n → (∀ c ∈ w, isLet c = true) → nmS n acc (w ++ r) = (acc ++ w, r)
  | [], 0, acc, _, _ => by simp [nmS]
  | [], n + 1, acc, _, _ => by
    rcases hr with rfl | ⟨c, q, rfl, hc⟩
    · simp [nmS]
    · rw [List.nil_append, nmS, if_neg (by rw [hc]; exact Bool.false_ne_true)]
      simp
  | c :: w, 0, acc, h, _ => by simp at h
  | c :: w, n + 1, acc, h, ha => by
    rw [List.cons_append, nmS, if_pos (ha c (List.mem_cons_self ..)), nmS_read hr w n (acc ++ [c]) (by simpa using h) fun d hd => ha d (List.mem_cons_of_mem _ hd)]
    simp
theorem let_32 {c : Nat} (h : isLet c = true) : c ≠ 32 ∧ c ≠ 40 := by
  constructor
  · rintro rfl; revert h; decide +kernel
  · rintro rfl; revert h; decide +kernel
theorem NmOk.blk {w : List Nat} (h : NmOk w) (r : List Nat) : blk (w ++ r) = w ++ r := by
  obtain ⟨ne, _, al⟩ := h
  cases w with
  | nil => exact (ne rfl).elim
  | cons c w =>
    unfold Lw.blk
    rw [List.cons_append, List.dropWhile_cons_of_neg]
    have := (let_32 (al c (List.mem_cons_self ..))).1
    simpa using this
theorem name_read {w r : List Nat} (h : NmOk w) (hr : Stop r) : nameR (w ++ r) = .ok w r := by
  unfold nameR
  rw [h.blk, nmS_read hr w 6 [] h.le h.al]
  cases w with
  | nil => exact (h.ne rfl).elim
  | cons c w => rfl
theorem group_read {w r : List Nat} (h : NmOk w) (hr : Stop r) : groupR (w ++ r) = .ok [w] r := by
  have t : tkV [40] (w ++ r) = [] := by
    cases w with
    | nil => exact (h.ne rfl).elim
    | cons c w =>
      have := (let_32 (h.al c (List.mem_cons_self ..))).2
      exact if_neg (by simpa using this)
  unfold groupR
  rw [h.blk, if_pos t, name_read h hr]
theorem groupR_sp (r : List Nat) : groupR (32 :: r) = groupR r := rfl
/-- the link of an arrow -/
def linkL (l w : Int) : List Nat := 62 :: ((if l = 1 then [] else [48 + l.toNat]) ++ (if w = 1 then [] else [120, 48 + w.toNat]))
theorem link_read {l w : Int} {r : List Nat} (l1 : 1 ≤ l) (l3 : l ≤ 3) (w1 : 1 ≤ w) (w9 : w ≤ 9) : linkR (32 :: (linkL l w ++ 32 :: r)) = .ok (some ⟨62, l, w⟩) (32 :: r) := by
  have hl : l = 1 ∨ l = 2 ∨ l = 3 := by omega
  have hw : w = 1 ∨ w = 2 ∨ w = 3 ∨ w = 4 ∨ w = 5 ∨ w = 6 ∨ w = 7 ∨ w = 8 ∨ w = 9 := by omega
  rcases hl with rfl | rfl | rfl <;> rcases hw with rfl | rfl | rfl | rfl | rfl | rfl | rfl | rfl | rfl <;> rfl
/-- the link of a saying -/
def sayL (l : Int) : List Nat := 60 :: (if l < 0 then [45, 48 + l.natAbs] else [48 + l.natAbs])
theorem say_read {l : Int} {r : List Nat} (h1 : -9 ≤ l) (h9 : l ≤ 9) : linkR (32 :: (sayL l ++ 32 :: r)) = .ok (some ⟨60, l, 0⟩) (32 :: r) := by
  have hl : l = -9 ∨ l = -8 ∨ l = -7 ∨ l = -6 ∨ l = -5 ∨ l = -4 ∨ l = -3 ∨ l = -2 ∨ l = -1 ∨ l = 0 ∨ l = 1 ∨ l = 2 ∨ l = 3 ∨ l = 4 ∨ l = 5 ∨ l = 6 ∨ l = 7 ∨ l = 8 ∨ l = 9 := by omega
  rcases hl with rfl | rfl | rfl | rfl | rfl | rfl | rfl | rfl | rfl | rfl | rfl | rfl | rfl | rfl | rfl | rfl | rfl | rfl | rfl <;> rfl
/-- a statement's text, and what it does -/
structure Stm (p : List Nat) (f : Dft → Dft) : Prop where
  ne : p ≠ []
  bl : ∀ r, blk (p ++ r) = p ++ r
  run : ∀ d r, Endish r → stmtR d (p ++ r) = .ok (f d) r
theorem Stm.run2 {p : List Nat} {f : Dft → Dft} (h : Stm p f) {d : Dft} {r : List Nat} (hr : Endish r) : stmtR d (32 :: (p ++ r)) = .ok (f d) r := by
  have := h.run d r hr
  unfold stmtR at this ⊢
  rw [groupR_sp]
  exact this
theorem stm_name {w : List Nat} (h : NmOk w) : Stm w fun d => seenD d [w] := by
  refine ⟨h.ne, h.blk, fun d r hr => ?_⟩
  unfold stmtR
  rw [group_read h hr.stop]
  simp only []
  rw [link_none hr]
  simp only []
  rfl
theorem stm_link {w v lk : List Nat} {k : Lk} (h : NmOk w) (h2 : NmOk v) (hk : ∀ r, linkR (32 :: (lk ++ 32 :: r)) = .ok (some k) (32 :: r)) : Stm (w ++ 32 :: (lk ++ 32 :: v)) fun d => linkedD k (seenI d [w]) (seenI (seenD d [w]) [v]) (seenD (seenD d [w]) [v]) := by
  refine ⟨by simp [h.ne], fun r => by rw [List.append_assoc]; exact h.blk _, fun d r hr => ?_⟩
  have e1 : (w ++ 32 :: (lk ++ 32 :: v)) ++ r = w ++ 32 :: (lk ++ 32 :: (v ++ r)) := by simp
  unfold stmtR
  rw [e1, group_read h (stop_sp _)]
  simp only []
  rw [hk (v ++ r)]
  simp only []
  have e2 : groupR (32 :: (v ++ r)) = .ok [v] r := by rw [groupR_sp]; exact group_read h2 hr.stop
  rw [List.length_cons, stL, e2]
  simp only []
  rw [link_none hr]
  simp only []
  cases (v ++ r).length <;> rfl
def tailL : List (List Nat) → List Nat
  | [] => []
  | p :: ps => 59 :: 32 :: (p ++ tailL ps)
theorem tailL_end : ∀ ps, Endish (tailL ps)
  | [] => .inl rfl
  | p :: ps => .inr ⟨_, rfl⟩
theorem wb_read : ∀ (ps : List (List Nat × (Dft → Dft))) (d : Dft) (n : Nat), (∀ p ∈ ps, Stm p.1 p.2) → ps.length < n → wbR n d (tailL (ps.map (·.1))) = .ok (ps.foldl (fun d p => p.2 d) d) []
  | [], d, 0, _, h => by simp at h
  | [], d, n + 1, _, _ => rfl
  | p :: ps, d, 0, _, h => by simp at h
  | p :: ps, d, n + 1, hp, h => by
    rw [List.map_cons, tailL, wbR, if_neg (by simp [tkV]), show tkR [59] (59 :: 32 :: (p.1 ++ tailL (ps.map (·.1)))) = 32 :: (p.1 ++ tailL (ps.map (·.1))) from by simp [tkR], (hp p (List.mem_cons_self ..)).run2 (tailL_end _)]
    exact wb_read ps (p.2 d) n (fun q hq => hp q (List.mem_cons_of_mem _ hq)) (by simpa using h)
theorem tailL_len : ∀ ps : List (List Nat), ps.length ≤ (tailL ps).length
  | [] => Nat.le_refl _
  | p :: ps => by
    have := tailL_len ps
    rw [tailL]
    simp
    omega
theorem read_parts : ∀ (ps : List (List Nat × (Dft → Dft))), (∀ p ∈ ps, Stm p.1 p.2) → readR (joinL [59, 32] (ps.map (·.1))) = .ok (ps.foldl (fun d p => p.2 d) dft0) []
  | [], _ => rfl
  | p :: ps, hp => by
    have s := hp p (List.mem_cons_self ..)
    have e : joinL [59, 32] ((p :: ps).map (·.1)) = p.1 ++ tailL (ps.map (·.1)) := by
      clear hp s
      induction ps generalizing p with
      | nil => simp [joinL, tailL]
      | cons q ps ih =>
        have := ih q
        rw [List.map_cons, List.map_cons] at *
        rw [joinL, this, tailL]
        simp
    rw [e]
    unfold readR
    rw [s.bl, if_neg (by simp [s.ne]), s.run dft0 _ (tailL_end _)]
    simp only []
    rw [wb_read ps _ _ (fun q hq => hp q (List.mem_cons_of_mem _ hq)) (by have := tailL_len (ps.map (·.1)); rw [List.length_map] at this; omega)]
    simp
end Lw
set_option Elab.async false
set_option linter.all false
set_option maxRecDepth 100000
set_option maxHeartbeats 0
namespace Lw
open PySem L2 Ink
structure Say where
  one : Int
  other : Int
  least : Int
def Say.row (a : Say) : List Int := [a.one, a.other, a.least]
structure Say.Ok (n : Int) (a : Say) : Prop where
  o0 : 0 ≤ a.one
  o1 : a.one < n
  t0 : 0 ≤ a.other
  t1 : a.other < n
  ne : a.one ≠ a.other
  l0 : -9 ≤ a.least
  l1 : a.least ≤ 9
theorem say_of {n : Int} {r : List Int} (h : isSayingB n r = true) : ∃ a : Say, r = a.row ∧ a.Ok n := by
  unfold isSayingB at h
  split at h
  · rename_i a b l
    simp at h
    refine ⟨⟨a, b, l⟩, rfl, ⟨h.1.1, h.1.2, h.2.1.1, h.2.1.2, h.2.2.1, ?_, ?_⟩⟩
    · have := h.2.2.2; split at this <;> simp only <;> omega
    · have := h.2.2.2; split at this <;> simp only <;> omega
  · cases h
theorem says_of {w : Web} (h : isWebB w = true) : ∃ ss : List Say, w.told = ss.map Say.row ∧ (∀ a ∈ ss, a.Ok (w.names.length : Nat)) ∧ ss.length ≤ 20 := by
  simp only [isWebB, Bool.and_eq_true, List.all_eq_true, decide_eq_true_eq] at h
  obtain ⟨as, e, ha⟩ := map_of fun r hr => say_of (h.2.2.2 r hr)
  refine ⟨as, e, ha, ?_⟩
  have := h.1.2.2
  rw [e, List.length_map] at this
  exact this
structure Tie where
  kind : Str
  place : Int
  one : Int
  other : Int
  least : Int
  weight : Int
def Tie.d (t : Tie) : D := .tup [.str t.kind, .int t.place, .int t.one, .int t.other, .int t.least, .int t.weight]
theorem map_take {α β : Type} (f : α → β) {xs : List α} {k : Nat} {x : α} (h : xs[k]? = some x) : (xs.map f).take (k + 1) = (xs.map f).take k ++ [f x] := by
  have : (xs.map f)[k]? = some (f x) := by rw [List.getElem?_map, h]; rfl
  rw [List.take_add_one, this]
  rfl
@[simp] theorem kIxT_ints {xs i l} : kIxT xs i (some (intsM l)) = some (.ok (intsM l) [none, some (.fz (.int i))]) := (rfl)
@[simp] theorem isFz_ints {l} : isFz (intsM l) = false := (rfl)
@[simp] theorem getV_ints {l k} : getV (intsM l) k = none := (rfl)
@[simp] theorem inA_ints {neg a l} : inA neg a (intsM l) = inM neg a (intsM l) := (rfl)
end Lw
set_option Elab.async false
set_option linter.all false
set_option maxRecDepth 100000
set_option maxHeartbeats 1000000
namespace Lw
open PySem L2 Ink TL
def numU (i : Int) : Str := Str.ofString (toString i)
theorem num_fig {i : Int} (h0 : 0 ≤ i) (h9 : i ≤ 9) : numU i = ⟨#[48 + i.toNat]⟩ := by
  have h : i = 0 ∨ i = 1 ∨ i = 2 ∨ i = 3 ∨ i = 4 ∨ i = 5 ∨ i = 6 ∨ i = 7 ∨ i = 8 ∨ i = 9 := by omega
  rcases h with rfl | rfl | rfl | rfl | rfl | rfl | rfl | rfl | rfl | rfl <;> decide +kernel
theorem num_min {i : Int} (h0 : i < 0) (h9 : -9 ≤ i) : numU i = ⟨#[45, 48 + i.natAbs]⟩ := by
  have h : i = -1 ∨ i = -2 ∨ i = -3 ∨ i = -4 ∨ i = -5 ∨ i = -6 ∨ i = -7 ∨ i = -8 ∨ i = -9 := by omega
  rcases h with rfl | rfl | rfl | rfl | rfl | rfl | rfl | rfl | rfl <;> decide +kernel
def nmA (ns : List Str) (i : Int) : Str := (ns[i.toNat]?).getD ""
theorem nmA_at {ns : List Str} {i : Int} (h0 : 0 ≤ i) (h1 : i < (ns.length : Nat)) : ns[i.toNat]? = some (nmA ns i) ∧ atI (ns.map D.str) i = some (.str (nmA ns i)) := by
  obtain ⟨x, e1, e2⟩ := atI_at (xs := ns.map D.str) h0 (by simpa using h1)
  have hl : i.toNat < ns.length := by omega
  have e3 : ns[i.toNat]? = some ns[i.toNat] := List.getElem?_eq_getElem hl
  have e4 : nmA ns i = ns[i.toNat] := by unfold nmA; rw [e3]; rfl
  rw [List.getElem?_map, e3] at e1
  cases e1
  exact ⟨by rw [e3, e4], by rw [e2, e4]⟩
def arS (ns : List Str) (a : Arr) : Str := ⟨(tl (nmA ns a.one) ++ 32 :: (linkL a.least a.weight ++ 32 :: tl (nmA ns a.other))).toArray⟩
def syS (ns : List Str) (s : Say) : Str := ⟨(tl (nmA ns s.one) ++ 32 :: (sayL s.least ++ 32 :: tl (nmA ns s.other))).toArray⟩
theorem log_int {i : Int} (h0 : -1000 ≤ i) (h9 : i ≤ 1000) : i.natAbs.log2 < 1920 := log_small (by omega)
theorem row_arr (a : Arr) : rowD a.row = .tup [.int a.one, .int a.other, .int a.least, .int a.weight] := rfl
theorem arrow_text_eq {ns : List Str} {a : Arr} (h : a.Ok (ns.length : Nat)) (hn : ∀ x ∈ ns, x.length ≤ 1000) : m_arrow_text [.fz (.tup (ns.map D.str)), .fz (rowD a.row)] = some (.ok (.fz (.str (arS ns a))) [some (.fz (.tup (ns.map D.str))), some (.fz (rowD a.row))]) := by
  obtain ⟨q1, e1⟩ := nmA_at h.o0 h.o1
  obtain ⟨q2, e2⟩ := nmA_at h.t0 h.t1
  have n1 := hn _ (List.mem_of_getElem? q1)
  have n2 := hn _ (List.mem_of_getElem? q2)
  have l1 := log_int (i := a.least) (by have := h.l0; omega) (by have := h.l1; omega)
  have l2 := log_int (i := a.weight) (by have := h.w0; omega) (by have := h.w1; omega)
  have f1 : Str.ofString a.least.repr = ⟨#[48 + a.least.toNat]⟩ := num_fig (by have := h.l0; omega) (by have := h.l1; omega)
  have f2 : Str.ofString a.weight.repr = ⟨#[48 + a.weight.toNat]⟩ := num_fig (by have := h.w0; omega) (by have := h.w1; omega)
  have g1 : Str.length (Str.ofString " ") = 1 := rfl
  have g2 : Str.length (Str.ofString ">") = 1 := rfl
  have g3 : ∀ c : Nat, (⟨#[c]⟩ : Str).length = 1 := fun _ => rfl
  have g4 : Str.length Str.empty = 0 := rfl
  have g5 : Str.length (Str.ofString "x") = 1 := rfl
  rw [row_arr]
  generalize hN1 : nmA ns a.one = N1 at *
  generalize hN2 : nmA ns a.other = N2 at *
  have z1 : N1.length ≤ 16777216 := by omega
  have z2 : N2.length ≤ 16777216 := by omega
  have fin : ∀ z : Str, tl z = linkL a.least a.weight → Str.empty ++ N1 ++ " " ++ z ++ " " ++ N2 = arS ns a := fun z hz => by
    refine ext_tl ?_
    unfold arS
    rw [hN1, hN2, tl_mk]
    simp only [tl_append, hz]
    show [] ++ tl N1 ++ [32] ++ linkL a.least a.weight ++ [32] ++ tl N2 = _
    simp
  by_cases c1 : a.least = 1
  · by_cases c2 : a.weight = 1
    · rw [← fin ">" (by unfold linkL; rw [if_pos c1, if_pos c2]; rfl)]
      have y1 : N1.length + 1 ≤ 16777216 := by omega
      have y2 : N1.length + 1 + 1 ≤ 16777216 := by omega
      have y3 : N1.length + 1 + 1 + 1 ≤ 16777216 := by omega
      have y4 : N1.length + 1 + 1 + 1 + N2.length ≤ 16777216 := by omega
      simp [m_arrow_text, b_arrow_text, c1, c2, e1, e2, z1, z2, g1, g2, g4, Str.length_append, y1, y2, y3, y4]
    · rw [← fin (">" ++ (Str.empty ++ "x" ++ ⟨#[48 + a.weight.toNat]⟩)) (by
        unfold linkL
        rw [if_pos c1, if_neg c2]
        simp only [tl_append]
        rfl)]
      have c2' : ¬ a.weight = 1 := c2
      simp [m_arrow_text, b_arrow_text, c1, c2, e1, e2, z1, z2, g1, g2, g3, g4, g5, Str.length_append, iaddM, l2, f2]
      rw [if_pos (by omega), if_pos (by omega), if_pos (by omega), if_pos (by omega)]
      simp
  · by_cases c2 : a.weight = 1
    · rw [← fin (">" ++ ⟨#[48 + a.least.toNat]⟩) (by
        unfold linkL
        rw [if_neg c1, if_pos c2]
        simp only [tl_append]
        rfl)]
      simp [m_arrow_text, b_arrow_text, c1, c2, e1, e2, z1, z2, g1, g2, g3, g4, g5, Str.length_append, iaddM, l1, f1]
      rw [if_pos (by omega), if_pos (by omega), if_pos (by omega), if_pos (by omega)]
      simp
    · rw [← fin (">" ++ ⟨#[48 + a.least.toNat]⟩ ++ (Str.empty ++ "x" ++ ⟨#[48 + a.weight.toNat]⟩)) (by
        unfold linkL
        rw [if_neg c1, if_neg c2]
        simp only [tl_append]
        rfl)]
      simp [m_arrow_text, b_arrow_text, c1, c2, e1, e2, z1, z2, g1, g2, g3, g4, g5, Str.length_append, iaddM, l1, f1, l2, f2]
      rw [if_pos (by omega), if_pos (by omega), if_pos (by omega), if_pos (by omega)]
      simp
theorem say_text_eq {ns : List Str} {a : Say} (h : a.Ok (ns.length : Nat)) (hn : ∀ x ∈ ns, x.length ≤ 1000) {o0 o2 o3 o4 o5 : Option M} :
    K_web_text_1 [o0, some (.fz (.tup (ns.map D.str))), o2, o3, o4, o5, some (.fz (.int a.one)), some (.fz (.int a.other)), some (.fz (.int a.least))] = some (.ok (.tm (.fz (.str (syS ns a)))) [o0, some (.fz (.tup (ns.map D.str))), o2, o3, o4, o5, some (.fz (.int a.one)), some (.fz (.int a.other)), some (.fz (.int a.least))]) := by
  obtain ⟨q1, e1⟩ := nmA_at h.o0 h.o1
  obtain ⟨q2, e2⟩ := nmA_at h.t0 h.t1
  have n1 := hn _ (List.mem_of_getElem? q1)
  have n2 := hn _ (List.mem_of_getElem? q2)
  have l1 := log_int (i := a.least) (by have := h.l0; omega) (by have := h.l1; omega)
  have f1 : ∃ z : Str, Str.ofString a.least.repr = z ∧ 60 :: tl z = sayL a.least ∧ z.length ≤ 2 := by
    unfold sayL
    by_cases c : a.least < 0
    · refine ⟨_, num_min c h.l0, ?_, by show 2 ≤ 2; omega⟩
      rw [if_pos c]
    · refine ⟨_, num_fig (by omega) h.l1, ?_, by show 1 ≤ 2; omega⟩
      rw [if_neg c]
      have : a.least.toNat = a.least.natAbs := by omega
      rw [this]
  obtain ⟨z, f1, f2, f3⟩ := f1
  have g1 : Str.length (Str.ofString " ") = 1 := rfl
  have g2 : Str.length (Str.ofString " <") = 2 := rfl
  have g4 : Str.length Str.empty = 0 := rfl
  generalize hN1 : nmA ns a.one = N1 at *
  generalize hN2 : nmA ns a.other = N2 at *
  have z1 : N1.length ≤ 16777216 := by omega
  have z2 : N2.length ≤ 16777216 := by omega
  have fin : Str.empty ++ N1 ++ " <" ++ z ++ " " ++ N2 = syS ns a := by
    refine ext_tl ?_
    unfold syS
    rw [hN1, hN2, tl_mk, ← f2]
    simp only [tl_append]
    show [] ++ tl N1 ++ [32, 60] ++ tl z ++ [32] ++ tl N2 = _
    simp
  have y1 : N1.length + 2 ≤ 16777216 := by omega
  have y2 : N1.length + 2 + z.length ≤ 16777216 := by omega
  have y3 : N1.length + 2 + z.length + 1 ≤ 16777216 := by omega
  have y4 : N1.length + 2 + z.length + 1 + N2.length ≤ 16777216 := by omega
  simp [K_web_text_1, e1, e2, z1, z2, g1, g2, g4, Str.length_append, l1, f1, y1, y2, y3, y4]
  exact fin
end Lw
set_option Elab.async false
set_option linter.all false
set_option maxRecDepth 100000
set_option maxHeartbeats 1000000
namespace Lw
open PySem L2 Ink TL
theorem strsOf_map (ws : List Str) : strsOf (.lst (ws.map fun w => M.fz (.str w))) = some ws := by
  have u : lstD (.lst (ws.map fun w => M.fz (.str w))) = some (ws.map D.str) := unfz_mapf D.str ws
  unfold strsOf
  simp only
  rw [u]
  exact strsD_map ws
theorem join_gen {y : Str} {ws : List Str} (hl : (ws.map (·.length)).sum + ws.length * y.length ≤ 16777216) : joinG [.fz (.str y), .lst (ws.map fun w => .fz (.str w))] = some (.ok (.fz (.str (Txt.join y ws))) [some (.fz (.str y)), some (.lst (ws.map fun w => .fz (.str w)))]) := by
  unfold joinG
  simp only
  rw [strsOf_map]
  simp only
  rw [if_pos hl]
/-- the parts of a web's text -/
def partsT (ns : List Str) (as : List Arr) (ss : List Say) : List Str := ns ++ (as.map (arS ns) ++ ss.map (syS ns))
def textW (ns : List Str) (as : List Arr) (ss : List Say) : Str := Txt.join "; " (partsT ns as ss)
theorem nmOk_of {x : Str} (h : isNameB x = true) : NmOk (tl x) := by
  unfold isNameB at h
  simp only [Bool.and_eq_true, decide_eq_true_eq, List.all_eq_true] at h
  obtain ⟨⟨h1, h2⟩, h3⟩ := h
  have hl : x.length = (tl x).length := len_tl x
  exact ⟨fun e => by rw [hl, e] at h1; simp at h1, by omega, fun c hc => decide_eq_true (h3 c hc)⟩
theorem sum_le {ws : List Str} {n : Nat} (h : ∀ w ∈ ws, w.length ≤ n) : (ws.map (·.length)).sum ≤ n * ws.length := by
  induction ws with
  | nil => simp
  | cons w ws ih =>
    rw [List.map_cons, List.sum_cons, List.length_cons, Nat.mul_add, Nat.mul_one]
    have := ih fun v hv => h v (List.mem_cons_of_mem _ hv)
    have := h w (List.mem_cons_self ..)
    omega
theorem nmA_len {ns : List Str} {n : Nat} (h : ∀ x ∈ ns, x.length ≤ n) (i : Int) : (tl (nmA ns i)).length ≤ n := by
  unfold nmA
  cases e : ns[i.toNat]? with
  | none => exact Nat.zero_le _
  | some x => rw [Option.getD_some, ← len_tl]; exact h x (List.mem_of_getElem? e)
theorem arS_len {ns : List Str} (h : ∀ x ∈ ns, x.length ≤ 6) (a : Arr) : (arS ns a).length ≤ 18 := by
  have h1 := nmA_len h a.one
  have h2 := nmA_len h a.other
  unfold arS
  rw [len_tl, tl_mk]
  generalize tl (nmA ns a.one) = A at *
  generalize tl (nmA ns a.other) = B at *
  unfold linkL
  split <;> split <;> simp <;> omega
theorem syS_len {ns : List Str} (h : ∀ x ∈ ns, x.length ≤ 6) (a : Say) : (syS ns a).length ≤ 17 := by
  have h1 := nmA_len h a.one
  have h2 := nmA_len h a.other
  unfold syS
  rw [len_tl, tl_mk]
  generalize tl (nmA ns a.one) = A at *
  generalize tl (nmA ns a.other) = B at *
  unfold sayL
  split <;> simp <;> omega
theorem parts_len {ns : List Str} {as : List Arr} {ss : List Say} (h : ∀ x ∈ ns, x.length ≤ 6) : ∀ w ∈ partsT ns as ss, w.length ≤ 18 := fun w hw => by
  unfold partsT at hw
  rcases List.mem_append.mp hw with hw | hw
  · have := h w hw; omega
  · rcases List.mem_append.mp hw with hw | hw
    · obtain ⟨a, _, rfl⟩ := List.mem_map.mp hw; exact arS_len h a
    · obtain ⟨a, _, rfl⟩ := List.mem_map.mp hw; have := syS_len h a; omega
theorem joinL_len (S : List Nat) : ∀ ps : List (List Nat), (joinL S ps).length ≤ (ps.map List.length).sum + S.length * ps.length
  | [] => by simp [joinL]
  | [p] => by simp [joinL]
  | p :: q :: r => by
    have := joinL_len S (q :: r)
    rw [joinL]
    simp only [List.length_append, List.map_cons, List.sum_cons, List.length_cons, Nat.mul_add, Nat.mul_one] at this ⊢
    omega
theorem text_len {ns : List Str} {as : List Arr} {ss : List Say} (h : ∀ x ∈ ns, x.length ≤ 6) (hn : ns.length ≤ 40) (ha : as.length ≤ 80) (hs : ss.length ≤ 20) : (textW ns as ss).length ≤ 2800 := by
  unfold textW
  rw [len_tl, join_eq, tl_join]
  have a := joinL_len (tl "; ") ((partsT ns as ss).map tl)
  have e1 : (((partsT ns as ss).map tl).map List.length).sum ≤ 6 * ns.length + (18 * as.length + 17 * ss.length) := by
    have q1 := sum_le h
    have q2 := sum_le (ws := as.map (arS ns)) (n := 18) fun w hw => by obtain ⟨a, _, rfl⟩ := List.mem_map.mp hw; exact arS_len h a
    have q3 := sum_le (ws := ss.map (syS ns)) (n := 17) fun w hw => by obtain ⟨a, _, rfl⟩ := List.mem_map.mp hw; exact syS_len h a
    unfold partsT
    rw [List.map_map, List.map_append, List.map_append, List.sum_append, List.sum_append]
    rw [List.length_map] at q2 q3
    have c : ∀ l : List Str, (l.map (List.length ∘ tl)).sum = (l.map (·.length)).sum := fun l => by congr 1
    rw [c, c, c]
    omega
  have e2 : ((partsT ns as ss).map tl).length = ns.length + (as.length + ss.length) := by unfold partsT; simp
  have e3 : (tl "; ").length = 2 := rfl
  rw [e2, e3] at a
  omega
def stmF (ns : List Str) (as : List Arr) (ss : List Say) : List (List Nat × (Dft → Dft)) :=
  ns.map (fun x => (tl x, fun d => seenD d [tl x])) ++
  (as.map (fun a => (tl (arS ns a), fun d => linkedD ⟨62, a.least, a.weight⟩ (seenI d [tl (nmA ns a.one)]) (seenI (seenD d [tl (nmA ns a.one)]) [tl (nmA ns a.other)]) (seenD (seenD d [tl (nmA ns a.one)]) [tl (nmA ns a.other)]))) ++
  ss.map (fun a => (tl (syS ns a), fun d => linkedD ⟨60, a.least, 0⟩ (seenI d [tl (nmA ns a.one)]) (seenI (seenD d [tl (nmA ns a.one)]) [tl (nmA ns a.other)]) (seenD (seenD d [tl (nmA ns a.one)]) [tl (nmA ns a.other)]))))
theorem stmF_fst (ns : List Str) (as : List Arr) (ss : List Say) : (stmF ns as ss).map (·.1) = (partsT ns as ss).map tl := by
  unfold stmF partsT
  simp only [List.map_append, List.map_map]
  rfl
section
variable {ns : List Str} {as : List Arr} {ss : List Say} (hnm : ∀ x ∈ ns, isNameB x = true) (ha : ∀ a ∈ as, a.Ok (ns.length : Nat)) (hs : ∀ a ∈ ss, a.Ok (ns.length : Nat))
include hnm ha hs
theorem stmF_ok : ∀ p ∈ stmF ns as ss, Stm p.1 p.2 := fun p hp => by
  unfold stmF at hp
  rcases List.mem_append.mp hp with hp | hp
  · obtain ⟨x, hx, rfl⟩ := List.mem_map.mp hp
    exact stm_name (nmOk_of (hnm x hx))
  · rcases List.mem_append.mp hp with hp | hp
    · obtain ⟨a, h, rfl⟩ := List.mem_map.mp hp
      have o := ha a h
      have n1 := nmOk_of (hnm _ (List.mem_of_getElem? (nmA_at o.o0 o.o1).1))
      have n2 := nmOk_of (hnm _ (List.mem_of_getElem? (nmA_at o.t0 o.t1).1))
      exact stm_link n1 n2 fun r => link_read o.l0 o.l1 o.w0 o.w1
    · obtain ⟨a, h, rfl⟩ := List.mem_map.mp hp
      have o := hs a h
      have n1 := nmOk_of (hnm _ (List.mem_of_getElem? (nmA_at o.o0 o.o1).1))
      have n2 := nmOk_of (hnm _ (List.mem_of_getElem? (nmA_at o.t0 o.t1).1))
      exact stm_link n1 n2 fun r => say_read o.l0 o.l1
end
theorem sL_tl (x : Str) : sL (tl x) = x := mk_tl x
theorem seen_in {d : Dft} {x : Str} (h : x ∈ d.ns) : seenD d [tl x] = d := by
  unfold seenD knAll
  simp only [List.map_cons, List.map_nil, List.foldl_cons, List.foldl_nil, sL_tl]
  unfold knAdd
  rw [if_pos h]
theorem seenI_in {d : Dft} {x : Str} (h : x ∈ d.ns) : seenI d [tl x] = [((d.ns.idxOf x : Nat) : Int)] := by
  have e : knAll d.ns [x] = d.ns := by
    unfold knAll knAdd
    simp [h]
  unfold seenI idxs
  simp only [List.map_cons, List.map_nil, sL_tl, e]
theorem fold_names : ∀ (xs pre : List Str), (pre ++ xs).Nodup → (xs.map (fun x => (tl x, fun d : Dft => seenD d [tl x]))).foldl (fun d p => p.2 d) ⟨pre, [], []⟩ = ⟨pre ++ xs, [], []⟩
  | [], pre, _ => by simp
  | x :: xs, pre, h => by
    have hx : ¬ x ∈ pre := fun z => by
      rw [List.nodup_append] at h
      exact h.2.2 x z x (List.mem_cons_self ..) rfl
    rw [List.map_cons, List.foldl_cons]
    have e : seenD ⟨pre, [], []⟩ [tl x] = ⟨pre ++ [x], [], []⟩ := by
      unfold seenD knAll
      simp only [List.map_cons, List.map_nil, List.foldl_cons, List.foldl_nil, sL_tl]
      unfold knAdd
      rw [if_neg hx]
    show (xs.map _).foldl _ (seenD ⟨pre, [], []⟩ [tl x]) = _
    rw [e]
    have := fold_names xs (pre ++ [x]) (by simpa using h)
    rw [this]
    simp
theorem idx_nd {ns : List Str} (nd : ns.Nodup) {i : Int} (h0 : 0 ≤ i) (h1 : i < (ns.length : Nat)) : ((ns.idxOf (nmA ns i) : Nat) : Int) = i ∧ nmA ns i ∈ ns := by
  obtain ⟨e, _⟩ := nmA_at h0 h1
  have hm := List.mem_of_getElem? e
  have hl : i.toNat < ns.length := by omega
  have e2 : ns[i.toNat] = nmA ns i := by
    have := List.getElem?_eq_getElem hl
    rw [e] at this
    exact (Option.some.inj this).symm
  refine ⟨?_, hm⟩
  have : ns.idxOf (nmA ns i) = i.toNat := by
    rw [← e2]
    have hj : ns.idxOf ns[i.toNat] < ns.length := List.idxOf_lt_length_of_mem (List.getElem_mem hl)
    have hx : ns[ns.idxOf ns[i.toNat]] = ns[i.toNat] := List.getElem_idxOf hj
    by_cases q : ns.idxOf ns[i.toNat] = i.toNat
    · exact q
    · rcases Nat.lt_or_gt_of_ne q with q | q
      · exact (List.pairwise_iff_getElem.mp nd _ _ hj hl q hx).elim
      · exact (List.pairwise_iff_getElem.mp nd _ _ hl hj q hx.symm).elim
  omega
theorem fold_arr {ns : List Str} (nd : ns.Nodup) : ∀ (as : List Arr) (ar sy : List (List Int)), (∀ a ∈ as, a.Ok (ns.length : Nat)) →
    (as.map (fun a => (tl (arS ns a), fun d => linkedD ⟨62, a.least, a.weight⟩ (seenI d [tl (nmA ns a.one)]) (seenI (seenD d [tl (nmA ns a.one)]) [tl (nmA ns a.other)]) (seenD (seenD d [tl (nmA ns a.one)]) [tl (nmA ns a.other)])))).foldl (fun d p => p.2 d) ⟨ns, ar, sy⟩ = ⟨ns, ar ++ as.map Arr.row, sy⟩
  | [], ar, sy, _ => by simp
  | a :: as, ar, sy, h => by
    have o := h a (List.mem_cons_self ..)
    obtain ⟨i1, m1⟩ := idx_nd nd o.o0 o.o1
    obtain ⟨i2, m2⟩ := idx_nd nd o.t0 o.t1
    rw [List.map_cons, List.foldl_cons]
    show (as.map _).foldl _ (linkedD ⟨62, a.least, a.weight⟩ (seenI ⟨ns, ar, sy⟩ [tl (nmA ns a.one)]) (seenI (seenD ⟨ns, ar, sy⟩ [tl (nmA ns a.one)]) [tl (nmA ns a.other)]) (seenD (seenD ⟨ns, ar, sy⟩ [tl (nmA ns a.one)]) [tl (nmA ns a.other)])) = _
    rw [seen_in (d := ⟨ns, ar, sy⟩) m1, seen_in (d := ⟨ns, ar, sy⟩) m2, seenI_in (d := ⟨ns, ar, sy⟩) m1, seenI_in (d := ⟨ns, ar, sy⟩) m2]
    simp only [i1, i2]
    have e : linkedD ⟨62, a.least, a.weight⟩ [a.one] [a.other] ⟨ns, ar, sy⟩ = ⟨ns, ar ++ [a.row], sy⟩ := rfl
    rw [e, fold_arr nd as (ar ++ [a.row]) sy fun b hb => h b (List.mem_cons_of_mem _ hb)]
    simp
theorem fold_say {ns : List Str} (nd : ns.Nodup) : ∀ (as : List Say) (ar sy : List (List Int)), (∀ a ∈ as, a.Ok (ns.length : Nat)) →
    (as.map (fun a => (tl (syS ns a), fun d => linkedD ⟨60, a.least, 0⟩ (seenI d [tl (nmA ns a.one)]) (seenI (seenD d [tl (nmA ns a.one)]) [tl (nmA ns a.other)]) (seenD (seenD d [tl (nmA ns a.one)]) [tl (nmA ns a.other)])))).foldl (fun d p => p.2 d) ⟨ns, ar, sy⟩ = ⟨ns, ar, sy ++ as.map Say.row⟩
  | [], ar, sy, _ => by simp
  | a :: as, ar, sy, h => by
    have o := h a (List.mem_cons_self ..)
    obtain ⟨i1, m1⟩ := idx_nd nd o.o0 o.o1
    obtain ⟨i2, m2⟩ := idx_nd nd o.t0 o.t1
    rw [List.map_cons, List.foldl_cons]
    show (as.map _).foldl _ (linkedD ⟨60, a.least, 0⟩ (seenI ⟨ns, ar, sy⟩ [tl (nmA ns a.one)]) (seenI (seenD ⟨ns, ar, sy⟩ [tl (nmA ns a.one)]) [tl (nmA ns a.other)]) (seenD (seenD ⟨ns, ar, sy⟩ [tl (nmA ns a.one)]) [tl (nmA ns a.other)])) = _
    rw [seen_in (d := ⟨ns, ar, sy⟩) m1, seen_in (d := ⟨ns, ar, sy⟩) m2, seenI_in (d := ⟨ns, ar, sy⟩) m1, seenI_in (d := ⟨ns, ar, sy⟩) m2]
    simp only [i1, i2]
    have e : linkedD ⟨60, a.least, 0⟩ [a.one] [a.other] ⟨ns, ar, sy⟩ = ⟨ns, ar, sy ++ [a.row]⟩ := rfl
    rw [e, fold_say nd as ar (sy ++ [a.row]) fun b hb => h b (List.mem_cons_of_mem _ hb)]
    simp
theorem text_back {ns : List Str} {as : List Arr} {ss : List Say} (nd : ns.Nodup) (hnm : ∀ x ∈ ns, isNameB x = true) (ha : ∀ a ∈ as, a.Ok (ns.length : Nat)) (hs : ∀ a ∈ ss, a.Ok (ns.length : Nat)) : readR (tl (textW ns as ss)) = .ok ⟨ns, as.map Arr.row, ss.map Say.row⟩ [] := by
  unfold textW
  rw [join_eq, tl_join, ← stmF_fst]
  have e : tl "; " = [59, 32] := rfl
  rw [e, read_parts _ (stmF_ok hnm ha hs)]
  congr 1
  unfold stmF dft0
  rw [List.foldl_append, List.foldl_append, fold_names ns [] (by simpa using nd), List.nil_append, fold_arr nd as [] [] ha, List.nil_append, fold_say nd ss (as.map Arr.row) [] hs]
  simp
end Lw
set_option Elab.async false
set_option linter.all false
set_option maxRecDepth 100000
set_option maxHeartbeats 1000000
namespace Lw
open PySem L2 Ink TL
theorem comp_ar {ns : List Str} {as : List Arr} (h : ∀ a ∈ as, a.Ok (ns.length : Nat)) (hn : ∀ x ∈ ns, x.length ≤ 1000) {o0 o2 o3 o4 o6 o7 o8 : Option M} :
    compD (nmG 5) yesT (callE m_arrow_text (consA (vE 1) (consA (vE 5) nilA))) [5] (as.map fun a => rowD a.row) [o0, some (.fz (.tup (ns.map D.str))), o2, o3, o4, none, o6, o7, o8] = some (as.map fun a => .fz (.str (arS ns a)), [o0, some (.fz (.tup (ns.map D.str))), o2, o3, o4, none, o6, o7, o8]) := by
  refine comp_list (fun a : Arr => rowD a.row) (fun a => .fz (.str (arS ns a))) _ as fun a ha => ?_
  have e := arrow_text_eq (h a ha) hn
  refine ⟨[o0, some (.fz (.tup (ns.map D.str))), o2, o3, o4, some (.fz (rowD a.row)), o6, o7, o8], [o0, some (.fz (.tup (ns.map D.str))), o2, o3, o4, some (.fz (rowD a.row)), o6, o7, o8], rfl, rfl, ?_, rfl⟩
  generalize rowD a.row = q at *
  simp [e]
theorem comp_sy {ns : List Str} {ss : List Say} (h : ∀ a ∈ ss, a.Ok (ns.length : Nat)) (hn : ∀ x ∈ ns, x.length ≤ 1000) {o0 o2 o3 o4 o5 : Option M} :
    compD (tupG [nmG 6, nmG 7, nmG 8]) yesT K_web_text_1 [6, 7, 8] (ss.map fun a => rowD a.row) [o0, some (.fz (.tup (ns.map D.str))), o2, o3, o4, o5, none, none, none] = some (ss.map fun a => .fz (.str (syS ns a)), [o0, some (.fz (.tup (ns.map D.str))), o2, o3, o4, o5, none, none, none]) := by
  refine comp_list (fun a : Say => rowD a.row) (fun a => .fz (.str (syS ns a))) _ ss fun a ha => ?_
  have e := say_text_eq (h a ha) hn (o0 := o0) (o2 := o2) (o3 := o3) (o4 := o4) (o5 := o5)
  exact ⟨[o0, some (.fz (.tup (ns.map D.str))), o2, o3, o4, o5, some (.fz (.int a.one)), some (.fz (.int a.other)), some (.fz (.int a.least))], _, rfl, rfl, e, rfl⟩
theorem parts_sum {ns : List Str} {as : List Arr} {ss : List Say} (h : ∀ x ∈ ns, x.length ≤ 6) (hn : ns.length ≤ 40) (ha : as.length ≤ 80) (hs : ss.length ≤ 20) : ((partsT ns as ss).map (·.length)).sum + (partsT ns as ss).length * 2 ≤ 16777216 := by
  have a := sum_le (parts_len (as := as) (ss := ss) h)
  have e2 : (partsT ns as ss).length = ns.length + (as.length + ss.length) := by unfold partsT; simp
  rw [e2] at a ⊢
  omega
theorem web_text_eq {w : Web} {as : List Arr} {ss : List Say} (hw : isWebB w = true) (ea : w.arrows = as.map Arr.row) (es : w.told = ss.map Say.row) (ha : ∀ a ∈ as, a.Ok (w.names.length : Nat)) (hs : ∀ a ∈ ss, a.Ok (w.names.length : Nat))
    (h6 : ∀ x ∈ w.names, x.length ≤ 6) (ln : w.names.length ≤ 40) (la : as.length ≤ 80) (ls : ss.length ≤ 20) : m_web_text [.fz w.d] = some (.ok (.fz (.str (textW w.names as ss))) [some (.fz w.d)]) := by
  have nw := need_web_eq hw
  obtain ⟨ns, ar, sy⟩ := w
  simp only at ea es ha hs h6 ln
  subst ea es
  have hn : ∀ x ∈ ns, x.length ≤ 1000 := fun x hx => by have := h6 x hx; omega
  have c1 := fun o0 o2 o3 o4 o6 o7 o8 => comp_ar ha hn (o0 := o0) (o2 := o2) (o3 := o3) (o4 := o4) (o6 := o6) (o7 := o7) (o8 := o8)
  have c2 := fun o0 o2 o3 o4 o5 => comp_sy hs hn (o0 := o0) (o2 := o2) (o3 := o3) (o4 := o4) (o5 := o5)
  have js := join_gen (y := "; ") (parts_sum (as := as) (ss := ss) h6 ln la ls)
  have z1 : ns.length ≤ 16777216 := by omega
  have z2 : as.length ≤ 16777216 := by omega
  have z3 : ss.length ≤ 16777216 := by omega
  have z4 : ns.length + as.length ≤ 16777216 := by omega
  have z5 : ns.length + as.length + ss.length ≤ 16777216 := by omega
  have m1 : (as.map Arr.row).map rowD = as.map fun a => rowD a.row := by rw [List.map_map]; rfl
  have m2 : (ss.map Say.row).map rowD = ss.map fun a => rowD a.row := by rw [List.map_map]; rfl
  unfold Web.d at nw ⊢
  simp only [m1, m2] at nw ⊢
  have ej : (List.map (M.fz ∘ D.str) ns ++ (List.map (M.fz ∘ fun a => D.str (arS ns a)) as ++ List.map (M.fz ∘ fun a => D.str (syS ns a)) ss)) = (partsT ns as ss).map fun w => M.fz (.str w) := by
    unfold partsT
    rw [List.map_append, List.map_append, List.map_map, List.map_map]
    rfl
  rw [← ej] at js
  have f1 : ∀ xs : List Arr, unfz (xs.map fun a => M.fz (.str (arS ns a))) = some (xs.map fun a => .str (arS ns a)) := fun xs => unfz_mapf (fun a => .str (arS ns a)) xs
  have f2 : ∀ xs : List Say, unfz (xs.map fun a => M.fz (.str (syS ns a))) = some (xs.map fun a => .str (syS ns a)) := fun xs => unfz_mapf (fun a => .str (syS ns a)) xs
  have ty : tyM .str (.fz (.str "; ")) = true := rfl
  have u1 : unfz (List.map (M.fz ∘ D.str) ns ++ List.map (M.fz ∘ fun a => D.str (arS ns a)) as) = some (ns.map D.str ++ as.map fun a => .str (arS ns a)) := by
    have := unfz_mapf id (ns.map D.str ++ as.map fun a => D.str (arS ns a))
    rw [List.map_id] at this
    rw [← this, List.map_append, List.map_map, List.map_map]
    rfl
  simp [m_web_text, b_web_text, nw, c1, c2, z1, z2, z3, z4, z5, f1, f2, ty, u1, js]
  rfl
end Lw
set_option Elab.async false
set_option linter.all false
set_option maxRecDepth 100000
set_option maxHeartbeats 0
namespace Ink
open PySem L2
end Ink
set_option Elab.async false
set_option linter.all false
set_option maxRecDepth 100000
set_option maxHeartbeats 1000000
namespace Lw
open PySem L2 Ink TL
theorem al_web {w : Web} (hn : w.names.length ≤ 1000) (ha : w.arrows.length ≤ 1000) (hs : w.told.length ≤ 1000) (hr : ∀ r ∈ w.arrows, r.length ≤ 1000) (hr2 : ∀ r ∈ w.told, r.length ≤ 1000) : alOk 6 w.d := by
  unfold Web.d
  refine ⟨by simp, fun x hx => ?_⟩
  simp at hx
  have rows : ∀ rs : List (List Int), rs.length ≤ 1000 → (∀ r ∈ rs, r.length ≤ 1000) → alOk 5 (.tup (rs.map rowD)) := fun rs h1 h2 => by
    refine ⟨by simp; omega, fun y hy => ?_⟩
    obtain ⟨r, hr, rfl⟩ := List.mem_map.mp hy
    have := h2 r hr
    refine ⟨by simp; omega, fun z hz => ?_⟩
    obtain ⟨i, _, rfl⟩ := List.mem_map.mp hz
    exact True.intro
  rcases hx with rfl | rfl | rfl
  · refine ⟨by simp; omega, fun y hy => ?_⟩
    obtain ⟨s, _, rfl⟩ := List.mem_map.mp hy
    exact True.intro
  · exact rows _ ha hr
  · exact rows _ hs hr2
theorem join3 {x y z : Str} (h : x.length + y.length + z.length ≤ 1000) : joinG [.fz (.str " "), .lst [.fz (.str x), .fz (.str y), .fz (.str z)]] = some (.ok (.fz (.str ⟨(tl x ++ 32 :: (tl y ++ 32 :: tl z)).toArray⟩)) [some (.fz (.str " ")), some (.lst [.fz (.str x), .fz (.str y), .fz (.str z)])]) := by
  have e : (" " : Str).length = 1 := rfl
  have j := join_gen (y := " ") (ws := [x, y, z]) (by rw [e]; simp; omega)
  have e2 : Txt.join " " [x, y, z] = ⟨(tl x ++ 32 :: (tl y ++ 32 :: tl z)).toArray⟩ := by
    refine ext_tl ?_
    rw [join_eq, tl_join]
    rfl
  rw [e2] at j
  exact j
/-- the law's link -/
def lnkE : FE := callE addG (arg2 (callE addG (arg2 (cE (.str ">")) (callE mulG (arg2 (callE (g1 strM) (arg1 (vE 8))) (callE (g1 intM1) (arg1 (callE gtG (arg2 (vE 8) (cE (.int 1)))))))))) (callE mulG (arg2 (callE addG (arg2 (cE (.str "x")) (callE (g1 strM) (arg1 (vE 9))))) (callE (g1 intM1) (arg1 (callE gtG (arg2 (vE 9) (cE (.int 1)))))))))
theorem law_link {l w : Int} (l1 : 1 ≤ l) (l3 : l ≤ 3) (w1 : 1 ≤ w) (w9 : w ≤ 9) {o0 o1 o2 o3 o4 o5 o6 o7 o10 o11 : Option M} :
    ∃ z : Str, tl z = linkL l w ∧ z.length ≤ 10 ∧ lnkE [o0, o1, o2, o3, o4, o5, o6, o7, some (.fz (.int l)), some (.fz (.int w)), o10, o11] = some (.ok (.tm (.fz (.str z))) [o0, o1, o2, o3, o4, o5, o6, o7, some (.fz (.int l)), some (.fz (.int w)), o10, o11]) := by
  unfold lnkE
  have f1 : Str.ofString l.repr = ⟨#[48 + l.toNat]⟩ := num_fig (by omega) (by omega)
  have f2 : Str.ofString w.repr = ⟨#[48 + w.toNat]⟩ := num_fig (by omega) (by omega)
  have k1 := log_int (i := l) (by omega) (by omega)
  have k2 := log_int (i := w) (by omega) (by omega)
  have g2 : Str.length (Str.ofString ">") = 1 := rfl
  have g3 : ∀ c : Nat, (⟨#[c]⟩ : Str).length = 1 := fun _ => rfl
  have g5 : Str.length (Str.ofString "x") = 1 := rfl
  have r0 : ∀ z : Str, repS z 0 = "" := fun _ => rfl
  have r1 : ∀ z : Str, repS z 1 = z := fun z => ext_tl (by unfold repS; show repL 1 z.cps.toList = _; simp [repL])
  have g6 : Str.length (Str.ofString "") = 0 := rfl
  by_cases c1 : l = 1
  · have c1' : ¬ (1 : Int) < l := by omega
    by_cases c2 : w = 1
    · have c2' : ¬ (1 : Int) < w := by omega
      refine ⟨">" ++ "" ++ "", ?_, by decide, ?_⟩
      · unfold linkL; rw [if_pos c1, if_pos c2]; rfl
      · simp [k1, k2, f1, f2, c1', c2', g2, g3, g5, r0, r1, g6, Str.length_append]
        done
    · have c2' : (1 : Int) < w := by omega
      refine ⟨">" ++ "" ++ ("x" ++ ⟨#[48 + w.toNat]⟩), ?_, ?_, ?_⟩
      · unfold linkL; rw [if_pos c1, if_neg c2]; simp only [tl_append]; rfl
      · simp [Str.length_append, g2, g3, g5, g6]
      · simp [k1, k2, f1, f2, c1', c2', g2, g3, g5, r0, r1, g6, Str.length_append]
        done
  · have c1' : (1 : Int) < l := by omega
    by_cases c2 : w = 1
    · have c2' : ¬ (1 : Int) < w := by omega
      refine ⟨">" ++ ⟨#[48 + l.toNat]⟩ ++ "", ?_, ?_, ?_⟩
      · unfold linkL; rw [if_neg c1, if_pos c2]; simp only [tl_append]; rfl
      · simp [Str.length_append, g2, g3, g5, g6]
      · simp [k1, k2, f1, f2, c1', c2', g2, g3, g5, r0, r1, g6, Str.length_append]
        done
    · have c2' : (1 : Int) < w := by omega
      refine ⟨">" ++ ⟨#[48 + l.toNat]⟩ ++ ("x" ++ ⟨#[48 + w.toNat]⟩), ?_, ?_, ?_⟩
      · unfold linkL; rw [if_neg c1, if_neg c2]; simp only [tl_append]; rfl
      · simp [Str.length_append, g2, g3, g5, g6]
      · simp [k1, k2, f1, f2, c1', c2', g2, g3, g5, r0, r1, g6, Str.length_append]
        done
theorem loopA {ns : List Str} {A B : D} (hn : ∀ x ∈ ns, x.length ≤ 6) {s0 s1 s2 s3 o11 : Option M} : ∀ (as : List Arr) (pre : List Str) (z6 z7 z8 z9 z10 : Option M), (∀ a ∈ as, a.Ok (ns.length : Nat)) → pre.length + as.length ≤ 1000 →
    ∃ y6 y7 y8 y9 y10, loopD (tupG [nmG 6, nmG 7, nmG 8, nmG 9]) L_law_2 (as.map fun a => rowD a.row) [s0, s1, s2, s3, some (.fz (.tup [.tup (ns.map D.str), A, B])), some (.lst (pre.map fun w => .fz (.str w))), z6, z7, z8, z9, z10, o11] =
      some (.nx [s0, s1, s2, s3, some (.fz (.tup [.tup (ns.map D.str), A, B])), some (.lst ((pre ++ as.map (arS ns)).map fun w => .fz (.str w))), y6, y7, y8, y9, y10, o11])
  | [], pre, z6, z7, z8, z9, z10, _, _ => ⟨z6, z7, z8, z9, z10, by simp [loopD]⟩
  | a :: as, pre, z6, z7, z8, z9, z10, h, hl => by
    have o := h a (List.mem_cons_self ..)
    rw [List.length_cons] at hl
    obtain ⟨q1, e1⟩ := nmA_at o.o0 o.o1
    obtain ⟨q2, e2⟩ := nmA_at o.t0 o.t1
    have n1 := hn _ (List.mem_of_getElem? q1)
    have n2 := hn _ (List.mem_of_getElem? q2)
    obtain ⟨z, hz, hzl, el⟩ := law_link o.l0 o.l1 o.w0 o.w1 (o0 := s0) (o1 := s1) (o2 := s2) (o3 := s3) (o4 := some (.fz (.tup [.tup (ns.map D.str), A, B]))) (o5 := some (.lst (pre.map fun w => .fz (.str w)))) (o6 := some (.fz (.int a.one))) (o7 := some (.fz (.int a.other))) (o10 := z10) (o11 := o11)
    obtain ⟨y6, y7, y8, y9, y10, ih⟩ := loopA hn (s0 := s0) (s1 := s1) (s2 := s2) (s3 := s3) (o11 := o11) (A := A) (B := B) as (pre ++ [arS ns a]) (some (.fz (.int a.one))) (some (.fz (.int a.other))) (some (.fz (.int a.least))) (some (.fz (.int a.weight))) (some (.fz (.str z))) (fun b hb => h b (List.mem_cons_of_mem _ hb)) (by rw [List.length_append]; simp; omega)
    refine ⟨y6, y7, y8, y9, y10, ?_⟩
    have j := join3 (x := nmA ns a.one) (y := z) (z := nmA ns a.other) (by omega)
    rw [hz] at j
    have ea : (⟨(tl (nmA ns a.one) ++ 32 :: (linkL a.least a.weight ++ 32 :: tl (nmA ns a.other))).toArray⟩ : Str) = arS ns a := rfl
    rw [ea] at j
    have z0 : pre.length < 16777216 := by omega
    have e0 : tupG [nmG 6, nmG 7, nmG 8, nmG 9] (.fz (rowD a.row)) [s0, s1, s2, s3, some (.fz (.tup [.tup (ns.map D.str), A, B])), some (.lst (pre.map fun w => .fz (.str w))), z6, z7, z8, z9, z10, o11] = some [s0, s1, s2, s3, some (.fz (.tup [.tup (ns.map D.str), A, B])), some (.lst (pre.map fun w => .fz (.str w))), some (.fz (.int a.one)), some (.fz (.int a.other)), some (.fz (.int a.least)), some (.fz (.int a.weight)), z10, o11] := rfl
    have eb : L_law_2 = seqS (asgS lnkE (nmG 10)) (exprS (bmE .lst appG (vE 5) (arg1 (tk (bmE .str joinG (cE (.str " ")) (arg1 (lstE (consA (callE ixF (arg2 (callE ixF (arg2 (vE 4) (cE (.int 0)))) (vE 6))) (consA (tk (vE 10)) (consA (callE ixF (arg2 (callE ixF (arg2 (vE 4) (cE (.int 0)))) (vE 7))) nilA)))))))))) := rfl
    have ty : tyM .str (.fz (.str " ")) = true := rfl
    have e3 : L_law_2 [s0, s1, s2, s3, some (.fz (.tup [.tup (ns.map D.str), A, B])), some (.lst (pre.map fun w => .fz (.str w))), some (.fz (.int a.one)), some (.fz (.int a.other)), some (.fz (.int a.least)), some (.fz (.int a.weight)), z10, o11] = some (.nx [s0, s1, s2, s3, some (.fz (.tup [.tup (ns.map D.str), A, B])), some (.lst ((pre ++ [arS ns a]).map fun w => .fz (.str w))), some (.fz (.int a.one)), some (.fz (.int a.other)), some (.fz (.int a.least)), some (.fz (.int a.weight)), some (.fz (.str z)), o11]) := by
      rw [eb]
      generalize lnkE = F at *
      generalize arS ns a = ar at *
      generalize nmA ns a.one = N1 at *
      generalize nmA ns a.other = N2 at *
      simp [el, e1, e2, j, z0, ty]
    rw [List.map_cons, loopD, e0]
    simp only [e3]
    rw [ih]
    simp
theorem loopS {ns : List Str} {A B : D} (hn : ∀ x ∈ ns, x.length ≤ 6) {s0 s1 s2 s3 s9 s10 o11 : Option M} : ∀ (as : List Say) (pre : List Str) (z6 z7 z8 : Option M), (∀ a ∈ as, a.Ok (ns.length : Nat)) → pre.length + as.length ≤ 1000 →
    ∃ y6 y7 y8, loopD (tupG [nmG 6, nmG 7, nmG 8]) L_law_1 (as.map fun a => rowD a.row) [s0, s1, s2, s3, some (.fz (.tup [.tup (ns.map D.str), A, B])), some (.lst (pre.map fun w => .fz (.str w))), z6, z7, z8, s9, s10, o11] =
      some (.nx [s0, s1, s2, s3, some (.fz (.tup [.tup (ns.map D.str), A, B])), some (.lst ((pre ++ as.map (syS ns)).map fun w => .fz (.str w))), y6, y7, y8, s9, s10, o11])
  | [], pre, z6, z7, z8, _, _ => ⟨z6, z7, z8, by simp [loopD]⟩
  | a :: as, pre, z6, z7, z8, h, hl => by
    have o := h a (List.mem_cons_self ..)
    rw [List.length_cons] at hl
    obtain ⟨q1, e1⟩ := nmA_at o.o0 o.o1
    obtain ⟨q2, e2⟩ := nmA_at o.t0 o.t1
    have n1 := hn _ (List.mem_of_getElem? q1)
    have n2 := hn _ (List.mem_of_getElem? q2)
    obtain ⟨y6, y7, y8, ih⟩ := loopS hn (s0 := s0) (s1 := s1) (s2 := s2) (s3 := s3) (s9 := s9) (s10 := s10) (o11 := o11) (A := A) (B := B) as (pre ++ [syS ns a]) (some (.fz (.int a.one))) (some (.fz (.int a.other))) (some (.fz (.int a.least))) (fun b hb => h b (List.mem_cons_of_mem _ hb)) (by rw [List.length_append]; simp; omega)
    refine ⟨y6, y7, y8, ?_⟩
    have f1 : ∃ z : Str, Str.ofString a.least.repr = z ∧ 60 :: tl z = sayL a.least ∧ z.length ≤ 2 := by
      unfold sayL
      by_cases c : a.least < 0
      · refine ⟨_, num_min c o.l0, ?_, by show 2 ≤ 2; omega⟩
        rw [if_pos c]
      · refine ⟨_, num_fig (by omega) o.l1, ?_, by show 1 ≤ 2; omega⟩
        rw [if_neg c]
        have : a.least.toNat = a.least.natAbs := by omega
        rw [this]
    obtain ⟨z, f1, f2, f3⟩ := f1
    have l1 := log_int (i := a.least) (by have := o.l0; omega) (by have := o.l1; omega)
    have g1 : Str.length (Str.ofString "<") = 1 := rfl
    have lz : ((Str.ofString "<") ++ z).length ≤ 3 := by rw [Str.length_append, g1]; omega
    have j := join3 (x := nmA ns a.one) (y := "<" ++ z) (z := nmA ns a.other) (by omega)
    rw [tl_append, show tl "<" ++ tl z = 60 :: tl z from rfl, f2] at j
    have ea : (⟨(tl (nmA ns a.one) ++ 32 :: (sayL a.least ++ 32 :: tl (nmA ns a.other))).toArray⟩ : Str) = syS ns a := rfl
    rw [ea] at j
    have z0 : pre.length < 16777216 := by omega
    have z2 : 1 + z.length ≤ 16777216 := by omega
    have e0 : tupG [nmG 6, nmG 7, nmG 8] (.fz (rowD a.row)) [s0, s1, s2, s3, some (.fz (.tup [.tup (ns.map D.str), A, B])), some (.lst (pre.map fun w => .fz (.str w))), z6, z7, z8, s9, s10, o11] = some [s0, s1, s2, s3, some (.fz (.tup [.tup (ns.map D.str), A, B])), some (.lst (pre.map fun w => .fz (.str w))), some (.fz (.int a.one)), some (.fz (.int a.other)), some (.fz (.int a.least)), s9, s10, o11] := rfl
    have ty : tyM .str (.fz (.str " ")) = true := rfl
    have e3 : L_law_1 [s0, s1, s2, s3, some (.fz (.tup [.tup (ns.map D.str), A, B])), some (.lst (pre.map fun w => .fz (.str w))), some (.fz (.int a.one)), some (.fz (.int a.other)), some (.fz (.int a.least)), s9, s10, o11] = some (.nx [s0, s1, s2, s3, some (.fz (.tup [.tup (ns.map D.str), A, B])), some (.lst ((pre ++ [syS ns a]).map fun w => .fz (.str w))), some (.fz (.int a.one)), some (.fz (.int a.other)), some (.fz (.int a.least)), s9, s10, o11]) := by
      generalize syS ns a = ar at *
      generalize nmA ns a.one = N1 at *
      generalize nmA ns a.other = N2 at *
      simp [L_law_1, e1, e2, j, z0, ty, l1, f1, g1, z2]
    rw [List.map_cons, loopD, e0]
    simp only [e3]
    rw [ih]
    simp
theorem turn27 {s : M} {b : Bag} {o2 o3 o4 o5 o6 o7 o8 o9 o10 o11 : Option M} : ∃ (b' : Bag) (z3 z4 z5 z6 z7 z8 z9 z10 z11 : Option M), L_law_3 [some s, some b.m, o2, o3, o4, o5, o6, o7, o8, o9, o10, o11] = some (.nx [some s, some b'.m, o2, z3, z4, z5, z6, z7, z8, z9, z10, z11]) := by
  obtain ⟨p1, p2, p3⟩ := pull_all (b := b) (n := 3) (by omega) (by omega)
  obtain ⟨q1, q2, q3⟩ := pull_all (b := pb b 3) (n := 2) (by omega) (by omega)
  obtain ⟨r1, r2, r3⟩ := pull_all (b := pb (pb b 3) 2) (n := 2) (by omega) (by omega)
  obtain ⟨x1, hx1, hx1', ex1⟩ : ∃ x1 : Nat, 1 ≤ x1 ∧ x1 ≤ 40 ∧ atI [D.int 4, .int 9, .int 40] (pv b 3) = some (.int (x1 : Nat)) := by
    rcases (show pv b 3 = 0 ∨ pv b 3 = 1 ∨ pv b 3 = 2 by omega) with e | e | e <;> rw [e]
    · exact ⟨4, by omega, by omega, rfl⟩
    · exact ⟨9, by omega, by omega, rfl⟩
    · exact ⟨40, by omega, by omega, rfl⟩
  obtain ⟨x2, hx2, ex2⟩ : ∃ x2 : Nat, x2 ≤ 80 ∧ atI [D.int 9, .int 80] (pv (pb b 3) 2) = some (.int (x2 : Nat)) := by
    rcases (show pv (pb b 3) 2 = 0 ∨ pv (pb b 3) 2 = 1 by omega) with e | e <;> rw [e]
    · exact ⟨9, by omega, rfl⟩
    · exact ⟨80, by omega, rfl⟩
  obtain ⟨x3, hx3, ex3⟩ : ∃ x3 : Nat, x3 ≤ 20 ∧ atI [D.int 3, .int 20] (pv (pb (pb b 3) 2) 2) = some (.int (x3 : Nat)) := by
    rcases (show pv (pb (pb b 3) 2) 2 = 0 ∨ pv (pb (pb b 3) 2) 2 = 1 by omega) with e | e <;> rw [e]
    · exact ⟨3, by omega, rfl⟩
    · exact ⟨20, by omega, rfl⟩
  obtain ⟨b', w, ⟨hw, hnp⟩, _, _, _, ew⟩ := drawn_okP (pb (pb (pb b 3) 2) 2) x1 x2 x3 hx1 hx1' hx2 hx3
  obtain ⟨as, ea, ha, la, ln⟩ := arrs_of hw
  obtain ⟨ss, es, hs, ls⟩ := says_of hw
  have hnm : ∀ x ∈ w.names, isNameB x = true := by
    unfold isWebB at hw
    simp only [Bool.and_eq_true, List.all_eq_true] at hw
    exact hw.2.1.1
  have nd : w.names.Nodup := by
    obtain ⟨ys, h1, h2⟩ := hnp
    exact h2.nodup_iff.mpr (h1.nodup ln)
  have h6 : ∀ x ∈ w.names, x.length ≤ 6 := fun x hx => by
    have := (nmOk_of (hnm x hx)).le
    rw [len_tl]; exact this
  have wt := web_text_eq hw ea es ha hs h6 ln la ls
  have tb := text_back nd hnm ha hs
  have tlen := text_len (as := as) (ss := ss) h6 ln la ls
  have rw1 := read_web_eq tlen
  have js := join_gen (y := "; ") (parts_sum (as := as) (ss := ss) h6 ln la ls)
  have wd : (⟨w.names, as.map Arr.row, ss.map Say.row⟩ : Dft).web.d = w.d := by
    unfold Dft.web
    simp only
    rw [← ea, ← es]
  have wb : isWebB (⟨w.names, as.map Arr.row, ss.map Say.row⟩ : Dft).web = true := by
    unfold Dft.web
    simp only
    rw [← ea, ← es]
    exact hw
  unfold readM at rw1
  rw [tb] at rw1
  simp only at rw1
  rw [if_pos wb, wd] at rw1
  have a1 := alike_same 6 (.str (textW w.names as ss)) trivial
  have a2 := alike_same 6 w.d (al_web (by omega) (by rw [ea, List.length_map]; omega) (by rw [es, List.length_map]; omega) (fun r hr => by rw [ea] at hr; obtain ⟨a, _, rfl⟩ := List.mem_map.mp hr; show 4 ≤ 1000; omega) (fun r hr => by rw [es] at hr; obtain ⟨a, _, rfl⟩ := List.mem_map.mp hr; show 3 ≤ 1000; omega))
  have wE : w.d = .tup [.tup (w.names.map D.str), .tup (as.map fun a => rowD a.row), .tup (ss.map fun a => rowD a.row)] := by
    unfold Web.d
    rw [ea, es, List.map_map, List.map_map]
    rfl
  obtain ⟨y6, y7, y8, y9, y10, lA⟩ := loopA (A := .tup (as.map fun a => rowD a.row)) (B := .tup (ss.map fun a => rowD a.row)) h6 (s0 := some s) (s1 := some b'.m) (s2 := o2) (s3 := some (.fz (.int (x1 : Nat)))) (o11 := o11) as w.names o6 o7 o8 o9 o10 ha (by omega)
  obtain ⟨u6, u7, u8, lS⟩ := loopS (A := .tup (as.map fun a => rowD a.row)) (B := .tup (ss.map fun a => rowD a.row)) h6 (s0 := some s) (s1 := some b'.m) (s2 := o2) (s3 := some (.fz (.int (x1 : Nat)))) (s9 := y9) (s10 := y10) (o11 := o11) ss (w.names ++ as.map (arS w.names)) y6 y7 y8 hs (by rw [List.length_append, List.length_map]; omega)
  refine ⟨b', some (.fz (.int (x1 : Nat))), some (.fz w.d), some (.lst ((partsT w.names as ss).map fun w => .fz (.str w))), u6, u7, u8, y9, y10, some (.fz (.str (textW w.names as ss))), ?_⟩
  rw [wE] at ew wt rw1 a2 ⊢
  have ep : (w.names ++ as.map (arS w.names)) ++ ss.map (syS w.names) = partsT w.names as ss := by unfold partsT; rw [List.append_assoc]
  rw [ep] at lS
  have ty : tyM .str (.fz (.str "; ")) = true := rfl
  have z1 : w.names.length ≤ 16777216 := by omega
  have js2 : joinG [.fz (.str "; "), .lst ((partsT w.names as ss).map fun w => .fz (.str w))] = some (.ok (.fz (.str (textW w.names as ss))) [some (.fz (.str "; ")), some (.lst ((partsT w.names as ss).map fun w => .fz (.str w)))]) := js
  generalize hQ : ((w.names ++ as.map (arS w.names)).map fun w => M.fz (.str w)) = Q1 at lA lS
  rw [show (fun w : Str => M.fz (.str w)) = (M.fz ∘ D.str) from rfl] at lA
  generalize textW w.names as ss = T at *
  generalize hP : ((partsT w.names as ss).map fun w => M.fz (.str w)) = PP at *
  simp [L_law_3, p3, q3, r3, ex1, ex2, ex3, ew, lA, lS, wt, rw1, a1, a2, ty, z1, js2]
  done
theorem law_ok (ns : List Int) : m_law [.fz (.scr ns)] = some (.ok (.fz (.bl true)) [some (.fz (.scr ns))]) := by
  obtain ⟨b, e0⟩ := bag_ok ns
  have lp := loop_list (g := nmG 2) (fb := L_law_3) (fun k : Nat => D.int (k : Int)) (fun _ env => ∃ (b : Bag) (o2 z3 z4 z5 z6 z7 z8 z9 z10 z11 : Option M), env = [some (.fz (.scr ns)), some b.m, o2, z3, z4, z5, z6, z7, z8, z9, z10, z11]) (List.range 3) 0 [some (.fz (.scr ns)), some b.m, none, none, none, none, none, none, none, none, none, none] ?_ ⟨b, none, none, none, none, none, none, none, none, none, none, rfl⟩
  · obtain ⟨env', e1, b', o2, z3, z4, z5, z6, z7, z8, z9, z10, z11, rfl⟩ := lp
    have r1 : rangeD 0 3 = (List.range 3).map fun k : Nat => D.int (k : Int) := rfl
    simp [m_law, b_law, e0, r1, e1, fits]
    done
  rintro k n env hk ⟨b, o2, z3, z4, z5, z6, z7, z8, z9, z10, z11, rfl⟩
  generalize hG : Stp _ _ _ = G0
  obtain ⟨b', y3, y4, y5, y6, y7, y8, y9, y10, y11, e⟩ := turn27 (s := .fz (.scr ns)) (b := b) (o2 := some (.fz (.int (n : Int)))) (o3 := z3) (o4 := z4) (o5 := z5) (o6 := z6) (o7 := z7) (o8 := z8) (o9 := z9) (o10 := z10) (o11 := z11)
  rw [← hG]
  show Nx _ (L_law_3 [some (.fz (.scr ns)), some b.m, some (.fz (.int (n : Int))), z3, z4, z5, z6, z7, z8, z9, z10, z11])
  rw [e, Nx_nx]
  exact ⟨_, _, _, _, _, _, _, _, _, _, _, rfl⟩
end Lw
set_option Elab.async false
set_option linter.all false
set_option maxRecDepth 100000
set_option maxHeartbeats 0
namespace Lw
section
open PySem PySem.Spec PyProof.Rows L2 Ink
def d_is_name : He.DefD := ⟨("is_name", none), "is_name", "is_name", defArgs (top 13), defBody (top 13), defScope (top 13), [], []⟩
def d_is_least : He.DefD := ⟨("is_least", none), "is_least", "is_least", defArgs (top 14), defBody (top 14), defScope (top 14), [], []⟩
def d_is_weight : He.DefD := ⟨("is_weight", none), "is_weight", "is_weight", defArgs (top 15), defBody (top 15), defScope (top 15), [], []⟩
def d_is_far : He.DefD := ⟨("is_far", none), "is_far", "is_far", defArgs (top 16), defBody (top 16), defScope (top 16), [], []⟩
def d_is_arrow : He.DefD := ⟨("is_arrow", none), "is_arrow", "is_arrow", defArgs (top 17), defBody (top 17), defScope (top 17), [], []⟩
def d_is_saying : He.DefD := ⟨("is_saying", none), "is_saying", "is_saying", defArgs (top 18), defBody (top 18), defScope (top 18), [], []⟩
def d_is_web : He.DefD := ⟨("is_web", none), "is_web", "is_web", defArgs (top 19), defBody (top 19), defScope (top 19), [], []⟩
def d_need_web : He.DefD := ⟨("need_web", none), "need_web", "need_web", defArgs (top 20), defBody (top 20), defScope (top 20), [], []⟩
def d_read_statement : He.DefD := ⟨("read_statement", none), "read_statement", "read_statement", defArgs (top 27), defBody (top 27), defScope (top 27), [], []⟩
def d_read_web : He.DefD := ⟨("read_web", none), "read_web", "read_web", defArgs (top 28), defBody (top 28), defScope (top 28), [], []⟩
def d_arrow_text : He.DefD := ⟨("arrow_text", none), "arrow_text", "arrow_text", defArgs (top 29), defBody (top 29), defScope (top 29), [], []⟩
def d_web_text : He.DefD := ⟨("web_text", none), "web_text", "web_text", defArgs (top 30), defBody (top 30), defScope (top 30), [], []⟩
def d_law_alike : He.DefD := ⟨("_law_alike", none), "_law_alike", "_law_alike", defArgs (top 32), defBody (top 32), defScope (top 32), [], []⟩
def d_law_bag : He.DefD := ⟨("_law_bag", none), "_law_bag", "_law_bag", defArgs (top 33), defBody (top 33), defScope (top 33), [], []⟩
def d_law_drawn_web : He.DefD := ⟨("_law_drawn_web", none), "_law_drawn_web", "_law_drawn_web", defArgs (top 34), defBody (top 34), defScope (top 34), [], []⟩
def d_law_names : He.DefD := ⟨("_law_names", none), "_law_names", "_law_names", defArgs (top 35), defBody (top 35), defScope (top 35), [], []⟩
def d_law_pull : He.DefD := ⟨("_law_pull", none), "_law_pull", "_law_pull", defArgs (top 36), defBody (top 36), defScope (top 36), [], []⟩
def d_law_whole : He.DefD := ⟨("_law_whole", none), "_law_whole", "_law_whole", defArgs (top 37), defBody (top 37), defScope (top 37), [], []⟩
def d_law : He.DefD := ⟨("law", none), "law", "law", defArgs (top 38), defBody (top 38), defScope (top 38), [], []⟩
def d_Reader___init__ : He.DefD := ⟨("Reader", some "__init__"), "__init__", "Reader.__init__", defArgs (top 25 1), defBody (top 25 1), defScope (top 25 1), [], []⟩
def d_Reader_sign : He.DefD := ⟨("Reader", some "sign"), "sign", "Reader.sign", defArgs (top 25 2), defBody (top 25 2), defScope (top 25 2), [.int 0], []⟩
def d_Reader_bar : He.DefD := ⟨("Reader", some "bar"), "bar", "Reader.bar", defArgs (top 25 3), defBody (top 25 3), defScope (top 25 3), [], []⟩
def d_Reader_pass_blanks : He.DefD := ⟨("Reader", some "pass_blanks"), "pass_blanks", "Reader.pass_blanks", defArgs (top 25 4), defBody (top 25 4), defScope (top 25 4), [], []⟩
def d_Reader_take : He.DefD := ⟨("Reader", some "take"), "take", "Reader.take", defArgs (top 25 5), defBody (top 25 5), defScope (top 25 5), [], []⟩
def d_Reader_name : He.DefD := ⟨("Reader", some "name"), "name", "Reader.name", defArgs (top 25 6), defBody (top 25 6), defScope (top 25 6), [], []⟩
def d_Reader_group : He.DefD := ⟨("Reader", some "group"), "group", "Reader.group", defArgs (top 25 7), defBody (top 25 7), defScope (top 25 7), [], []⟩
def d_Reader_link : He.DefD := ⟨("Reader", some "link"), "link", "Reader.link", defArgs (top 25 8), defBody (top 25 8), defScope (top 25 8), [], []⟩
def d_Draft___init__ : He.DefD := ⟨("Draft", some "__init__"), "__init__", "Draft.__init__", defArgs (top 26 1), defBody (top 26 1), defScope (top 26 1), [], []⟩
def d_Draft_seen : He.DefD := ⟨("Draft", some "seen"), "seen", "Draft.seen", defArgs (top 26 2), defBody (top 26 2), defScope (top 26 2), [], []⟩
def d_Draft_tie : He.DefD := ⟨("Draft", some "tie"), "tie", "Draft.tie", defArgs (top 26 3), defBody (top 26 3), defScope (top 26 3), [], []⟩
def d_Draft_linked : He.DefD := ⟨("Draft", some "linked"), "linked", "Draft.linked", defArgs (top 26 4), defBody (top 26 4), defScope (top 26 4), [], []⟩
def d_Draft_web : He.DefD := ⟨("Draft", some "web"), "web", "Draft.web", defArgs (top 26 5), defBody (top 26 5), defScope (top 26 5), [], []⟩
def di_BadText : He.DefD := ⟨("BadText", some "__init__"), "__init__", "BadText.__init__", defArgs (methI (top 3)), defBody (methI (top 3)), defScope (methI (top 3)), [], []⟩
def fnsH : List He.DefD := [d_is_name, d_is_least, d_is_weight, d_is_far, d_is_arrow, d_is_saying, d_is_web, d_need_web, d_read_statement, d_read_web, d_arrow_text, d_web_text, d_law_alike, d_law_bag, d_law_drawn_web, d_law_names, d_law_pull, d_law_whole, d_law, di_BadText, d_Reader___init__, d_Reader_sign, d_Reader_bar, d_Reader_pass_blanks, d_Reader_take, d_Reader_name, d_Reader_group, d_Reader_link, d_Draft___init__, d_Draft_seen, d_Draft_tie, d_Draft_linked, d_Draft_web]
def factsH : List He.Fa := [.glo "is_name", .glo "is_least", .glo "is_weight", .glo "is_far", .glo "is_arrow", .glo "is_saying", .glo "is_web", .glo "need_web", .glo "read_statement", .glo "read_web", .glo "arrow_text", .glo "web_text", .glo "_law_alike", .glo "_law_bag", .glo "_law_drawn_web", .glo "_law_names", .glo "_law_pull", .glo "_law_whole", .glo "law", .free "ValueError", .free "abs", .free "all", .free "bool", .free "int", .free "isinstance", .free "len", .free "list", .free "max", .free "min", .free "range", .free "set", .free "str", .free "tuple", .str "LETTERS" "abcdefghijklmnopqrstuvwxyz", .int "LONGEST" 6, .int "MOST_BOXES" 40, .int "MOST_ARROWS" 80, .int "MOST_SAYINGS" 20, .int "MOST_LEAST" 3, .int "MOST_WEIGHT" 9, .int "MOST_FAR" 9, .str "LEASTS" "123", .str "WEIGHTS" "123456789", .str "FIGURES" "0123456789", .glo "BadText", .glo "BadWeb", .glo "InkError", .exc "BadWeb", .glo "Reader", .cls "Reader", .glo "Draft", .cls "Draft", .noat "Reader" "text", .noat "Reader" "at", .noat "Draft" "known", .noat "Draft" "arrows", .noat "Draft" "sayings", .mkr "Reader", .meth "Reader" "sign", .meth "Reader" "bar", .meth "Reader" "pass_blanks", .meth "Reader" "take", .meth "Reader" "name", .meth "Reader" "group", .meth "Reader" "link", .mkr "Draft", .meth "Draft" "seen", .meth "Draft" "tie", .meth "Draft" "linked", .meth "Draft" "web"]
def tsH : List He.Tab := []
def tfH : List He.Defn := [("law", none)]
def exR : PySem.W.Frag → Bool := fun K => initB K "BadText" "InkError" "at"
def exH : PySem.W.Frag → Bool := fun K => lamB K tfH && exR K
abbrev RH : PySem.W.OpenRow := PySem.W.OpenLaw.row PySem.Challenge.rw_layerink_k27_whole_webs_written_and_read
def asH : List Addr := PySem.cStatics :: 3 :: 6 :: 4 :: 24 :: 37 :: 56 :: 63 :: 70 :: 77 :: 84 :: 91 :: 98 :: 103 :: 110 :: 177 :: 224 :: 235 :: 242 :: 249 :: 254 :: 259 :: 264 :: 271 :: 278 :: 285 :: 292 :: 299 :: 0 :: 23 :: 36 :: 55 :: 62 :: 69 :: 76 :: 83 :: 90 :: 97 :: 102 :: 109 :: 176 :: 223 :: 234 :: 241 :: 248 :: 253 :: 258 :: 263 :: 270 :: 277 :: 284 :: 291 :: 298 :: 22 :: 25 :: 35 :: 53 :: 54 :: 59 :: 60 :: 61 :: 64 :: 65 :: 66 :: 67 :: 68 :: 71 :: 72 :: 73 :: 74 :: 75 :: 78 :: 79 :: 80 :: 81 :: 82 :: 85 :: 86 :: 87 :: 88 :: 89 :: 92 :: 93 :: 94 :: 95 :: 96 :: 99 :: 100 :: 101 :: 104 :: 105 :: 106 :: 107 :: 108 :: 124 :: 132 :: 139 :: 146 :: 153 :: 160 :: 167 :: 174 :: 175 :: 178 :: 179 :: 195 :: 200 :: 207 :: 214 :: 221 :: 222 :: 225 :: 226 :: 229 :: 230 :: 231 :: 232 :: 233 :: 236 :: 237 :: 238 :: 239 :: 240 :: 243 :: 244 :: 245 :: 246 :: 247 :: 250 :: 251 :: 252 :: 255 :: 256 :: 257 :: 260 :: 261 :: 262 :: 265 :: 266 :: 267 :: 268 :: 269 :: 272 :: 273 :: 274 :: 275 :: 276 :: 279 :: 280 :: 281 :: 282 :: 283 :: 286 :: 287 :: 288 :: 289 :: 290 :: 293 :: 294 :: 295 :: 296 :: 297 :: 52 :: 123 :: 131 :: 125 :: 138 :: 145 :: 152 :: 159 :: 166 :: 173 :: 194 :: 199 :: 206 :: 213 :: 220 :: 47 :: 48 :: 49 :: 50 :: 51 :: 118 :: 119 :: 120 :: 121 :: 122 :: 126 :: 127 :: 128 :: 129 :: 130 :: 133 :: 134 :: 135 :: 136 :: 137 :: 140 :: 141 :: 142 :: 143 :: 144 :: 147 :: 148 :: 149 :: 150 :: 151 :: 154 :: 155 :: 156 :: 157 :: 158 :: 161 :: 162 :: 163 :: 164 :: 165 :: 168 :: 169 :: 170 :: 171 :: 172 :: 189 :: 190 :: 191 :: 192 :: 193 :: 196 :: 197 :: 198 :: 201 :: 202 :: 203 :: 204 :: 205 :: 208 :: 209 :: 210 :: 211 :: 212 :: 215 :: 216 :: 217 :: 218 :: 219 :: []
abbrev hkH : PySem.W.Hook := Ink.hookL asH factsH fnsH tsH tfH exH
def obH (s : PySem.W.SharedT) : He.AlX := Ink.obsL asH factsH fnsH tsH tfH exH (HandSHeadRun.getT s)
theorem obH_eq (s : PySem.W.SharedT) : obH s = hkH.obs s.abs := Ink.obsL_eq (HandSHeadRun.getT_eq s)
def looseH : List PySem.Str := "InkError" :: "BadWeb" :: "BadText" :: "LETTERS" :: "LONGEST" :: "MOST_BOXES" :: "MOST_ARROWS" :: "MOST_SAYINGS" :: "MOST_LEAST" :: "MOST_WEIGHT" :: "MOST_FAR" :: "is_name" :: "is_least" :: "is_weight" :: "is_far" :: "is_arrow" :: "is_saying" :: "is_web" :: "need_web" :: "LEASTS" :: "WEIGHTS" :: "FIGURES" :: "Reader" :: "Draft" :: "read_statement" :: "read_web" :: "arrow_text" :: "web_text" :: "_law_alike" :: "_law_bag" :: "_law_drawn_web" :: "_law_names" :: "_law_pull" :: "_law_whole" :: []
open PySem.W HandSHeadRun in
theorem runA (w : World) : ∀ os : OsState, (endF (stepQ (denQ tabQ) RH.prog w) 4000 RH.prog w os).map (fun s => looksF RH.prog (boot_heap w.params) s.abs) = some true := by
  intro os
  kernel_rfl
open PySem.W HandSHeadRun in
theorem runB (w : World) : ∀ os : OsState, (endF (stepQ (denQ tabQ) RH.prog w) 4000 RH.prog w os).map (fun s => seenQ (view RH.prog [38]) looseH (importedModules RH.prog.main.body) (fun s => xlAt (view RH.prog [38]) [] s && recOk RH.toRowW.records s) s.abs) = some (openGood (view RH.prog [38]) looseH) := by
  intro os
  kernel_rfl
open PySem.W HandSHeadRun in
theorem runC (w : World) : ∀ os : OsState, (endF (stepQ (denQ tabQ) RH.prog w) 4000 RH.prog w os).map obH = some (hkH.val w) := by
  intro os
  kernel_rfl
theorem runH (w : World) : HandSHeadRun.RunEq RH (PySem.W.view RH.prog [38]) hkH obH 4000 looseH w := fun os => Ink.map3 (runA w os) (runB w os) (runC w os)
theorem txtH {K : PySem.W.Frag} {h : Heap} {mg : Str → Option Value} (X : K.In h) (G : h.Ns mainGlobals mg) (c : He.SaysD factsH fnsH K) : Txt K mg :=
  ⟨He.free_ok X G (c.fact 19 (f := .free "ValueError") rfl),
    He.free_ok X G (c.fact 20 (f := .free "abs") rfl),
    He.free_ok X G (c.fact 21 (f := .free "all") rfl),
    He.free_ok X G (c.fact 22 (f := .free "bool") rfl),
    He.free_ok X G (c.fact 23 (f := .free "int") rfl),
    He.free_ok X G (c.fact 24 (f := .free "isinstance") rfl),
    He.free_ok X G (c.fact 25 (f := .free "len") rfl),
    He.free_ok X G (c.fact 26 (f := .free "list") rfl),
    He.free_ok X G (c.fact 27 (f := .free "max") rfl),
    He.free_ok X G (c.fact 28 (f := .free "min") rfl),
    He.free_ok X G (c.fact 29 (f := .free "range") rfl),
    He.free_ok X G (c.fact 30 (f := .free "set") rfl),
    He.free_ok X G (c.fact 31 (f := .free "str") rfl),
    He.free_ok X G (c.fact 32 (f := .free "tuple") rfl),
    He.str_ok X G (c.fact 33 rfl),
    He.int_ok X G (c.fact 34 rfl),
    He.int_ok X G (c.fact 35 rfl),
    He.int_ok X G (c.fact 36 rfl),
    He.int_ok X G (c.fact 37 rfl),
    He.int_ok X G (c.fact 38 rfl),
    He.int_ok X G (c.fact 39 rfl),
    He.int_ok X G (c.fact 40 rfl),
    He.str_ok X G (c.fact 41 rfl),
    He.str_ok X G (c.fact 42 rfl),
    He.str_ok X G (c.fact 43 rfl),
    He.glo_ok X G (c.fact 44 (f := .glo "BadText") rfl),
    He.glo_ok X G (c.fact 45 (f := .glo "BadWeb") rfl),
    He.glo_ok X G (c.fact 46 (f := .glo "InkError") rfl),
    He.exc_ok (c.fact 47 (f := .exc "BadWeb") rfl),
    He.glo_ok X G (c.fact 48 (f := .glo "Reader") rfl),
    He.cls_ok (c.fact 49 (f := .cls "Reader") rfl),
    He.glo_ok X G (c.fact 50 (f := .glo "Draft") rfl),
    He.cls_ok (c.fact 51 (f := .cls "Draft") rfl),
    FdI.mk (He.cls_ok (c.fact 49 (f := .cls "Reader") rfl)) <| He.noat_ok (c.fact 52 (f := .noat "Reader" "text") rfl),
    FdI.mk (He.cls_ok (c.fact 49 (f := .cls "Reader") rfl)) <| He.noat_ok (c.fact 53 (f := .noat "Reader" "at") rfl),
    FdI.mk (He.cls_ok (c.fact 51 (f := .cls "Draft") rfl)) <| He.noat_ok (c.fact 54 (f := .noat "Draft" "known") rfl),
    FdI.mk (He.cls_ok (c.fact 51 (f := .cls "Draft") rfl)) <| He.noat_ok (c.fact 55 (f := .noat "Draft" "arrows") rfl),
    FdI.mk (He.cls_ok (c.fact 51 (f := .cls "Draft") rfl)) <| He.noat_ok (c.fact 56 (f := .noat "Draft" "sayings") rfl)⟩
theorem allH {P : Program} {w : World} {K : PySem.W.Frag} {h : Heap} {mg : Str → Option Value} {f : Addr} (X : K.In h) (G : h.Ns mainGlobals mg) (hfa : mg ("law" : Str) = some (.ref f)) (c : He.SaysD factsH fnsH K) (ct : He.SaysT factsH fnsH tsH w K) (hx : exH K = true) :
    ∃ fd : FuncData, (∀ (s : Shared) (v : Value), BindsTo s fd ⟨[v], []⟩ [("_law_script", v)]) ∧ ∀ base : Heap, K.In base → base.Ns mainGlobals mg → (∀ p ∈ tfH.map (He.cT K), LamX.TabB base mg p.1 p.2) → FnG P w K mg base (L2.CX P w) 9 f fd ["_law_script"] (spOf K m_law) := by
  have T := txtH X G c
  have hlam : lamB K tfH = true := (Bool.and_eq_true_iff.mp hx).1
  replace hx : exR K = true := (Bool.and_eq_true_iff.mp hx).2
  obtain ⟨fd_is_name, F_is_name⟩ := c.def_ 0 (d := d_is_name) rfl
  have g_is_name := He.glo_ok X G (c.fact 0 (f := .glo "is_name") rfl)
  obtain ⟨fd_is_least, F_is_least⟩ := c.def_ 1 (d := d_is_least) rfl
  have g_is_least := He.glo_ok X G (c.fact 1 (f := .glo "is_least") rfl)
  obtain ⟨fd_is_weight, F_is_weight⟩ := c.def_ 2 (d := d_is_weight) rfl
  have g_is_weight := He.glo_ok X G (c.fact 2 (f := .glo "is_weight") rfl)
  obtain ⟨fd_is_far, F_is_far⟩ := c.def_ 3 (d := d_is_far) rfl
  have g_is_far := He.glo_ok X G (c.fact 3 (f := .glo "is_far") rfl)
  obtain ⟨fd_is_arrow, F_is_arrow⟩ := c.def_ 4 (d := d_is_arrow) rfl
  have g_is_arrow := He.glo_ok X G (c.fact 4 (f := .glo "is_arrow") rfl)
  obtain ⟨fd_is_saying, F_is_saying⟩ := c.def_ 5 (d := d_is_saying) rfl
  have g_is_saying := He.glo_ok X G (c.fact 5 (f := .glo "is_saying") rfl)
  obtain ⟨fd_is_web, F_is_web⟩ := c.def_ 6 (d := d_is_web) rfl
  have g_is_web := He.glo_ok X G (c.fact 6 (f := .glo "is_web") rfl)
  obtain ⟨fd_need_web, F_need_web⟩ := c.def_ 7 (d := d_need_web) rfl
  have g_need_web := He.glo_ok X G (c.fact 7 (f := .glo "need_web") rfl)
  obtain ⟨fd_read_statement, F_read_statement⟩ := c.def_ 8 (d := d_read_statement) rfl
  have g_read_statement := He.glo_ok X G (c.fact 8 (f := .glo "read_statement") rfl)
  obtain ⟨fd_read_web, F_read_web⟩ := c.def_ 9 (d := d_read_web) rfl
  have g_read_web := He.glo_ok X G (c.fact 9 (f := .glo "read_web") rfl)
  obtain ⟨fd_arrow_text, F_arrow_text⟩ := c.def_ 10 (d := d_arrow_text) rfl
  have g_arrow_text := He.glo_ok X G (c.fact 10 (f := .glo "arrow_text") rfl)
  obtain ⟨fd_web_text, F_web_text⟩ := c.def_ 11 (d := d_web_text) rfl
  have g_web_text := He.glo_ok X G (c.fact 11 (f := .glo "web_text") rfl)
  obtain ⟨fd_law_alike, F_law_alike⟩ := c.def_ 12 (d := d_law_alike) rfl
  have g_law_alike := He.glo_ok X G (c.fact 12 (f := .glo "_law_alike") rfl)
  obtain ⟨fd_law_bag, F_law_bag⟩ := c.def_ 13 (d := d_law_bag) rfl
  have g_law_bag := He.glo_ok X G (c.fact 13 (f := .glo "_law_bag") rfl)
  obtain ⟨fd_law_drawn_web, F_law_drawn_web⟩ := c.def_ 14 (d := d_law_drawn_web) rfl
  have g_law_drawn_web := He.glo_ok X G (c.fact 14 (f := .glo "_law_drawn_web") rfl)
  obtain ⟨fd_law_names, F_law_names⟩ := c.def_ 15 (d := d_law_names) rfl
  have g_law_names := He.glo_ok X G (c.fact 15 (f := .glo "_law_names") rfl)
  obtain ⟨fd_law_pull, F_law_pull⟩ := c.def_ 16 (d := d_law_pull) rfl
  have g_law_pull := He.glo_ok X G (c.fact 16 (f := .glo "_law_pull") rfl)
  obtain ⟨fd_law_whole, F_law_whole⟩ := c.def_ 17 (d := d_law_whole) rfl
  have g_law_whole := He.glo_ok X G (c.fact 17 (f := .glo "_law_whole") rfl)
  obtain ⟨fd_law, F_law⟩ := c.def_ 18 (d := d_law) rfl
  have g_law := He.glo_ok X G (c.fact 18 (f := .glo "law") rfl)
  unfold exR at hx
  obtain ⟨fd_Reader___init__, F_Reader___init__⟩ := c.def_ 20 (d := d_Reader___init__) rfl
  have g_Reader___init__ := He.mkr_ok (c.fact 57 (f := .mkr "Reader") rfl)
  obtain ⟨fd_Reader_sign, F_Reader_sign⟩ := c.def_ 21 (d := d_Reader_sign) rfl
  have g_Reader_sign := He.meth_ok (c.fact 58 (f := .meth "Reader" "sign") rfl)
  obtain ⟨fd_Reader_bar, F_Reader_bar⟩ := c.def_ 22 (d := d_Reader_bar) rfl
  have g_Reader_bar := He.meth_ok (c.fact 59 (f := .meth "Reader" "bar") rfl)
  obtain ⟨fd_Reader_pass_blanks, F_Reader_pass_blanks⟩ := c.def_ 23 (d := d_Reader_pass_blanks) rfl
  have g_Reader_pass_blanks := He.meth_ok (c.fact 60 (f := .meth "Reader" "pass_blanks") rfl)
  obtain ⟨fd_Reader_take, F_Reader_take⟩ := c.def_ 24 (d := d_Reader_take) rfl
  have g_Reader_take := He.meth_ok (c.fact 61 (f := .meth "Reader" "take") rfl)
  obtain ⟨fd_Reader_name, F_Reader_name⟩ := c.def_ 25 (d := d_Reader_name) rfl
  have g_Reader_name := He.meth_ok (c.fact 62 (f := .meth "Reader" "name") rfl)
  obtain ⟨fd_Reader_group, F_Reader_group⟩ := c.def_ 26 (d := d_Reader_group) rfl
  have g_Reader_group := He.meth_ok (c.fact 63 (f := .meth "Reader" "group") rfl)
  obtain ⟨fd_Reader_link, F_Reader_link⟩ := c.def_ 27 (d := d_Reader_link) rfl
  have g_Reader_link := He.meth_ok (c.fact 64 (f := .meth "Reader" "link") rfl)
  obtain ⟨fd_Draft___init__, F_Draft___init__⟩ := c.def_ 28 (d := d_Draft___init__) rfl
  have g_Draft___init__ := He.mkr_ok (c.fact 65 (f := .mkr "Draft") rfl)
  obtain ⟨fd_Draft_seen, F_Draft_seen⟩ := c.def_ 29 (d := d_Draft_seen) rfl
  have g_Draft_seen := He.meth_ok (c.fact 66 (f := .meth "Draft" "seen") rfl)
  obtain ⟨fd_Draft_tie, F_Draft_tie⟩ := c.def_ 30 (d := d_Draft_tie) rfl
  have g_Draft_tie := He.meth_ok (c.fact 67 (f := .meth "Draft" "tie") rfl)
  obtain ⟨fd_Draft_linked, F_Draft_linked⟩ := c.def_ 31 (d := d_Draft_linked) rfl
  have g_Draft_linked := He.meth_ok (c.fact 68 (f := .meth "Draft" "linked") rfl)
  obtain ⟨fd_Draft_web, F_Draft_web⟩ := c.def_ 32 (d := d_Draft_web) rfl
  have g_Draft_web := He.meth_ok (c.fact 69 (f := .meth "Draft" "web") rfl)
  obtain ⟨fdi_BadText, Fi_BadText⟩ := c.def_ 19 (d := di_BadText) rfl
  have e := hfa.symm.trans g_law
  cases e
  have b := FunD.bindsA (ps := ["_law_script"]) F_law fun _ _ _ _ _ _ us hl => match us, hl with | [_], _ => rfl
  refine ⟨fd_law, fun s v => b s [v] rfl, fun base _ _ TB => ?_⟩
  have IF_BadText := I_BadText (P := P) (w := w) (base := base) T Fi_BadText (initB_ok hx)
  have w_is_name := G_is_name (P := P) (w := w) (base := base) T F_is_name g_is_name  
  have w_is_least := G_is_least (P := P) (w := w) (base := base) T F_is_least g_is_least  
  have w_is_weight := G_is_weight (P := P) (w := w) (base := base) T F_is_weight g_is_weight  
  have w_is_far := G_is_far (P := P) (w := w) (base := base) T F_is_far g_is_far  
  have w_Reader___init__ := G_Reader___init__ (P := P) (w := w) (base := base) T F_Reader___init__ g_Reader___init__  
  have w_Reader_sign := G_Reader_sign (P := P) (w := w) (base := base) T F_Reader_sign g_Reader_sign  
  have w_Reader_bar := G_Reader_bar (P := P) (w := w) (base := base) T F_Reader_bar g_Reader_bar IF_BadText 
  have w_Draft___init__ := G_Draft___init__ (P := P) (w := w) (base := base) T F_Draft___init__ g_Draft___init__  
  have w_Draft_seen := G_Draft_seen (P := P) (w := w) (base := base) T F_Draft_seen g_Draft_seen  
  have w_Draft_tie := G_Draft_tie (P := P) (w := w) (base := base) T F_Draft_tie g_Draft_tie  
  have w_Draft_web := G_Draft_web (P := P) (w := w) (base := base) T F_Draft_web g_Draft_web  
  have w_arrow_text := G_arrow_text (P := P) (w := w) (base := base) T F_arrow_text g_arrow_text  
  have w_law_bag := G_law_bag (P := P) (w := w) (base := base) T F_law_bag g_law_bag  
  have w_law_pull := G_law_pull (P := P) (w := w) (base := base) T F_law_pull g_law_pull  
  have w_law_whole := G_law_whole (P := P) (w := w) (base := base) T F_law_whole g_law_whole  
  have w_is_arrow := G_is_arrow (P := P) (w := w) (base := base) T F_is_arrow g_is_arrow  w_is_least w_is_weight
  have w_is_saying := G_is_saying (P := P) (w := w) (base := base) T F_is_saying g_is_saying  w_is_far
  have w_Reader_pass_blanks := G_Reader_pass_blanks (P := P) (w := w) (base := base) T F_Reader_pass_blanks g_Reader_pass_blanks  w_Reader_sign
  have w_Reader_take := G_Reader_take (P := P) (w := w) (base := base) T F_Reader_take g_Reader_take  w_Reader_sign
  have w_Draft_linked := G_Draft_linked (P := P) (w := w) (base := base) T F_Draft_linked g_Draft_linked  w_Draft_tie
  have w_law_alike := G_law_alike_n (P := P) (w := w) (base := base) T F_law_alike g_law_alike  w_law_whole 6
  have w_law_names := G_law_names (P := P) (w := w) (base := base) T F_law_names g_law_names  w_law_pull
  have w_is_web := G_is_web (P := P) (w := w) (base := base) T F_is_web g_is_web  w_is_arrow w_is_name w_is_saying
  have w_Reader_name := G_Reader_name (P := P) (w := w) (base := base) T F_Reader_name g_Reader_name  w_Reader_bar w_Reader_pass_blanks w_Reader_sign w_Reader_take
  have w_Reader_link := G_Reader_link (P := P) (w := w) (base := base) T F_Reader_link g_Reader_link  w_Reader_bar w_Reader_pass_blanks w_Reader_sign w_Reader_take
  have w_law_drawn_web := G_law_drawn_web (P := P) (w := w) (base := base) T F_law_drawn_web g_law_drawn_web  w_law_names w_law_pull
  have w_need_web := G_need_web (P := P) (w := w) (base := base) T F_need_web g_need_web  w_is_web
  have w_Reader_group := G_Reader_group (P := P) (w := w) (base := base) T F_Reader_group g_Reader_group  w_Reader_bar w_Reader_name w_Reader_pass_blanks w_Reader_take
  have w_read_statement := G_read_statement (P := P) (w := w) (base := base) T F_read_statement g_read_statement  w_Draft_linked w_Draft_seen w_Reader_group w_Reader_link
  have w_web_text := G_web_text (P := P) (w := w) (base := base) T F_web_text g_web_text  w_arrow_text w_need_web
  have w_read_web := G_read_web (P := P) (w := w) (base := base) T F_read_web g_read_web IF_BadText w_Draft___init__ w_Draft_web w_Reader___init__ w_Reader_bar w_Reader_pass_blanks w_Reader_sign w_Reader_take w_is_web w_read_statement
  have tm_law : (("law", none) : He.Defn) ∈ tfH := by simp [tfH]
  exact G_law T F_law rfl (TB _ (List.mem_map_of_mem tm_law)) (lamB_in hlam tm_law)  w_law_alike w_law_bag w_law_drawn_web w_law_pull w_read_web w_web_text
end
end Lw
section
open PySem PySem.W PySem.Calls PyProof.Rows
theorem PySem.Challenge.cw_layerink_k27_whole_webs_written_and_read_holds : PySem.Challenge.rw_layerink_k27_whole_webs_written_and_read.Holds := by
  w_on; o_law
  refine HandSHeadRun.head_any (r := PySem.W.OpenLaw.row PySem.Challenge.rw_layerink_k27_whole_webs_written_and_read) (q := PySem.W.view (PySem.W.OpenLaw.row PySem.Challenge.rw_layerink_k27_whole_webs_written_and_read).prog [38]) (H := Lw.hkH) (ob := Lw.obH) (M := 4000) (loose := Lw.looseH) (d := HandSHeadRun.topDef (PySem.W.OpenLaw.row PySem.Challenge.rw_layerink_k27_whole_webs_written_and_read).prog 38) (kwd := []) Lw.obH_eq (by kernel_rfl)
    (fun s => by kernel_rfl) Lw.runH (by kernel_rfl) (by kernel_rfl) (by kernel_rfl) (by rfl)
    (by first | assumption | decide +kernel) (by decide +kernel) ⟨rfl, rfl, rfl, rfl, rfl, by decide +kernel⟩ ?hw ?hc
  case hw => w_witness2
  case hc =>
    refine Ink.walkT (l := PySem.Challenge.rw_layerink_k27_whole_webs_written_and_read) (n := 63) (k := 9) (x := "_law_script") (CX := fun w => L2.CX (PySem.Challenge.rw_layerink_k27_whole_webs_written_and_read).prog w) rfl (by decide) (by kernel_rfl) ⟨rfl, by decide, by decide⟩ ?F (fun _ _ _ _ _ z => Ink.noCX z)
    intro w mg fa h Y G hm0
    obtain ⟨K, kx, c⟩ := Y
    have hm : mg ("law" : PySem.Str) = some (.ref fa) := by
      have e : (HandSHeadRun.topDef (PySem.W.OpenLaw.row PySem.Challenge.rw_layerink_k27_whole_webs_written_and_read).prog 38).name = ("law" : PySem.Str) := by kernel_rfl
      rw [← e]; exact hm0
    obtain ⟨fd, hb, hF⟩ := Lw.allH (P := (PySem.Challenge.rw_layerink_k27_whole_webs_written_and_read).prog) (w := w) kx G hm c.t.d c.t c.more
    have hlam : Ink.lamB K Lw.tfH = true := (Bool.and_eq_true_iff.mp c.more).1
    refine ⟨K, fd, Lw.tfH.map (He.cT K), Ink.spOf K Lw.m_law, kx, fun p hp => ?_, fun p hp => ?_, fun p hp => ?_, hb, fun H a ns _ hH hO hS => Ink.sp_law (Lw.law_ok ns) (fun p hp => ?_) (fun b ps e => ?_) hS, hF⟩
    · obtain ⟨q, hq, rfl⟩ := List.mem_map.mp hp; exact c.empty q hq
    · obtain ⟨q, hq, rfl⟩ := List.mem_map.mp hp; exact c.out q hq
    · obtain ⟨q, hq, rfl⟩ := List.mem_map.mp hp; exact PySem.W.codeHd_of_K kx (c.hd q hq)
    · obtain ⟨q, hq, rfl⟩ := Ink.lamB_at hlam hp; exact hH _ (List.mem_map_of_mem hq)
    · obtain ⟨p, hp, e2⟩ := hO b ps e
      obtain ⟨q, hq, rfl⟩ := List.mem_map.mp hp
      exact ⟨_, Ink.lamB_in hlam hq, e2⟩
end
