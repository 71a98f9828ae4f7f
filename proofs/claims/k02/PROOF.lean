import PyProof.Rows.All
import Wide.All
import OpenK.AllK
import Wide.FinOn
import HandS.Base
import HandS.Call
import HandS.List
import HandS.Comp
import HandS.Exc
import HandS.Dict
import HandS.Iter
import HandS.Text
import HandS.Lambda
import HandS.HeadHook4
import HandS.TupAny
import HandS.TupMul
import HandS.IsInst
import HandS.Wide
import HandS.Words
import HandS.WordsExc
import HandS.CallSlots
import HandS.Defaults
import HandS.Zip
import KE.GoesEnum
import KE.GoesEnumKw
import KE.GoesMore
import HandS.Strs
import HandS.EndTab
import HandS.Head0
import HandS.Head1
import HandS.Head2
import HandS.HeadEnd
import HandS.HeadHook1
import HandS.HeadHook2
import HandS.Style
import HandS.SetKeys
import HandS.Small
import KE.KDictLaws
import HandS.SortKw
import HandS.SortInts
import HandS.Conv
import HandS.NoneIn
import HandS.Deep
import HandS.MakeKw
import HandS.Flt
import HandS.ExcOwn
import HandS.ExcIs
import HandS.TryMany
import PyProof.ReprRoads
import HandS.SortOrd
import HandS.Sort
import HandS.Remove
import HandS.ExcInit
import HandS.ExcField
import PySem.Challenge.RW_layerink_k02_webs_refused_at_every_door
set_option Elab.async false
set_option linter.all false
set_option maxRecDepth 100000
namespace Ink
open PySem L2
/-- a lambda: its number, name, text, names, cells -/
structure LamD where
  ix : Nat
  q : Str
  ps : Arguments
  bd : Expr
  sc : Scope
  cl : List (Str × Addr)
/-- at p: the function object of the lambda l, its code at c -/
def LamO (p c : Addr) (l : LamD) : HO := .ext fun h => ∃ pm ctv : Value, h.get? p = some (PySem.W.kla_obj "<lambda>" l.q l.ps l.bd l.sc l.cl pm c ctv)
/-- plain data, never changed -/
inductive D where
  | non | bl (b : Bool) | int (i : Int) | str (x : Str)
  | lst (xs : List D) | tup (xs : List D)
  | dK (kvs : List (Key × D)) | dT (kvs : List (List Key × D))
  /-- a list of ints that is locked (the script) -/
  | scr (ns : List Int)
  | ins (C : Addr) (fs : List (Str × D))
  | lam (l : LamD)
/-- a tree of things that are owned (may be changed), its leaves plain data -/
inductive M where
  | fz (d : D)
  | lst (ms : List M)
  | tup (ms : List M)
  | dK (kvs : List (Key × M)) | dT (kvs : List (List Key × M))
  | ins (C : Addr) (fs : List (Str × M))
abbrev E := List (Option M)
abbrev Sub (F F' : Hp) : Prop := ∀ b o, F b = some o → F' b = some o
theorem Sub.refl (F : Hp) : Sub F F := fun _ _ h => h
theorem Sub.trans {F F1 F2 : Hp} (a : Sub F F1) (b : Sub F1 F2) : Sub F F2 := fun c o h => b c o (a c o h)
theorem Sub.rd {F F' : Hp} {p : Addr} {u : HO} (e : Sub F F') (h : Rd F p u) : Rd F' p u := by
  rcases h with h | ⟨o, h⟩
  · exact .inl (e _ _ h)
  · exact .inr ⟨o, e _ _ h⟩
theorem Sub.sql {K : PySem.W.Frag} {F F' : Hp} {p : Addr} {xs : List V} (e : Sub F F') (h : SqL K F p xs) : SqL K F' p xs := by
  rcases h with h | h
  · exact .inl (e.rd h)
  · exact .inr h
theorem Sub.sqt {K : PySem.W.Frag} {F F' : Hp} {p : Addr} {xs : List V} (e : Sub F F') (h : SqT K F p xs) : SqT K F' p xs := by
  rcases h with h | h
  · exact .inl (e.rd h)
  · exact .inr h
mutual
inductive Rep (K : PySem.W.Frag) (F : Hp) : V → D → Prop
  | non : Rep K F .non .non
  | bl (b : Bool) : Rep K F (.bl b) (.bl b)
  | int (i : Int) : Rep K F (.int i) (.int i)
  | str (x : Str) : Rep K F (.str x) (.str x)
  | lst {p : Addr} {vs : List V} {ds : List D} : F p = some (.lst vs) → Reps K F vs ds → Rep K F (.ref p) (.lst ds)
  | tup {p : Addr} {vs : List V} {ds : List D} : F p = some (.tup vs) → Reps K F vs ds → Rep K F (.ref p) (.tup ds)
  | dK {p : Addr} {kvs : List (Key × V)} {ds : List (Key × D)} : F p = some (.dK kvs) → kvs.map (·.1) = ds.map (·.1) → Reps K F (kvs.map (·.2)) (ds.map (·.2)) → Rep K F (.ref p) (.dK ds)
  | dT {p : Addr} {kvs : List (List Key × V)} {ds : List (List Key × D)} : F p = some (.dT kvs) → kvs.map (·.1) = ds.map (·.1) → Reps K F (kvs.map (·.2)) (ds.map (·.2)) → Rep K F (.ref p) (.dT ds)
  | scr {p : Addr} {ns : List Int} : SqL K F p (ns.map V.int) → Rep K F (.ref p) (.scr ns)
  | ins {p C dx : Addr} {fs : List (Str × V)} {ds : List (Str × D)} : F p = some (.ins C dx fs) → fs.map (·.1) = ds.map (·.1) → Reps K F (fs.map (·.2)) (ds.map (·.2)) → Rep K F (.ref p) (.ins C ds)
  | lam {p c : Addr} {l : LamD} : F p = some (LamO p c l) → F c = some (LamX.CodeO c l.q) → Rep K F (.ref p) (.lam l)
inductive Reps (K : PySem.W.Frag) (F : Hp) : List V → List D → Prop
  | nil : Reps K F [] []
  | cons {v : V} {vs : List V} {d : D} {ds : List D} : Rep K F v d → Reps K F vs ds → Reps K F (v :: vs) (d :: ds)
end
theorem Rep.mono {K : PySem.W.Frag} {F F' : Hp} (e : Sub F F') {v : V} {d : D} (h : Rep K F v d) : Rep K F' v d :=
  Rep.rec (K := K) (F := F) (motive_1 := fun v d _ => Rep K F' v d) (motive_2 := fun vs ds _ => Reps K F' vs ds)
    .non .bl .int .str (fun a _ q => .lst (e _ _ a) q) (fun a _ q => .tup (e _ _ a) q) (fun a b _ q => .dK (e _ _ a) b q) (fun a b _ q => .dT (e _ _ a) b q) (fun a => .scr (e.sql a)) (fun a b _ q => .ins (e _ _ a) b q) (fun a b => .lam (e _ _ a) (e _ _ b)) .nil (fun _ _ a b => .cons a b) h
theorem Reps.mono {K : PySem.W.Frag} {F F' : Hp} (e : Sub F F') {vs : List V} {ds : List D} (h : Reps K F vs ds) : Reps K F' vs ds := by
  induction ds generalizing vs with
  | nil => cases h; exact .nil
  | cons d ds ih => cases h with | cons a b => exact .cons (a.mono e) (ih b)
theorem Reps.length {K : PySem.W.Frag} {F : Hp} {vs : List V} {ds : List D} (h : Reps K F vs ds) : vs.length = ds.length := by
  induction ds generalizing vs with
  | nil => cases h; rfl
  | cons d ds ih => cases h with | cons a b => simp [ih b]
theorem Reps.get {K : PySem.W.Frag} {F : Hp} {vs : List V} {ds : List D} (h : Reps K F vs ds) {i : Nat} {d : D} (e : ds[i]? = some d) : ∃ v, vs[i]? = some v ∧ Rep K F v d := by
  induction ds generalizing vs i with
  | nil => simp at e
  | cons x ds ih =>
    cases h with
    | cons a b =>
      cases i with
      | zero => simp at e; subst e; exact ⟨_, rfl, a⟩
      | succ i => simp at e; obtain ⟨v, h1, h2⟩ := ih b e; exact ⟨v, by simpa using h1, h2⟩
theorem Reps.append {K : PySem.W.Frag} {F : Hp} {vs ws : List V} {ds es : List D} (h : Reps K F vs ds) (h2 : Reps K F ws es) : Reps K F (vs ++ ws) (ds ++ es) := by
  induction ds generalizing vs with
  | nil => cases h; exact h2
  | cons d ds ih => cases h with | cons a b => exact .cons a (ih b)
theorem Reps.take {K : PySem.W.Frag} {F : Hp} {vs : List V} {ds : List D} (h : Reps K F vs ds) (n : Nat) : Reps K F (vs.take n) (ds.take n) := by
  induction ds generalizing vs n with
  | nil => cases h; simp; exact .nil
  | cons d ds ih => cases h with | cons a b => cases n with
    | zero => simp; exact .nil
    | succ n => simp; exact .cons a (ih b n)
theorem Reps.drop {K : PySem.W.Frag} {F : Hp} {vs : List V} {ds : List D} (h : Reps K F vs ds) (n : Nat) : Reps K F (vs.drop n) (ds.drop n) := by
  induction ds generalizing vs n with
  | nil => cases h; simp; exact .nil
  | cons d ds ih => cases h with | cons a b => cases n with
    | zero => simp; exact .cons a b
    | succ n => simp; exact ih b n
theorem Reps.reverse {K : PySem.W.Frag} {F : Hp} {vs : List V} {ds : List D} (h : Reps K F vs ds) : Reps K F vs.reverse ds.reverse := by
  induction ds generalizing vs with
  | nil => cases h; exact .nil
  | cons d ds ih => cases h with | cons a b => rw [List.reverse_cons, List.reverse_cons]; exact (ih b).append (.cons a .nil)
theorem Reps.of {K : PySem.W.Frag} {F : Hp} : ∀ {vs : List V} {ds : List D}, vs.length = ds.length → (∀ (i : Nat) v d, vs[i]? = some v → ds[i]? = some d → Rep K F v d) → Reps K F vs ds
  | [], [], _, _ => .nil
  | [], _ :: _, e, _ => by simp at e
  | _ :: _, [], e, _ => by simp at e
  | v :: vs, d :: ds, e, h => .cons (h 0 v d rfl rfl) (Reps.of (by simpa using e) fun i v d a b => h (i + 1) v d (by simpa using a) (by simpa using b))
mutual
inductive RepM (K : PySem.W.Frag) (F H : Hp) : M → V → List Addr → Prop
  | fz {d : D} {v : V} : Rep K F v d → RepM K F H (.fz d) v []
  | lst {p : Addr} {vs : List V} {ms : List M} {fp : List Addr} : H p = some (.lst vs) → F p = none → RepMs K F H ms vs fp → p ∉ fp → RepM K F H (.lst ms) (.ref p) (p :: fp)
  | tup {p : Addr} {vs : List V} {ms : List M} {fp : List Addr} : H p = some (.tup vs) → F p = none → RepMs K F H ms vs fp → p ∉ fp → RepM K F H (.tup ms) (.ref p) (p :: fp)
  | dK {p : Addr} {kvs : List (Key × V)} {ms : List (Key × M)} {fp : List Addr} : H p = some (.dK kvs) → F p = none → kvs.map (·.1) = ms.map (·.1) → RepMs K F H (ms.map (·.2)) (kvs.map (·.2)) fp → p ∉ fp → RepM K F H (.dK ms) (.ref p) (p :: fp)
  | dT {p : Addr} {kvs : List (List Key × V)} {ms : List (List Key × M)} {fp : List Addr} : H p = some (.dT kvs) → F p = none → kvs.map (·.1) = ms.map (·.1) → RepMs K F H (ms.map (·.2)) (kvs.map (·.2)) fp → p ∉ fp → RepM K F H (.dT ms) (.ref p) (p :: fp)
  | ins {p C dx : Addr} {fs : List (Str × V)} {ms : List (Str × M)} {fp : List Addr} : H p = some (.ins C dx fs) → F p = none → fs.map (·.1) = ms.map (·.1) → RepMs K F H (ms.map (·.2)) (fs.map (·.2)) fp → p ∉ fp → RepM K F H (.ins C ms) (.ref p) (p :: fp)
inductive RepMs (K : PySem.W.Frag) (F H : Hp) : List M → List V → List Addr → Prop
  | nil : RepMs K F H [] [] []
  | cons {m : M} {v : V} {ms : List M} {vs : List V} {fp fq : List Addr} : RepM K F H m v fp → RepMs K F H ms vs fq → (∀ b ∈ fp, b ∉ fq) → RepMs K F H (m :: ms) (v :: vs) (fp ++ fq)
end
theorem RepM.frame {K : PySem.W.Frag} {F H F' H' : Hp} {m : M} {v : V} {fp : List Addr} (h : RepM K F H m v fp) (e : Sub F F') (hH : ∀ b ∈ fp, H' b = H b) (hN : ∀ b ∈ fp, F' b = none) : RepM K F' H' m v fp := by
  refine RepM.rec (K := K) (F := F) (H := H) (motive_1 := fun m v fp _ => (∀ b ∈ fp, H' b = H b) → (∀ b ∈ fp, F' b = none) → RepM K F' H' m v fp) (motive_2 := fun ms vs fp _ => (∀ b ∈ fp, H' b = H b) → (∀ b ∈ fp, F' b = none) → RepMs K F' H' ms vs fp)
    ?_ ?_ ?_ ?_ ?_ ?_ ?_ ?_ h hH hN
  · exact fun r _ _ => .fz (r.mono e)
  · exact fun a b _ n ih hH hN => .lst (by rw [hH _ (List.mem_cons_self ..)]; exact a) (hN _ (List.mem_cons_self ..)) (ih (fun b hb => hH b (List.mem_cons_of_mem _ hb)) fun b hb => hN b (List.mem_cons_of_mem _ hb)) n
  · exact fun a b _ n ih hH hN => .tup (by rw [hH _ (List.mem_cons_self ..)]; exact a) (hN _ (List.mem_cons_self ..)) (ih (fun b hb => hH b (List.mem_cons_of_mem _ hb)) fun b hb => hN b (List.mem_cons_of_mem _ hb)) n
  · exact fun a b c _ n ih hH hN => .dK (by rw [hH _ (List.mem_cons_self ..)]; exact a) (hN _ (List.mem_cons_self ..)) c (ih (fun b hb => hH b (List.mem_cons_of_mem _ hb)) fun b hb => hN b (List.mem_cons_of_mem _ hb)) n
  · exact fun a b c _ n ih hH hN => .dT (by rw [hH _ (List.mem_cons_self ..)]; exact a) (hN _ (List.mem_cons_self ..)) c (ih (fun b hb => hH b (List.mem_cons_of_mem _ hb)) fun b hb => hN b (List.mem_cons_of_mem _ hb)) n
  · exact fun a b c _ n ih hH hN => .ins (by rw [hH _ (List.mem_cons_self ..)]; exact a) (hN _ (List.mem_cons_self ..)) c (ih (fun b hb => hH b (List.mem_cons_of_mem _ hb)) fun b hb => hN b (List.mem_cons_of_mem _ hb)) n
  · exact fun _ _ => .nil
  · exact fun _ _ dj i1 i2 hH hN => .cons (i1 (fun b hb => hH b (List.mem_append_left _ hb)) fun b hb => hN b (List.mem_append_left _ hb)) (i2 (fun b hb => hH b (List.mem_append_right _ hb)) fun b hb => hN b (List.mem_append_right _ hb)) dj
theorem RepMs.frame {K : PySem.W.Frag} {F H F' H' : Hp} {ms : List M} {vs : List V} {fp : List Addr} (h : RepMs K F H ms vs fp) (e : Sub F F') (hH : ∀ b ∈ fp, H' b = H b) (hN : ∀ b ∈ fp, F' b = none) : RepMs K F' H' ms vs fp := by
  induction ms generalizing vs fp with
  | nil => cases h; exact .nil
  | cons m ms ih => cases h with | cons a b dj =>
    exact .cons (a.frame e (fun b hb => hH b (List.mem_append_left _ hb)) fun b hb => hN b (List.mem_append_left _ hb)) (ih b (fun b hb => hH b (List.mem_append_right _ hb)) fun b hb => hN b (List.mem_append_right _ hb)) dj
theorem RepM.live {K : PySem.W.Frag} {F H : Hp} {m : M} {v : V} {fp : List Addr} (h : RepM K F H m v fp) : ∀ b ∈ fp, (∃ o, H b = some o) ∧ F b = none := by
  refine RepM.rec (K := K) (F := F) (H := H) (motive_1 := fun m v fp _ => ∀ b ∈ fp, (∃ o, H b = some o) ∧ F b = none) (motive_2 := fun ms vs fp _ => ∀ b ∈ fp, (∃ o, H b = some o) ∧ F b = none)
    ?_ ?_ ?_ ?_ ?_ ?_ ?_ ?_ h
  · exact fun _ b hb => by cases hb
  · exact fun a f _ n ih b hb => by
      rcases List.mem_cons.mp hb with rfl | hb
      · exact ⟨⟨_, a⟩, f⟩
      · exact ih b hb
  · exact fun a f _ n ih b hb => by
      rcases List.mem_cons.mp hb with rfl | hb
      · exact ⟨⟨_, a⟩, f⟩
      · exact ih b hb
  · exact fun a f _ _ n ih b hb => by
      rcases List.mem_cons.mp hb with rfl | hb
      · exact ⟨⟨_, a⟩, f⟩
      · exact ih b hb
  · exact fun a f _ _ n ih b hb => by
      rcases List.mem_cons.mp hb with rfl | hb
      · exact ⟨⟨_, a⟩, f⟩
      · exact ih b hb
  · exact fun a f _ _ n ih b hb => by
      rcases List.mem_cons.mp hb with rfl | hb
      · exact ⟨⟨_, a⟩, f⟩
      · exact ih b hb
  · exact fun b hb => by cases hb
  · exact fun _ _ dj i1 i2 b hb => by
      rcases List.mem_append.mp hb with hb | hb
      · exact i1 b hb
      · exact i2 b hb
theorem RepMs.live {K : PySem.W.Frag} {F H : Hp} {ms : List M} {vs : List V} {fp : List Addr} (h : RepMs K F H ms vs fp) : ∀ b ∈ fp, (∃ o, H b = some o) ∧ F b = none := by
  induction ms generalizing vs fp with
  | nil => cases h; intro b hb; cases hb
  | cons m ms ih => cases h with | cons a b dj =>
    intro b hb
    rcases List.mem_append.mp hb with hb | hb
    · exact a.live b hb
    · exact ih (by assumption) b hb
theorem RepMs.length {K : PySem.W.Frag} {F H : Hp} {ms : List M} {vs : List V} {fp : List Addr} (h : RepMs K F H ms vs fp) : vs.length = ms.length := by
  induction ms generalizing vs fp with
  | nil => cases h; rfl
  | cons m ms ih => cases h with | cons a b dj => simp [ih b]
def NT (o : HO) : Prop := ∀ ps, o ≠ .tbl ps
/-- the kinds of objects that are owned -/
def Kin (o : HO) : Prop := (∃ xs, o = .lst xs) ∨ (∃ xs, o = .tup xs) ∨ (∃ kvs, o = .dK kvs) ∨ (∃ kvs, o = .dT kvs) ∨ ∃ C dx fs, o = .ins C dx fs
theorem Kin.nt {o : HO} (h : Kin o) : NT o := fun ps e => by
  rcases h with ⟨_, h⟩ | ⟨_, h⟩ | ⟨_, h⟩ | ⟨_, h⟩ | ⟨_, _, _, h⟩ <;> rw [h] at e <;> cases e
theorem Kin.nc {o : HO} (h : Kin o) (c : Addr) (q : Str) : o ≠ LamX.CodeO c q := fun e => by
  unfold LamX.CodeO at e
  rcases h with ⟨_, h⟩ | ⟨_, h⟩ | ⟨_, h⟩ | ⟨_, h⟩ | ⟨_, _, _, h⟩ <;> rw [h] at e <;> cases e
/-- the def whose text has lambdas; k02 has another one -/
abbrev lawN : Str := "_law_web_door"
/-- the defs that make lambdas -/
def LN : List He.Defn := [(lawN, none)]
def TL (K : PySem.W.Frag) : List (Addr × Str) := LN.map fun p => ((He.cT K p).2, (p.1 ++ ".<locals>.") ++ "<lambda>")
theorem RepM.kin {K : PySem.W.Frag} {F H : Hp} {m : M} {v : V} {fp : List Addr} (h : RepM K F H m v fp) : ∀ b ∈ fp, ∃ o, H b = some o ∧ Kin o := by
  refine RepM.rec (K := K) (F := F) (H := H) (motive_1 := fun m v fp _ => ∀ b ∈ fp, ∃ o, H b = some o ∧ Kin o) (motive_2 := fun ms vs fp _ => ∀ b ∈ fp, ∃ o, H b = some o ∧ Kin o)
    ?_ ?_ ?_ ?_ ?_ ?_ ?_ ?_ h
  · exact fun _ b hb => by cases hb
  · exact fun a f _ n ih b hb => by
      rcases List.mem_cons.mp hb with rfl | hb
      · exact ⟨_, a, .inl ⟨_, rfl⟩⟩
      · exact ih b hb
  · exact fun a f _ n ih b hb => by
      rcases List.mem_cons.mp hb with rfl | hb
      · exact ⟨_, a, .inr (.inl ⟨_, rfl⟩)⟩
      · exact ih b hb
  · exact fun a f _ _ n ih b hb => by
      rcases List.mem_cons.mp hb with rfl | hb
      · exact ⟨_, a, .inr (.inr (.inl ⟨_, rfl⟩))⟩
      · exact ih b hb
  · exact fun a f _ _ n ih b hb => by
      rcases List.mem_cons.mp hb with rfl | hb
      · exact ⟨_, a, .inr (.inr (.inr (.inl ⟨_, rfl⟩)))⟩
      · exact ih b hb
  · exact fun a f _ _ n ih b hb => by
      rcases List.mem_cons.mp hb with rfl | hb
      · exact ⟨_, a, .inr (.inr (.inr (.inr ⟨_, _, _, rfl⟩)))⟩
      · exact ih b hb
  · exact fun b hb => by cases hb
  · exact fun _ _ dj i1 i2 b hb => by
      rcases List.mem_append.mp hb with hb | hb
      · exact i1 b hb
      · exact i2 b hb
theorem RepMs.kin {K : PySem.W.Frag} {F H : Hp} {ms : List M} {vs : List V} {fp : List Addr} (h : RepMs K F H ms vs fp) : ∀ b ∈ fp, ∃ o, H b = some o ∧ Kin o := by
  induction ms generalizing vs fp with
  | nil => cases h; intro b hb; cases hb
  | cons m ms ih => cases h with | cons a b dj =>
    intro b hb
    rcases List.mem_append.mp hb with hb | hb
    · exact a.kin b hb
    · exact ih (by assumption) b hb
theorem RepM.nt {K : PySem.W.Frag} {F H : Hp} {m : M} {v : V} {fp : List Addr} (h : RepM K F H m v fp) {b : Addr} {o : HO} (hb : b ∈ fp) (ho : H b = some o) : NT o := by
  obtain ⟨u, hu, k⟩ := h.kin b hb
  rw [ho] at hu; cases hu
  exact k.nt
theorem RepMs.nt {K : PySem.W.Frag} {F H : Hp} {m : List M} {v : List V} {fp : List Addr} (h : RepMs K F H m v fp) {b : Addr} {o : HO} (hb : b ∈ fp) (ho : H b = some o) : NT o := by
  obtain ⟨u, hu, k⟩ := h.kin b hb
  rw [ho] at hu; cases hu
  exact k.nt
mutual
def frz : M → Option D
  | .fz d => some d
  | .lst ms => match frzs ms with
    | some ds => some (.lst ds)
    | none => none
  | .tup ms => match frzs ms with
    | some ds => some (.tup ds)
    | none => none
  | .dK kvs => match frzK kvs with
    | some ds => some (.dK ds)
    | none => none
  | .dT kvs => match frzT kvs with
    | some ds => some (.dT ds)
    | none => none
  | .ins C fs => match frzF fs with
    | some ds => some (.ins C ds)
    | none => none
def frzs : List M → Option (List D)
  | [] => some []
  | m :: ms => match frz m with
    | some d => match frzs ms with
      | some ds => some (d :: ds)
      | none => none
    | none => none
def frzK : List (Key × M) → Option (List (Key × D))
  | [] => some []
  | (k, m) :: ms => match frz m with
    | some d => match frzK ms with
      | some ds => some ((k, d) :: ds)
      | none => none
    | none => none
def frzT : List (List Key × M) → Option (List (List Key × D))
  | [] => some []
  | (k, m) :: ms => match frz m with
    | some d => match frzT ms with
      | some ds => some ((k, d) :: ds)
      | none => none
    | none => none
def frzF : List (Str × M) → Option (List (Str × D))
  | [] => some []
  | (k, m) :: ms => match frz m with
    | some d => match frzF ms with
      | some ds => some ((k, d) :: ds)
      | none => none
    | none => none
end
theorem frzK_vals : ∀ {kvs : List (Key × M)} {ds : List (Key × D)}, frzK kvs = some ds → kvs.map (·.1) = ds.map (·.1) ∧ frzs (kvs.map (·.2)) = some (ds.map (·.2))
  | [], ds, h => by rw [frzK] at h; cases h; exact ⟨rfl, by simp [frzs]⟩
  | (k, m) :: r, ds, h => by
    rw [frzK] at h
    cases e : frz m with
    | none => rw [e] at h; cases h
    | some d =>
      rw [e] at h
      cases e2 : frzK r with
      | none => rw [e2] at h; cases h
      | some es =>
        rw [e2] at h; cases h
        obtain ⟨a, b⟩ := frzK_vals e2
        exact ⟨by simp [a], by simp only [List.map_cons, frzs, e, b]⟩
theorem frzT_vals : ∀ {kvs : List (List Key × M)} {ds : List (List Key × D)}, frzT kvs = some ds → kvs.map (·.1) = ds.map (·.1) ∧ frzs (kvs.map (·.2)) = some (ds.map (·.2))
  | [], ds, h => by rw [frzT] at h; cases h; exact ⟨rfl, by simp [frzs]⟩
  | (k, m) :: r, ds, h => by
    rw [frzT] at h
    cases e : frz m with
    | none => rw [e] at h; cases h
    | some d =>
      rw [e] at h
      cases e2 : frzT r with
      | none => rw [e2] at h; cases h
      | some es =>
        rw [e2] at h; cases h
        obtain ⟨a, b⟩ := frzT_vals e2
        exact ⟨by simp [a], by simp only [List.map_cons, frzs, e, b]⟩
theorem frzF_vals : ∀ {kvs : List (Str × M)} {ds : List (Str × D)}, frzF kvs = some ds → kvs.map (·.1) = ds.map (·.1) ∧ frzs (kvs.map (·.2)) = some (ds.map (·.2))
  | [], ds, h => by rw [frzF] at h; cases h; exact ⟨rfl, by simp [frzs]⟩
  | (k, m) :: r, ds, h => by
    rw [frzF] at h
    cases e : frz m with
    | none => rw [e] at h; cases h
    | some d =>
      rw [e] at h
      cases e2 : frzF r with
      | none => rw [e2] at h; cases h
      | some es =>
        rw [e2] at h; cases h
        obtain ⟨a, b⟩ := frzF_vals e2
        exact ⟨by simp [a], by simp only [List.map_cons, frzs, e, b]⟩
theorem RepM.frozen {K : PySem.W.Frag} {F H F' : Hp} {m : M} {v : V} {fp : List Addr} {d : D} (h : RepM K F H m v fp) (e : Sub F F') (hF : ∀ b ∈ fp, F' b = H b) (hd : frz m = some d) : Rep K F' v d := by
  refine RepM.rec (K := K) (F := F) (H := H) (motive_1 := fun m v fp _ => ∀ d, (∀ b ∈ fp, F' b = H b) → frz m = some d → Rep K F' v d) (motive_2 := fun ms vs fp _ => ∀ ds, (∀ b ∈ fp, F' b = H b) → frzs ms = some ds → Reps K F' vs ds)
    ?_ ?_ ?_ ?_ ?_ ?_ ?_ ?_ h d hF hd
  · intro d v r d' _ hd
    rw [frz] at hd; cases hd
    exact r.mono e
  · intro p vs ms fp a b _ n ih d hF hd
    rw [frz] at hd
    cases e2 : frzs ms with
    | none => rw [e2] at hd; cases hd
    | some ds =>
      rw [e2] at hd; cases hd
      exact .lst (by rw [hF _ (List.mem_cons_self ..)]; exact a) (ih ds (fun b hb => hF b (List.mem_cons_of_mem _ hb)) e2)
  · intro p vs ms fp a b _ n ih d hF hd
    rw [frz] at hd
    cases e2 : frzs ms with
    | none => rw [e2] at hd; cases hd
    | some ds =>
      rw [e2] at hd; cases hd
      exact .tup (by rw [hF _ (List.mem_cons_self ..)]; exact a) (ih ds (fun b hb => hF b (List.mem_cons_of_mem _ hb)) e2)
  · intro p kvs ms fp a b c _ n ih d hF hd
    rw [frz] at hd
    cases e2 : frzK ms with
    | none => rw [e2] at hd; cases hd
    | some ds =>
      rw [e2] at hd; cases hd
      obtain ⟨k1, k2⟩ := frzK_vals e2
      exact .dK (by rw [hF _ (List.mem_cons_self ..)]; exact a) (c.trans k1) (ih _ (fun b hb => hF b (List.mem_cons_of_mem _ hb)) k2)
  · intro p kvs ms fp a b c _ n ih d hF hd
    rw [frz] at hd
    cases e2 : frzT ms with
    | none => rw [e2] at hd; cases hd
    | some ds =>
      rw [e2] at hd; cases hd
      obtain ⟨k1, k2⟩ := frzT_vals e2
      exact .dT (by rw [hF _ (List.mem_cons_self ..)]; exact a) (c.trans k1) (ih _ (fun b hb => hF b (List.mem_cons_of_mem _ hb)) k2)
  · intro p C dx fs ms fp a b c _ n ih d hF hd
    rw [frz] at hd
    cases e2 : frzF ms with
    | none => rw [e2] at hd; cases hd
    | some ds =>
      rw [e2] at hd; cases hd
      obtain ⟨k1, k2⟩ := frzF_vals e2
      exact .ins (by rw [hF _ (List.mem_cons_self ..)]; exact a) (c.trans k1) (ih _ (fun b hb => hF b (List.mem_cons_of_mem _ hb)) k2)
  · intro ds _ hd
    rw [frzs] at hd; cases hd
    exact .nil
  · intro m v ms vs fp fq _ _ dj i1 i2 ds hF hd
    rw [frzs] at hd
    cases e1 : frz m with
    | none => rw [e1] at hd; cases hd
    | some d =>
      rw [e1] at hd
      cases e2 : frzs ms with
      | none => rw [e2] at hd; cases hd
      | some es =>
        rw [e2] at hd; cases hd
        exact .cons (i1 d (fun b hb => hF b (List.mem_append_left _ hb)) e1) (i2 es (fun b hb => hF b (List.mem_append_right _ hb)) e2)
/-- F with what H holds at fp -/
def addF (F H : Hp) (fp : List Addr) : Hp := fun b => if b ∈ fp then H b else F b
theorem addF_in {F H : Hp} {fp : List Addr} {b : Addr} (h : b ∈ fp) : addF F H fp b = H b := by unfold addF; rw [if_pos h]
theorem addF_out {F H : Hp} {fp : List Addr} {b : Addr} (h : b ∉ fp) : addF F H fp b = F b := by unfold addF; rw [if_neg h]
theorem addF_sub {F H : Hp} {fp : List Addr} (h : ∀ b ∈ fp, F b = none) : Sub F (addF F H fp) := fun b o e => by
  by_cases hb : b ∈ fp
  · rw [h b hb] at e; cases e
  · rw [addF_out hb]; exact e
theorem addF_in_H {F H : Hp} {fp : List Addr} (h : Sub F H) : Sub (addF F H fp) H := fun b o e => by
  by_cases hb : b ∈ fp
  · rw [addF_in hb] at e; exact e
  · rw [addF_out hb] at e; exact h b o e
/-- tables of code objects: F has none, those of H are the known ones -/
structure TOk (K : PySem.W.Frag) (F H : Hp) : Prop where
  nt : ∀ b ps, F b ≠ some (.tbl ps)
  tb : ∀ p ∈ TL K, LamX.TabS H p.1 p.2
  ot : ∀ b ps, H b = some (.tbl ps) → ∃ p ∈ TL K, p.1 = b
  cd : ∀ p ∈ TL K, ∀ ps, H p.1 = some (.tbl ps) → ∀ (pos : Pos) (cv : Value), codeAmong pos ps.toList = some cv → ∃ c, cv = .ref c ∧ F c = some (LamX.CodeO c p.2)
theorem TOk.sub {K : PySem.W.Frag} {F F' H : Hp} (t : TOk K F H) (s : Sub F F') (nt : ∀ b ps, F' b ≠ some (.tbl ps)) : TOk K F' H := ⟨nt, t.tb, t.ot, fun p hp ps h pos cv hc => let ⟨c, e1, e2⟩ := t.cd p hp ps h pos cv hc; ⟨c, e1, s _ _ e2⟩⟩
structure TTr (K : PySem.W.Frag) (F H F' H' : Hp) : Prop where
  tbl : ∀ b ps, H b = some (.tbl ps) → ∃ ps', H' b = some (.tbl ps')
  ok : TOk K F H → TOk K F' H'
structure Ext (K : PySem.W.Frag) (F H : Hp) (A : Addr → Prop) (F' H' : Hp) (A' : Addr → Prop) : Prop where
  ff : Sub F F'
  keep : ∀ b o, H b = some o → ¬ A b → NT o → H' b = some o
  own : ∀ b, A' b → A b ∨ H b = none
  fz : ∀ b o, F' b = some o → F b = some o ∨ A b ∨ H b = none
  tt : TTr K F H F' H'
theorem TTr.same {K : PySem.W.Frag} {F F' H : Hp} (s : Sub F F') (nt : (∀ b ps, F b ≠ some (.tbl ps)) → ∀ b ps, F' b ≠ some (.tbl ps)) : TTr K F H F' H := ⟨fun _ ps h => ⟨ps, h⟩, fun t => t.sub s (nt t.nt)⟩
theorem Ext.refl {K : PySem.W.Frag} {F H : Hp} {A A' : Addr → Prop} (h : ∀ b, A' b → A b) : Ext K F H A F H A' := ⟨Sub.refl _, fun _ _ h _ _ => h, fun b a => .inl (h b a), fun _ _ h => .inl h, .same (Sub.refl _) fun h => h⟩
theorem Ext.back {K : PySem.W.Frag} {F H F' H' : Hp} {A A' : Addr → Prop} (e : Ext K F H A F' H' A') {b : Addr} (h : H' b = none) : A b ∨ H b = none := by
  by_cases a : A b
  · exact .inl a
  · cases q : H b with
    | none => exact .inr rfl
    | some o =>
      by_cases n : NT o
      · rw [e.keep b o q a n] at h; cases h
      · obtain ⟨ps, rfl⟩ : ∃ ps, o = .tbl ps := Classical.not_forall.mp n |>.imp fun ps z => Classical.not_not.mp z
        obtain ⟨ps', q'⟩ := e.tt.tbl b ps q
        rw [q'] at h; cases h
theorem TTr.trans {K : PySem.W.Frag} {F H F1 H1 F2 H2 : Hp} (a : TTr K F H F1 H1) (b : TTr K F1 H1 F2 H2) : TTr K F H F2 H2 := ⟨fun c ps h => let ⟨ps', h'⟩ := a.tbl c ps h; b.tbl c ps' h', fun t => b.ok (a.ok t)⟩
theorem Ext.trans {K : PySem.W.Frag} {F H F1 H1 F2 H2 : Hp} {A A1 B A2 C : Addr → Prop} (e1 : Ext K F H A F1 H1 A1) (e2 : Ext K F1 H1 B F2 H2 A2) (hB : ∀ b, B b → A1 b) (hC : ∀ b, C b → A2 b ∨ A1 b) : Ext K F H A F2 H2 C where
  ff := e1.ff.trans e2.ff
  keep := fun b o h a n => e2.keep b o (e1.keep b o h a n) (fun hb => by
    rcases e1.own b (hB b hb) with q | q
    · exact a q
    · rw [q] at h; cases h) n
  own := fun b c => by
    rcases hC b c with q | q
    · rcases e2.own b q with q | q
      · exact e1.own b (hB b q)
      · exact e1.back q
    · exact e1.own b q
  fz := fun b o h => by
    rcases e2.fz b o h with q | q | q
    · exact e1.fz b o q
    · exact .inr (e1.own b (hB b q))
    · exact .inr (e1.back q)
  tt := e1.tt.trans e2.tt
theorem Ext.weak {K : PySem.W.Frag} {F H F1 H1 : Hp} {A A1 C : Addr → Prop} (e1 : Ext K F H A F1 H1 A1) (hC : ∀ b, C b → A1 b) : Ext K F H A F1 H1 C := ⟨e1.ff, e1.keep, fun b c => e1.own b (hC b c), e1.fz, e1.tt⟩
/-- a larger set at the start -/
theorem Ext.wide {K : PySem.W.Frag} {F H F1 H1 : Hp} {A A1 C : Addr → Prop} (e1 : Ext K F H A F1 H1 A1) (hC : ∀ b, A b → C b) : Ext K F H C F1 H1 A1 :=
  ⟨e1.ff, fun b o h c => e1.keep b o h fun a => c (hC b a), fun b c => (e1.own b c).imp (hC b) id, fun b o h => (e1.fz b o h).imp id fun q => q.imp (hC b) id, e1.tt⟩
theorem pendM {K : PySem.W.Frag} {F1 H1 F2 H2 : Hp} {m : M} {v : V} {fp : List Addr} {B A2 : Addr → Prop} (h : RepM K F1 H1 m v fp) (hB : ∀ b ∈ fp, ¬ B b) (e : Ext K F1 H1 B F2 H2 A2) : RepM K F2 H2 m v fp ∧ ∀ b ∈ fp, ¬ A2 b := by
  have l := h.live
  refine ⟨h.frame e.ff (fun b hb => ?_) (fun b hb => ?_), fun b hb a => ?_⟩
  · obtain ⟨⟨o, ho⟩, _⟩ := l b hb
    rw [e.keep b o ho (hB b hb) (h.nt hb ho), ho]
  · obtain ⟨⟨o, ho⟩, hf⟩ := l b hb
    cases q : F2 b with
    | none => rfl
    | some u =>
      rcases e.fz b u q with z | z | z
      · rw [hf] at z; cases z
      · exact absurd z (hB b hb)
      · rw [ho] at z; cases z
  · obtain ⟨⟨o, ho⟩, _⟩ := l b hb
    rcases e.own b a with z | z
    · exact hB b hb z
    · rw [ho] at z; cases z
/-- only what is frozen grows -/
theorem Ext.same {K : PySem.W.Frag} {F F' H : Hp} {A A' : Addr → Prop} (ff : Sub F F') (own : ∀ b, A' b → A b ∨ H b = none) (fz : ∀ b o, F' b = some o → F b = some o ∨ A b ∨ H b = none) (nt : (∀ b ps, F b ≠ some (.tbl ps)) → ∀ b ps, F' b ≠ some (.tbl ps)) : Ext K F H A F' H A' :=
  ⟨ff, fun _ _ h _ _ => h, own, fz, .same ff nt⟩
theorem TTr.new {K : PySem.W.Frag} {F F' H : Hp} {p : Addr} {o : HO} (hp : H p = none) (ho : NT o) (s : Sub F F') (nt : (∀ b ps, F b ≠ some (.tbl ps)) → ∀ b ps, F' b ≠ some (.tbl ps)) : TTr K F H F' (upd H p o) :=
  ⟨fun b ps h => ⟨ps, by rw [upd_ne (ne_of_none h hp)]; exact h⟩, fun t => ⟨nt t.nt, fun q hq => (t.tb q hq).ext fun b u e => by rw [upd_ne (ne_of_none e hp)]; exact e, fun b ps e => by
    by_cases z : b = p
    · rw [z, upd_same] at e; exact (ho ps (Option.some.inj e)).elim
    · rw [upd_ne z] at e; exact t.ot b ps e, fun q hq ps h pos cv hc => by
    by_cases z : q.1 = p
    · rw [z, upd_same] at h; exact (ho ps (Option.some.inj h)).elim
    · rw [upd_ne z] at h
      obtain ⟨c, e1, e2⟩ := t.cd q hq ps h pos cv hc
      exact ⟨c, e1, s _ _ e2⟩⟩⟩
/-- a new object comes -/
theorem Ext.new {K : PySem.W.Frag} {F H : Hp} {A : Addr → Prop} {p : Addr} {o : HO} (hp : H p = none) (ho : NT o := by exact fun _ h => by cases h) : Ext K F H A F (upd H p o) (fun b => A b ∨ b = p) where
  ff := Sub.refl _
  keep := fun b u h _ _ => by rw [upd_ne (ne_of_none h hp)]; exact h
  own := fun b h => h.imp id fun e => by rw [e]; exact hp
  fz := fun _ _ h => .inl h
  tt := .new hp ho (Sub.refl _) fun h => h
/-- a new object comes and is frozen -/
theorem Ext.newF {K : PySem.W.Frag} {F H : Hp} {A : Addr → Prop} {p : Addr} {o : HO} (hF : Sub F H) (hp : H p = none) (ho : NT o := by exact fun _ h => by cases h) : Ext K F H A (upd F p o) (upd H p o) A where
  ff := fun b u h => by rw [upd_ne (ne_of_none (hF b u h) hp)]; exact h
  keep := fun b u h _ _ => by rw [upd_ne (ne_of_none h hp)]; exact h
  tt := .new hp ho (fun b u h => by rw [upd_ne (ne_of_none (hF b u h) hp)]; exact h) fun h b ps e => by
    by_cases z : b = p
    · rw [z, upd_same] at e; cases e; exact ho _ rfl
    · rw [upd_ne z] at e; exact h b ps e
  own := fun b h => .inl h
  fz := fun b u h => by
    by_cases e : b = p
    · rw [e]; exact .inr (.inr hp)
    · rw [upd_ne e] at h; exact .inl h
theorem sub_upd {F H : Hp} {p : Addr} {o : HO} (hF : Sub F H) : Sub (upd F p o) (upd H p o) := fun b u h => by
  by_cases e : b = p
  · rw [e, upd_same] at h ⊢; exact h
  · rw [upd_ne e] at h ⊢; exact hF b u h
theorem sub_new {F H : Hp} {p : Addr} {o : HO} (hF : Sub F H) (hp : H p = none) : Sub F (upd H p o) := fun b u h => by
  rw [upd_ne (ne_of_none (hF b u h) hp)]; exact hF b u h
theorem sub_none {F H : Hp} {p : Addr} (hF : Sub F H) (hp : H p = none) : F p = none := by
  cases q : F p with
  | none => rfl
  | some o => rw [hF p o q] at hp; cases hp
structure REnv (K : PySem.W.Frag) (F H : Hp) (σ : St) (env : E) (fps : Nat → List Addr) : Prop where
  fr : Sub F H
  len : env.length = σ.length
  got : ∀ (i : Nat) (m : M), env[i]? = some (some m) → ∃ v, σ[i]? = some (some v) ∧ RepM K F H m v (fps i)
  nil : ∀ i, (∀ m, env[i]? ≠ some (some m)) → fps i = []
  dj : ∀ i j, i ≠ j → ∀ b ∈ fps i, b ∉ fps j
  tt : TOk K F H
def Own (fps : Nat → List Addr) (b : Addr) : Prop := ∃ i, b ∈ fps i
theorem REnv.live {K : PySem.W.Frag} {F H : Hp} {σ : St} {env : E} {fps : Nat → List Addr} (R : REnv K F H σ env fps) {b : Addr} (h : Own fps b) : (∃ o, H b = some o) ∧ F b = none := by
  obtain ⟨i, hi⟩ := h
  by_cases q : ∃ m, env[i]? = some (some m)
  · obtain ⟨m, e⟩ := q
    obtain ⟨v, _, r⟩ := R.got i m e
    exact r.live b hi
  · rw [R.nil i (fun m e => q ⟨m, e⟩)] at hi
    cases hi
theorem REnv.kin {K : PySem.W.Frag} {F H : Hp} {σ : St} {env : E} {fps : Nat → List Addr} (R : REnv K F H σ env fps) {b : Addr} (h : Own fps b) : ∃ o, H b = some o ∧ Kin o := by
  obtain ⟨i, hi⟩ := h
  by_cases q : ∃ m, env[i]? = some (some m)
  · obtain ⟨m, e⟩ := q
    obtain ⟨v, _, r⟩ := R.got i m e
    exact r.kin b hi
  · rw [R.nil i (fun m e => q ⟨m, e⟩)] at hi
    cases hi
/-- slots over a step that does not touch what they own -/
theorem REnv.frame {K : PySem.W.Frag} {F H F' H' : Hp} {σ : St} {env : E} {fps : Nat → List Addr} {B A2 : Addr → Prop} (R : REnv K F H σ env fps) (hB : ∀ b, Own fps b → ¬ B b) (e : Ext K F H B F' H' A2) (fr : Sub F' H') : REnv K F' H' σ env fps ∧ ∀ b, Own fps b → ¬ A2 b := by
  refine ⟨⟨fr, R.len, fun i m h => ?_, R.nil, R.dj, e.tt.ok R.tt⟩, fun b hb a => ?_⟩
  · obtain ⟨v, hv, r⟩ := R.got i m h
    exact ⟨v, hv, (pendM r (fun b hb => hB b ⟨i, hb⟩) e).1⟩
  · obtain ⟨⟨o, ho⟩, _⟩ := R.live hb
    rcases e.own b a with z | z
    · exact hB b hb z
    · rw [ho] at z; cases z
/-- one slot is stored -/
theorem REnv.store {K : PySem.W.Frag} {F H : Hp} {σ : St} {env : E} {fps : Nat → List Addr} {i : Nat} {m : M} {v : V} {fp : List Addr} (R : REnv K F H σ env fps) (hi : i < σ.length) (r : RepM K F H m v fp) (d : ∀ b ∈ fp, ¬ Own fps b) :
    REnv K F H (σ.set i (some v)) (env.set i (some m)) (fun j => if j = i then fp else fps j) := by
  refine ⟨R.fr, by simp [R.len], fun j n h => ?_, fun j h => ?_, fun a c hac b hb => ?_, R.tt⟩
  · by_cases e : j = i
    · subst e
      rw [List.getElem?_set_self (by rw [R.len]; exact hi)] at h; cases h
      exact ⟨v, List.getElem?_set_self hi, by simp only [if_true]; exact r⟩
    · rw [List.getElem?_set_ne (fun q => e q.symm)] at h
      obtain ⟨w, hw, rw'⟩ := R.got j n h
      refine ⟨w, by rw [List.getElem?_set_ne (fun q => e q.symm)]; exact hw, ?_⟩
      simp only [if_neg e]; exact rw'
  · by_cases e : j = i
    · subst e
      exact absurd (List.getElem?_set_self (by rw [R.len]; exact hi)) (h m)
    · simp only [if_neg e]
      exact R.nil j fun n q => h n (by rw [List.getElem?_set_ne (fun q => e q.symm)]; exact q)
  · by_cases e1 : a = i
    · subst e1
      simp only [if_true] at hb
      have e2 : ¬ c = a := fun q => hac q.symm
      simp only [if_neg e2]
      exact fun q => d b hb ⟨c, q⟩
    · simp only [if_neg e1] at hb
      by_cases e2 : c = i
      · subst e2
        simp only [if_true]
        exact fun q => d b q ⟨a, hb⟩
      · simp only [if_neg e2]
        exact R.dj a c hac b hb
/-- another reading of one slot's content, the slots as they are -/
theorem REnv.put {K : PySem.W.Frag} {F H : Hp} {σ : St} {env : E} {fps : Nat → List Addr} {i : Nat} {m : M} {v : V} {fp : List Addr} (R : REnv K F H σ env fps) (hv : σ[i]? = some (some v)) (r : RepM K F H m v fp) (d : ∀ b ∈ fp, ∀ j, j ≠ i → b ∉ fps j) :
    REnv K F H σ (env.set i (some m)) (fun j => if j = i then fp else fps j) := by
  have hi : i < σ.length := (List.getElem?_eq_some_iff.mp hv).1
  refine ⟨R.fr, by simp [R.len], fun j n h => ?_, fun j h => ?_, fun a c hac b hb => ?_, R.tt⟩
  · by_cases e : j = i
    · subst e
      rw [List.getElem?_set_self (by rw [R.len]; exact hi)] at h; cases h
      exact ⟨v, hv, by simp only [if_true]; exact r⟩
    · rw [List.getElem?_set_ne (fun q => e q.symm)] at h
      obtain ⟨w, hw, rw'⟩ := R.got j n h
      refine ⟨w, hw, ?_⟩
      simp only [if_neg e]; exact rw'
  · by_cases e : j = i
    · subst e
      exact absurd (List.getElem?_set_self (by rw [R.len]; exact hi)) (h m)
    · simp only [if_neg e]
      exact R.nil j fun n q => h n (by rw [List.getElem?_set_ne (fun q => e q.symm)]; exact q)
  · by_cases e1 : a = i
    · subst e1
      simp only [if_true] at hb
      have e2 : ¬ c = a := fun q => hac q.symm
      simp only [if_neg e2]
      exact d b hb c e2
    · simp only [if_neg e1] at hb
      by_cases e2 : c = i
      · subst e2
        simp only [if_true]
        exact fun q => d b q a e1 hb
      · simp only [if_neg e2]
        exact R.dj a c hac b hb
/-- a slot is forgotten -/
theorem REnv.drop {K : PySem.W.Frag} {F H : Hp} {σ : St} {env : E} {fps : Nat → List Addr} (R : REnv K F H σ env fps) (i : Nat) :
    REnv K F H σ (env.set i none) (fun j => if j = i then [] else fps j) := by
  refine ⟨R.fr, by simp [R.len], fun j n h => ?_, fun j h => ?_, fun a c hac b hb => ?_, R.tt⟩
  · by_cases e : j = i
    · subst e
      by_cases hi : j < env.length
      · rw [List.getElem?_set_self hi] at h; cases h
      · rw [List.getElem?_eq_none (by simpa using hi)] at h; cases h
    · rw [List.getElem?_set_ne (fun q => e q.symm)] at h
      obtain ⟨w, hw, rw'⟩ := R.got j n h
      refine ⟨w, hw, ?_⟩
      simp only [if_neg e]; exact rw'
  · by_cases e : j = i
    · simp only [if_pos e]
    · simp only [if_neg e]
      exact R.nil j fun n q => h n (by rw [List.getElem?_set_ne (fun q => e q.symm)]; exact q)
  · by_cases e1 : a = i
    · simp only [if_pos e1] at hb; cases hb
    · simp only [if_neg e1] at hb
      by_cases e2 : c = i
      · simp only [if_pos e2]; exact fun q => by cases q
      · simp only [if_neg e2]
        exact R.dj a c hac b hb
/-- more is frozen: what is owned by nobody here -/
theorem REnv.more {K : PySem.W.Frag} {F F' H : Hp} {σ : St} {env : E} {fps : Nat → List Addr} (R : REnv K F H σ env fps) (e : Sub F F') (fr : Sub F' H) (hn : ∀ b, Own fps b → F' b = none) (ht : ∀ b ps, F' b ≠ some (.tbl ps)) : REnv K F' H σ env fps :=
  ⟨fr, R.len, fun i m h => let ⟨v, hv, r⟩ := R.got i m h; ⟨v, hv, r.frame e (fun _ _ => rfl) fun b hb => hn b ⟨i, hb⟩⟩, R.nil, R.dj, R.tt.sub e ht⟩
theorem addF_nt {K : PySem.W.Frag} {F H : Hp} {m : M} {v : V} {fp : List Addr} (h : RepM K F H m v fp) (hF : ∀ b ps, F b ≠ some (.tbl ps)) : ∀ b ps, addF F H fp b ≠ some (.tbl ps) := fun b ps e => by
  by_cases hb : b ∈ fp
  · rw [addF_in hb] at e
    exact h.nt hb e ps rfl
  · rw [addF_out hb] at e
    exact hF b ps e
end Ink
set_option Elab.async false
set_option linter.all false
set_option maxRecDepth 100000
namespace Ink
open PySem L2
/-- an expression's result: a thing made on the way, or what a slot holds -/
inductive Av where
  | tm (m : M) | sl (i : Nat)
/-- an exception: its class, its own fields -/
structure Xc where
  cls : Str
  fs : Option (List (Str × D))
inductive Out (α : Type) where
  | ok (a : α) (env : E)
  | ex (x : Xc) (env : E)
inductive OutP where
  | ok (m : M) (ms : E)
  | ex (x : Xc) (ms : E)
abbrev FE := E → Option (Out Av)
abbrev FA := E → Option (Out (List Av))
abbrev FT := E → Option (Out Bool)
abbrev FP := List M → Option OutP
section
variable (K : PySem.W.Frag) (F H : Hp) (σ : St)
def RepA : Av → V → List Addr → Prop
  | .tm m, v, fp => RepM K F H m v fp
  | .sl i, v, fp => σ[i]? = some (some v) ∧ fp = []
def RepX (x : Xc) (cls : Value) (d : Option Addr) : Prop := cls = .ref (He.ga K x.cls) ∧ match x.fs, d with
  | none, none => True
  | some fs, some p => ∃ vs, H p = some (.xd vs) ∧ vs.map (·.1) = fs.map (·.1) ∧ Reps K F (vs.map (·.2)) (fs.map (·.2))
  | _, _ => False
structure RepAs (as : List Av) (vs : List V) (fpA : Nat → List Addr) : Prop where
  len : vs.length = as.length
  got : ∀ (j : Nat) (a : Av), as[j]? = some a → ∃ v, vs[j]? = some v ∧ RepA K F H σ a v (fpA j)
  nil : ∀ j, as.length ≤ j → fpA j = []
  dj : ∀ i j, i ≠ j → ∀ b ∈ fpA i, b ∉ fpA j
end
section
variable (K : PySem.W.Frag) (W : WX) (σ : St) (F H : Hp) (A : Addr → Prop)
/-- what is wanted behind a result -/
def PV (a : Av) (env' : E) (Q : VK) : Prop := ∀ v F' H' fps' fp, REnv K F' H' σ env' fps' → RepA K F' H' σ a v fp → (∀ b ∈ fp, ¬ Own fps' b) → Ext K F H A F' H' (fun b => Own fps' b ∨ b ∈ fp) → Q v H'
def PX (x : Xc) (env' : E) : Prop := ∀ cls d F' H' fps', REnv K F' H' σ env' fps' → RepX K F' H' x cls d → Ext K F H A F' H' (Own fps') → W cls d σ H'
def PVs (as : List Av) (env' : E) (Q : List V → Hp → Prop) : Prop := ∀ vs F' H' fps' fpA, REnv K F' H' σ env' fps' → RepAs K F' H' σ as vs fpA → (∀ b, Own fpA b → ¬ Own fps' b) → Ext K F H A F' H' (fun b => Own fps' b ∨ Own fpA b) → Q vs H'
def PB (b : Bool) (env' : E) (Q : Bool → Hp → Prop) : Prop := ∀ F' H' fps', REnv K F' H' σ env' fps' → Ext K F H A F' H' (Own fps') → Q b H'
def poE (o : Option (Out Av)) (Q : VK) : Prop := match o with
  | none => False
  | some (.ok a env') => PV K σ F H A a env' Q
  | some (.ex x env') => PX K W σ F H A x env'
def poA (o : Option (Out (List Av))) (Q : List V → Hp → Prop) : Prop := match o with
  | none => False
  | some (.ok a env') => PVs K σ F H A a env' Q
  | some (.ex x env') => PX K W σ F H A x env'
def poT (o : Option (Out Bool)) (Q : Bool → Hp → Prop) : Prop := match o with
  | none => False
  | some (.ok a env') => PB K σ F H A a env' Q
  | some (.ex x env') => PX K W σ F H A x env'
end
section
variable (K : PySem.W.Frag) (W : WX)
def rE (f : FE) : TE := fun σ H Q => ∃ F env fps, REnv K F H σ env fps ∧ poE K W σ F H (Own fps) (f env) Q
def rA (f : FA) : TA := fun σ H Q => ∃ F env fps, REnv K F H σ env fps ∧ poA K W σ F H (Own fps) (f env) Q
def rT (f : FT) : TT := fun σ H Q => ∃ F env fps, REnv K F H σ env fps ∧ poT K W σ F H (Own fps) (f env) Q
end
theorem PE_mono {X : Cx} {e : Expr} {t t' : TE} (h : PE X e t) (m : ∀ σ H Q, t' σ H Q → t σ H Q) : PE X e t' := ⟨fun pins s σ H Q I q => h.run pins s σ H Q I (m _ _ _ q)⟩
theorem PT_mono {X : Cx} {e : Expr} {t t' : TT} (h : PT X e t) (m : ∀ σ H Q, t' σ H Q → t σ H Q) : PT X e t' := ⟨fun pins s σ H Q I q => h.run pins s σ H Q I (m _ _ _ q)⟩
theorem PW_mono {X : Cx} {e : Expr} {t t' : TT} (h : PW X e t) (m : ∀ σ H Q, t' σ H Q → t σ H Q) : PW X e t' := ⟨fun wh pins s σ H Q I q => h.run wh pins s σ H Q I (m _ _ _ q)⟩
theorem PA_mono {X : Cx} {es : List Expr} {t t' : TA} (h : PA X es t) (m : ∀ σ H Q, t' σ H Q → t σ H Q) : PA X es t' := ⟨fun pos pins s σ H Q I q => h.run pos pins s σ H Q I (m _ _ _ q)⟩
theorem PS_mono {X : Cx} {st : Stmt} {t t' : TS} (h : PS X st t) (m : ∀ D σ H, t' D σ H → t D σ H) : PS X st t' := ⟨fun pins s σ H D I q => h.run pins s σ H D I (m _ _ _ q)⟩
theorem PSs_mono {X : Cx} {st : List Stmt} {t t' : TS} (h : PSs X st t) (m : ∀ D σ H, t' D σ H → t D σ H) : PSs X st t' := ⟨fun pins s σ H D I q => h.run pins s σ H D I (m _ _ _ q)⟩
theorem PI_mono {X : Cx} {tg it : Expr} {t t' : TI} (h : PI X tg it t) (m : ∀ σ H R, t' σ H R → t σ H R) : PI X tg it t' := ⟨fun pins s σ H R I q => h.run pins s σ H R I (m _ _ _ q)⟩
section
variable {K : PySem.W.Frag} {W : WX} {σ : St} {F H F1 H1 : Hp} {A A1 B : Addr → Prop}
theorem PX.wide {x : Xc} {env' : E} (p : PX K W σ F H A x env') (e : Ext K F H A F1 H1 A1) (hB : ∀ b, B b → A1 b) : PX K W σ F1 H1 B x env' :=
  fun cls d F' H' fps' R r e2 => p cls d F' H' fps' R r (e.trans e2 hB fun _ c => .inl c)
theorem poE.wide {o : Option (Out Av)} {Q : VK} (p : poE K W σ F H A o Q) (e : Ext K F H A F1 H1 A1) (hB : ∀ b, B b → A1 b) : poE K W σ F1 H1 B o Q := by
  cases o with
  | none => exact p
  | some o =>
    cases o with
    | ok a env' => exact fun v F' H' fps' fp R r d e2 => p v F' H' fps' fp R r d (e.trans e2 hB fun _ c => .inl c)
    | ex x env' => exact PX.wide p e hB
end
def bindO {α β : Type} (o : Option (Out α)) (k : α → E → Option (Out β)) : Option (Out β) := match o with
  | none => none
  | some (.ok a env) => k a env
  | some (.ex x env) => some (.ex x env)
@[simp] theorem bindO_none {α β : Type} (k : α → E → Option (Out β)) : bindO none k = none := rfl
@[simp] theorem bindO_ok {α β : Type} (a : α) (env : E) (k : α → E → Option (Out β)) : bindO (some (.ok a env)) k = k a env := rfl
@[simp] theorem bindO_ex {α β : Type} (x : Xc) (env : E) (k : α → E → Option (Out β)) : bindO (some (.ex x env)) k = some (.ex x env) := rfl
def cE (d : D) : FE := fun env => some (.ok (.tm (.fz d)) env)
def vE (i : Nat) : FE := fun env => match env[i]? with
  | some (some _) => some (.ok (.sl i) env)
  | _ => none
section
variable {X : Cx} {W : WX}
theorem Own.not_nil {fps : Nat → List Addr} : ∀ b ∈ ([] : List Addr), ¬ Own fps b := fun _ h => by cases h
theorem rE_c {K : PySem.W.Frag} {v : V} {d : D} (r : ∀ F, Rep K F v d) : ∀ σ H Q, rE K W (cE d) σ H Q → tC v σ H Q := fun σ H Q ⟨F, env, fps, R, p⟩ =>
  p v F H fps [] R (RepM.fz (r F)) Own.not_nil (Ext.refl fun b h => h.elim id fun q => by cases q)
theorem e_int {i : Int} {j pos} : PE X (.Constant (.int i) j pos) (rE X.K W (cE (.int i))) := PE_mono pe_int (rE_c fun _ => .int i)
theorem e_bl {b : Bool} {j pos} : PE X (.Constant (.bool b) j pos) (rE X.K W (cE (.bl b))) := PE_mono pe_bl (rE_c fun _ => .bl b)
theorem e_non {j pos} : PE X (.Constant .none j pos) (rE X.K W (cE .non)) := PE_mono pe_non (rE_c fun _ => .non)
theorem e_str {x : Str} {j pos} : PE X (.Constant (.str x) j pos) (rE X.K W (cE (.str x))) := PE_mono pe_str (rE_c fun _ => .str x)
theorem e_glob {x : Str} {v : V} {u : Value} {d : D} {pos : Pos} (hg : Gl X x) (hm : X.mg x = some u) (r : RelV v u) (q : ∀ F, Rep X.K F v d) (hd : (x == ("__debug__" : Str)) = false := by decide) : PE X (.Name x pos) (rE X.K W (cE d)) := PE_mono (pe_glob hg hm r hd) (rE_c q)
theorem rE_v {K : PySem.W.Frag} {i : Nat} : ∀ σ H Q, rE K W (vE i) σ H Q → tVar i σ H Q := fun σ H Q ⟨F, env, fps, R, p⟩ => by
  unfold vE at p
  split at p
  · rename_i m e
    obtain ⟨v, hv, _⟩ := R.got i m e
    exact ⟨v, hv, p v F H fps [] R ⟨hv, rfl⟩ Own.not_nil (Ext.refl fun b h => h.elim id fun q => by cases q)⟩
  · exact p.elim
theorem e_v (i : Nat) {x : Str} {pos : Pos} (hN : X.N[i]? = some x := by rfl) (hv : Vis X.env.scope x := by first | exact Or.inl rfl | exact Or.inr (Or.inl rfl) | exact Or.inr (Or.inr rfl)) (hd : (x == ("__debug__" : Str)) = false := by decide)
    (hcd : (x == ("__classdict__" : Str)) = false := by decide) : PE X (.Name x pos) (rE X.K W (vE i)) := PE_mono (pe_var hN hv hd hcd) rE_v
end
def takeA (a : Av) (env : E) : Option (M × E) := match a with
  | .tm m => some (m, env)
  | .sl i => match env[i]? with
    | some (some m) => match frz m with
      | some d => some (.fz d, env.set i (some (.fz d)))
      | none => none
    | _ => none
theorem take_sound {K : PySem.W.Frag} {F H : Hp} {σ : St} {env env' : E} {fps : Nat → List Addr} {a : Av} {v : V} {fp : List Addr} {m : M} (R : REnv K F H σ env fps) (hA : RepA K F H σ a v fp) (hd : ∀ b ∈ fp, ¬ Own fps b) (ht : takeA a env = some (m, env')) :
    ∃ F' fps' fp', REnv K F' H σ env' fps' ∧ RepM K F' H m v fp' ∧ (∀ b ∈ fp', ¬ Own fps' b) ∧ Ext K F H (fun b => Own fps b ∨ b ∈ fp) F' H (fun b => Own fps' b ∨ b ∈ fp') := by
  cases a with
  | tm n =>
    cases ht
    exact ⟨F, fps, fp, R, hA, hd, Ext.refl fun _ h => h⟩
  | sl i =>
    obtain ⟨hv, rfl⟩ := hA
    unfold takeA at ht
    cases e : env[i]? with
    | none => simp only [e] at ht; cases ht
    | some o =>
      cases o with
      | none => simp only [e] at ht; cases ht
      | some n =>
        simp only [e] at ht
        cases ez : frz n with
        | none => rw [ez] at ht; cases ht
        | some d =>
          rw [ez] at ht; cases ht
          obtain ⟨w, hw, r⟩ := R.got i n e
          rw [hv] at hw; cases hw
          have hl := r.live
          have s1 : Sub F (addF F H (fps i)) := addF_sub fun b hb => (hl b hb).2
          have s2 : Sub (addF F H (fps i)) H := addF_in_H R.fr
          have rz : Rep K (addF F H (fps i)) v d := r.frozen s1 (fun b hb => addF_in hb) ez
          have R0 := R.drop i
          have R1 : REnv K (addF F H (fps i)) H σ (env.set i none) (fun j => if j = i then [] else fps j) := R0.more s1 s2 (fun b hb => by
            obtain ⟨j, hj⟩ := hb
            by_cases ej : j = i
            · simp only [if_pos ej] at hj; cases hj
            · simp only [if_neg ej] at hj
              rw [addF_out (R.dj j i ej b hj)]
              exact (R.live ⟨j, hj⟩).2) (addF_nt r R.tt.nt)
          have R2 := R1.put hv (RepM.fz rz) (fun b hb => by cases hb)
          rw [List.set_set] at R2
          refine ⟨addF F H (fps i), _, [], R2, RepM.fz rz, (fun b hb => by cases hb), Ext.same s1 (fun b h => ?_) (fun b o h => ?_) (fun h => addF_nt r h)⟩
          · rcases h with ⟨j, hj⟩ | h
            · by_cases ej : j = i
              · simp only [if_pos ej] at hj; cases hj
              · simp only [if_neg ej] at hj
                exact .inl (.inl ⟨j, hj⟩)
            · cases h
          · by_cases hb : b ∈ fps i
            · exact .inr (.inl (.inl ⟨i, hb⟩))
            · rw [addF_out hb] at h; exact .inl h
def tk (f : FE) : FE := fun env => bindO (f env) fun a env1 => match takeA a env1 with
  | some (m, env2) => some (.ok (.tm m) env2)
  | none => none
theorem e_tk {X : Cx} {W : WX} {e : Expr} {f : FE} (h : PE X e (rE X.K W f)) : PE X e (rE X.K W (tk f)) := PE_mono h fun σ H Q ⟨F, env, fps, R, p⟩ => ⟨F, env, fps, R, by
  unfold tk at p
  cases ef : f env with
  | none => rw [ef] at p; exact p
  | some o =>
    cases o with
    | ex x env1 => rw [ef] at p; exact p
    | ok a env1 =>
      rw [ef] at p
      simp only [bindO_ok] at p
      cases et : takeA a env1 with
      | none => rw [et] at p; exact p.elim
      | some z =>
        obtain ⟨m, env2⟩ := z
        rw [et] at p
        intro v F' H' fps' fp R1 r d e1
        obtain ⟨F2, fps2, fp2, R2, r2, d2, e2⟩ := take_sound R1 r d et
        exact p v F2 H' fps2 fp2 R2 r2 d2 (e1.trans e2 (fun _ h => h) fun _ h => .inl h)⟩
def nilA : FA := fun env => some (.ok [] env)
def consA (f : FE) (g : FA) : FA := fun env => bindO (f env) fun a env1 => bindO (g env1) fun as env2 => some (.ok (a :: as) env2)
def fcons (fp : List Addr) (fpA : Nat → List Addr) : Nat → List Addr
  | 0 => fp
  | j + 1 => fpA j
theorem own_fcons {fp : List Addr} {fpA : Nat → List Addr} {b : Addr} : Own (fcons fp fpA) b ↔ b ∈ fp ∨ Own fpA b := by
  constructor
  · rintro ⟨j, hj⟩
    cases j with
    | zero => exact .inl hj
    | succ j => exact .inr ⟨j, hj⟩
  · rintro (h | ⟨j, hj⟩)
    · exact ⟨0, h⟩
    · exact ⟨j + 1, hj⟩
theorem RepAs.nil' {K : PySem.W.Frag} {F H : Hp} {σ : St} : RepAs K F H σ [] [] (fun _ => []) := ⟨rfl, fun j a h => by simp at h, fun _ _ => rfl, fun _ _ _ b hb => by cases hb⟩
theorem RepAs.cons' {K : PySem.W.Frag} {F H : Hp} {σ : St} {a : Av} {v : V} {fp : List Addr} {as : List Av} {vs : List V} {fpA : Nat → List Addr} (h : RepA K F H σ a v fp) (hs : RepAs K F H σ as vs fpA) (hd : ∀ b ∈ fp, ¬ Own fpA b) : RepAs K F H σ (a :: as) (v :: vs) (fcons fp fpA) := by
  refine ⟨by simp [hs.len], fun j c hc => ?_, fun j hj => ?_, fun i j hij b hb => ?_⟩
  · cases j with
    | zero => simp at hc; subst hc; exact ⟨v, rfl, h⟩
    | succ j => simp at hc; obtain ⟨w, h1, h2⟩ := hs.got j c hc; exact ⟨w, by simpa using h1, h2⟩
  · cases j with
    | zero => simp at hj
    | succ j => exact hs.nil j (by simpa using hj)
  · cases i with
    | zero =>
      cases j with
      | zero => exact absurd rfl hij
      | succ j => exact fun q => hd b hb ⟨j, q⟩
    | succ i =>
      cases j with
      | zero => exact fun q => hd b q ⟨i, hb⟩
      | succ j => exact hs.dj i j (fun q => hij (by rw [q])) b hb
theorem pendA {K : PySem.W.Frag} {F1 H1 F2 H2 : Hp} {σ : St} {a : Av} {v : V} {fp : List Addr} {B A2 : Addr → Prop} (h : RepA K F1 H1 σ a v fp) (hB : ∀ b ∈ fp, ¬ B b) (e : Ext K F1 H1 B F2 H2 A2) : RepA K F2 H2 σ a v fp ∧ ∀ b ∈ fp, ¬ A2 b := by
  cases a with
  | tm m => exact pendM h hB e
  | sl i => exact ⟨h, fun b hb => by rw [h.2] at hb; cases hb⟩
theorem a_nil {X : Cx} {W : WX} : PA X [] (rA X.K W nilA) := PA_mono pa_nil fun σ H Q ⟨F, env, fps, R, p⟩ =>
  p [] F H fps (fun _ => []) R .nil' (fun b ⟨_, h⟩ => by cases h) (Ext.refl fun b h => h.elim id fun ⟨_, q⟩ => by cases q)
theorem a_cons {X : Cx} {W : WX} {e : Expr} {es : List Expr} {f : FE} {g : FA} (he : PE X e (rE X.K W f)) (hs : PA X es (rA X.K W g)) (hst : starEach (e :: es) X.env = (false, eval e X.env) :: starEach es X.env := by rfl) : PA X (e :: es) (rA X.K W (consA f g)) := PA_mono (pa_cons he hs hst) fun σ H Q ⟨F, env, fps, R, p⟩ => by
  refine ⟨F, env, fps, R, ?_⟩
  unfold consA at p
  cases ef : f env with
  | none => rw [ef] at p; exact p
  | some o =>
    cases o with
    | ex x env1 => rw [ef] at p; exact p
    | ok a env1 =>
      rw [ef] at p
      simp only [bindO_ok] at p
      intro v F1 H1 fps1 fp R1 r d e1
      refine ⟨F1, env1, fps1, R1, ?_⟩
      cases eg : g env1 with
      | none => rw [eg] at p; exact p
      | some o2 =>
        cases o2 with
        | ex x env2 => rw [eg] at p; exact PX.wide p e1 fun _ h => .inl h
        | ok as env2 =>
          rw [eg] at p
          intro vs F2 H2 fps2 fpA R2 rs d2 e2
          obtain ⟨r2, dd⟩ := pendA r d e2
          refine p (v :: vs) F2 H2 fps2 (fcons fp fpA) R2 (RepAs.cons' r2 rs fun b hb q => dd b hb (.inr q)) (fun b hb q => ?_) (e1.trans e2 (fun _ h => .inl h) fun b h => ?_)
          · rcases own_fcons.mp hb with hb | hb
            · exact dd b hb (.inl q)
            · exact d2 b hb q
          · rcases h with h | h
            · exact .inl (.inl h)
            · rcases own_fcons.mp h with h | h
              · exact .inr (.inr h)
              · exact .inl (.inr h)
end Ink
set_option Elab.async false
set_option linter.all false
set_option maxRecDepth 100000
namespace Ink
open PySem L2
abbrev argS (vs : List V) : St := vs.map some
abbrev argE (ms : List M) : E := ms.map some
section
variable (K : PySem.W.Frag)
def poP (F H : Hp) (A : Addr → Prop) (vs : List V) (o : Option OutP) (Q : VK) (Ex : XK) : Prop := match o with
  | none => False
  | some (.ok m ms') => ∀ v F' H' fps' fp, REnv K F' H' (argS vs) ms' fps' → RepM K F' H' m v fp → (∀ b ∈ fp, ¬ Own fps' b) → Ext K F H A F' H' (fun b => Own fps' b ∨ b ∈ fp) → Q v H'
  | some (.ex x ms') => ∀ cls d F' H' fps', REnv K F' H' (argS vs) ms' fps' → RepX K F' H' x cls d → Ext K F H A F' H' (Own fps') → Ex cls d H'
/-- a promise by a mirror -/
def spOf (g : FP) : Sp := fun vs H Q Ex => ∃ F ms fps, REnv K F H (argS vs) (argE ms) fps ∧ poP K F H (Own fps) vs (g ms) Q Ex
end
def res (env : E) : List Av → Option (List M)
  | [] => some []
  | .tm m :: r => match res env r with
    | some ms => some (m :: ms)
    | none => none
  | .sl i :: r => match env[i]? with
    | some (some m) => match res env r with
      | some ms => some (m :: ms)
      | none => none
    | _ => none
def isFz : M → Bool
  | .fz _ => true
  | _ => false
def hasSl (i : Nat) : List Av → Bool
  | [] => false
  | .tm _ :: r => hasSl i r
  | .sl j :: r => (j == i) || hasSl i r
/-- no owned thing is handed over twice -/
def okA (env : E) : List Av → Bool
  | [] => true
  | .tm _ :: r => okA env r
  | .sl i :: r => (match env[i]? with
    | some (some m) => isFz m || !hasSl i r
    | _ => false) && okA env r
def back (env : E) : List Av → E → E
  | .tm _ :: r, _ :: ms => back env r ms
  | .sl i :: r, o :: ms => back (env.set i o) r ms
  | _, _ => env
def runP (g : FP) (as : List Av) (env : E) : Option (Out Av) := match res env as with
  | none => none
  | some ms => match okA env as with
    | false => none
    | true => match g ms with
      | none => none
      | some (.ok m ms') => some (.ok (.tm m) (back env as ms'))
      | some (.ex x ms') => some (.ex x (back env as ms'))
theorem res_spec {env : E} : ∀ {as : List Av} {ms : List M}, res env as = some ms → ms.length = as.length ∧ ∀ (j : Nat) (a : Av), as[j]? = some a → match a with
    | .tm m => ms[j]? = some m
    | .sl i => ∃ m, env[i]? = some (some m) ∧ ms[j]? = some m
  | [], ms, h => by rw [res] at h; cases h; exact ⟨rfl, fun j a q => by simp at q⟩
  | .tm m :: r, ms, h => by
    rw [res] at h
    cases e : res env r with
    | none => rw [e] at h; cases h
    | some ns =>
      rw [e] at h; cases h
      obtain ⟨l, g⟩ := res_spec e
      refine ⟨by simp [l], fun j a q => ?_⟩
      cases j with
      | zero => simp at q; subst q; rfl
      | succ j =>
        simp at q
        have z := g j a q
        cases a with
        | tm n => simpa using z
        | sl i => obtain ⟨n, z1, z2⟩ := z; exact ⟨n, z1, by simpa using z2⟩
  | .sl i :: r, ms, h => by
    rw [res] at h
    split at h
    · rename_i n en
      cases e : res env r with
      | none => rw [e] at h; cases h
      | some ns =>
        rw [e] at h; cases h
        obtain ⟨l, g⟩ := res_spec e
        refine ⟨by simp [l], fun j a q => ?_⟩
        cases j with
        | zero => simp at q; subst q; exact ⟨n, en, rfl⟩
        | succ j =>
          simp at q
          have z := g j a q
          cases a with
          | tm n => simpa using z
          | sl i => obtain ⟨n, z1, z2⟩ := z; exact ⟨n, z1, by simpa using z2⟩
    · cases h
theorem hasSl_of {i : Nat} : ∀ {as : List Av} {j : Nat}, as[j]? = some (.sl i) → hasSl i as = true
  | [], j, h => by simp at h
  | .tm _ :: r, 0, h => by simp at h
  | .tm _ :: r, j + 1, h => by simp at h; rw [hasSl]; exact hasSl_of h
  | .sl k :: r, 0, h => by simp at h; subst h; simp [hasSl]
  | .sl k :: r, j + 1, h => by simp at h; rw [hasSl, hasSl_of h]; simp
theorem okA_spec {env : E} : ∀ {as : List Av}, okA env as = true → ∀ (j k i : Nat), j < k → as[j]? = some (.sl i) → as[k]? = some (.sl i) → ∃ d, env[i]? = some (some (.fz d))
  | [], _, j, k, i, _, h, _ => by simp at h
  | .tm _ :: r, o, 0, k, i, _, h, _ => by simp at h
  | .tm _ :: r, o, j + 1, 0, i, l, h, h2 => by simp at l
  | .tm _ :: r, o, j + 1, k + 1, i, l, h, h2 => okA_spec (by rw [okA] at o; exact o) j k i (by omega) (by simpa using h) (by simpa using h2)
  | .sl s :: r, o, 0, 0, i, l, h, h2 => by simp at l
  | .sl s :: r, o, 0, k + 1, i, l, h, h2 => by
    simp at h h2
    subst h
    rw [okA] at o
    simp only [Bool.and_eq_true] at o
    obtain ⟨o, _⟩ := o
    split at o
    · rename_i m em
      rw [hasSl_of h2] at o
      cases m with
      | fz d => exact ⟨d, em⟩
      | _ => simp [isFz] at o
    · cases o
  | .sl s :: r, o, j + 1, 0, i, l, h, h2 => by simp at l
  | .sl s :: r, o, j + 1, k + 1, i, l, h, h2 => okA_spec (by rw [okA] at o; simp only [Bool.and_eq_true] at o; exact o.2) j k i (by omega) (by simpa using h) (by simpa using h2)
theorem back_length : ∀ (as : List Av) (ms env : E), (back env as ms).length = env.length
  | [], _, env => by simp [back]
  | .tm _ :: r, [], env => by simp [back]
  | .tm _ :: r, m :: ms, env => by rw [back]; exact back_length r ms env
  | .sl i :: r, [], env => by simp [back]
  | .sl i :: r, m :: ms, env => by rw [back, back_length r ms]; simp
theorem back_spec : ∀ (as : List Av) (ms env : E) (i : Nat), ms.length = as.length → i < env.length →
    (∃ (j : Nat) (o : Option M), as[j]? = some (Av.sl i) ∧ ms[j]? = some o ∧ (back env as ms)[i]? = some o) ∨ ((∀ j : Nat, as[j]? ≠ some (Av.sl i)) ∧ (back env as ms)[i]? = env[i]?)
  | [], ms, env, i, _, _ => .inr ⟨fun j h => by simp at h, by simp [back]⟩
  | .tm n :: r, [], env, i, l, _ => by simp at l
  | .sl s :: r, [], env, i, l, _ => by simp at l
  | .tm n :: r, m :: ms, env, i, l, hi => by
    rcases back_spec r ms env i (by simpa using l) hi with ⟨j, m', h1, h2, h3⟩ | ⟨h1, h2⟩
    · exact .inl ⟨j + 1, m', by simpa using h1, by simpa using h2, by rw [back]; exact h3⟩
    · refine .inr ⟨fun j h => ?_, by rw [back]; exact h2⟩
      cases j with
      | zero => simp at h
      | succ j => exact h1 j (by simpa using h)
  | .sl s :: r, m :: ms, env, i, l, hi => by
    rcases back_spec r ms (env.set s m) i (by simpa using l) (by simpa using hi) with ⟨j, m', h1, h2, h3⟩ | ⟨h1, h2⟩
    · exact .inl ⟨j + 1, m', by simpa using h1, by simpa using h2, by rw [back]; exact h3⟩
    · by_cases e : s = i
      · subst e
        exact .inl ⟨0, m, rfl, rfl, by rw [back, h2, List.getElem?_set_self hi]⟩
      · refine .inr ⟨fun j h => ?_, by rw [back, h2, List.getElem?_set_ne e]⟩
        cases j with
        | zero => simp at h; exact e h
        | succ j => exact h1 j (by simpa using h)
theorem argE_get {ms : List M} {j : Nat} {m : M} : (argE ms)[j]? = some (some m) ↔ ms[j]? = some m := by
  rw [List.getElem?_map]
  cases ms[j]? with
  | none => simp
  | some n => simp
theorem argS_get {vs : List V} {j : Nat} {v : V} : (argS vs)[j]? = some (some v) ↔ vs[j]? = some v := by
  rw [List.getElem?_map]
  cases vs[j]? with
  | none => simp
  | some n => simp
theorem RepM.fz_nil {K : PySem.W.Frag} {F H : Hp} {d : D} {v : V} {fp : List Addr} (h : RepM K F H (.fz d) v fp) : fp = [] := by cases h; rfl
/-- what the arguments own -/
def fpArg (as : List Av) (fps fpA : Nat → List Addr) (j : Nat) : List Addr := match as[j]? with
  | some (.tm _) => fpA j
  | some (.sl i) => fps i
  | none => []
section
variable {K : PySem.W.Frag} {F H : Hp} {σ : St} {env : E} {fps fpA : Nat → List Addr} {as : List Av} {vs : List V} {ms : List M}
theorem arg_own (hA : RepAs K F H σ as vs fpA) {b : Addr} (h : Own (fpArg as fps fpA) b) : Own fps b ∨ Own fpA b := by
  obtain ⟨j, hj⟩ := h
  unfold fpArg at hj
  split at hj
  · exact .inr ⟨j, hj⟩
  · exact .inl ⟨_, hj⟩
  · cases hj
theorem arg_env (R : REnv K F H σ env fps) (hA : RepAs K F H σ as vs fpA) (hd : ∀ b, Own fpA b → ¬ Own fps b) (hr : res env as = some ms) (ho : okA env as = true) : REnv K F H (argS vs) (argE ms) (fpArg as fps fpA) := by
  obtain ⟨l, g⟩ := res_spec hr
  refine ⟨R.fr, by simp [l, hA.len], fun j m h => ?_, fun j h => ?_, ?_, R.tt⟩
  · have hm := argE_get.mp h
    have hj : j < as.length := by rw [← l]; exact (List.getElem?_eq_some_iff.mp hm).1
    have ha := List.getElem?_eq_getElem hj
    obtain ⟨v, hv, r⟩ := hA.got j _ ha
    have z := g j _ ha
    refine ⟨v, argS_get.mpr hv, ?_⟩
    unfold fpArg
    rw [ha]
    generalize hx : as[j] = a at *
    cases a with
    | tm n => simp only at z; rw [hm] at z; cases z; exact r
    | sl i =>
      obtain ⟨n, z1, z2⟩ := z
      rw [hm] at z2; cases z2
      obtain ⟨w, hw, rr⟩ := R.got i m z1
      obtain ⟨r1, _⟩ := r
      rw [r1] at hw; cases hw
      exact rr
  · unfold fpArg
    split
    · rename_i m e
      have z := g j _ e
      exact absurd (argE_get.mpr z) (h m)
    · rename_i i e
      obtain ⟨m, _, z⟩ := g j _ e
      exact absurd (argE_get.mpr z) (h m)
    · rfl
  · have key : ∀ i j, i < j → ∀ b ∈ fpArg as fps fpA i, b ∉ fpArg as fps fpA j := by
      intro i j hij b hb hb2
      unfold fpArg at hb hb2
      split at hb
      · rename_i n en
        split at hb2
        · exact hA.dj i j (by omega) b hb hb2
        · exact hd b ⟨i, hb⟩ ⟨_, hb2⟩
        · cases hb2
      · rename_i s es
        split at hb2
        · exact hd b ⟨j, hb2⟩ ⟨_, hb⟩
        · rename_i t et
          by_cases e : s = t
          · subst e
            obtain ⟨d, q⟩ := okA_spec ho i j s hij es et
            obtain ⟨v, _, r⟩ := R.got s _ q
            rw [r.fz_nil] at hb; cases hb
          · exact R.dj s t e b hb hb2
        · cases hb2
      · cases hb
    intro i j hij b hb
    rcases Nat.lt_or_gt_of_ne hij with q | q
    · exact key i j q b hb
    · exact fun hb2 => key j i q b hb2 hb
/-- behind the call: the caller's slots -/
theorem arg_back {F' H' : Hp} {A' : Addr → Prop} {ms' : E} {fps' : Nat → List Addr} (R : REnv K F H σ env fps) (hA : RepAs K F H σ as vs fpA) (hd : ∀ b, Own fpA b → ¬ Own fps b) (hr : res env as = some ms)
    (R' : REnv K F' H' (argS vs) ms' fps') (ex : Ext K F H (Own (fpArg as fps fpA)) F' H' A') (hO : ∀ b, Own fps' b → A' b) :
    ∃ fpsN, REnv K F' H' σ (back env as ms') fpsN ∧ (∀ b, Own fpsN b → Own fps' b ∨ (Own fps b ∧ ¬ Own (fpArg as fps fpA) b)) := by
  obtain ⟨l, g⟩ := res_spec hr
  have l' : ms'.length = as.length := by
    have q := R'.len
    rw [List.length_map] at q
    rw [q, hA.len]
  -- where a slot stands among the arguments
  have hx : ∀ i, ∃ fp, (∀ m, (back env as ms')[i]? = some (some m) → ∃ v, σ[i]? = some (some v) ∧ RepM K F' H' m v fp) ∧ ((∀ m, (back env as ms')[i]? ≠ some (some m)) → fp = []) ∧
      ((∃ j : Nat, as[j]? = some (Av.sl i) ∧ fp = fps' j) ∨ ((∀ j : Nat, as[j]? ≠ some (Av.sl i)) ∧ fp = fps i)) := by
    intro i
    by_cases hi : i < env.length
    · rcases back_spec as ms' env i l' hi with ⟨j, m, h1, h2, h3⟩ | ⟨h1, h2⟩
      · refine ⟨fps' j, fun n hn => ?_, fun hn => R'.nil j fun n q => hn n (by rw [h3, ← h2, q]), .inl ⟨j, h1, rfl⟩⟩
        rw [h3] at hn; cases hn
        obtain ⟨v, hv, r⟩ := R'.got j n h2
        obtain ⟨w, hw, q⟩ := hA.got j _ h1
        rw [argS_get.mp hv] at hw; cases hw
        exact ⟨v, q.1, r⟩
      · refine ⟨fps i, fun n hn => ?_, fun hn => R.nil i fun m q => hn m (by rw [h2]; exact q), .inr ⟨h1, rfl⟩⟩
        rw [h2] at hn
        obtain ⟨v, hv, r⟩ := R.got i n hn
        refine ⟨v, hv, (pendM r (fun b hb q => ?_) ex).1⟩
        obtain ⟨j, hj⟩ := q
        unfold fpArg at hj
        split at hj
        · exact hd b ⟨j, hj⟩ ⟨i, hb⟩
        · rename_i s es
          by_cases e : s = i
          · subst e; exact h1 j es
          · exact R.dj s i e b hj hb
        · cases hj
    · have hn : (back env as ms')[i]? = none := List.getElem?_eq_none (by rw [back_length]; omega)
      refine ⟨fps i, (fun m h => by rw [hn] at h; cases h), (fun _ => R.nil i fun m q => by rw [List.getElem?_eq_none (by omega)] at q; cases q), .inr ⟨fun j h => ?_, rfl⟩⟩
      obtain ⟨m, q, _⟩ := g j _ h
      exact hi (List.getElem?_eq_some_iff.mp q).1
  have notArg : ∀ i, (∀ j : Nat, as[j]? ≠ some (Av.sl i)) → ∀ b ∈ fps i, ¬ Own (fpArg as fps fpA) b := by
    intro i h1 b hb ⟨j, hj⟩
    unfold fpArg at hj
    split at hj
    · exact hd b ⟨j, hj⟩ ⟨i, hb⟩
    · rename_i s es
      by_cases e : s = i
      · subst e; exact h1 j es
      · exact R.dj s i e b hj hb
    · cases hj
  refine ⟨fun i => Classical.choose (hx i), ⟨R'.fr, by rw [back_length]; exact R.len, fun i m h => (Classical.choose_spec (hx i)).1 m h, fun i h => (Classical.choose_spec (hx i)).2.1 h, fun i k hik b hb hb2 => ?_, R'.tt⟩, fun b ⟨i, hb⟩ => ?_⟩
  · have live : ∀ c i, c ∈ fps i → ∃ o, H c = some o := fun c i h => (R.live ⟨i, h⟩).1
    have cross : ∀ (i k j : Nat), (∀ j : Nat, as[j]? ≠ some (Av.sl i)) → b ∈ fps i → b ∈ fps' j → False := by
      intro i k j h1 hb hb2
      rcases ex.own b (hO b ⟨j, hb2⟩) with q | q
      · exact notArg i h1 b hb q
      · obtain ⟨o, ho⟩ := live b i hb
        rw [ho] at q; cases q
    rcases (Classical.choose_spec (hx i)).2.2 with ⟨j, h1, e1⟩ | ⟨h1, e1⟩
    · rcases (Classical.choose_spec (hx k)).2.2 with ⟨j2, h2, e2⟩ | ⟨h2, e2⟩
      · rw [e1] at hb; rw [e2] at hb2
        refine R'.dj j j2 (fun q => ?_) b hb hb2
        subst q
        rw [h1] at h2; cases h2; exact hik rfl
      · rw [e1] at hb; rw [e2] at hb2
        exact cross k i j h2 hb2 hb
    · rcases (Classical.choose_spec (hx k)).2.2 with ⟨j2, h2, e2⟩ | ⟨h2, e2⟩
      · rw [e1] at hb; rw [e2] at hb2
        exact cross i k j2 h1 hb hb2
      · rw [e1] at hb; rw [e2] at hb2
        exact R.dj i k hik b hb hb2
  · rcases (Classical.choose_spec (hx i)).2.2 with ⟨j, h1, e1⟩ | ⟨h1, e1⟩
    · simp only [e1] at hb; exact .inl ⟨j, hb⟩
    · simp only [e1] at hb; exact .inr ⟨⟨i, hb⟩, notArg i h1 b hb⟩
theorem prim_sound {W : WX} {g : FP} {Q : VK} (R : REnv K F H σ env fps) (hA : RepAs K F H σ as vs fpA) (hd : ∀ b, Own fpA b → ¬ Own fps b)
    (post : poE K W σ F H (fun b => Own fps b ∨ Own fpA b) (runP g as env) Q) : spOf K g vs H Q (fun cls d H' => W cls d σ H') := by
  unfold runP at post
  cases hr : res env as with
  | none => rw [hr] at post; exact post.elim
  | some ms =>
    rw [hr] at post
    simp only at post
    cases ho : okA env as with
    | false => rw [ho] at post; exact post.elim
    | true =>
      rw [ho] at post
      simp only at post
      refine ⟨F, ms, fpArg as fps fpA, arg_env R hA hd hr ho, ?_⟩
      cases hg : g ms with
      | none => rw [hg] at post; exact post.elim
      | some o =>
        rw [hg] at post
        cases o with
        | ok m ms' =>
          simp only at post
          intro v F' H' fps' fp R' r dd ex
          obtain ⟨fpsN, RN, hN⟩ := arg_back R hA hd hr R' ex fun b h => .inl h
          refine post v F' H' fpsN fp RN r (fun b hb q => ?_) ⟨ex.ff, fun b o h n => ex.keep b o h fun a => n (arg_own hA a), fun b h => ?_, fun b o h => (ex.fz b o h).imp id fun q => q.imp (fun a => arg_own hA a) id, ex.tt⟩
          · rcases hN b q with q | ⟨q, n⟩
            · exact dd b hb q
            · rcases ex.own b (.inr hb) with z | z
              · exact n z
              · obtain ⟨⟨o, ho⟩, _⟩ := R.live q
                rw [ho] at z; cases z
          · rcases h with h | h
            · rcases hN b h with q | ⟨q, n⟩
              · exact (ex.own b (.inl q)).imp (fun a => arg_own hA a) id
              · exact .inl (.inl q)
            · exact (ex.own b (.inr h)).imp (fun a => arg_own hA a) id
        | ex x ms' =>
          simp only at post
          intro cls d F' H' fps' R' r ex
          obtain ⟨fpsN, RN, hN⟩ := arg_back R hA hd hr R' ex fun b h => h
          refine post cls d F' H' fpsN RN r ⟨ex.ff, fun b o h n => ex.keep b o h fun a => n (arg_own hA a), fun b h => ?_, fun b o h => (ex.fz b o h).imp id fun q => q.imp (fun a => arg_own hA a) id, ex.tt⟩
          rcases hN b h with q | ⟨q, n⟩
          · exact (ex.own b q).imp (fun a => arg_own hA a) id
          · exact .inl (.inl q)
end
end Ink
set_option Elab.async false
set_option linter.all false
set_option maxRecDepth 100000
namespace Ink
open PySem L2
section
variable {K : PySem.W.Frag} {W : WX} {σ : St} {H : Hp}
theorem rE_imp {f : FE} {Q Q' : VK} (h : ∀ v H', Q v H' → Q' v H') (p : rE K W f σ H Q) : rE K W f σ H Q' := by
  obtain ⟨F, env, fps, R, p⟩ := p
  refine ⟨F, env, fps, R, ?_⟩
  cases o : f env with
  | none => rw [o] at p; exact p
  | some z =>
    rw [o] at p
    cases z with
    | ok a e => exact fun v F' H' fps' fp a b c d => h _ _ (p v F' H' fps' fp a b c d)
    | ex x e => exact p
theorem rA_imp {f : FA} {Q Q' : List V → Hp → Prop} (h : ∀ v H', Q v H' → Q' v H') (p : rA K W f σ H Q) : rA K W f σ H Q' := by
  obtain ⟨F, env, fps, R, p⟩ := p
  refine ⟨F, env, fps, R, ?_⟩
  cases o : f env with
  | none => rw [o] at p; exact p
  | some z =>
    rw [o] at p
    cases z with
    | ok a e => exact fun v F' H' fps' fp a b c d => h _ _ (p v F' H' fps' fp a b c d)
    | ex x e => exact p
theorem ra_nil {Q : List V → Hp → Prop} (p : rA K W nilA σ H Q) : Q [] H := by
  obtain ⟨F, env, fps, R, p⟩ := p
  exact p [] F H fps (fun _ => []) R .nil' (fun b ⟨_, h⟩ => by cases h) (Ext.refl fun b h => h.elim id fun ⟨_, q⟩ => by cases q)
theorem ra_cons {f : FE} {g : FA} {Q : List V → Hp → Prop} (p : rA K W (consA f g) σ H Q) : rE K W f σ H fun x H1 => rA K W g σ H1 fun xs H2 => Q (x :: xs) H2 := by
  obtain ⟨F, env, fps, R, p⟩ := p
  refine ⟨F, env, fps, R, ?_⟩
  unfold consA at p
  cases ef : f env with
  | none => rw [ef] at p; exact p
  | some o =>
    cases o with
    | ex x env1 => rw [ef] at p; exact p
    | ok a env1 =>
      rw [ef] at p
      simp only [bindO_ok] at p
      intro v F1 H1 fps1 fp R1 r d e1
      refine ⟨F1, env1, fps1, R1, ?_⟩
      cases eg : g env1 with
      | none => rw [eg] at p; exact p
      | some o2 =>
        cases o2 with
        | ex x env2 => rw [eg] at p; exact PX.wide p e1 fun _ h => .inl h
        | ok as env2 =>
          rw [eg] at p
          intro vs F2 H2 fps2 fpA R2 rs d2 e2
          obtain ⟨r2, dd⟩ := pendA r d e2
          refine p (v :: vs) F2 H2 fps2 (fcons fp fpA) R2 (RepAs.cons' r2 rs fun b hb q => dd b hb (.inr q)) (fun b hb q => ?_) (e1.trans e2 (fun _ h => .inl h) fun b h => ?_)
          · rcases own_fcons.mp hb with hb | hb
            · exact dd b hb (.inl q)
            · exact d2 b hb q
          · rcases h with h | h
            · exact .inl (.inl h)
            · rcases own_fcons.mp h with h | h
              · exact .inr (.inr h)
              · exact .inl (.inr h)
end
/-- a call by a mirror of what is called -/
def callE (g : FP) (fa : FA) : FE := fun env => bindO (fa env) fun as env1 => runP g as env1
theorem r_call {K : PySem.W.Frag} {W : WX} {σ : St} {H : Hp} {g : FP} {fa : FA} {Q : VK} (p : rE K W (callE g fa) σ H Q) : rA K W fa σ H fun vs H1 => spOf K g vs H1 Q (fun c d H' => W c d σ H') := by
  obtain ⟨F, env, fps, R, p⟩ := p
  refine ⟨F, env, fps, R, ?_⟩
  unfold callE at p
  cases ef : fa env with
  | none => rw [ef] at p; exact p
  | some o =>
    cases o with
    | ex x env1 => rw [ef] at p; exact p
    | ok as env1 =>
      rw [ef] at p
      simp only [bindO_ok] at p
      intro vs F1 H1 fps1 fpA R1 r d e1
      exact prim_sound R1 r d (poE.wide p e1 fun b h => h)
/-- readers: the things stay as they are -/
def g1 (h : M → Option M) : FP := fun ms => match ms with
  | [a] => match h a with
    | some m => some (.ok m [some a])
    | none => none
  | _ => none
def g2 (h : M → M → Option M) : FP := fun ms => match ms with
  | [a, b] => match h a b with
    | some m => some (.ok m [some a, some b])
    | none => none
  | _ => none
def g3 (h : M → M → M → Option M) : FP := fun ms => match ms with
  | [a, b, c] => match h a b c with
    | some m => some (.ok m [some a, some b, some c])
    | none => none
  | _ => none
section
variable {K : PySem.W.Frag} {F H : Hp} {vs : List V} {ms : List M} {fps : Nat → List Addr} {Q : VK} {Ex : XK}
theorem sp_flat {v : V} {d : D} (R : REnv K F H (argS vs) (argE ms) fps) (r : Rep K F v d) (p : poP K F H (Own fps) vs (some (.ok (.fz d) (argE ms))) Q Ex) : Q v H :=
  p v F H fps [] R (.fz r) Own.not_nil (Ext.refl fun b h => h.elim id fun q => by cases q)
theorem reps_ms {ws : List V} {ds : List D} (r : Reps K F ws ds) : RepMs K F H (ds.map .fz) ws [] := by
  induction ds generalizing ws with
  | nil => cases r; exact .nil
  | cons d ds ih =>
    cases r with
    | cons a b => exact RepMs.cons (fp := []) (.fz a) (ih b) (fun b hb => by cases hb)
theorem sp_lst {ws : List V} {ds : List D} (R : REnv K F H (argS vs) (argE ms) fps) (r : Reps K F ws ds) (p : poP K F H (Own fps) vs (some (.ok (.lst (ds.map .fz)) (argE ms))) Q Ex) : ∀ q, H q = none → Q (.ref q) (upd H q (.lst ws)) := fun q hq => by
  have e : Ext K F H (fun _ => False) F (upd H q (.lst ws)) (fun b => False ∨ b = q) := Ext.new hq
  have no : ∀ b, Own fps b → ¬ b = q := fun b hb e => by
    obtain ⟨⟨o, ho⟩, _⟩ := R.live hb
    rw [e, hq] at ho; cases ho
  obtain ⟨R', _⟩ := R.frame (fun b _ h => h) e (sub_new R.fr hq)
  refine p (.ref q) F _ fps [q] R' (.lst upd_same (sub_none R.fr hq) (reps_ms r) (by simp)) (fun b hb h => no b h (by simpa using hb)) ?_
  exact (Ext.new hq).weak fun b h => h.imp id fun z => by simpa using z
theorem sp_tup {ws : List V} {ds : List D} (R : REnv K F H (argS vs) (argE ms) fps) (r : Reps K F ws ds) (p : poP K F H (Own fps) vs (some (.ok (.fz (.tup ds)) (argE ms))) Q Ex) : ∀ q, H q = none → Q (.ref q) (upd H q (.tup ws)) := fun q hq => by
  have e : Ext K F H (fun _ => False) (upd F q (.tup ws)) (upd H q (.tup ws)) (fun _ => False) := Ext.newF R.fr hq
  obtain ⟨R', _⟩ := R.frame (fun b _ h => h) e (sub_upd R.fr)
  refine p (.ref q) _ _ fps [] R' (.fz (.tup upd_same (r.mono e.ff))) Own.not_nil ?_
  exact (Ext.newF R.fr hq).weak fun b h => h.elim id fun q => by cases q
theorem args1 {x : V} (R : REnv K F H (argS [x]) (argE ms) fps) : ∃ a, ms = [a] ∧ RepM K F H a x (fps 0) := by
  match ms, R.len with
  | [a], _ =>
    obtain ⟨v, hv, r⟩ := R.got 0 a rfl
    cases hv
    exact ⟨a, rfl, r⟩
theorem args2 {x y : V} (R : REnv K F H (argS [x, y]) (argE ms) fps) : ∃ a b, ms = [a, b] ∧ RepM K F H a x (fps 0) ∧ RepM K F H b y (fps 1) := by
  match ms, R.len with
  | [a, b], _ =>
    obtain ⟨v, hv, r⟩ := R.got 0 a rfl
    cases hv
    obtain ⟨w, hw, r2⟩ := R.got 1 b rfl
    cases hw
    exact ⟨a, b, rfl, r, r2⟩
end
section
variable {K : PySem.W.Frag} {F H : Hp}
theorem rep_int {v : V} {i : Int} (h : Rep K F v (.int i)) : v = .int i := by cases h; rfl
theorem rep_bl {v : V} {i : Bool} (h : Rep K F v (.bl i)) : v = .bl i := by cases h; rfl
theorem rep_str {v : V} {i : Str} (h : Rep K F v (.str i)) : v = .str i := by cases h; rfl
theorem rep_non {v : V} (h : Rep K F v .non) : v = .non := by cases h; rfl
theorem repm_fz {d : D} {v : V} {fp : List Addr} (h : RepM K F H (.fz d) v fp) : Rep K F v d := by cases h; assumption
theorem repm_lst {ms : List M} {v : V} {fp : List Addr} (h : RepM K F H (.lst ms) v fp) : ∃ p vs fq, v = .ref p ∧ H p = some (.lst vs) ∧ F p = none ∧ RepMs K F H ms vs fq ∧ p ∉ fq ∧ fp = p :: fq := by
  cases h with
  | lst a f b n => exact ⟨_, _, _, rfl, a, f, b, n, rfl⟩
/-- the items of a list that holds plain data -/
def unfz : List M → Option (List D)
  | [] => some []
  | .fz d :: r => match unfz r with
    | some ds => some (d :: ds)
    | none => none
  | _ => none
def lstD : M → Option (List D)
  | .fz (.lst ds) => some ds
  | .lst ms => unfz ms
  | _ => none
/-- .. of a list or a tuple -/
def seqD : M → Option (List D)
  | .fz (.lst ds) => some ds
  | .fz (.tup ds) => some ds
  | .lst ms => unfz ms
  | _ => none
theorem unfz_map (ds : List D) : unfz (ds.map M.fz) = some ds := by
  induction ds with
  | nil => rfl
  | cons d ds ih => simp only [List.map_cons, unfz, ih]
theorem unfz_reps : ∀ {ms : List M} {vs : List V} {fp : List Addr} {ds : List D}, RepMs K F H ms vs fp → unfz ms = some ds → Reps K F vs ds
  | [], _, _, _, .nil, e => by rw [unfz] at e; cases e; exact .nil
  | .fz d :: r, _, _, ds, .cons a b _, e => by
    rw [unfz] at e
    cases q : unfz r with
    | none => rw [q] at e; cases e
    | some es => rw [q] at e; cases e; exact .cons (repm_fz a) (unfz_reps b q)
  | .lst _ :: r, _, _, ds, .cons a b _, e => by simp [unfz] at e
  | .tup _ :: r, _, _, ds, .cons a b _, e => by simp [unfz] at e
  | .dK _ :: r, _, _, ds, .cons a b _, e => by simp [unfz] at e
  | .dT _ :: r, _, _, ds, .cons a b _, e => by simp [unfz] at e
  | .ins _ _ :: r, _, _, ds, .cons a b _, e => by simp [unfz] at e
theorem lstD_rep {m : M} {v : V} {fp : List Addr} {ds : List D} (s : Sub F H) (h : RepM K F H m v fp) (e : lstD m = some ds) : ∃ p vs, v = .ref p ∧ H p = some (.lst vs) ∧ Reps K F vs ds := by
  cases m with
  | fz d =>
    cases d with
    | lst es =>
      cases e
      cases repm_fz h with
      | lst a b => exact ⟨_, _, rfl, s _ _ a, b⟩
    | _ => cases e
  | lst ms =>
    cases h with
    | lst a f b n => exact ⟨_, _, rfl, a, unfz_reps b e⟩
  | _ => cases e
theorem seqD_rep {m : M} {v : V} {fp : List Addr} {ds : List D} (s : Sub F H) (h : RepM K F H m v fp) (e : seqD m = some ds) : ∃ p vs, v = .ref p ∧ (SqL K H p vs ∨ SqT K H p vs) ∧ Reps K F vs ds := by
  cases m with
  | fz d =>
    cases d with
    | lst es =>
      cases e
      cases repm_fz h with
      | lst a b => exact ⟨_, _, rfl, .inl (SqL.of (s _ _ a)), b⟩
    | tup es =>
      cases e
      cases repm_fz h with
      | tup a b => exact ⟨_, _, rfl, .inr (SqT.of (s _ _ a)), b⟩
    | _ => cases e
  | lst ms =>
    cases h with
    | lst a f b n => exact ⟨_, _, rfl, .inl (SqL.of a), unfz_reps b e⟩
  | _ => cases e
theorem tup_rep {ds : List D} {v : V} (s : Sub F H) (h : Rep K F v (.tup ds)) : ∃ p vs, v = .ref p ∧ SqT K H p vs ∧ Reps K F vs ds := by
  cases h with
  | tup a b => exact ⟨_, _, rfl, SqT.of (s _ _ a), b⟩
end
def Op2 (K : PySem.W.Frag) (g : FP) (r : R2) : Prop := ∀ x y H Q Ex, spOf K g [x, y] H Q Ex → r x y H Q
def Op1 (K : PySem.W.Frag) (g : FP) (r : V → Hp → VK → Prop) : Prop := ∀ x H Q Ex, spOf K g [x] H Q Ex → r x H Q
def OpC (K : PySem.W.Frag) (g : FP) (r : List V → Hp → VK → Prop) : Prop := ∀ vs H Q Ex, spOf K g vs H Q Ex → r vs H Q
abbrev arg1 (fa : FE) : FA := consA fa nilA
abbrev arg2 (fa fb : FE) : FA := consA fa (consA fb nilA)
abbrev arg3 (fa fb fc : FE) : FA := consA fa (consA fb (consA fc nilA))
section
variable {X : Cx} {W : WX} {a b c : Expr} {fa fb fc : FE} {g : FP} {pos : Pos}
theorem r_two {K : PySem.W.Frag} {r : R2} (hp : Op2 K g r) : ∀ σ H Q, rE K W (callE g (arg2 fa fb)) σ H Q → tOp r (rE K W fa) (rE K W fb) σ H Q := fun σ H Q p =>
  rE_imp (fun x H1 p1 => rE_imp (fun y H2 p2 => hp x y H2 Q _ (ra_nil p2)) (ra_cons p1)) (ra_cons (r_call p))
theorem r_one {K : PySem.W.Frag} {r : V → Hp → VK → Prop} (hp : Op1 K g r) : ∀ σ H Q, rE K W (callE g (arg1 fa)) σ H Q → tUn r (rE K W fa) σ H Q := fun σ H Q p =>
  rE_imp (fun x H1 p1 => hp x H1 Q _ (ra_nil p1)) (ra_cons (r_call p))
theorem e_op {op : Operator} {r : R2} (ho : OpR X (binaryOp op) r) (hp : Op2 X.K g r) (ha : PE X a (rE X.K W fa)) (hb : PE X b (rE X.K W fb)) : PE X (.BinOp a op b pos) (rE X.K W (callE g (arg2 fa fb))) := PE_mono (pe_op ho ha hb) (r_two hp)
theorem e_cmp {op : CmpOp} {r : R2} (ho : OpR X (compareOp op) r) (hp : Op2 X.K g r) (ha : PE X a (rE X.K W fa)) (hb : PE X b (rE X.K W fb)) (hm : behindInMarks op b = false) : PE X (.Compare a [op] [b] pos) (rE X.K W (callE g (arg2 fa fb))) := PE_mono (pe_cmpR ho ha hb hm) (r_two hp)
theorem e_un {op : UnaryOp} {r : V → Hp → VK → Prop} (ho : UnR X (unaryOp op) r) (hp : Op1 X.K g r) (ha : PE X a (rE X.K W fa)) : PE X (.UnaryOp op a pos) (rE X.K W (callE g (arg1 fa))) := PE_mono (pe_un ho ha) (r_one hp)
theorem e_ix {r : R2} (ho : IxR X r) (hp : Op2 X.K g r) (ha : PE X a (rE X.K W fa)) (hb : PE X b (rE X.K W fb)) (hs : PlainIx b) : PE X (.Subscript a b pos) (rE X.K W (callE g (arg2 fa fb))) := PE_mono (pe_ix ho ha hb hs) (r_two hp)
variable {e : Expr} {es : List Expr} {f : FA} {x : Str} {p : Pos} {id T : String}
theorem e_callB {r : List V → Hp → VK → Prop} (hc : CallR X (.builtin id) r) (hp : OpC X.K g r) (hg : Gl X x) (hm : X.mg x = none) (hv : bootBuiltins x = some (.builtin id)) (ha : PA X (e :: es) (rA X.K W f)) (hn : x ≠ "__name__" := by decide) (hdb : (x == ("__debug__" : Str)) = false := by decide)
    (he : starEach (e :: es) X.env = (false, eval e X.env) :: starEach es X.env := by rfl) (hpl : (backTo pos (starEach es X.env)).any (·.1) = false := by rfl) : PE X (.Call (.Name x p) (e :: es) [] pos) (rE X.K W (callE g f)) :=
  PE_mono (pe_callB hc hg hm hv ha hn hdb he hpl) fun σ H Q q => rA_imp (fun vs H1 z => hp vs H1 Q _ z) (r_call q)
theorem e_callTy {r : List V → Hp → VK → Prop} (hc : CallR X (.type T) r) (hp : OpC X.K g r) (hg : Gl X x) (hm : X.mg x = none) (hv : bootBuiltins x = some (.type T)) (ha : PA X (e :: es) (rA X.K W f)) (hn : x ≠ "__name__" := by decide) (hdb : (x == ("__debug__" : Str)) = false := by decide)
    (he : starEach (e :: es) X.env = (false, eval e X.env) :: starEach es X.env := by rfl) (hpl : (backTo pos (starEach es X.env)).any (·.1) = false := by rfl) : PE X (.Call (.Name x p) (e :: es) [] pos) (rE X.K W (callE g f)) :=
  PE_mono (pe_callTy hc hg hm hv ha hn hdb he hpl) fun σ H Q q => rA_imp (fun vs H1 z => hp vs H1 Q _ z) (r_call q)
end
def intM (c : Int → Int → Bool) (f : Int → Int → D) : M → M → Option M
  | .fz (.int i), .fz (.int j) => match c i j with
    | true => some (.fz (f i j))
    | false => none
  | _, _ => none
section
variable {K : PySem.W.Frag}
theorem g2_at {h : M → M → Option M} {x y : V} {H : Hp} {Q : VK} {Ex : XK} (p : spOf K (g2 h) [x, y] H Q Ex) : ∃ F a b m fps, REnv K F H (argS [x, y]) (argE [a, b]) fps ∧ RepM K F H a x (fps 0) ∧ RepM K F H b y (fps 1) ∧ h a b = some m ∧ poP K F H (Own fps) [x, y] (some (.ok m [some a, some b])) Q Ex := by
  obtain ⟨F, ms, fps, R, p⟩ := p
  obtain ⟨a, b, rfl, r1, r2⟩ := args2 R
  unfold g2 at p
  simp only at p
  cases e : h a b with
  | none => rw [e] at p; exact p.elim
  | some m => rw [e] at p; exact ⟨F, a, b, m, fps, R, r1, r2, e, p⟩
theorem g1_at {h : M → Option M} {vs : List V} {H : Hp} {Q : VK} {Ex : XK} (p : spOf K (g1 h) vs H Q Ex) : ∃ x F a m fps, vs = [x] ∧ REnv K F H (argS [x]) (argE [a]) fps ∧ RepM K F H a x (fps 0) ∧ h a = some m ∧ poP K F H (Own fps) [x] (some (.ok m [some a])) Q Ex := by
  obtain ⟨F, ms, fps, R, p⟩ := p
  unfold g1 at p
  have l := R.len
  split at p
  · rename_i a
    simp at l
    match vs, l with
    | [x], _ =>
      obtain ⟨a', e', r⟩ := args1 R
      cases e'
      cases e : h a with
      | none => rw [e] at p; exact p.elim
      | some m => rw [e] at p; exact ⟨x, F, a, m, fps, rfl, R, r, e, p⟩
  · exact p.elim
theorem g2_atC {h : M → M → Option M} {vs : List V} {H : Hp} {Q : VK} {Ex : XK} (p : spOf K (g2 h) vs H Q Ex) : ∃ x y F a b m fps, vs = [x, y] ∧ REnv K F H (argS [x, y]) (argE [a, b]) fps ∧ RepM K F H a x (fps 0) ∧ RepM K F H b y (fps 1) ∧ h a b = some m ∧ poP K F H (Own fps) [x, y] (some (.ok m [some a, some b])) Q Ex := by
  have q := p
  obtain ⟨F, ms, fps, R, p⟩ := p
  unfold g2 at p
  have l := R.len
  split at p
  · rename_i a b
    simp at l
    match vs, l with
    | [x, y], _ =>
      obtain ⟨F, a, b, m, fps, h⟩ := g2_at q
      exact ⟨x, y, F, a, b, m, fps, rfl, h⟩
  · exact p.elim
theorem intM_at {c : Int → Int → Bool} {f : Int → Int → D} {a b m : M} (e : intM c f a b = some m) : ∃ i j, a = .fz (.int i) ∧ b = .fz (.int j) ∧ c i j = true ∧ m = .fz (f i j) := by
  unfold intM at e
  split at e
  · rename_i i j
    cases hc : c i j with
    | false => rw [hc] at e; cases e
    | true => rw [hc] at e; cases e; exact ⟨i, j, rfl, rfl, hc, rfl⟩
  · cases e
theorem op2_int {c : Int → Int → Bool} {f : Int → Int → D} {C : Int → Int → Prop} {gV : Int → Int → V} (hc : ∀ i j, c i j = true → C i j) (hr : ∀ i j F, Rep K F (gV i j) (f i j)) : Op2 K (g2 (intM c f)) (rI C gV) := fun x y H Q Ex p => by
  obtain ⟨F, a, b, m, fps, R, r1, r2, e, p⟩ := g2_at p
  obtain ⟨i, j, rfl, rfl, h, rfl⟩ := intM_at e
  obtain rfl := rep_int (repm_fz r1)
  obtain rfl := rep_int (repm_fz r2)
  exact ⟨i, j, rfl, rfl, hc i j h, sp_flat R (hr i j F) p⟩
theorem op2_int0 {f : Int → Int → D} {gV : Int → Int → V} (hr : ∀ i j F, Rep K F (gV i j) (f i j)) : Op2 K (g2 (intM (fun _ _ => true) f)) (rI0 gV) := fun x y H Q Ex p => by
  obtain ⟨F, a, b, m, fps, R, r1, r2, e, p⟩ := g2_at p
  obtain ⟨i, j, rfl, rfl, h, rfl⟩ := intM_at e
  obtain rfl := rep_int (repm_fz r1)
  obtain rfl := rep_int (repm_fz r2)
  exact ⟨i, j, rfl, rfl, sp_flat R (hr i j F) p⟩
end
abbrev subG : FP := g2 (intM (fun _ _ => true) fun i j => .int (i - j))
def mulC (i j : Int) : Bool := (decide (-(2 ^ 64) < i) && decide (i < 2 ^ 64)) || (decide (-(2 ^ 64) < j) && decide (j < 2 ^ 64))
def divC (_ j : Int) : Bool := decide (0 < j) && decide (j < 1208925819614629174706176)
def modC (_ j : Int) : Bool := decide (0 < j)
def powC (i j : Int) : Bool := decide (0 ≤ j) && (decide (j ≤ 1000000) && decide (i.natAbs < 2 ^ 64))
abbrev fdivG : FP := g2 (intM divC fun i j => .int (i / j))
abbrev modG : FP := g2 (intM modC fun i j => .int (i % j))
abbrev powG : FP := g2 (intM powC fun i j => .int (i ^ j.toNat))
abbrev ltG : FP := g2 (intM (fun _ _ => true) fun i j => .bl (decide (i < j)))
abbrev leG : FP := g2 (intM (fun _ _ => true) fun i j => .bl (decide (i ≤ j)))
abbrev gtG : FP := g2 (intM (fun _ _ => true) fun i j => .bl (decide (j < i)))
abbrev geG : FP := g2 (intM (fun _ _ => true) fun i j => .bl (decide (j ≤ i)))
section
variable {X : Cx} {W : WX} {a b : Expr} {fa fb : FE} {pos : Pos}
theorem e_sub (ha : PE X a (rE X.K W fa)) (hb : PE X b (rE X.K W fb)) : PE X (.BinOp a .Sub b pos) (rE X.K W (callE subG (arg2 fa fb))) := e_op op_sub (op2_int0 fun i j F => .int _) ha hb
theorem e_fdiv (ha : PE X a (rE X.K W fa)) (hb : PE X b (rE X.K W fb)) : PE X (.BinOp a .FloorDiv b pos) (rE X.K W (callE fdivG (arg2 fa fb))) := e_op op_fdivW (op2_int (fun i j h => by
    have h : (0 : Int) < j ∧ j < 1208925819614629174706176 := by simpa [divC] using h
    have h2 : j.natAbs < 2 ^ 80 := by omega
    exact wide_div h.1 h2 (by omega) (by omega)) fun i j F => .int _) ha hb
theorem e_mod (ha : PE X a (rE X.K W fa)) (hb : PE X b (rE X.K W fb)) : PE X (.BinOp a .Mod b pos) (rE X.K W (callE modG (arg2 fa fb))) := e_op op_mod (op2_int (fun i j h => by simpa [modC] using h) fun i j F => .int _) ha hb
theorem e_pow (ha : PE X a (rE X.K W fa)) (hb : PE X b (rE X.K W fb)) : PE X (.BinOp a .Pow b pos) (rE X.K W (callE powG (arg2 fa fb))) := e_op op_pow (op2_int (fun i j h => by
  simp only [powC, Bool.and_eq_true, decide_eq_true_eq] at h; exact h) fun i j F => .int _) ha hb
theorem e_lt (ha : PE X a (rE X.K W fa)) (hb : PE X b (rE X.K W fb)) : PE X (.Compare a [.Lt] [b] pos) (rE X.K W (callE ltG (arg2 fa fb))) := e_cmp op_lt (op2_int0 fun i j F => .bl _) ha hb (nomark _)
theorem e_le (ha : PE X a (rE X.K W fa)) (hb : PE X b (rE X.K W fb)) : PE X (.Compare a [.LtE] [b] pos) (rE X.K W (callE leG (arg2 fa fb))) := e_cmp op_le (op2_int0 fun i j F => .bl _) ha hb (nomark _)
theorem e_gt (ha : PE X a (rE X.K W fa)) (hb : PE X b (rE X.K W fb)) : PE X (.Compare a [.Gt] [b] pos) (rE X.K W (callE gtG (arg2 fa fb))) := e_cmp op_gt (op2_int0 fun i j F => .bl _) ha hb (nomark _)
end
/-- -n -/
def negM : M → Option M
  | .fz (.int i) => some (.fz (.int (-i)))
  | _ => none
def absM : M → Option M
  | .fz (.int i) => some (.fz (.int (if i < 0 then -i else i)))
  | _ => none
section
variable {X : Cx} {W : WX} {a : Expr} {fa : FE} {pos : Pos}
theorem e_neg (ha : PE X a (rE X.K W fa)) : PE X (.UnaryOp .USub a pos) (rE X.K W (callE (g1 negM) (arg1 fa))) := e_un un_neg (fun x H Q Ex p => by
  obtain ⟨x', F, m, m', fps, e, R, r, h, p⟩ := g1_at p
  cases e
  unfold negM at h
  split at h
  · cases h
    obtain rfl := rep_int (repm_fz r)
    exact ⟨_, rfl, sp_flat R (.int _) p⟩
  · cases h) ha
end
def addM : M → M → Option M
  | .fz (.int i), .fz (.int j) => some (.fz (.int (i + j)))
  | .fz (.str s), .fz (.str t) => if s.length + t.length ≤ sizeLine then some (.fz (.str (s ++ t))) else none
  | .fz (.tup s), .fz (.tup t) => if s.length + t.length ≤ sizeLine then some (.fz (.tup (s ++ t))) else none
  | a, b => match lstD a with
    | some s => match lstD b with
      | some t => if s.length + t.length ≤ sizeLine then some (.lst ((s ++ t).map .fz)) else none
      | none => none
    | none => none
abbrev addG : FP := g2 addM
section
variable {X : Cx} {W : WX} {a b : Expr} {fa fb : FE} {pos : Pos}
theorem op2_add {K : PySem.W.Frag} : Op2 K addG (fun x y H Q => rI0 (fun i j => .int (i + j)) x y H Q ∨ ((∃ i j, x = .str i ∧ y = .str j ∧ i.length + j.length ≤ sizeLine ∧ Q (.str (i ++ j)) H) ∨ (rCatA K x y H Q ∨ rCat x y H Q))) := fun x y H Q Ex p => by
  obtain ⟨F, a, b, m, fps, R, r1, r2, e, p⟩ := g2_at p
  unfold addM at e
  split at e
  · cases e
    obtain rfl := rep_int (repm_fz r1)
    obtain rfl := rep_int (repm_fz r2)
    exact .inl ⟨_, _, rfl, rfl, sp_flat R (.int _) p⟩
  · split at e
    · rename_i hl
      cases e
      obtain rfl := rep_str (repm_fz r1)
      obtain rfl := rep_str (repm_fz r2)
      exact .inr (.inl ⟨_, _, rfl, rfl, hl, sp_flat R (.str _) p⟩)
    · cases e
  · split at e
    · rename_i s t hl
      cases e
      obtain ⟨p1, vs1, rfl, q1, rs1⟩ := tup_rep R.fr (repm_fz r1)
      obtain ⟨p2, vs2, rfl, q2, rs2⟩ := tup_rep R.fr (repm_fz r2)
      refine .inr (.inr (.inl ⟨p1, p2, vs1, vs2, rfl, rfl, q1, q2, by rw [rs1.length, rs2.length]; exact hl, fun z => ?_, fun z1 z2 => ?_, fun z1 z2 => sp_tup R (rs1.append rs2) p⟩))
      · subst z
        have hs : s = [] := List.eq_nil_of_length_eq_zero rs1.length.symm
        subst hs
        exact sp_flat R (repm_fz r2) p
      · subst z2
        have hs : t = [] := List.eq_nil_of_length_eq_zero rs2.length.symm
        subst hs
        rw [List.append_nil] at p
        exact sp_flat R (repm_fz r1) p
    · cases e
  · cases e1 : lstD a with
    | none => rw [e1] at e; cases e
    | some s =>
      rw [e1] at e
      cases e2 : lstD b with
      | none => rw [e2] at e; cases e
      | some t =>
        rw [e2] at e
        simp only at e
        split at e
        · rename_i hl
          cases e
          obtain ⟨p1, vs1, rfl, q1, rs1⟩ := lstD_rep R.fr r1 e1
          obtain ⟨p2, vs2, rfl, q2, rs2⟩ := lstD_rep R.fr r2 e2
          exact .inr (.inr (.inr ⟨p1, p2, vs1, vs2, rfl, rfl, q1, q2, by rw [rs1.length, rs2.length]; exact hl, sp_lst R (rs1.append rs2) p⟩))
        · cases e
theorem e_add (ha : PE X a (rE X.K W fa)) (hb : PE X b (rE X.K W fb)) : PE X (.BinOp a .Add b pos) (rE X.K W (callE addG (arg2 fa fb))) := e_op (op_add.or (op_add_str.or (op_catA.or op_cat))) op2_add ha hb
end
def ixM : M → M → Option M
  | .fz (.str s), .fz (.int i) => if s.length ≤ sizeLine then match atI s.cps.toList i with
      | some c => some (.fz (.str ⟨#[c]⟩))
      | none => none
    else none
  | a, .fz (.int i) => match seqD a with
    | some ds => match atI ds i with
      | some d => some (.fz d)
      | none => none
    | none => none
  | _, _ => none
theorem atI_reps {K : PySem.W.Frag} {F : Hp} {vs : List V} {ds : List D} {i : Int} {d : D} (r : Reps K F vs ds) (h : atI ds i = some d) : ∃ v, atI vs i = some v ∧ Rep K F v d := by
  unfold atI at h ⊢
  rw [r.length]
  cases e : ixN ds.length i with
  | none => rw [e] at h; cases h
  | some j =>
    rw [e] at h
    exact r.get h
abbrev ixG : FP := g2 ixM
section
variable {X : Cx} {W : WX} {a b : Expr} {fa fb : FE} {pos : Pos}
theorem op2_ix {K : PySem.W.Frag} : Op2 K ixG (rIx K) := fun x y H Q Ex p => by
  obtain ⟨F, a, b, m, fps, R, r1, r2, e, p⟩ := g2_at p
  unfold ixM at e
  split at e
  · split at e
    · rename_i hl
      split at e
      · rename_i hc
        cases e
        obtain rfl := rep_str (repm_fz r1)
        obtain rfl := rep_int (repm_fz r2)
        exact .inr (.inr ⟨_, _, _, rfl, rfl, hl, hc, sp_flat R (.str _) p⟩)
      · cases e
    · cases e
  · rename_i i _
    cases e1 : seqD a with
    | none => rw [e1] at e; cases e
    | some ds =>
      rw [e1] at e
      simp only at e
      cases e2 : atI ds i with
      | none => rw [e2] at e; cases e
      | some d =>
        rw [e2] at e; cases e
        obtain rfl := rep_int (repm_fz r2)
        obtain ⟨q, vs, rfl, hq, rs⟩ := seqD_rep R.fr r1 e1
        obtain ⟨v, hv, rv⟩ := atI_reps rs e2
        rcases hq with hq | hq
        · exact .inl ⟨q, vs, i, v, rfl, rfl, hq, hv, sp_flat R rv p⟩
        · exact .inr (.inl ⟨q, vs, i, v, rfl, rfl, hq, hv, sp_flat R rv p⟩)
  · cases e
end
def lenM : M → Option M
  | .fz (.str s) => if s.length ≤ sizeLine then some (.fz (.int s.length)) else none
  | .lst ms => some (.fz (.int ms.length))
  | .fz (.lst ds) => some (.fz (.int ds.length))
  | .fz (.tup ds) => some (.fz (.int ds.length))
  | _ => none
abbrev lenG : FP := g1 lenM
section
variable {X : Cx} {W : WX} {e : Expr} {fa : FE} {p pos : Pos}
theorem opc_len {K : PySem.W.Frag} : OpC K lenG (fun xs H Q => ∃ x n, xs = [x] ∧ LenV K x H n ∧ Q (.int n) H) := fun vs H Q Ex p => by
  obtain ⟨x, F, a, m, fps, rfl, R, r, h, p⟩ := g1_at p
  unfold lenM at h
  split at h
  · split at h
    · rename_i hl
      cases h
      obtain rfl := rep_str (repm_fz r)
      exact ⟨_, _, rfl, ⟨hl, rfl⟩, sp_flat R (.int _) p⟩
    · cases h
  · cases h
    obtain ⟨_, _, _, rfl, q, f, b, n, _⟩ := repm_lst r
    exact ⟨_, _, rfl, .inl ⟨_, SqL.of q, rfl⟩, sp_flat R (by rw [b.length]; exact .int _) p⟩
  · cases h
    cases repm_fz r with
    | lst q b => exact ⟨_, _, rfl, .inl ⟨_, SqL.of (R.fr _ _ q), rfl⟩, sp_flat R (by rw [b.length]; exact .int _) p⟩
  · cases h
    cases repm_fz r with
    | tup q b => exact ⟨_, _, rfl, .inr ⟨_, SqT.of (R.fr _ _ q), rfl⟩, sp_flat R (by rw [b.length]; exact .int _) p⟩
  · cases h
theorem e_len (hg : Gl X "len") (hm : X.mg "len" = none) (ha : PE X e (rE X.K W fa)) (hs : starEach [e] X.env = (false, eval e X.env) :: starEach [] X.env := by rfl) : PE X (.Call (.Name "len" p) [e] [] pos) (rE X.K W (callE lenG (arg1 fa))) :=
  e_callB call_len opc_len hg hm PySem.boot_len (a_cons ha a_nil hs) (he := hs)
theorem opc_abs {K : PySem.W.Frag} : OpC K (g1 absM) (fun xs H Q => ∃ i, xs = [.int i] ∧ Q (.int (if i < 0 then -i else i)) H) := fun vs H Q Ex p => by
  obtain ⟨x, F, a, m, fps, rfl, R, r, h, p⟩ := g1_at p
  unfold absM at h
  split at h
  · cases h
    obtain rfl := rep_int (repm_fz r)
    exact ⟨_, rfl, sp_flat R (.int _) p⟩
  · cases h
theorem e_abs (hg : Gl X "abs") (hm : X.mg "abs" = none) (ha : PE X e (rE X.K W fa)) (hs : starEach [e] X.env = (false, eval e X.env) :: starEach [] X.env := by rfl) : PE X (.Call (.Name "abs" p) [e] [] pos) (rE X.K W (callE (g1 absM) (arg1 fa))) :=
  e_callB call_abs opc_abs hg hm (by decide +kernel) (a_cons ha a_nil hs) (he := hs)
end
end Ink
set_option Elab.async false
set_option linter.all false
set_option maxRecDepth 100000
namespace Ink
open PySem L2
inductive Fl where
  | nx (env : E) | rt (m : M) (env : E) | bk (env : E) | ct (env : E) | ex (x : Xc) (env : E)
abbrev FS := E → Option Fl
abbrev FG := M → E → Option E
def Pin (P : List Nat) (σ σ' : St) : Prop := ∀ i ∈ P, σ'[i]? = σ[i]?
theorem Pin.refl {P : List Nat} {σ : St} : Pin P σ σ := fun _ _ => rfl
theorem Pin.trans {P : List Nat} {σ σ1 σ2 : St} (a : Pin P σ σ1) (b : Pin P σ1 σ2) : Pin P σ σ2 := fun i h => (b i h).trans (a i h)
/-- only slots of S were stored -/
def Chg (S : List Nat) (σ σ' : St) : Prop := σ'.length = σ.length ∧ ∀ i, S.contains i = false → σ'[i]? = σ[i]?
theorem Chg.refl {S : List Nat} {σ : St} : Chg S σ σ := ⟨rfl, fun _ _ => rfl⟩
theorem Chg.trans {S : List Nat} {σ σ1 σ2 : St} (a : Chg S σ σ1) (b : Chg S σ1 σ2) : Chg S σ σ2 := ⟨b.1.trans a.1, fun i h => (b.2 i h).trans (a.2 i h)⟩
theorem Chg.set {S : List Nat} {σ : St} {i : Nat} {v : Option V} (h : S.contains i = true) : Chg S σ (σ.set i v) := ⟨List.length_set, fun j hj => by
  rw [List.getElem?_set_ne]
  intro e
  subst e
  rw [h] at hj; cases hj⟩
def apart (S P : List Nat) : Bool := S.all fun i => !P.contains i
theorem Chg.pin {S P : List Nat} {σ σ' : St} (h : Chg S σ σ') (hs : apart S P = true) : Pin P σ σ' := fun i hi => h.2 i (by
  cases e : S.contains i with
  | false => rfl
  | true =>
    have := List.all_eq_true.mp hs i (by simpa using e)
    simp at this
    exact absurd hi this)
section
variable (K : PySem.W.Frag) (W : WX) (P : List Nat) (σ : St) (F H : Hp) (A : Addr → Prop)
def PNC (S : List Nat) (env' : E) (k : St → Hp → Prop) : Prop := ∀ σ' F' H' fps', REnv K F' H' σ' env' fps' → Chg S σ σ' → Ext K F H A F' H' (Own fps') → k σ' H'
def PN (env' : E) (k : St → Hp → Prop) : Prop := ∀ σ' F' H' fps', REnv K F' H' σ' env' fps' → Pin P σ σ' → Ext K F H A F' H' (Own fps') → k σ' H'
def PR (m : M) (env' : E) (k : VK) : Prop := ∀ v σ' F' H' fps' fp, REnv K F' H' σ' env' fps' → RepM K F' H' m v fp → (∀ b ∈ fp, ¬ Own fps' b) → Pin P σ σ' → Ext K F H A F' H' (fun b => Own fps' b ∨ b ∈ fp) → k v H'
def PXS (x : Xc) (env' : E) : Prop := ∀ cls d σ' F' H' fps', REnv K F' H' σ' env' fps' → RepX K F' H' x cls d → Pin P σ σ' → Ext K F H A F' H' (Own fps') → W cls d σ' H'
def poS (o : Option Fl) (D : Ends) : Prop := match o with
  | none => False
  | some (.nx env') => PN K P σ F H A env' D.nx
  | some (.bk env') => PN K P σ F H A env' D.bk
  | some (.ct env') => PN K P σ F H A env' D.ct
  | some (.rt m env') => PR K P σ F H A m env' D.rt
  | some (.ex x env') => PXS K W P σ F H A x env'
end
def rS (K : PySem.W.Frag) (W : WX) (P : List Nat) (f : FS) : TS := fun D σ H => ∃ F env fps, REnv K F H σ env fps ∧ poS K W P σ F H (Own fps) (f env) D
section
variable {K : PySem.W.Frag} {W : WX} {P : List Nat} {σ σ1 : St} {F H F1 H1 : Hp} {A A1 B : Addr → Prop}
theorem PN.wide {env' : E} {k : St → Hp → Prop} (p : PN K P σ F H A env' k) (pn : Pin P σ σ1) (e : Ext K F H A F1 H1 A1) (hB : ∀ b, B b → A1 b) : PN K P σ1 F1 H1 B env' k :=
  fun σ' F' H' fps' R q e2 => p σ' F' H' fps' R (pn.trans q) (e.trans e2 hB fun _ c => .inl c)
theorem PR.wide {m : M} {env' : E} {k : VK} (p : PR K P σ F H A m env' k) (pn : Pin P σ σ1) (e : Ext K F H A F1 H1 A1) (hB : ∀ b, B b → A1 b) : PR K P σ1 F1 H1 B m env' k :=
  fun v σ' F' H' fps' fp R r d q e2 => p v σ' F' H' fps' fp R r d (pn.trans q) (e.trans e2 hB fun _ c => .inl c)
theorem PXS.wide {x : Xc} {env' : E} (p : PXS K W P σ F H A x env') (pn : Pin P σ σ1) (e : Ext K F H A F1 H1 A1) (hB : ∀ b, B b → A1 b) : PXS K W P σ1 F1 H1 B x env' :=
  fun cls d σ' F' H' fps' R r q e2 => p cls d σ' F' H' fps' R r (pn.trans q) (e.trans e2 hB fun _ c => .inl c)
theorem PXS.px {x : Xc} {env' : E} (p : PXS K W P σ F H A x env') : PX K W σ F H A x env' := fun cls d F' H' fps' R r e => p cls d σ F' H' fps' R r .refl e
theorem poS.wide {o : Option Fl} {D : Ends} (p : poS K W P σ F H A o D) (pn : Pin P σ σ1) (e : Ext K F H A F1 H1 A1) (hB : ∀ b, B b → A1 b) : poS K W P σ1 F1 H1 B o D := by
  cases o with
  | none => exact p
  | some o =>
    cases o with
    | nx e2 => exact PN.wide p pn e hB
    | bk e2 => exact PN.wide p pn e hB
    | ct e2 => exact PN.wide p pn e hB
    | rt m e2 => exact PR.wide p pn e hB
    | ex x e2 => exact PXS.wide p pn e hB
end
def skipS : FS := fun env => some (.nx env)
def seqS (f g : FS) : FS := fun env => match f env with
  | some (.nx env1) => g env1
  | o => o
section
variable {X : Cx} {W : WX} {P : List Nat} {st : Stmt} {rest : List Stmt} {f g : FS}
theorem s_nil : PSs X [] (rS X.K W P skipS) := PSs_mono pss_nil fun D σ H ⟨F, env, fps, R, p⟩ => p σ F H fps R .refl (Ext.refl fun _ h => h)
theorem s_cons (h1 : PS X st (rS X.K W P f)) (h2 : PSs X rest (rS X.K W P g)) : PSs X (st :: rest) (rS X.K W P (seqS f g)) := PSs_mono (pss_cons h1 h2) fun D σ H ⟨F, env, fps, R, p⟩ => by
  refine ⟨F, env, fps, R, ?_⟩
  unfold seqS at p
  cases e : f env with
  | none => rw [e] at p; exact p
  | some o =>
    rw [e] at p
    cases o with
    | nx env1 => exact fun σ1 F1 H1 fps1 R1 q e1 => ⟨F1, env1, fps1, R1, poS.wide p q e1 fun _ h => h⟩
    | bk env1 => exact p
    | ct env1 => exact p
    | rt m env1 => exact p
    | ex x env1 => exact p
theorem s_one (h1 : PS X st (rS X.K W P f)) : PSs X [st] (rS X.K W P f) := pss_one h1
end
def boolA (a : Av) (env : E) : Option Bool := match a with
  | .tm (.fz (.bl b)) => some b
  | .sl i => match env[i]? with
    | some (some (.fz (.bl b))) => some b
    | _ => none
  | _ => none
def tst (f : FE) : FT := fun env => bindO (f env) fun a env1 => match boolA a env1 with
  | some b => some (.ok b env1)
  | none => none
theorem boolA_rep {K : PySem.W.Frag} {F H : Hp} {σ : St} {env : E} {fps : Nat → List Addr} {a : Av} {v : V} {fp : List Addr} {b : Bool} (R : REnv K F H σ env fps) (r : RepA K F H σ a v fp) (h : boolA a env = some b) : v = .bl b := by
  unfold boolA at h
  split at h
  · cases h
    exact rep_bl (repm_fz r)
  · split at h
    · rename_i e
      cases h
      obtain ⟨w, hw, rr⟩ := R.got _ _ e
      obtain ⟨q, _⟩ := r
      rw [q] at hw; cases hw
      exact rep_bl (repm_fz rr)
    · cases h
  · cases h
section
variable {X : Cx} {W : WX} {e a b c : Expr} {f : FE} {rest : List Expr} {ta tb : FT} {pos : Pos}
theorem r_tst {K : PySem.W.Frag} : ∀ σ H Q, rT K W (tst f) σ H Q → rE K W f σ H fun x H1 => ∃ k, x = .bl k ∧ Q k H1 := fun σ H Q ⟨F, env, fps, R, p⟩ => by
  refine ⟨F, env, fps, R, ?_⟩
  unfold tst at p
  cases ef : f env with
  | none => rw [ef] at p; exact p
  | some o =>
    rw [ef] at p
    cases o with
    | ex x env1 => exact p
    | ok a env1 =>
      simp only [bindO_ok] at p
      intro v F1 H1 fps1 fp R1 r d e1
      cases eb : boolA a env1 with
      | none => rw [eb] at p; exact p.elim
      | some b =>
        rw [eb] at p
        exact ⟨b, boolA_rep R1 r eb, p F1 H1 fps1 R1 (e1.weak fun _ h => .inl h)⟩
theorem t_val (h : PE X e (rE X.K W f)) (he : ∀ whole, isTrue e X.env whole = (do let v ← whole; standAt e.pos; holding [v] (truthy v)) := by intro _; rfl) : PT X e (rT X.K W (tst f)) := PT_mono (pt_val h he) r_tst
def andT (f g : FT) : FT := fun env => bindO (f env) fun b env1 => match b with
  | true => g env1
  | false => some (.ok false env1)
def orT (f g : FT) : FT := fun env => bindO (f env) fun b env1 => match b with
  | true => some (.ok true env1)
  | false => g env1
def notT (f : FT) : FT := fun env => bindO (f env) fun b env1 => some (.ok (!b) env1)
theorem poT_wide {K : PySem.W.Frag} {σ : St} {F H F1 H1 : Hp} {A A1 B : Addr → Prop} {o : Option (Out Bool)} {Q : Bool → Hp → Prop} (p : poT K W σ F H A o Q) (e : Ext K F H A F1 H1 A1) (hB : ∀ b, B b → A1 b) : poT K W σ F1 H1 B o Q := by
  cases o with
  | none => exact p
  | some o =>
    cases o with
    | ok a env' => exact fun F' H' fps' R e2 => p F' H' fps' R (e.trans e2 hB fun _ c => .inl c)
    | ex x env' => exact PX.wide p e hB
theorem t_and1 (h : PT X a (rT X.K W ta)) : PW X (.BoolOp .And [a] pos) (rT X.K W ta) := pw_and1 h
theorem t_or1 (h : PT X a (rT X.K W ta)) : PW X (.BoolOp .Or [a] pos) (rT X.K W ta) := pw_or1 h
theorem t_and (h : PT X a (rT X.K W ta)) (h2 : PW X (.BoolOp .And (b :: rest) pos) (rT X.K W tb)) : PW X (.BoolOp .And (a :: b :: rest) pos) (rT X.K W (andT ta tb)) := PW_mono (pw_and h h2) fun σ H Q ⟨F, env, fps, R, p⟩ => by
  refine ⟨F, env, fps, R, ?_⟩
  unfold andT at p
  cases ef : ta env with
  | none => rw [ef] at p; exact p
  | some o =>
    rw [ef] at p
    cases o with
    | ex x env1 => exact p
    | ok k env1 =>
      simp only [bindO_ok] at p
      intro F1 H1 fps1 R1 e1
      cases k with
      | true => exact iteT' ⟨F1, env1, fps1, R1, poT_wide p e1 fun _ h => h⟩
      | false => exact iteF' (p F1 H1 fps1 R1 e1)
where
  iteT' {A B : Prop} (h : A) : if true = true then A else B := by rw [if_pos rfl]; exact h
  iteF' {A B : Prop} (h : B) : if false = true then A else B := by rw [if_neg Bool.false_ne_true]; exact h
theorem ifT {A B : Prop} (h : A) : if true = true then A else B := by rw [if_pos rfl]; exact h
theorem ifF {A B : Prop} (h : B) : if false = true then A else B := by rw [if_neg Bool.false_ne_true]; exact h
theorem t_or (h : PT X a (rT X.K W ta)) (h2 : PW X (.BoolOp .Or (b :: rest) pos) (rT X.K W tb)) : PW X (.BoolOp .Or (a :: b :: rest) pos) (rT X.K W (orT ta tb)) := PW_mono (pw_or h h2) fun σ H Q ⟨F, env, fps, R, p⟩ => by
  refine ⟨F, env, fps, R, ?_⟩
  unfold orT at p
  cases ef : ta env with
  | none => rw [ef] at p; exact p
  | some o =>
    rw [ef] at p
    cases o with
    | ex x env1 => exact p
    | ok k env1 =>
      simp only [bindO_ok] at p
      intro F1 H1 fps1 R1 e1
      cases k with
      | true => exact ifT (p F1 H1 fps1 R1 e1)
      | false => exact ifF ⟨F1, env1, fps1, R1, poT_wide p e1 fun _ h => h⟩
theorem t_not (h : PT X a (rT X.K W ta)) : PT X (.UnaryOp .Not a pos) (rT X.K W (notT ta)) := PT_mono (pt_not h) fun σ H Q ⟨F, env, fps, R, p⟩ => by
  refine ⟨F, env, fps, R, ?_⟩
  unfold notT at p
  cases ef : ta env with
  | none => rw [ef] at p; exact p
  | some o =>
    rw [ef] at p
    cases o with
    | ex x env1 => exact p
    | ok k env1 => exact p
end
def ifS (c : FT) (f g : FS) : FS := fun env => match c env with
  | none => none
  | some (.ok true env1) => f env1
  | some (.ok false env1) => g env1
  | some (.ex x env1) => some (.ex x env1)
def bindS {α : Type} (o : Option (Out α)) (k : α → E → Option Fl) : Option Fl := match o with
  | none => none
  | some (.ok a env1) => k a env1
  | some (.ex x env1) => some (.ex x env1)
/-- return e: a thing made on the way -/
def retS (f : FE) : FS := fun env => bindS (f env) fun a env1 => match a with
  | .tm m => some (.rt m env1)
  | .sl _ => none
/-- return x, x a local: the thing goes out with it -/
def retV (i : Nat) : FS := fun env => match env[i]? with
  | some (some m) => some (.rt m (env.set i none))
  | _ => none
def retN : FS := fun env => some (.rt (.fz .non) env)
def exprS (f : FE) : FS := fun env => bindS (f env) fun _ env1 => some (.nx env1)
/-- target = e -/
def asgS (f : FE) (g : FG) : FS := fun env => bindS (f env) fun a env1 => match a with
  | .tm m => match g m env1 with
    | some env2 => some (.nx env2)
    | none => none
  | .sl _ => none
section
variable {X : Cx} {W : WX} {P : List Nat} {c e : Expr} {a b : List Stmt} {fc : FT} {fa fb : FS} {f : FE} {pos : Pos}
theorem s_if (hc : PT X c (rT X.K W fc)) (ha : PSs X a (rS X.K W P fa)) (hb : PSs X b (rS X.K W P fb)) : PS X (.If c a b pos) (rS X.K W P (ifS fc fa fb)) := PS_mono (ps_if hc ha hb) fun D σ H ⟨F, env, fps, R, p⟩ => by
  refine ⟨F, env, fps, R, ?_⟩
  unfold ifS at p
  cases ef : fc env with
  | none => rw [ef] at p; exact p
  | some o =>
    rw [ef] at p
    cases o with
    | ex x env1 => exact PXS.px p
    | ok k env1 =>
      intro F1 H1 fps1 R1 e1
      cases k with
      | true => exact ifT ⟨F1, env1, fps1, R1, poS.wide p .refl e1 fun _ h => h⟩
      | false => exact ifF ⟨F1, env1, fps1, R1, poS.wide p .refl e1 fun _ h => h⟩
theorem s_ret (he : PE X e (rE X.K W f)) : PS X (.Return (some e) pos) (rS X.K W P (retS f)) := PS_mono (ps_ret he) fun D σ H ⟨F, env, fps, R, p⟩ => by
  refine ⟨F, env, fps, R, ?_⟩
  unfold retS at p
  cases ef : f env with
  | none => rw [ef] at p; exact p
  | some o =>
    rw [ef] at p
    cases o with
    | ex x env1 => exact PXS.px p
    | ok a env1 =>
      cases a with
      | sl i => exact p.elim
      | tm m => exact fun v F1 H1 fps1 fp R1 r d e1 => p v σ F1 H1 fps1 fp R1 r d .refl e1
theorem s_retv {i : Nat} {x : Str} {pos' : Pos} (he : PE X (.Name x pos') (tVar i)) : PS X (.Return (some (.Name x pos')) pos) (rS X.K W P (retV i)) := PS_mono (ps_ret he) fun D σ H ⟨F, env, fps, R, p⟩ => by
  unfold retV at p
  split at p
  · rename_i m em
    obtain ⟨v, hv, r⟩ := R.got i m em
    refine ⟨v, hv, p v σ F H _ (fps i) (R.drop i) r (fun b hb ⟨j, hj⟩ => ?_) .refl (Ext.refl fun b h => ?_)⟩
    · by_cases ej : j = i
      · simp only [if_pos ej] at hj; cases hj
      · simp only [if_neg ej] at hj
        exact R.dj j i ej b hj hb
    · rcases h with ⟨j, hj⟩ | h
      · by_cases ej : j = i
        · simp only [if_pos ej] at hj; cases hj
        · simp only [if_neg ej] at hj; exact ⟨j, hj⟩
      · exact ⟨i, h⟩
  · exact p.elim
theorem s_expr (he : PE X e (rE X.K W f)) (hs : swapsWith e none pos.line X.env = pure false := by rfl) : PS X (.Expr e pos) (rS X.K W P (exprS f)) := PS_mono (ps_expr he hs) fun D σ H ⟨F, env, fps, R, p⟩ => by
  refine ⟨F, env, fps, R, ?_⟩
  unfold exprS at p
  cases ef : f env with
  | none => rw [ef] at p; exact p
  | some o =>
    rw [ef] at p
    cases o with
    | ex x env1 => exact PXS.px p
    | ok a env1 => exact fun v F1 H1 fps1 fp R1 r d e1 => p σ F1 H1 fps1 R1 .refl (e1.weak fun _ h => .inl h)
end
def rG (K : PySem.W.Frag) (S : List Nat) (g : FG) : TG := fun v σ H Q => ∃ F env fps m fp, REnv K F H σ env fps ∧ RepM K F H m v fp ∧ (∀ b ∈ fp, ¬ Own fps b) ∧ ∃ env', g m env = some env' ∧ PNC K σ F H (fun b => Own fps b ∨ b ∈ fp) S env' Q
theorem PG_mono {X : Cx} {e : Expr} {t t' : TG} (h : PG X e t) (m : ∀ v σ H Q, t' v σ H Q → t v σ H Q) : PG X e t' := ⟨fun pins s σ H v u Q I r q => h.run pins s σ H v u Q I r (m _ _ _ _ q)⟩
theorem PNC.wide {K : PySem.W.Frag} {S : List Nat} {σ σ1 : St} {F H F1 H1 : Hp} {A A1 B : Addr → Prop} {env' : E} {k : St → Hp → Prop} (p : PNC K σ F H A S env' k) (pn : Chg S σ σ1) (e : Ext K F H A F1 H1 A1) (hB : ∀ b, B b → A1 b) : PNC K σ1 F1 H1 B S env' k :=
  fun σ' F' H' fps' R q e2 => p σ' F' H' fps' R (pn.trans q) (e.trans e2 hB fun _ c => .inl c)
def nmG (i : Nat) : FG := fun m env => some (env.set i (some m))
/-- (a, b, ..) from plain data -/
def eachG : List FG → List M → E → Option E
  | [], [], env => some env
  | g :: gs, d :: ds, env => match g d env with
    | some env1 => eachG gs ds env1
    | none => none
  | _, _, _ => none
def tupG (gs : List FG) : FG := fun m env => match m with
  | .fz (.tup ds) => eachG gs (ds.map M.fz) env
  | .tup ms => eachG gs ms env
  | _ => none
theorem pendMs {K : PySem.W.Frag} {F1 H1 F2 H2 : Hp} {m : List M} {v : List V} {fp : List Addr} {B A2 : Addr → Prop} (h : RepMs K F1 H1 m v fp) (hB : ∀ b ∈ fp, ¬ B b) (e : Ext K F1 H1 B F2 H2 A2) : RepMs K F2 H2 m v fp ∧ ∀ b ∈ fp, ¬ A2 b := by
  have l := h.live
  refine ⟨h.frame e.ff (fun b hb => ?_) (fun b hb => ?_), fun b hb a => ?_⟩
  · obtain ⟨⟨o, ho⟩, _⟩ := l b hb
    rw [e.keep b o ho (hB b hb) (h.nt hb ho), ho]
  · obtain ⟨⟨o, ho⟩, hf⟩ := l b hb
    cases q : F2 b with
    | none => rfl
    | some u =>
      rcases e.fz b u q with z | z | z
      · rw [hf] at z; cases z
      · exact absurd z (hB b hb)
      · rw [ho] at z; cases z
  · obtain ⟨⟨o, ho⟩, _⟩ := l b hb
    rcases e.own b a with z | z
    · exact hB b hb z
    · rw [ho] at z; cases z
theorem RepMs.ofD {K : PySem.W.Frag} {F H : Hp} : ∀ {vs : List V} {ds : List D}, Reps K F vs ds → RepMs K F H (ds.map M.fz) vs []
  | _, _, .nil => .nil
  | _, _, .cons a b => .cons (fp := []) (fq := []) (RepM.fz a) (RepMs.ofD b) fun b hb => by cases hb
def rGs (K : PySem.W.Frag) (S : List Nat) (gs : List FG) : TGs := fun vs σ H Q => ∃ F env fps ms fp, REnv K F H σ env fps ∧ RepMs K F H ms vs fp ∧ (∀ b ∈ fp, ¬ Own fps b) ∧ ∃ env', eachG gs ms env = some env' ∧ PNC K σ F H (fun b => Own fps b ∨ b ∈ fp) S env' Q
theorem PGs_mono {X : Cx} {e : List Expr} {t t' : TGs} (h : PGs X e t) (m : ∀ v σ H Q, t' v σ H Q → t v σ H Q) : PGs X e t' := ⟨fun pins s σ H v u Q I r q => h.run pins s σ H v u Q I r (m _ _ _ _ q)⟩
section
variable {X : Cx} {S : List Nat} {i : Nat} {x : Str} {pos : Pos}
theorem store_len {K : PySem.W.Frag} {F H : Hp} {σ : St} {env : E} {fps : Nat → List Addr} (R : REnv K F H σ env fps) {i : Nat} {m : M} {v : V} {fp : List Addr} (r : RepM K F H m v fp) (d : ∀ b ∈ fp, ¬ Own fps b) :
    ∃ fps', REnv K F H (σ.set i (some v)) (env.set i (some m)) fps' ∧ ∀ b, Own fps' b → Own fps b ∨ b ∈ fp := by
  by_cases hi : i < σ.length
  · refine ⟨_, R.store hi r d, fun b ⟨j, hj⟩ => ?_⟩
    by_cases e : j = i
    · simp only [if_pos e] at hj; exact .inr hj
    · simp only [if_neg e] at hj; exact .inl ⟨j, hj⟩
  · have e1 : σ.set i (some v) = σ := List.set_eq_of_length_le (by omega)
    have e2 : env.set i (some m) = env := List.set_eq_of_length_le (by rw [R.len]; omega)
    rw [e1, e2]
    exact ⟨fps, R, fun b h => .inl h⟩
theorem r_name {K : PySem.W.Frag} (hp : S.contains i = true) : ∀ v σ H Q, rG K S (nmG i) v σ H Q → gName i v σ H Q := fun v σ H Q ⟨F, env, fps, m, fp, R, r, d, env', e, p⟩ => by
  cases e
  obtain ⟨fps', R', ho⟩ := store_len (i := i) R r d
  exact p _ F H fps' R' (Chg.set hp) (Ext.refl fun b h => ho b h)
theorem g_name (hN : X.N.Nodup) (hi : X.N[i]? = some x) (hx : Loc X.env.scope x) (hp : S.contains i = true := by rfl) (hf : X.fn x = true ∨ X.env.scope.names.lookup x = some .local := by first | exact .inl rfl | exact .inr rfl | assumption) : PG X (.Name x pos) (rG X.K S (nmG i)) := PG_mono (pg_name hN hi hx hf) (r_name hp)
theorem gs_nil : PGs X [] (rGs X.K S []) := PGs_mono pgs_nil fun vs σ H Q ⟨F, env, fps, ms, fp, R, r, d, env', e, p⟩ => by
  cases ms with
  | nil => cases r; cases e; exact ⟨rfl, p σ F H fps R .refl (Ext.refl fun _ h => .inl h)⟩
  | cons d ds => cases e
theorem gs_cons {e : Expr} {es : List Expr} {g : FG} {gs : List FG} (h1 : PG X e (rG X.K S g)) (h2 : PGs X es (rGs X.K S gs)) (hs : (assignEach (e :: es) X.env).map (·.2) = assign e X.env :: (assignEach es X.env).map (·.2) := by rfl) : PGs X (e :: es) (rGs X.K S (g :: gs)) :=
  PGs_mono (pgs_cons h1 h2 hs) fun vs σ H Q ⟨F, env, fps, ms, fp, R, r, d, env', e, p⟩ => by
  cases ms with
  | nil => cases e
  | cons m ms =>
    cases r with
    | @cons _ _ _ _ f1 f2 rv rs dj =>
      unfold eachG at e
      cases eg : g m env with
      | none => rw [eg] at e; cases e
      | some env1 =>
        rw [eg] at e
        refine ⟨_, _, rfl, F, env, fps, m, f1, R, rv, fun b hb => d b (List.mem_append_left _ hb), env1, eg, fun σ1 F1 H1 fps1 R1 q e1 => ?_⟩
        obtain ⟨rs1, n1⟩ := pendMs rs (B := fun b => Own fps b ∨ b ∈ f1) (fun b hb h => h.elim (d b (List.mem_append_right _ hb)) fun z => dj b z hb) e1
        have e2 : Ext X.K F H (fun b => (Own fps b ∨ b ∈ f1) ∨ b ∈ f2) F1 H1 (fun b => Own fps1 b ∨ b ∈ f2) := ⟨e1.ff, fun b o h n => e1.keep b o h fun z => n (.inl z), fun b h => h.elim (fun z => (e1.own b z).elim (fun y => .inl (.inl y)) .inr) fun z => .inl (.inr z), fun b o h => (e1.fz b o h).elim .inl fun z => z.elim (fun y => .inr (.inl (.inl y))) fun y => .inr (.inr y), e1.tt⟩
        exact ⟨F1, env1, fps1, ms, f2, R1, rs1, n1, env', e, PNC.wide p q (e2.wide fun b h => by
          rcases h with (h | h) | h
          · exact .inl h
          · exact .inr (List.mem_append_left _ h)
          · exact .inr (List.mem_append_right _ h)) fun _ h => h⟩
theorem eachG_len {env' : E} : ∀ (gs : List FG) (ds : List M) (env : E), eachG gs ds env = some env' → ds.length = gs.length
  | [], [], _, _ => rfl
  | [], _ :: _, _, h => by cases h
  | _ :: _, [], _, h => by cases h
  | g :: gs, d :: ds, env, h => by
    unfold eachG at h
    cases eg : g d env with
    | none => rw [eg] at h; cases h
    | some env1 => rw [eg] at h; simp [eachG_len gs ds env1 h]
theorem g_tup {es : List Expr} {k n : Nat} {gs : List FG} (hc : X.calm = true) (h : PGs X es (rGs X.K S gs)) (hl : gs.length = n := by rfl)
    (hn : (assignEach es X.env).length = n := by rfl) (hst : (assignEach es X.env).findIdx? (·.1) = none := by rfl) : PG X (.Tuple es k pos) (rG X.K S (tupG gs)) := PG_mono (pg_tup hc h hn hst) fun v σ H Q ⟨F, env, fps, m, fp, R, r, d, env', e, p⟩ => by
  unfold tupG at e
  split at e
  · rename_i ds
    have hz := r.fz_nil
    subst hz
    obtain ⟨a, vs, rfl, q, rs⟩ := tup_rep R.fr (repm_fz r)
    refine ⟨a, vs, rfl, q, by rw [rs.length, ← hl, ← eachG_len gs _ env e, List.length_map], F, env, fps, _, [], R, RepMs.ofD rs, d, env', e, p⟩
  · rename_i ms
    cases r with
    | @tup pa vs _ fq a f rs n =>
      refine ⟨pa, vs, rfl, SqT.of a, by rw [rs.length, ← hl, ← eachG_len gs _ env e], F, env, fps, _, fq, R, rs, fun b hb => d b (List.mem_cons_of_mem _ hb), env', e, PNC.wide p .refl (Ext.refl (A' := fun b => Own fps b ∨ b ∈ fq) fun b h => h.imp id (List.mem_cons_of_mem _)) fun _ h => h⟩
  · cases e
end
section
variable {X : Cx} {W : WX} {P S : List Nat} {e tg : Expr} {f : FE} {g : FG} {pos : Pos} {i : Nat} {x : Str} {pos' : Pos}
theorem r_asg {K : PySem.W.Frag} (hsp : apart S P = true) : ∀ D σ H, rS K W P (asgS f g) D σ H → tAsg (rE K W f) (rG K S g) D σ H := fun D σ H ⟨F, env, fps, R, p⟩ => by
  refine ⟨F, env, fps, R, ?_⟩
  unfold asgS at p
  cases ef : f env with
  | none => rw [ef] at p; exact p
  | some o =>
    rw [ef] at p
    cases o with
    | ex x env1 => exact PXS.px p
    | ok a env1 =>
      cases a with
      | sl i => exact p.elim
      | tm m =>
        intro v F1 H1 fps1 fp R1 r d e1
        simp only [bindS] at p
        cases eg : g m env1 with
        | none => rw [eg] at p; exact p.elim
        | some env2 =>
          rw [eg] at p
          refine ⟨F1, env1, fps1, m, fp, R1, r, d, env2, eg, fun σ2 F2 H2 fps2 R2 q e2 => p σ2 F2 H2 fps2 R2 (q.pin hsp) (e1.trans e2 (fun _ h => h) fun _ h => .inl h)⟩
theorem s_asg (he : PE X e (rE X.K W f)) (hg : PG X tg (rG X.K S g)) (hsp : apart S P = true := by rfl) (hs : swapsWithSole [tg] e pos.line X.env = pure false := by rfl) (hw : swappedStores [tg] e X.env = pure none := by rfl)
    (h1 : (assignEach [tg] X.env).map (·.2) = [assign tg X.env] := by rfl) : PS X (.Assign [tg] e pos) (rS X.K W P (asgS f g)) := PS_mono (ps_asg he hg hs hw h1) (r_asg hsp)
theorem s_set (hN : X.N.Nodup) (hi : X.N[i]? = some x) (hx : Loc X.env.scope x) (he : PE X e (rE X.K W f)) (hp : apart [i] P = true := by rfl) (hs : swapsWith e (some (.Name x pos')) pos.line X.env = pure false := by rfl) (hf : X.fn x = true ∨ X.env.scope.names.lookup x = some .local := by first | exact .inl rfl | exact .inr rfl | assumption) :
    PS X (.Assign [.Name x pos'] e pos) (rS X.K W P (asgS f (nmG i))) := PS_mono (ps_set hN hi hx he hs hf) fun D σ H q =>
  rE_imp (fun v H' z => r_name (S := [i]) (by simp) v σ H' D.nx z) (r_asg hp D σ H q)
end
end Ink
set_option Elab.async false
set_option linter.all false
set_option maxRecDepth 100000
namespace Ink
open PySem L2
abbrev FI := E → Option (Out (List D))
/-- an iterator over plain data -/
def ItD (K : PySem.W.Frag) (J : It) (F : Hp) (ds : List D) : Prop := ∀ F' H, Sub F F' → Sub F' H → (∀ i, ds.length ≤ i → J.stop i H) ∧
  ∀ (i : Nat) (d : D), ds[i]? = some d → J.go i H ∧ ∀ x H', J.yld i H x H' → ∃ F'', Sub F'' H' ∧ Rep K F'' x d ∧ Ext K F' H (fun _ => False) F'' H' (fun _ => False)
section
variable (K : PySem.W.Frag) (W : WX) (σ : St) (F H : Hp) (A : Addr → Prop)
def PJ (ds : List D) (env' : E) (R : It → Hp → Prop) : Prop := ∀ J F' H' fps', REnv K F' H' σ env' fps' → ItD K J F' ds → Ext K F H A F' H' (Own fps') → R J H'
def poI (o : Option (Out (List D))) (R : It → Hp → Prop) : Prop := match o with
  | none => False
  | some (.ok ds env') => PJ K σ F H A ds env' R
  | some (.ex x env') => PX K W σ F H A x env'
end
def rI (K : PySem.W.Frag) (W : WX) (f : FI) : TI := fun σ H R => ∃ F env fps, REnv K F H σ env fps ∧ poI K W σ F H (Own fps) (f env) R
def loopD (g : FG) (fb : FS) : List D → E → Option Fl
  | [], env => some (.nx env)
  | d :: ds, env => match g (.fz d) env with
    | none => none
    | some env1 => match fb env1 with
      | some (.nx env2) => loopD g fb ds env2
      | some (.ct env2) => loopD g fb ds env2
      | some (.bk env2) => some (.nx env2)
      | o => o
def forS (fi : FI) (g : FG) (fb : FS) : FS := fun env => bindS (fi env) fun ds env1 => loopD g fb ds env1
theorem Ext.unit {F H F' H' : Hp} {A : Addr → Prop} (e : Ext K F H (fun _ => False) F' H' (fun _ => False)) : Ext K F H A F' H' A :=
  ⟨e.ff, fun b o h _ => e.keep b o h id, fun b h => .inl h, fun b o h => (e.fz b o h).imp id fun q => q.elim False.elim .inr, e.tt⟩
section
variable {X : Cx} {W : WX} {P S : List Nat} {tg iter : Expr} {body : List Stmt} {fi : FI} {g : FG} {fb : FS} {pos : Pos}
theorem s_for (hp : PassesOwn (model X.prog X.w) X.A X.env X.xe) (hc : X.calm = true) (hi : PI X tg iter (rI X.K W fi)) (hg : PG X tg (rG X.K S g)) (hb : PSs X body (rS X.K W P fb)) (hsp : apart S P = true := by rfl) (hs : ∀ x, foldedSetIterable iter X.env x = pure x := by intro _; rfl) : PS X (.For tg iter body [] pos) (rS X.K W P (forS fi g fb)) := PS_mono (ps_for hp hc hi hg hb hs) fun D σ0 H0 ⟨F0, env0, fps0, R0, p⟩ => by
  refine ⟨F0, env0, fps0, R0, ?_⟩
  unfold forS at p
  cases ef : fi env0 with
  | none => rw [ef] at p; exact p
  | some o =>
    rw [ef] at p
    cases o with
    | ex x env1 => exact PXS.px p
    | ok ds env1 =>
      intro J F1 H1 fps1 R1 hJ e1
      simp only [bindS] at p
      let Wv : Nat → Nat → St → Hp → Prop := fun i m σ' H' => m = ds.length - i ∧ i ≤ ds.length ∧ ∃ F' env' fps', REnv X.K F' H' σ' env' fps' ∧ Sub F1 F' ∧ Pin P σ0 σ' ∧ Ext X.K F0 H0 (Own fps0) F' H' (Own fps') ∧ poS X.K W P σ0 F0 H0 (Own fps0) (loopD g fb (ds.drop i) env') D
      refine ⟨Wv, ⟨ds.length, by omega, Nat.zero_le _, F1, env1, fps1, R1, Sub.refl _, .refl, e1, by simpa using p⟩, ?_⟩
      rintro i m σ' H' ⟨rfl, hi, F', env', fps', R', hF, pin, ext, po⟩
      obtain ⟨hstop, hgo⟩ := hJ F' H' hF R'.fr
      by_cases hlt : i < ds.length
      · have hd : ds[i]? = some ds[i] := List.getElem?_eq_getElem hlt
        obtain ⟨go, yl⟩ := hgo i _ hd
        refine .inr ⟨go, Wv (i + 1) (ds.length - (i + 1)), fun σ2 H2 q => ⟨_, by omega, q⟩, fun x H2 hy => ?_⟩
        obtain ⟨F2, s2, rx, e2⟩ := yl x H2 hy
        have e2' : Ext X.K F' H' (Own fps') F2 H2 (Own fps') := e2.unit
        obtain ⟨R2, _⟩ := R'.frame (fun b _ h => h) e2 s2
        rw [List.drop_eq_getElem_cons hlt, loopD] at po
        cases eg : g (.fz ds[i]) env' with
        | none => rw [eg] at po; exact po.elim
        | some env2 =>
          rw [eg] at po
          refine ⟨F2, env', fps', .fz ds[i], [], R2, .fz rx, Own.not_nil, env2, eg, fun σ3 F3 H3 fps3 R3 pin3 e3 => ?_⟩
          have e3' : Ext X.K F0 H0 (Own fps0) F3 H3 (Own fps3) := (ext.trans e2' (fun _ h => h) (C := Own fps') fun _ h => .inl h).trans (e3.wide (C := Own fps') fun b h => h.elim id fun z => by cases z) (fun _ h => h) fun _ h => .inl h
          have pin3' : Pin P σ0 σ3 := pin.trans (pin3.pin hsp)
          have sub3 : Sub F1 F3 := hF.trans (e2.ff.trans e3.ff)
          refine ⟨F3, env2, fps3, R3, ?_⟩
          cases eb : fb env2 with
          | none => simp only [eb] at po; exact po
          | some fl =>
            simp only [eb] at po
            cases fl with
            | nx env3 => exact fun σ4 F4 H4 fps4 R4 q e4 => ⟨rfl, hlt, F4, env3, fps4, R4, sub3.trans e4.ff, pin3'.trans q, e3'.trans e4 (fun _ h => h) fun _ h => .inl h, po⟩
            | ct env3 => exact fun σ4 F4 H4 fps4 R4 q e4 => ⟨rfl, hlt, F4, env3, fps4, R4, sub3.trans e4.ff, pin3'.trans q, e3'.trans e4 (fun _ h => h) fun _ h => .inl h, po⟩
            | bk env3 => exact PN.wide po pin3' e3' fun _ h => h
            | rt v env3 => exact PR.wide po pin3' e3' fun _ h => h
            | ex x env3 => exact PXS.wide po pin3' e3' fun _ h => h
      · have e : i = ds.length := by omega
        subst e
        refine .inl ⟨hstop _ (Nat.le_refl _), ?_⟩
        rw [List.drop_length, loopD] at po
        exact po σ' F' H' fps' R' pin ext
end
def fzOnly : M → Option M
  | .fz d => some (.fz d)
  | _ => none
def outA (asg : List Nat) : Nat → List M → E → E
  | i, m :: ms, o :: env => (if asg.contains i then fzOnly m else o) :: outA asg (i + 1) ms env
  | i, m :: ms, [] => (if asg.contains i then fzOnly m else none) :: outA asg (i + 1) ms []
  | _, [], _ => []
def fnM (np nl : Nat) (asg : List Nat) (body : FS) : FP := fun ms => if ms.length = np then match body (argE ms ++ List.replicate nl none) with
    | some (.nx env') => some (.ok (.fz .non) (outA asg 0 ms env'))
    | some (.rt m env') => some (.ok m (outA asg 0 ms env'))
    | some (.ex x env') => some (.ex x (outA asg 0 ms env'))
    | _ => none
  else none
theorem outA_length {asg : List Nat} : ∀ (i : Nat) (ms : List M) (env : E), (outA asg i ms env).length = ms.length
  | _, [], env => by cases env <;> simp [outA]
  | i, _ :: ms, [] => by rw [outA]; simp [outA_length (i + 1) ms []]
  | i, m :: ms, o :: env => by rw [outA]; simp [outA_length (i + 1) ms env]
theorem fzOnly_at {n m : M} (h : fzOnly n = some m) : ∃ d, m = .fz d ∧ n = .fz d := by
  cases n with
  | fz d => cases h; exact ⟨d, rfl, rfl⟩
  | _ => cases h
theorem outA_get {asg : List Nat} : ∀ (i : Nat) (ms : List M) (env : E) (j : Nat) (m : M), (outA asg i ms env)[j]? = some (some m) → (asg.contains (i + j) = true ∧ ∃ d, m = .fz d ∧ ms[j]? = some (.fz d)) ∨ (asg.contains (i + j) = false ∧ j < ms.length ∧ env[j]? = some (some m))
  | _, [], env, j, m, h => by cases env <;> simp [outA] at h
  | i, n :: ms, [], 0, m, h => by
    rw [outA] at h
    simp only [List.getElem?_cons_zero, Option.some.injEq] at h
    by_cases c : asg.contains i = true
    · rw [if_pos c] at h
      obtain ⟨d, e1, e2⟩ := fzOnly_at h
      exact .inl ⟨c, d, e1, by rw [e2]; rfl⟩
    · rw [if_neg c] at h; cases h
  | i, n :: ms, [], j + 1, m, h => by
    rw [outA] at h
    simp only [List.getElem?_cons_succ] at h
    rcases outA_get (i + 1) ms [] j m h with ⟨a, d, b, c⟩ | ⟨a, b, c⟩
    · exact .inl ⟨by rw [show i + (j + 1) = i + 1 + j by omega]; exact a, d, b, by simpa using c⟩
    · simp at c
  | i, n :: ms, o :: env, 0, m, h => by
    rw [outA] at h
    simp only [List.getElem?_cons_zero, Option.some.injEq] at h
    by_cases c : asg.contains i = true
    · rw [if_pos c] at h
      obtain ⟨d, e1, e2⟩ := fzOnly_at h
      exact .inl ⟨c, d, e1, by rw [e2]; rfl⟩
    · rw [if_neg c] at h
      exact .inr ⟨by simpa using c, by simp, by simp [h]⟩
  | i, n :: ms, o :: env, j + 1, m, h => by
    rw [outA] at h
    simp only [List.getElem?_cons_succ] at h
    rcases outA_get (i + 1) ms env j m h with ⟨a, d, b, c⟩ | ⟨a, b, c⟩
    · exact .inl ⟨by rw [show i + (j + 1) = i + 1 + j by omega]; exact a, d, b, by simpa using c⟩
    · exact .inr ⟨by rw [show i + (j + 1) = i + 1 + j by omega]; exact a, by simp; omega, by simpa using c⟩
theorem outA_put {asg : List Nat} {m : M} : ∀ (k : Nat) (ms : List M) (env : E) (i : Nat), i < ms.length → asg.contains (k + i) = false → env[i]? = some (some m) → (outA asg k ms env)[i]? = some (some m)
  | _, [], _, i, h, _, _ => by simp at h
  | _, _ :: _, [], i, _, _, e => by simp at e
  | k, n :: ms, o :: env, 0, h, hc, he => by
    rw [outA]
    rw [Nat.add_zero] at hc
    simp only [List.getElem?_cons_zero, Option.some.injEq] at he ⊢
    rw [if_neg (by rw [hc]; exact Bool.false_ne_true)]
    exact he
  | k, n :: ms, o :: env, i + 1, h, hc, he => by
    rw [outA]
    simp only [List.getElem?_cons_succ] at he ⊢
    exact outA_put (k + 1) ms env i (by simpa using h) (by rw [show k + 1 + i = k + (i + 1) by omega]; exact hc) he
/-- the parameters that no statement stores -/
def pinsOf (np : Nat) (asg : List Nat) : List Nat := (List.range np).filter fun i => !asg.contains i
theorem fn_body {K : PySem.W.Frag} {np nl : Nat} {asg : List Nat} {body : FS} {N : List Str} {vs : List V} {H : Hp} {Q : VK} {Ex : XK} (hN : N.length = np + nl) (h : spOf K (fnM np nl asg body) vs H Q Ex) :
    vs.length = np ∧ rS K (fun cls d _ H' => Ex cls d H') (pinsOf np asg) body { nx := fun _ H' => Q .non H', rt := Q } (L2.start N vs) H := by
  obtain ⟨F, ms, fps, R, p⟩ := h
  unfold fnM at p
  split at p
  · rename_i hl
    have hv : vs.length = np := by
      have q := R.len
      simp at q
      omega
    refine ⟨hv, F, argE ms ++ List.replicate nl none, fps, ?_, ?_⟩
    · have es : L2.start N vs = argS vs ++ List.replicate nl none := by
        unfold L2.start
        rw [hN, hv, Nat.add_sub_cancel_left]
      rw [es]
      refine ⟨R.fr, by simp; omega, fun i m e => ?_, fun i e => R.nil i fun m q => ?_, R.dj, R.tt⟩
      · by_cases hi : i < ms.length
        · rw [List.getElem?_append_left (by simpa using hi)] at e
          obtain ⟨v, q, r⟩ := R.got i m e
          exact ⟨v, by rw [List.getElem?_append_left (by simp; omega)]; exact q, r⟩
        · rw [List.getElem?_append_right (by simpa using hi), List.getElem?_replicate] at e
          split at e <;> cases e
      · have hi : i < ms.length := by simpa using (List.getElem?_eq_some_iff.mp q).1
        exact e m (by rw [List.getElem?_append_left (by simpa using hi)]; exact q)
    · have es : L2.start N vs = argS vs ++ List.replicate nl none := by
        unfold L2.start
        rw [hN, hv, Nat.add_sub_cancel_left]
      -- what stands behind the body
      have key : ∀ {σ' : St} {F' H' : Hp} {env' : E} {fps' : Nat → List Addr}, REnv K F' H' σ' env' fps' → Pin (pinsOf np asg) (L2.start N vs) σ' → Sub F F' → ∃ fpsO, REnv K F' H' (argS vs) (outA asg 0 ms env') fpsO ∧ ∀ b, Own fpsO b → Own fps' b := by
        intro σ' F' H' env' fps' R' pin sub
        have pin' : ∀ i, i < np → asg.contains i = false → ∀ v, σ'[i]? = some (some v) → vs[i]? = some v := fun i hi hc v e => by
          have q := pin i (by simp [pinsOf, hi, List.mem_range]; simpa using hc)
          rw [es, List.getElem?_append_left (by simp; omega)] at q
          rw [q] at e
          exact argS_get.mp e
        have lo := outA_length (asg := asg) 0 ms env'
        refine ⟨fun i => if asg.contains i = true ∨ np ≤ i then [] else fps' i, ⟨R'.fr, by rw [lo]; simp; omega, fun i m e => ?_, fun i e => ?_, fun i j hij b hb => ?_, R'.tt⟩, fun b ⟨i, hb⟩ => ?_⟩
        · rcases outA_get 0 ms env' i m e with ⟨c, d, rfl, hm⟩ | ⟨c, hi, hm⟩
          · rw [Nat.zero_add] at c
            obtain ⟨v, hv', r⟩ := R.got i _ (argE_get.mpr hm)
            refine ⟨v, hv', ?_⟩
            rw [if_pos (.inl c)]
            exact .fz ((repm_fz r).mono sub)
          · rw [Nat.zero_add] at c
            obtain ⟨v, hv', r⟩ := R'.got i m hm
            refine ⟨v, argS_get.mpr (pin' i (by omega) c v hv'), ?_⟩
            rw [if_neg (by rw [c]; simp; omega)]
            exact r
        · by_cases c : asg.contains i = true ∨ np ≤ i
          · simp only [if_pos c]
          · simp only [if_neg c]
            refine R'.nil i fun m q => ?_
            simp only [not_or, Bool.not_eq_true] at c
            exact e m (outA_put 0 ms env' i (by omega) (by rw [Nat.zero_add]; exact c.1) q)
        · split at hb
          · cases hb
          · split
            · exact fun q => by cases q
            · exact R'.dj i j hij b hb
        · simp only at hb
          split at hb
          · cases hb
          · exact ⟨i, hb⟩
      cases eb : body (argE ms ++ List.replicate nl none) with
      | none => rw [eb] at p; exact p
      | some fl =>
        rw [eb] at p
        cases fl with
        | bk e => exact p.elim
        | ct e => exact p.elim
        | nx e =>
          intro σ' F' H' fps' R' pin ext
          obtain ⟨fpsO, RO, hO⟩ := key R' pin ext.ff
          exact p .non F' H' fpsO [] RO (.fz .non) Own.not_nil (ext.weak fun b h => h.elim (hO b) fun z => by cases z)
        | rt m e =>
          intro v σ' F' H' fps' fp R' r d pin ext
          obtain ⟨fpsO, RO, hO⟩ := key R' pin ext.ff
          exact p v F' H' fpsO fp RO r (fun b hb q => d b hb (hO b q)) (ext.weak fun b h => h.imp (hO b) id)
        | ex x e =>
          intro cls d σ' F' H' fps' R' r pin ext
          obtain ⟨fpsO, RO, hO⟩ := key R' pin ext.ff
          exact p cls d F' H' fpsO RO r (ext.weak hO)
  · exact p.elim
end Ink
set_option Elab.async false
set_option linter.all false
set_option maxRecDepth 100000
namespace Ink
open PySem L2
theorem RepMs.append {K : PySem.W.Frag} {F H : Hp} : ∀ {ms : List M} {vs : List V} {fp : List Addr} {ns : List M} {ws : List V} {fq : List Addr}, RepMs K F H ms vs fp → RepMs K F H ns ws fq → (∀ b ∈ fp, b ∉ fq) → RepMs K F H (ms ++ ns) (vs ++ ws) (fp ++ fq)
  | [], _, _, _, _, _, .nil, h2, _ => h2
  | m :: ms, _, _, ns, ws, fq, .cons (fp := a) (fq := c) h h1 d, h2, dj => by
    have ih := RepMs.append h1 h2 fun b hb => dj b (List.mem_append_right _ hb)
    rw [List.append_assoc]
    exact .cons h ih fun b hb q => by
      rcases List.mem_append.mp q with q | q
      · exact d b hb q
      · exact dj b (List.mem_append_left _ hb) q
theorem Ext.put {K : PySem.W.Frag} {F H : Hp} {p : Addr} {o : HO} {A : Addr → Prop} (hA : A p) {u0 : HO} (hu : H p = some u0 := by assumption) (hk : Kin u0 := by first | exact .inl ⟨_, rfl⟩ | exact .inr (.inr (.inl ⟨_, rfl⟩)) | exact .inr (.inr (.inr (.inl ⟨_, rfl⟩))) | exact .inr (.inr (.inr (.inr ⟨_, _, _, rfl⟩)))) (ho : NT o := by exact fun _ h => by cases h) : Ext K F H A F (upd H p o) A where
  ff := Sub.refl _
  keep := fun b u h n _ => by rw [upd_ne (fun e => n (by rw [e]; exact hA))]; exact h
  own := fun _ h => .inl h
  fz := fun _ _ h => .inl h
  tt := ⟨fun b ps h => ⟨ps, by
    rw [upd_ne (fun e => by rw [e, hu] at h; exact hk.nt ps (Option.some.inj h))]; exact h⟩, fun t => ⟨t.nt, fun p' hp' => by
    obtain ⟨ps, h1, h2, h3⟩ := t.tb p' hp'
    exact ⟨ps, by rw [upd_ne (fun e => by rw [e, hu] at h1; exact hk.nt ps (Option.some.inj h1))]; exact h1, h2, fun pos cv hc => by
      obtain ⟨c, e1, e2⟩ := h3 pos cv hc
      exact ⟨c, e1, by rw [upd_ne (fun e => by rw [e, hu] at e2; exact hk.nc _ _ (Option.some.inj e2))]; exact e2⟩⟩, fun b ps e => by
    by_cases z : b = p
    · rw [z, upd_same] at e; exact (ho ps (Option.some.inj e)).elim
    · rw [upd_ne z] at e; exact t.ot b ps e, fun q hq ps h pos cv hc => by
    by_cases z : q.1 = p
    · rw [z, upd_same] at h; exact (ho ps (Option.some.inj h)).elim
    · rw [upd_ne z] at h; exact t.cd q hq ps h pos cv hc⟩⟩
theorem Ext.putO {K : PySem.W.Frag} {F H : Hp} {σ : St} {env : E} {fps : Nat → List Addr} (R : REnv K F H σ env fps) {p : Addr} {o : HO} (h : Own fps p) (ho : NT o := by exact fun _ h => by cases h) : Ext K F H (Own fps) F (upd H p o) (Own fps) := by
  obtain ⟨u, hu, k⟩ := R.kin h
  exact Ext.put h hu k ho
theorem sub_put {F H : Hp} {p : Addr} {o : HO} (s : Sub F H) (h : F p = none) : Sub F (upd H p o) := fun b u e => by
  rw [upd_ne (ne_of_none e h)]; exact s b u e
theorem lst_append {K : PySem.W.Frag} {F H : Hp} {ms : List M} {p : Addr} {fp : List Addr} {m : M} {v : V} {fq : List Addr} (h : RepM K F H (.lst ms) (.ref p) fp) (r : RepM K F H m v fq) (d : ∀ b ∈ fp, b ∉ fq) :
    ∃ vs, H p = some (.lst vs) ∧ vs.length = ms.length ∧ p ∈ fp ∧ F p = none ∧ RepM K F (upd H p (.lst (vs ++ [v]))) (.lst (ms ++ [m])) (.ref p) (fp ++ fq) := by
  obtain ⟨p', vs, f1, e, h1, h2, h3, h4, rfl⟩ := repm_lst h
  cases e
  have np : p ∉ fq := d p (List.mem_cons_self ..)
  have hne : ∀ b ∈ f1 ++ fq, b ≠ p := fun b hb e => by
    subst e
    rcases List.mem_append.mp hb with q | q
    · exact h4 q
    · exact np q
  refine ⟨vs, h1, h3.length, List.mem_cons_self .., h2, ?_⟩
  refine RepM.lst upd_same h2 (fp := f1 ++ fq) ?_ fun q => hne p q rfl
  have a : RepMs K F H (ms ++ [m]) (vs ++ [v]) (f1 ++ (fq ++ [])) := h3.append (.cons r .nil fun b _ q => by cases q) fun b hb q => d b (List.mem_cons_of_mem _ hb) (by simpa using q)
  rw [List.append_nil] at a
  exact a.frame (Sub.refl _) (fun b hb => upd_ne (hne b hb)) fun b hb => (a.live b hb).2
def wipeE (env : E) : List Nat → E
  | [] => env
  | v :: vs => (wipeE env vs).set v none
theorem REnv.forget {K : PySem.W.Frag} {F H : Hp} {σ : St} {env : E} {fps : Nat → List Addr} (R : REnv K F H σ env fps) (i : Nat) :
    REnv K F H (σ.set i none) (env.set i none) (fun j => if j = i then [] else fps j) := by
  have D := R.drop i
  refine ⟨D.fr, by simp [R.len], fun j m h => ?_, D.nil, D.dj, D.tt⟩
  obtain ⟨v, hv, r⟩ := D.got j m h
  have e : j ≠ i := fun e => by
    subst e
    by_cases hi : j < env.length
    · rw [List.getElem?_set_self hi] at h; cases h
    · rw [List.getElem?_eq_none (by simpa using hi)] at h; cases h
  exact ⟨v, by rw [List.getElem?_set_ne (fun q => e q.symm)]; exact hv, r⟩
theorem REnv.wipe {K : PySem.W.Frag} {F H : Hp} {σ : St} {env : E} : ∀ (vs : List Nat) {fps : Nat → List Addr}, REnv K F H σ env fps → ∃ fps', REnv K F H (L2.wipe σ vs) (wipeE env vs) fps' ∧ ∀ b, Own fps' b → Own fps b
  | [], fps, R => ⟨fps, R, fun _ h => h⟩
  | v :: vs, fps, R => by
    obtain ⟨fps1, R1, h1⟩ := REnv.wipe vs R
    refine ⟨_, R1.forget v, fun b ⟨j, hj⟩ => h1 b ?_⟩
    by_cases e : j = v
    · simp only [if_pos e] at hj; cases hj
    · simp only [if_neg e] at hj; exact ⟨j, hj⟩
theorem REnv.unwipe {K : PySem.W.Frag} {F H : Hp} {σ : St} {env : E} {vs : List Nat} {fps : Nat → List Addr} (R : REnv K F H (L2.wipe σ vs) env fps) : REnv K F H σ env fps :=
  ⟨R.fr, by rw [R.len, wipe_length], fun i m h => let ⟨v, hv, r⟩ := R.got i m h; ⟨v, (wipe_some hv).1, r⟩, R.nil, R.dj, R.tt⟩
theorem wipe_in {σ : St} : ∀ {vs : List Nat} {i : Nat}, i ∈ vs → i < σ.length → (L2.wipe σ vs)[i]? = some none
  | v :: vs, i, h, hi => by
    unfold L2.wipe
    by_cases e : v = i
    · subst e
      exact List.getElem?_set_self (by rw [wipe_length]; exact hi)
    · rw [List.getElem?_set_ne e]
      exact wipe_in (by
        rcases List.mem_cons.mp h with q | q
        · exact absurd q.symm e
        · exact q) hi
theorem wipe_chg {σ σ' : St} {S vs : List Nat} (h : Chg S (L2.wipe σ vs) σ') (hs : S.all (fun i => vs.contains i) = true) : L2.wipe σ' vs = L2.wipe σ vs := by
  apply List.ext_getElem?
  intro i
  have hl : σ'.length = σ.length := by rw [h.1, wipe_length]
  by_cases hv : i ∈ vs
  · by_cases hi : i < σ.length
    · rw [wipe_in hv hi, wipe_in hv (by omega)]
    · rw [List.getElem?_eq_none (by rw [wipe_length]; omega), List.getElem?_eq_none (by rw [wipe_length]; omega)]
  · rw [wipe_out hv]
    apply h.2
    cases e : S.contains i with
    | false => rfl
    | true =>
      have := List.all_eq_true.mp hs i (by simpa using e)
      exact absurd (by simpa using this) hv
abbrev W0 : WX := fun _ _ _ _ => False
def yesT : FT := fun env => some (.ok true env)
def compD (g : FG) (ft : FT) (fe : FE) (own : List Nat) : List D → E → Option (List M × E)
  | [], env => some ([], env)
  | d :: ds, env => match g (.fz d) env with
    | none => none
    | some env1 => match ft env1 with
      | some (.ok false env2) => compD g ft fe own ds (wipeE env2 own)
      | some (.ok true env2) => match fe env2 with
        | some (.ok (.tm m) env3) => match compD g ft fe own ds (wipeE env3 own) with
          | some (ms, env4) => some (m :: ms, env4)
          | none => none
        | _ => none
      | _ => none
def compE (fi : FI) (g : FG) (ft : FT) (fe : FE) (own : List Nat) : FE := fun env => bindO (fi env) fun ds env1 => if ds.length ≤ sizeLine then match compD g ft fe own ds (wipeE env1 own) with
    | some (ms, env2) => some (.ok (.tm (.lst ms)) env2)
    | none => none
  else none
section
variable {K : PySem.W.Frag} {W : WX} {fi : FI} {g : FG} {ft : FT} {fe : FE} {own S : List Nat}
theorem r_lc (hS : S.all (fun i => own.contains i) = true) : ∀ σ H Q, rE K W (compE fi g ft fe own) σ H Q → tLc (rI K W fi) (rG K S g) (rT K W0 ft) (rE K W0 fe) own σ H Q := fun σ H Q ⟨F, env, fps, R, po⟩ => by
  refine ⟨F, env, fps, R, ?_⟩
  unfold compE at po
  cases ef : fi env with
  | none => rw [ef] at po; exact po
  | some o =>
    rw [ef] at po
    cases o with
    | ex x env1 => exact po
    | ok ds env1 =>
      simp only [bindO_ok] at po
      intro J F1 H1 fps1 R1 hJ e1 L hL
      split at po
      · rename_i hsz
        cases ec : compD g ft fe own ds (wipeE env1 own) with
        | none => rw [ec] at po; exact po.elim
        | some z =>
          obtain ⟨msAll, envF⟩ := z
          rw [ec] at po
          let Wv : Nat → Nat → Hp → Prop := fun i m H' => m = ds.length - i ∧ i ≤ ds.length ∧ ∃ F' env' fps' acc fpD ms', REnv K F' H' (L2.wipe σ own) env' fps' ∧ Sub F1 F' ∧ RepM K F' H' (.lst acc) (.ref L) fpD ∧ (∀ b ∈ fpD, ¬ Own fps' b) ∧ acc.length ≤ i ∧
            Ext K F H (Own fps) F' H' (fun b => Own fps' b ∨ b ∈ fpD) ∧ compD g ft fe own (ds.drop i) env' = some (ms', envF) ∧ acc ++ ms' = msAll
          refine ⟨Wv, ⟨ds.length, by omega, Nat.zero_le _, ?_⟩, ?_⟩
          · have en : Ext K F1 H1 (fun _ => False) F1 (upd H1 L (.lst [])) (fun b => False ∨ b = L) := Ext.new hL
            obtain ⟨fpsw, Rw, hw⟩ := R1.wipe own
            obtain ⟨R2, n2⟩ := Rw.frame (fun b _ h => h) en (sub_new R1.fr hL)
            refine ⟨F1, wipeE env1 own, fpsw, [], [L], msAll, R2, Sub.refl _, .lst upd_same (sub_none R1.fr hL) .nil (by simp), fun b hb q => n2 b q (.inr (by simpa using hb)), Nat.le_refl _, ?_, by simpa using ec, rfl⟩
            exact e1.trans (Ext.new (A := Own fps1) hL) (fun _ h => h) fun b h => .inl (h.imp (hw b) fun z => by simpa using z)
          · rintro i m H' ⟨rfl, hi, F', env', fps', acc, fpD, ms', R', hF, rL, dL, hl, ext, hc, ha⟩
            obtain ⟨hstop, hgo⟩ := hJ F' H' hF R'.fr
            by_cases hlt : i < ds.length
            · have hd : ds[i]? = some ds[i] := List.getElem?_eq_getElem hlt
              obtain ⟨go, yl⟩ := hgo i _ hd
              refine .inr ⟨go, Wv (i + 1) (ds.length - (i + 1)), fun H2 q => ⟨_, by omega, q⟩, fun x H2 hy => ?_⟩
              obtain ⟨F2, s2, rx, e2⟩ := yl x H2 hy
              obtain ⟨R2, _⟩ := R'.frame (fun b _ h => h) e2 s2
              have e2' : Ext K F' H' (fun b => Own fps' b ∨ b ∈ fpD) F2 H2 (fun b => Own fps' b ∨ b ∈ fpD) := e2.unit
              obtain ⟨rL2, _⟩ := pendM rL (fun b _ h => h) e2
              have ext2 := ext.trans e2' (fun _ h => h) (C := fun b => Own fps' b ∨ b ∈ fpD) fun _ h => .inl h
              rw [List.drop_eq_getElem_cons hlt, compD] at hc
              cases eg : g (.fz ds[i]) env' with
              | none => rw [eg] at hc; cases hc
              | some env2 =>
                rw [eg] at hc
                simp only at hc
                refine ⟨F2, env', fps', .fz ds[i], [], R2, .fz rx, Own.not_nil, env2, eg, fun σ3 F3 H3 fps3 R3 chg e3 => ?_⟩
                have e3' : Ext K F2 H2 (Own fps') F3 H3 (Own fps3) := e3.wide fun b h => h.elim id fun z => by cases z
                obtain ⟨rL3, dL3⟩ := pendM rL2 dL e3'
                have ext3 : Ext K F H (Own fps) F3 H3 (fun b => Own fps3 b ∨ b ∈ fpD) := ext2.trans e3' (fun _ h => .inl h) fun _ h => h.imp id .inr
                have hwp := wipe_chg chg hS
                refine ⟨hwp, F3, env2, fps3, R3, ?_⟩
                cases et : ft env2 with
                | none => rw [et] at hc; cases hc
                | some o =>
                  rw [et] at hc
                  cases o with
                  | ex x env3 => cases hc
                  | ok b env3 =>
                    intro F4 H4 fps4 R4 e4
                    obtain ⟨rL4, dL4⟩ := pendM rL3 dL3 e4
                    have ext4 : Ext K F H (Own fps) F4 H4 (fun b => Own fps4 b ∨ b ∈ fpD) := ext3.trans e4 (fun _ h => .inl h) fun _ h => h.imp id .inr
                    have sub4 : Sub F1 F4 := hF.trans (e2.ff.trans (e3.ff.trans e4.ff))
                    cases b with
                    | false =>
                      refine ifF ?_
                      obtain ⟨fpsw, Rw, hw⟩ := R4.wipe own
                      rw [hwp] at Rw
                      exact ⟨rfl, hlt, F4, _, fpsw, acc, fpD, ms', Rw, sub4, rL4, fun b hb q => dL4 b hb (hw b q), by omega, ext4.weak fun b h => h.imp (hw b) id, hc, ha⟩
                    | true =>
                      refine ifT ⟨F4, env3, fps4, R4, ?_⟩
                      simp only at hc
                      cases ee : fe env3 with
                      | none => rw [ee] at hc; cases hc
                      | some o =>
                        rw [ee] at hc
                        cases o with
                        | ex x env4 => cases hc
                        | ok a env4 =>
                          cases a with
                          | sl k => cases hc
                          | tm mm =>
                            simp only at hc
                            cases ed : compD g ft fe own (ds.drop (i + 1)) (wipeE env4 own) with
                            | none => rw [ed] at hc; cases hc
                            | some z =>
                              obtain ⟨ms5, env5⟩ := z
                              rw [ed] at hc
                              cases hc
                              intro y F5 H5 fps5 fp5 R5 r5 d5 e5
                              have r5 : RepM K F5 H5 mm y fp5 := r5
                              obtain ⟨rL5, dL5⟩ := pendM rL4 dL4 e5
                              obtain ⟨vs, hD5, hlen, hin, hfn, rN⟩ := lst_append rL5 r5 fun b hb q => dL5 b hb (.inr q)
                              have ext5 : Ext K F H (Own fps) F5 H5 (fun b => Own fps5 b ∨ b ∈ fpD ++ fp5) := ext4.trans e5 (fun _ h => .inl h) fun b h => by
                                rcases h with h | h
                                · exact .inl (.inl h)
                                · rcases List.mem_append.mp h with h | h
                                  · exact .inr (.inr h)
                                  · exact .inl (.inr h)
                              refine ⟨vs, hD5, by omega, rfl, hlt, ?_⟩
                              obtain ⟨fpsw, Rw, hw⟩ := R5.wipe own
                              rw [hwp] at Rw
                              have ep : Ext K F5 H5 (fun b => b = L) F5 (upd H5 L (.lst (vs ++ [y]))) (fun b => b = L) := Ext.put rfl
                              obtain ⟨R6, _⟩ := Rw.frame (B := fun b => b = L) (fun b hb e => by subst e; exact dL5 b hin (.inl (hw b hb))) ep (sub_put R5.fr hfn)
                              refine ⟨F5, _, fpsw, acc ++ [mm], fpD ++ fp5, ms5, R6, sub4.trans e5.ff, rN, fun b hb q => ?_, by simp; omega, ?_, ed, by simp [← ha]⟩
                              · rcases List.mem_append.mp hb with hb | hb
                                · exact dL5 b hb (.inl (hw b q))
                                · exact d5 b hb (hw b q)
                              · exact ext5.trans (Ext.put (A := fun b => Own fps5 b ∨ b ∈ fpD ++ fp5) (.inr (List.mem_append_left _ hin))) (fun _ h => h) fun b h => .inl (h.imp (hw b) id)
            · have e : i = ds.length := by omega
              subst e
              rw [List.drop_length, compD] at hc
              cases hc
              rw [List.append_nil] at ha
              subst ha
              exact .inl ⟨hstop _ (Nat.le_refl _), po (.ref L) F' H' fps' fpD R'.unwipe rL dL ext⟩
      · exact po.elim
end
section
variable {X : Cx} {W : WX} {elt tg iter : Expr} {ifs : List Expr} {scope : Scope} {own : List (Str × Nat)} {pos : Pos} {fi : FI} {g : FG} {ft : FT} {fe : FE} {S : List Nat}
theorem e_lc (hc : X.calm = true) (hN : X.N.Nodup) (hi : PI X tg iter (rI X.K W fi)) (ok : BlkOk X.N X.env.scope scope own)
    (hg : ∀ (s : Shared) (H : Hp) (C : Addr) (cl : List (Str × Addr)) (fp : List Addr), PG (X.blk s H scope (compEnvC scope cl C X.env) fp) tg (rG X.K S g)) (ht : ∀ (s : Shared) (H : Hp) (C : Addr) (cl : List (Str × Addr)) (fp : List Addr), PTs (X.blk s H scope (compEnvC scope cl C X.env) fp) ifs (rT X.K W0 ft))
    (he : ∀ (s : Shared) (H : Hp) (C : Addr) (cl : List (Str × Addr)) (fp : List Addr), PE (X.blk s H scope (compEnvC scope cl C X.env) fp) elt (rE X.K W0 fe)) (hS : S.all (fun i => (own.map (·.2)).contains i) = true := by rfl) (hs : ∀ x, foldedSetIterable iter X.env x = pure x := by intro _; rfl) :
    PE X (.ListComp elt [⟨tg, iter, ifs, 0⟩] scope pos) (rE X.K W (compE fi g ft fe (own.map (·.2)))) := PE_mono (pe_lc hc hN hi ok hg ht he hs) (r_lc hS)
theorem s_setLc {P : List Nat} {i : Nat} {y : Str} {py spos : Pos} (hc : X.calm = true) (hN : X.N.Nodup) (hy : X.N[i]? = some y) (hyl : X.env.scope.names.lookup y = some .local)
    (hsw : swapsWith (.ListComp elt [⟨tg, iter, ifs, 0⟩] scope pos) (some (.Name y py)) spos.line X.env = pure true) (hi : PI X tg iter (rI X.K W fi)) (ok : BlkOk X.N X.env.scope scope own)
    (hg : ∀ (s : Shared) (H : Hp) (C : Addr) (cl : List (Str × Addr)) (fp : List Addr), PG (X.blk s H scope (compEnvC scope cl C X.env) fp) tg (rG X.K S g)) (ht : ∀ (s : Shared) (H : Hp) (C : Addr) (cl : List (Str × Addr)) (fp : List Addr), PTs (X.blk s H scope (compEnvC scope cl C X.env) fp) ifs (rT X.K W0 ft))
    (he : ∀ (s : Shared) (H : Hp) (C : Addr) (cl : List (Str × Addr)) (fp : List Addr), PE (X.blk s H scope (compEnvC scope cl C X.env) fp) elt (rE X.K W0 fe)) (hS : S.all (fun i => (own.map (·.2)).contains i) = true := by rfl) (hp : apart [i] P = true := by rfl) (hs : ∀ x, foldedSetIterable iter X.env x = pure x := by intro _; rfl) :
    PS X (.Assign [.Name y py] (.ListComp elt [⟨tg, iter, ifs, 0⟩] scope pos) spos) (rS X.K W P (asgS (compE fi g ft fe (own.map (·.2))) (nmG i))) := PS_mono (ps_setLc hc hN hy hyl hsw hi ok hg ht he hs) fun D σ H q =>
  r_lc hS σ H _ (rE_imp (fun v H' z => r_name (S := [i]) (by simp) v σ H' D.nx z) (r_asg hp D σ H q))
theorem ts_nil {K : PySem.W.Frag} (hK : X.K = K) : PTs X [] (rT K W0 yesT) := ⟨fun pins s σ H Q I ⟨F, env, fps, R, p⟩ => pts_nil.run pins s σ H Q I (p F H fps R (Ext.refl fun _ h => h))⟩
end
section
variable {K : PySem.W.Frag} {F : Hp}
theorem it_list {p : Addr} {vs : List V} {ds : List D} (h : F p = some (.lst vs)) (r : Reps K F vs ds) : ItD K (Itl K p) F ds := fun F' H s1 s2 => by
  have q : SqL K H p vs := SqL.of (s2 _ _ (s1 _ _ h))
  refine ⟨fun i hi => ⟨vs, q, by rw [r.length]; exact hi⟩, fun i d hd => ?_⟩
  obtain ⟨v, hv, rv⟩ := r.get hd
  refine ⟨⟨vs, v, q, hv⟩, fun x H' ⟨e, y⟩ => ?_⟩
  subst e
  have := y vs q
  rw [hv] at this; cases this
  exact ⟨F', s2, rv.mono s1, Ext.refl fun _ h => h⟩
theorem it_tup {p : Addr} {vs : List V} {ds : List D} (h : SqT K F p vs) (r : Reps K F vs ds) : ItD K (Itt K p) F ds := fun F' H s1 s2 => by
  have q : SqT K H p vs := s2.sqt (s1.sqt h)
  refine ⟨fun i hi => ⟨vs, q, by rw [r.length]; exact hi⟩, fun i d hd => ?_⟩
  obtain ⟨v, hv, rv⟩ := r.get hd
  refine ⟨⟨vs, v, q, hv⟩, fun x H' ⟨e, y⟩ => ?_⟩
  subst e
  have := y vs q
  rw [hv] at this; cases this
  exact ⟨F', s2, rv.mono s1, Ext.refl fun _ h => h⟩
theorem it_range (lo : Int) (n : Nat) : ItD K (Itr lo n) F ((List.range n).map fun k => .int (lo + (k : Nat))) := fun F' H s1 s2 => by
  refine ⟨fun i hi => show n ≤ i by simpa using hi, fun i d hd => ?_⟩
  rw [List.getElem?_map] at hd
  by_cases hi : i < n
  · rw [List.getElem?_eq_getElem (by simpa using hi)] at hd
    simp at hd
    subst hd
    exact ⟨hi, fun x H' ⟨e, y⟩ => by subst e y; exact ⟨F', s2, .int _, Ext.refl fun _ h => h⟩⟩
  · rw [List.getElem?_eq_none (by simpa using hi)] at hd
    cases hd
theorem it_str (x : Str) : ItD K (Its x) F (x.cps.toList.map fun c => .str ⟨#[c]⟩) := fun F' H s1 s2 => by
  refine ⟨fun i hi => show x.cps.size ≤ i by simpa using hi, fun i d hd => ?_⟩
  rw [List.getElem?_map] at hd
  cases e : x.cps.toList[i]? with
  | none => rw [e] at hd; cases hd
  | some c =>
    rw [e] at hd
    cases hd
    have hi : i < x.cps.size := by simpa using (List.getElem?_eq_some_iff.mp e).1
    refine ⟨hi, fun y H' ⟨e1, c', e2, e3⟩ => ?_⟩
    subst e1 e3
    have : x.cps[i]? = some c := by rw [← Array.getElem?_toList]; exact e
    rw [this] at e2; cases e2
    exact ⟨F', s2, .str _, Ext.refl fun _ h => h⟩
end
def overE (it : M → Option (List D)) (f : FE) : FI := fun env => bindO (tk f env) fun a env1 => match a with
  | .tm m => match it m with
    | some ds => some (.ok ds env1)
    | none => none
  | .sl _ => none
section
variable {X : Cx} {W : WX} {tg l : Expr} {f : FE}
/-- the common part: a taken value, frozen -/
theorem r_over {K : PySem.W.Frag} {it : M → Option (List D)} : ∀ σ H R, rI K W (overE it f) σ H R → rE K W (tk f) σ H fun x H1 => ∃ F env fps m fp ds, REnv K F H1 σ env fps ∧ RepM K F H1 m x fp ∧ (∀ b ∈ fp, ¬ Own fps b) ∧ it m = some ds ∧ PJ K σ F H1 (fun b => Own fps b ∨ b ∈ fp) ds env R := fun σ H R ⟨F, env, fps, R0, p⟩ => by
  refine ⟨F, env, fps, R0, ?_⟩
  unfold overE at p
  cases ef : tk f env with
  | none => rw [ef] at p; exact p
  | some o =>
    rw [ef] at p
    cases o with
    | ex x env1 => exact p
    | ok a env1 =>
      cases a with
      | sl i => exact p.elim
      | tm m =>
        simp only [bindO_ok] at p
        cases ei : it m with
        | none => rw [ei] at p; exact p.elim
        | some ds =>
          rw [ei] at p
          intro v F1 H1 fps1 fp R1 r d e1
          exact ⟨F1, env1, fps1, m, fp, ds, R1, r, d, ei, fun J F' H' fps' R' hJ e2 => p J F' H' fps' R' hJ (e1.trans e2 (fun _ h => h) fun _ h => .inl h)⟩
theorem freeze_at {K : PySem.W.Frag} {F H : Hp} {σ : St} {env : E} {fps : Nat → List Addr} {m : M} {v : V} {fp : List Addr} {d : D} (R : REnv K F H σ env fps) (r : RepM K F H m v fp) (dj : ∀ b ∈ fp, ¬ Own fps b) (h : frz m = some d) :
    ∃ F', Sub F' H ∧ Rep K F' v d ∧ REnv K F' H σ env fps ∧ Ext K F H (fun b => Own fps b ∨ b ∈ fp) F' H (Own fps) := by
  have hl := r.live
  have s1 : Sub F (addF F H fp) := addF_sub fun b hb => (hl b hb).2
  have s2 : Sub (addF F H fp) H := addF_in_H R.fr
  refine ⟨addF F H fp, s2, r.frozen s1 (fun b hb => addF_in hb) h, R.more s1 s2 (fun b hb => ?_) (addF_nt r R.tt.nt), Ext.same s1 (fun b h => .inl (.inl h)) (fun b o h => ?_) (fun h => addF_nt r h)⟩
  · rw [addF_out (fun q => dj b q hb)]
    exact (R.live hb).2
  · by_cases hb : b ∈ fp
    · exact .inr (.inl (.inr hb))
    · rw [addF_out hb] at h; exact .inl h
/-- range(n), range(a, b) -/
def intA (a : Av) (env : E) : Option Int := match a with
  | .tm (.fz (.int i)) => some i
  | .sl k => match env[k]? with
    | some (some (.fz (.int i))) => some i
    | _ => none
  | _ => none
theorem intA_rep {K : PySem.W.Frag} {F H : Hp} {σ : St} {env : E} {fps : Nat → List Addr} {a : Av} {v : V} {fp : List Addr} {b : Int} (R : REnv K F H σ env fps) (r : RepA K F H σ a v fp) (h : intA a env = some b) : v = .int b := by
  unfold intA at h
  split at h
  · cases h
    exact rep_int (repm_fz r)
  · split at h
    · rename_i e
      cases h
      obtain ⟨w, hw, rr⟩ := R.got _ _ e
      obtain ⟨q, _⟩ := r
      rw [q] at hw; cases hw
      exact rep_int (repm_fz rr)
    · cases h
  · cases h
def fits (i : Int) : Bool := decide (-(2 ^ 62) ≤ i) && decide (i < 2 ^ 62)
def rangeD (lo hi : Int) : List D := (List.range (hi - lo).toNat).map fun k => .int (lo + (k : Nat))
def rng1 (f : FE) : FI := fun env => bindO (f env) fun a env1 => match intA a env1 with
  | some n => if fits n then some (.ok (rangeD 0 n) env1) else none
  | none => none
def rng2 (f g : FE) : FI := fun env => bindO (f env) fun a env1 => bindO (g env1) fun b env2 => match intA a env2 with
  | some i => match intA b env2 with
    | some j => if fits i && fits j then some (.ok (rangeD i j) env2) else none
    | none => none
  | none => none
theorem i_range1 {a : Expr} {p pos : Pos} (hg : Gl X "range") (hm : X.mg "range" = none) (h : PE X a (rE X.K W f)) (hs : starEach [a] X.env = [(false, eval a X.env)] := by rfl) : PI X tg (.Call (.Name "range" p) [a] [] pos) (rI X.K W (rng1 f)) := PI_mono (pi_range1 hg hm (a_cons h a_nil hs) hs) fun σ H R ⟨F, env, fps, R0, p⟩ => by
  refine ⟨F, env, fps, R0, ?_⟩
  unfold rng1 at p
  unfold consA
  cases ef : f env with
  | none => rw [ef] at p; exact p
  | some o =>
    rw [ef] at p
    cases o with
    | ex x env1 => exact p
    | ok a env1 =>
      simp only [bindO_ok] at p ⊢
      intro vs F1 H1 fps1 fpA R1 rs d e1
      cases ei : intA a env1 with
      | none => rw [ei] at p; exact p.elim
      | some n =>
        simp only [ei] at p
        obtain ⟨v, hv, r⟩ := rs.got 0 a rfl
        obtain rfl := intA_rep R1 r ei
        have l := rs.len
        match vs, hv, l with
        | [w], hv, _ =>
          cases hv
          split at p
          · rename_i hf
            simp only [fits, Bool.and_eq_true, decide_eq_true_eq] at hf
            refine ⟨n, rfl, hf.1, hf.2, p _ F1 H1 fps1 R1 ?_ (e1.weak fun _ h => .inl h)⟩
            have := it_range (K := X.K) (F := F1) 0 n.toNat
            rw [rangeD, Int.sub_zero]
            exact this
          · exact p.elim
end
structure Fn (P : Program) (w : World) (K : PySem.W.Frag) (mg : Str → Option Value) (base : Heap) (k : Nat) (x : Str) (ps : List Str) (g : FP) : Prop where
  ex : ∃ f fd, FnOk P w K mg base (L2.CX P w) k f fd ps (spOf K g) ∧ mg x = some (.ref f) ∧ PySem.W.keepIn K (.ref f) = true ∧ Binds K fd ps []
theorem e_call {X : Cx} {W : WX} {k : Nat} {x : Str} {ps : List Str} {g : FP} {e : Expr} {es : List Expr} {f : FA} {p pos : Pos} (G : Fn X.prog X.w X.K X.mg X.base k x ps g) (hr : Room k X.A) (hg : Gl X x) (t : Takes X W) (ha : PA X (e :: es) (rA X.K W f))
    (hdb : (x == ("__debug__" : Str)) = false := by decide) (he : starEach (e :: es) X.env = (false, eval e X.env) :: starEach es X.env := by rfl) (hpl : (backTo pos (starEach es X.env)).any (·.1) = false := by rfl) : PE X (.Call (.Name x p) (e :: es) [] pos) (rE X.K W (callE g f)) := by
  obtain ⟨fa, fd, F, hm, hk, hb⟩ := G.ex
  exact PE_mono (pe_callS F hr hg hm hk hb (fun σ => passAt t σ) ha hdb he hpl) fun σ H Q q => r_call q
theorem fn_mk {P : Program} {w : World} {K : PySem.W.Frag} {mg : Str → Option Value} {base : Heap} {x qual : Str} {params : Arguments} {body : List Stmt} {scope : Scope} {f : Addr} {fd : FuncData} {N ps : List Str} {k np nl : Nat} {asg : List Nat} {fb : FS}
    (F : FunD K x qual params body scope [] [] f fd) (S : FnScope N ps scope) (hN : N.length = np + nl) (hp : ps.length = np) (hm : mg x = some (.ref f))
    (hbd : ∀ (kV doc pm : Value) (an : Option Addr) (cdv ct : Value) (us : List Value), us.length = ps.length → bindArgs (PySem.W.fnOf x qual params body scope .none kV doc pm an cdv ct) ⟨us, []⟩ = pure (ps.zip us))
    (hb : ∀ (cdv : Value) (A : Around) (outer : List Env) (s : Shared) (H : Hp) (Ex : XK), Room k (A.deeper (PyProof.Rows.envOfC qual scope s.heap.objs.size f cdv)) → PSs (cxOf (L2.CX P w) P w K mg base N qual scope f cdv A outer s H Ex) body (rS K (fun cls d _ H' => Ex cls d H') (pinsOf np asg) fb)) :
    Fn P w K mg base (k + 1) x ps (fnM np nl asg fb) :=
  ⟨f, fd, F.ok S (fun vs H Q Ex h => by rw [(fn_body hN h).1, hp]) (fun cdv A outer s H vs Q Ex hr h => ⟨_, hb cdv A outer s H Ex hr, (fn_body hN h).2⟩), hm, F.kp, F.bindsN hbd⟩
end Ink
set_option Elab.async false
set_option linter.all false
set_option maxRecDepth 100000
namespace Ink
open PySem L2
def tms : List Av → Option (List M)
  | [] => some []
  | .tm m :: r => match tms r with
    | some ms => some (m :: ms)
    | none => none
  | .sl _ :: _ => none
def lstE (fa : FA) : FE := fun env => bindO (fa env) fun as env1 => match tms as with
  | some ms => if ms.length ≤ sizeLine then some (.ok (.tm (.lst ms)) env1) else none
  | none => none
def tupE (fa : FA) : FE := fun env => bindO (fa env) fun as env1 => match tms as with
  | some ms => match unfz ms with
    | some ds => if ds.length ≤ sizeLine then some (.ok (.tm (.fz (.tup ds))) env1) else none
    | none => if ms.length ≤ sizeLine then some (.ok (.tm (.tup ms)) env1) else none
  | none => none
theorem RepAs.tail {K : PySem.W.Frag} {F H : Hp} {σ : St} {a : Av} {as : List Av} {vs : List V} {fpA : Nat → List Addr} (h : RepAs K F H σ (a :: as) vs fpA) : ∃ v ws, vs = v :: ws ∧ RepA K F H σ a v (fpA 0) ∧ RepAs K F H σ as ws (fun j => fpA (j + 1)) := by
  have l := h.len
  match vs, l with
  | v :: ws, _ =>
    obtain ⟨w, hw, r⟩ := h.got 0 a rfl
    cases hw
    refine ⟨v, ws, rfl, r, ⟨by simpa using h.len, fun j c hc => ?_, fun j hj => h.nil (j + 1) (by simpa using hj), fun i j hij b hb => h.dj (i + 1) (j + 1) (by omega) b hb⟩⟩
    obtain ⟨w, h1, h2⟩ := h.got (j + 1) c (by simpa using hc)
    exact ⟨w, by simpa using h1, h2⟩
theorem tms_reps {K : PySem.W.Frag} {F H : Hp} {σ : St} : ∀ {as : List Av} {vs : List V} {fpA : Nat → List Addr} {ms : List M}, RepAs K F H σ as vs fpA → tms as = some ms → ∃ fp, RepMs K F H ms vs fp ∧ ∀ b ∈ fp, Own fpA b
  | [], vs, fpA, ms, h, e => by
    rw [tms] at e; cases e
    have l := h.len
    match vs, l with
    | [], _ => exact ⟨[], .nil, fun b hb => by cases hb⟩
  | .sl _ :: r, _, _, _, _, e => by rw [tms] at e; cases e
  | .tm m :: r, vs, fpA, ms, h, e => by
    rw [tms] at e
    cases er : tms r with
    | none => rw [er] at e; cases e
    | some ns =>
      rw [er] at e; cases e
      obtain ⟨v, ws, rfl, ra, rs⟩ := h.tail
      obtain ⟨fp, rm, ho⟩ := tms_reps rs er
      refine ⟨fpA 0 ++ fp, .cons ra rm fun b hb q => ?_, fun b hb => ?_⟩
      · obtain ⟨j, hj⟩ := ho b q
        exact h.dj 0 (j + 1) (by omega) b hb hj
      · rcases List.mem_append.mp hb with q | q
        · exact ⟨0, q⟩
        · obtain ⟨j, hj⟩ := ho b q
          exact ⟨j + 1, hj⟩
theorem RepMs.frozen {K : PySem.W.Frag} {F H F' : Hp} : ∀ {ms : List M} {vs : List V} {fp : List Addr} {ds : List D}, RepMs K F H ms vs fp → Sub F F' → (∀ b ∈ fp, F' b = H b) → frzs ms = some ds → Reps K F' vs ds
  | [], _, _, ds, .nil, _, _, e => by rw [frzs] at e; cases e; exact .nil
  | m :: ms, _, _, ds, .cons a b d, s, hF, e => by
    rw [frzs] at e
    cases e1 : frz m with
    | none => rw [e1] at e; cases e
    | some x =>
      rw [e1] at e
      cases e2 : frzs ms with
      | none => rw [e2] at e; cases e
      | some xs =>
        rw [e2] at e; cases e
        exact .cons (a.frozen s (fun b hb => hF b (List.mem_append_left _ hb)) e1) (b.frozen s (fun b hb => hF b (List.mem_append_right _ hb)) e2)
section
variable {X : Cx} {W : WX} {es : List Expr} {fa : FA} {pos : Pos}
theorem e_lst (h : PA X es (rA X.K W fa)) : PE X (.List es pos) (rE X.K W (lstE fa)) := PE_mono (pe_lst h) fun σ H Q ⟨F, env, fps, R, p⟩ => by
  refine ⟨F, env, fps, R, ?_⟩
  unfold lstE at p
  cases ef : fa env with
  | none => rw [ef] at p; exact p
  | some o =>
    rw [ef] at p
    cases o with
    | ex x env1 => exact p
    | ok as env1 =>
      simp only [bindO_ok] at p
      cases et : tms as with
      | none => rw [et] at p; exact p.elim
      | some ms =>
        simp only [et] at p
        split at p
        · rename_i hl
          intro vs F1 H1 fps1 fpA R1 rs d e1
          obtain ⟨fp, rm, ho⟩ := tms_reps rs et
          refine ⟨by rw [rm.length]; exact hl, fun q hq => ?_⟩
          have en : Ext X.K F1 H1 (fun _ => False) F1 (upd H1 q (.lst vs)) (fun b => False ∨ b = q) := Ext.new hq
          obtain ⟨R2, n2⟩ := R1.frame (fun b _ h => h) en (sub_new R1.fr hq)
          have nq : ∀ b ∈ fp, b ≠ q := fun b hb e => by
            obtain ⟨⟨o, ho⟩, _⟩ := rm.live b hb
            rw [e, hq] at ho; cases ho
          have rm2 : RepMs X.K F1 (upd H1 q (.lst vs)) ms vs fp := rm.frame (Sub.refl _) (fun b hb => upd_ne (nq b hb)) fun b hb => (rm.live b hb).2
          refine p (.ref q) F1 _ fps1 (q :: fp) R2 (.lst upd_same (sub_none R1.fr hq) rm2 fun h => nq q h rfl) (fun b hb z => ?_) ?_
          · rcases List.mem_cons.mp hb with e | hb
            · exact n2 b z (.inr e)
            · exact d b (ho b hb) z
          · exact e1.trans (Ext.new (A := fun b => Own fps1 b ∨ Own fpA b) hq) (fun _ h => h) fun b h => by
              rcases h with h | h
              · exact .inl (.inl (.inl h))
              · rcases List.mem_cons.mp h with e | h
                · exact .inl (.inr e)
                · exact .inl (.inl (.inr (ho b h)))
        · exact p.elim
theorem e_tup {k : Nat} (h : PA X es (rA X.K W fa)) : PE X (.Tuple es k pos) (rE X.K W (tupE fa)) := PE_mono (pe_tup h) fun σ H Q ⟨F, env, fps, R, p⟩ => by
  refine ⟨F, env, fps, R, ?_⟩
  unfold tupE at p
  cases ef : fa env with
  | none => rw [ef] at p; exact p
  | some o =>
    rw [ef] at p
    cases o with
    | ex x env1 => exact p
    | ok as env1 =>
      simp only [bindO_ok] at p
      cases et : tms as with
      | none => rw [et] at p; exact p.elim
      | some ms =>
        simp only [et] at p
        cases ed : unfz ms with
        | none =>
          simp only [ed] at p
          split at p
          · rename_i hl
            intro vs F1 H1 fps1 fpA R1 rs d e1
            obtain ⟨fp, rm, ho⟩ := tms_reps rs et
            refine ⟨by rw [rm.length]; exact hl, fun q hq => ?_⟩
            have en : Ext X.K F1 H1 (fun _ => False) F1 (upd H1 q (.tup vs)) (fun b => False ∨ b = q) := Ext.new hq
            obtain ⟨R2, n2⟩ := R1.frame (fun b _ h => h) en (sub_new R1.fr hq)
            have nq : ∀ b ∈ fp, b ≠ q := fun b hb e => by
              obtain ⟨⟨o, ho⟩, _⟩ := rm.live b hb
              rw [e, hq] at ho; cases ho
            have rm2 : RepMs X.K F1 (upd H1 q (.tup vs)) ms vs fp := rm.frame (Sub.refl _) (fun b hb => upd_ne (nq b hb)) fun b hb => (rm.live b hb).2
            refine p (.ref q) F1 _ fps1 (q :: fp) R2 (.tup upd_same (sub_none R1.fr hq) rm2 fun h => nq q h rfl) (fun b hb z => ?_) ?_
            · rcases List.mem_cons.mp hb with e | hb
              · exact n2 b z (.inr e)
              · exact d b (ho b hb) z
            · exact e1.trans (Ext.new (A := fun b => Own fps1 b ∨ Own fpA b) hq) (fun _ h => h) fun b h => by
                rcases h with h | h
                · exact .inl (.inl (.inl h))
                · rcases List.mem_cons.mp h with e | h
                  · exact .inl (.inr e)
                  · exact .inl (.inl (.inr (ho b h)))
          · exact p.elim
        | some ds =>
          simp only [ed] at p
          split at p
          · rename_i hl
            intro vs F1 H1 fps1 fpA R1 rs d e1
            obtain ⟨fp, rm, ho⟩ := tms_reps rs et
            have rd : Reps X.K F1 vs ds := unfz_reps rm ed
            refine ⟨by rw [rd.length]; exact hl, fun q hq => ?_⟩
            have en : Ext X.K F1 H1 (fun _ => False) (upd F1 q (.tup vs)) (upd H1 q (.tup vs)) (fun _ => False) := Ext.newF R1.fr hq
            obtain ⟨R2, _⟩ := R1.frame (fun b _ h => h) en (sub_upd R1.fr)
            refine p (.ref q) _ _ fps1 [] R2 (.fz (.tup upd_same (rd.mono en.ff))) Own.not_nil ?_
            exact (e1.trans en.unit (B := Own fps1) (C := Own fps1) (fun _ h => .inl h) fun _ h => .inl h).weak fun b h => h.elim id fun z => by cases z
          · exact p.elim
end
def chainE (p q : Int → Int → Bool) (fa fb fc : FE) : FE := fun env => bindO (fa env) fun a env1 => bindO (fb env1) fun b env2 => match intA a env2 with
  | some i => match intA b env2 with
    | some j => match p i j with
      | true => bindO (fc env2) fun c env3 => match intA c env3 with
        | some k => some (.ok (.tm (.fz (.bl (q j k)))) env3)
        | none => none
      | false => some (.ok (.tm (.fz (.bl false))) env2)
    | none => none
  | none => none
section
variable {X : Cx} {W : WX} {a b c : Expr} {fa fb fc : FE} {pos : Pos}
theorem r_chain {K : PySem.W.Frag} {p q : Int → Int → Bool} : ∀ σ H Q, rE K W (chainE p q fa fb fc) σ H Q → tChain (rI0 fun i j => .bl (p i j)) (rI0 fun i j => .bl (q i j)) (rE K W fa) (rE K W fb) (rE K W fc) σ H Q := fun σ H Q ⟨F, env, fps, R, po⟩ => by
  refine ⟨F, env, fps, R, ?_⟩
  unfold chainE at po
  cases ef : fa env with
  | none => rw [ef] at po; exact po
  | some o =>
    rw [ef] at po
    cases o with
    | ex x env1 => exact po
    | ok a env1 =>
      simp only [bindO_ok] at po
      intro v F1 H1 fps1 fp R1 r d e1
      refine ⟨F1, env1, fps1, R1, ?_⟩
      cases eg : fb env1 with
      | none => rw [eg] at po; exact po
      | some o2 =>
        rw [eg] at po
        cases o2 with
        | ex x env2 => exact PX.wide po e1 fun _ h => .inl h
        | ok b env2 =>
          simp only [bindO_ok] at po
          intro w F2 H2 fps2 fp2 R2 r2 d2 e2
          obtain ⟨r', _⟩ := pendA r d e2
          cases ei : intA a env2 with
          | none => rw [ei] at po; exact po.elim
          | some i =>
            simp only [ei] at po
            cases ej : intA b env2 with
            | none => rw [ej] at po; exact po.elim
            | some j =>
              simp only [ej] at po
              obtain rfl := intA_rep R2 r' ei
              obtain rfl := intA_rep R2 r2 ej
              have e12 : Ext K F H (Own fps) F2 H2 (Own fps2) := (e1.trans e2 (fun _ h => .inl h) (C := Own fps2) fun _ h => .inl (.inl h))
              refine ⟨i, j, rfl, rfl, p i j, rfl, ?_⟩
              cases hp : p i j with
              | false =>
                simp only [hp] at po
                exact ifF (po (.bl false) F2 H2 fps2 [] R2 (RepM.fz (.bl false)) Own.not_nil (e12.weak fun b h => h.elim id fun z => by cases z))
              | true =>
                simp only [hp] at po
                refine ifT ⟨F2, env2, fps2, R2, ?_⟩
                cases ec : fc env2 with
                | none => rw [ec] at po; exact po
                | some o3 =>
                  rw [ec] at po
                  cases o3 with
                  | ex x env3 => exact PX.wide po e12 fun _ h => h
                  | ok c env3 =>
                    simp only [bindO_ok] at po
                    intro z F3 H3 fps3 fp3 R3 r3 d3 e3
                    cases ek : intA c env3 with
                    | none => rw [ek] at po; exact po.elim
                    | some k =>
                      simp only [ek] at po
                      obtain rfl := intA_rep R3 r3 ek
                      exact ⟨j, k, rfl, rfl, po (.bl (q j k)) F3 H3 fps3 [] R3 (RepM.fz (.bl _)) Own.not_nil (e12.trans e3 (fun _ h => h) fun b h => .inl (.inl (h.elim id fun z => by cases z)))⟩
theorem e_chain {op op' : CmpOp} {p q : Int → Int → Bool} (ho : OpR X (compareOp op) (rI0 fun i j => .bl (p i j))) (ho' : OpR X (compareOp op') (rI0 fun i j => .bl (q i j))) (ha : PE X a (rE X.K W fa)) (hb : PE X b (rE X.K W fb)) (hc : PE X c (rE X.K W fc))
    (hm : lastMarks [op, op'] [b, c] = false := by with_unfolding_all rfl) : PE X (.Compare a [op, op'] [b, c] pos) (rE X.K W (chainE p q fa fb fc)) := PE_mono (pe_chain ho ho' ha hb hc hm) r_chain
theorem t_chain {op op' : CmpOp} {p q : Int → Int → Bool} (ho : OpR X (compareOp op) (rI0 fun i j => .bl (p i j))) (ho' : OpR X (compareOp op') (rI0 fun i j => .bl (q i j))) (ha : PE X a (rE X.K W fa)) (hb : PE X b (rE X.K W fb)) (hc : PE X c (rE X.K W fc))
    (hm : lastMarks [op, op'] [b, c] = false := by with_unfolding_all rfl) : PT X (.Compare a [op, op'] [b, c] pos) (rT X.K W (tst (chainE p q fa fb fc))) := PT_mono (pt_chain ho ho' ha hb hc hm) fun σ H Q z => r_chain σ H _ (r_tst σ H Q z)
end
def andE (fa fb : FE) : FE := fun env => bindO (fa env) fun a env1 => match boolA a env1 with
  | some true => fb env1
  | some false => some (.ok (.tm (.fz (.bl false))) env1)
  | none => none
def orE (fa fb : FE) : FE := fun env => bindO (fa env) fun a env1 => match boolA a env1 with
  | some true => some (.ok (.tm (.fz (.bl true))) env1)
  | some false => fb env1
  | none => none
def notE (fa : FE) : FE := fun env => bindO (fa env) fun a env1 => match boolA a env1 with
  | some b => some (.ok (.tm (.fz (.bl (!b)))) env1)
  | none => none
def ifE (c : FT) (fa fb : FE) : FE := fun env => bindO (c env) fun b env1 => match b with
  | true => fa env1
  | false => fb env1
section
variable {X : Cx} {W : WX} {a b c : Expr} {rest : List Expr} {fa fb : FE} {fc : FT} {pos : Pos}
theorem e_one {op} (h : PE X a (rE X.K W fa)) : PE X (.BoolOp op [a] pos) (rE X.K W fa) := pe_one h
theorem e_and (ha : PE X a (rE X.K W fa)) (hb : PE X (.BoolOp .And (b :: rest) pos) (rE X.K W fb)) : PE X (.BoolOp .And (a :: b :: rest) pos) (rE X.K W (andE fa fb)) := PE_mono (pe_and ha hb) fun σ H Q ⟨F, env, fps, R, po⟩ => by
  refine ⟨F, env, fps, R, ?_⟩
  unfold andE at po
  cases ef : fa env with
  | none => rw [ef] at po; exact po
  | some o =>
    rw [ef] at po
    cases o with
    | ex x env1 => exact po
    | ok a env1 =>
      simp only [bindO_ok] at po
      intro v F1 H1 fps1 fp R1 r d e1
      cases eb : boolA a env1 with
      | none => rw [eb] at po; exact po.elim
      | some k =>
        simp only [eb] at po
        refine ⟨k, boolA_rep R1 r eb, ?_⟩
        cases k with
        | true => exact ifT ⟨F1, env1, fps1, R1, poE.wide po e1 fun _ h => .inl h⟩
        | false => exact ifF (po (.bl false) F1 H1 fps1 [] R1 (RepM.fz (.bl false)) Own.not_nil (e1.weak fun b h => .inl (h.elim id fun z => by cases z)))
theorem e_if (hc : PT X c (rT X.K W fc)) (ha : PE X a (rE X.K W fa)) (hb : PE X b (rE X.K W fb)) : PE X (.IfExp c a b pos) (rE X.K W (ifE fc fa fb)) := PE_mono (pe_ifExp hc ha hb) fun σ H Q ⟨F, env, fps, R, po⟩ => by
  refine ⟨F, env, fps, R, ?_⟩
  unfold ifE at po
  cases ef : fc env with
  | none => rw [ef] at po; exact po
  | some o =>
    rw [ef] at po
    cases o with
    | ex x env1 => exact po
    | ok k env1 =>
      simp only [bindO_ok] at po
      intro F1 H1 fps1 R1 e1
      cases k with
      | true => exact ifT ⟨F1, env1, fps1, R1, poE.wide po e1 fun _ h => h⟩
      | false => exact ifF ⟨F1, env1, fps1, R1, poE.wide po e1 fun _ h => h⟩
end
def isNon : M → Bool
  | .fz .non => true
  | _ => false
theorem isNon_rep {K : PySem.W.Frag} {F H : Hp} {m : M} {v : V} {fp : List Addr} (r : RepM K F H m v fp) : decide (v = .non) = isNon m := by
  cases r with
  | fz h => cases h <;> simp [isNon]
  | lst => simp [isNon]
  | tup => simp [isNon]
  | dK => simp [isNon]
  | dT => simp [isNon]
  | ins => simp [isNon]
def isNM (a b : M) : Option M := match b with
  | .fz .non => some (.fz (.bl (isNon a)))
  | _ => none
def notNM (a b : M) : Option M := match b with
  | .fz .non => some (.fz (.bl (!isNon a)))
  | _ => none
mutual
def toPD : D → Option PyData
  | .non => some .none
  | .bl b => some (.bool b)
  | .int i => some (.int i)
  | .str x => some (.str x)
  | .lst ds => match toPDs ds with
    | some ps => some (.list ps)
    | none => none
  | .tup ds => match toPDs ds with
    | some ps => some (.tuple ps)
    | none => none
  | .dK _ => none
  | .dT _ => none
  | .scr _ => none
  | .ins _ _ => none
  | .lam _ => none
def toPDs : List D → Option (List PyData)
  | [] => some []
  | d :: ds => match toPD d with
    | some p => match toPDs ds with
      | some ps => some (p :: ps)
      | none => none
    | none => none
end
mutual
def toPM : M → Option PyData
  | .fz d => toPD d
  | .lst ms => match toPMs ms with
    | some ps => some (.list ps)
    | none => none
  | .tup ms => match toPMs ms with
    | some ps => some (.tuple ps)
    | none => none
  | .dK _ => none
  | .dT _ => none
  | .ins _ _ => none
def toPMs : List M → Option (List PyData)
  | [] => some []
  | d :: ds => match toPM d with
    | some p => match toPMs ds with
      | some ps => some (p :: ps)
      | none => none
    | none => none
end
section
variable {K : PySem.W.Frag} {F H : Hp}
theorem dp_of (s : Sub F H) {v : V} {d : D} (h : Rep K F v d) : ∀ p, toPD d = some p → Dp K H v p :=
  Rep.rec (K := K) (F := F) (motive_1 := fun v d _ => ∀ p, toPD d = some p → Dp K H v p) (motive_2 := fun vs ds _ => ∀ ps, toPDs ds = some ps → DpAll K H vs ps)
    (fun p e => by rw [toPD] at e; cases e; exact .non) (fun b p e => by rw [toPD] at e; cases e; exact .bl b) (fun i p e => by rw [toPD] at e; cases e; exact .int i) (fun x p e => by rw [toPD] at e; cases e; exact .str x)
    (fun {q vs ds} a _ ih p e => by
      rw [toPD] at e
      cases e2 : toPDs ds with
      | none => rw [e2] at e; cases e
      | some ps => rw [e2] at e; cases e; exact .lst (SqL.of (s _ _ a)) (ih ps e2))
    (fun {q vs ds} a _ ih p e => by
      rw [toPD] at e
      cases e2 : toPDs ds with
      | none => rw [e2] at e; cases e
      | some ps => rw [e2] at e; cases e; exact .tup (SqT.of (s _ _ a)) (ih ps e2))
    (fun _ _ _ _ p e => by rw [toPD] at e; cases e) (fun _ _ _ _ p e => by rw [toPD] at e; cases e) (fun _ p e => by rw [toPD] at e; cases e) (fun _ _ _ _ p e => by rw [toPD] at e; cases e) (fun _ _ p e => by rw [toPD] at e; cases e)
    (fun ps e => by rw [toPDs] at e; cases e; exact .nil)
    (fun {v vs d ds} _ _ i1 i2 ps e => by
      rw [toPDs] at e
      cases e1 : toPD d with
      | none => rw [e1] at e; cases e
      | some p =>
        rw [e1] at e
        cases e2 : toPDs ds with
        | none => rw [e2] at e; cases e
        | some qs => rw [e2] at e; cases e; exact .cons (i1 p e1) (i2 qs e2)) h
theorem dpm_of (s : Sub F H) {m : M} {v : V} {fp : List Addr} (h : RepM K F H m v fp) : ∀ p, toPM m = some p → Dp K H v p :=
  RepM.rec (K := K) (F := F) (H := H) (motive_1 := fun m v _ _ => ∀ p, toPM m = some p → Dp K H v p) (motive_2 := fun ms vs _ _ => ∀ ps, toPMs ms = some ps → DpAll K H vs ps)
    (fun r p e => by rw [toPM] at e; exact dp_of s r p e)
    (fun {q vs ms fp} a _ _ _ ih p e => by
      rw [toPM] at e
      cases e2 : toPMs ms with
      | none => rw [e2] at e; cases e
      | some ps => rw [e2] at e; cases e; exact .lst (SqL.of a) (ih ps e2))
    (fun {q vs ms fp} a _ _ _ ih p e => by
      rw [toPM] at e
      cases e2 : toPMs ms with
      | none => rw [e2] at e; cases e
      | some ps => rw [e2] at e; cases e; exact .tup (SqT.of a) (ih ps e2))
    (fun _ _ _ _ _ _ p e => by rw [toPM] at e; cases e) (fun _ _ _ _ _ _ p e => by rw [toPM] at e; cases e) (fun _ _ _ _ _ _ p e => by rw [toPM] at e; cases e)
    (fun ps e => by rw [toPMs] at e; cases e; exact .nil)
    (fun {m v ms vs fp fq} _ _ _ i1 i2 ps e => by
      rw [toPMs] at e
      cases e1 : toPM m with
      | none => rw [e1] at e; cases e
      | some p =>
        rw [e1] at e
        cases e2 : toPMs ms with
        | none => rw [e2] at e; cases e
        | some qs => rw [e2] at e; cases e; exact .cons (i1 p e1) (i2 qs e2)) h
end
/-- == : of numbers, texts, truths at once; else by their data -/
def eqB : M → M → Option Bool
  | .fz (.int i), .fz (.int j) => some (decide (i = j))
  | .fz (.str s), .fz (.str t) => some (decide (s = t))
  | .fz (.bl a), .fz (.bl b) => some (decide (a = b))
  | a, b => match toPM a with
    | some p => match toPM b with
      | some q => if SeqAt.shaped p && SeqAt.shaped q then some (PyData.eqv p q) else none
      | none => none
    | none => none
def eqM (a b : M) : Option M := match eqB a b with
  | some k => some (.fz (.bl k))
  | none => none
def neM (a b : M) : Option M := match eqB a b with
  | some k => some (.fz (.bl (!k)))
  | none => none
theorem eqB_at {K : PySem.W.Frag} {F H : Hp} {a b : M} {x y : V} {fa fb : List Addr} {k : Bool} (s : Sub F H) (r1 : RepM K F H a x fa) (r2 : RepM K F H b y fb) (h : eqB a b = some k) : (scal x y = true ∧ k = decide (x = y)) ∨ ∃ p q, Dp K H x p ∧ Dp K H y q ∧ SeqAt.shaped p = true ∧ SeqAt.shaped q = true ∧ k = PyData.eqv p q := by
  unfold eqB at h
  split at h
  · cases h
    obtain rfl := rep_int (repm_fz r1)
    obtain rfl := rep_int (repm_fz r2)
    exact .inl ⟨rfl, by simp⟩
  · cases h
    obtain rfl := rep_str (repm_fz r1)
    obtain rfl := rep_str (repm_fz r2)
    exact .inl ⟨rfl, by simp⟩
  · cases h
    obtain rfl := rep_bl (repm_fz r1)
    obtain rfl := rep_bl (repm_fz r2)
    exact .inl ⟨rfl, by simp⟩
  · cases e1 : toPM a with
    | none => rw [e1] at h; cases h
    | some p =>
      simp only [e1] at h
      cases e2 : toPM b with
      | none => rw [e2] at h; cases h
      | some q =>
        simp only [e2] at h
        split at h
        · rename_i hs
          cases h
          simp only [Bool.and_eq_true] at hs
          exact .inr ⟨p, q, dpm_of s r1 p e1, dpm_of s r2 q e2, hs.1, hs.2, rfl⟩
        · cases h
section
variable {X : Cx} {W : WX} {a b : Expr} {fa fb : FE} {pos : Pos}
theorem e_eq (hu : X.A.units + 64 < cLine) (ha : PE X a (rE X.K W fa)) (hb : PE X b (rE X.K W fb)) : PE X (.Compare a [.Eq] [b] pos) (rE X.K W (callE (g2 eqM) (arg2 fa fb))) := e_cmp (op_eq.or (op_eqD hu)) (fun x y H Q Ex p => by
  obtain ⟨F, a, b, m, fps, R, r1, r2, e, p⟩ := g2_at p
  unfold eqM at e
  cases ek : eqB a b with
  | none => rw [ek] at e; cases e
  | some k =>
    rw [ek] at e; cases e
    have q := sp_flat R (Rep.bl k) p
    rcases eqB_at R.fr r1 r2 ek with ⟨h, rfl⟩ | ⟨d, e, h1, h2, h3, h4, rfl⟩
    · exact .inl ⟨h, q⟩
    · exact .inr ⟨d, e, h1, h2, h3, h4, q⟩) ha hb (nomark _)
theorem e_ne (hu : X.A.units + 64 < cLine) (ha : PE X a (rE X.K W fa)) (hb : PE X b (rE X.K W fb)) : PE X (.Compare a [.NotEq] [b] pos) (rE X.K W (callE (g2 neM) (arg2 fa fb))) := e_cmp (op_ne.or (op_neD hu)) (fun x y H Q Ex p => by
  obtain ⟨F, a, b, m, fps, R, r1, r2, e, p⟩ := g2_at p
  unfold neM at e
  cases ek : eqB a b with
  | none => rw [ek] at e; cases e
  | some k =>
    rw [ek] at e; cases e
    have q := sp_flat R (Rep.bl (!k)) p
    rcases eqB_at R.fr r1 r2 ek with ⟨h, rfl⟩ | ⟨d, e, h1, h2, h3, h4, rfl⟩
    · exact .inl ⟨h, q⟩
    · exact .inr ⟨d, e, h1, h2, h3, h4, q⟩) ha hb (nomark _)
end
end Ink
set_option Elab.async false
set_option linter.all false
set_option maxRecDepth 100000
namespace Ink
open PySem L2
def cutL {α : Type} (xs : List α) (lo hi : Option Int) : List α := (xs.drop (HT.sIx xs.length 0 lo)).take (HT.sIx xs.length xs.length hi - HT.sIx xs.length 0 lo)
theorem cut_reps {K : PySem.W.Frag} {F : Hp} {vs : List V} {ds : List D} (r : Reps K F vs ds) (lo hi : Option Int) : Reps K F (cutV vs lo hi) (cutL ds lo hi) := by
  unfold cutV cutL
  rw [r.length]
  exact (r.drop _).take _
theorem cut_ints {K : PySem.W.Frag} {F : Hp} (ns : List Int) (lo hi : Option Int) : Reps K F (cutV (ns.map V.int) lo hi) ((cutL ns lo hi).map D.int) := by
  have e : cutV (ns.map V.int) lo hi = (cutL ns lo hi).map V.int := by
    unfold cutV cutL
    rw [List.length_map, ← List.map_drop, ← List.map_take]
  rw [e]
  induction cutL ns lo hi with
  | nil => exact .nil
  | cons n ns ih => exact .cons (.int n) ih
def sliceM (m : M) (lo hi : Option Int) : Option M := match m with
  | .fz (.str s) => if s.length ≤ sizeLine then some (.fz (.str (cutS s lo hi))) else none
  | .fz (.tup ds) => some (.fz (.tup (cutL ds lo hi)))
  | .fz (.scr ns) => some (.lst ((cutL ns lo hi).map fun n => .fz (.int n)))
  | m => match lstD m with
    | some ds => some (.lst ((cutL ds lo hi).map .fz))
    | none => none
def rSl (K : PySem.W.Frag) : V → Option Int → Option Int → Hp → VK → Prop := fun x lo hi H Q => rSlS x lo hi H Q ∨ (rSlA K x lo hi H Q ∨ rSlL K x lo hi H Q)
theorem slice_at {K : PySem.W.Frag} {F H : Hp} {vs : List V} {ms : List M} {fps : Nat → List Addr} {Q : VK} {Ex : XK} {m z : M} {x : V} {fp : List Addr} {lo hi : Option Int} (R : REnv K F H (argS vs) (argE ms) fps) (r : RepM K F H m x fp) (h : sliceM m lo hi = some z)
    (p : poP K F H (Own fps) vs (some (.ok z (argE ms))) Q Ex) : rSl K x lo hi H Q := by
  unfold sliceM at h
  split at h
  · split at h
    · rename_i hl
      cases h
      obtain rfl := rep_str (repm_fz r)
      exact .inl ⟨_, rfl, hl, sp_flat R (.str _) p⟩
    · cases h
  · rename_i ds
    cases h
    obtain ⟨q, ws, rfl, hq, rs⟩ := tup_rep R.fr (repm_fz r)
    refine .inr (.inl ⟨q, ws, rfl, hq, fun ⟨h1, h2⟩ => ?_, fun _ => sp_tup R (cut_reps rs lo hi) p⟩)
    have e : cutL ds lo hi = ds := by
      unfold cutL
      rw [rs.length] at h1 h2
      rw [h1, h2]
      simp
    rw [e] at p
    exact sp_flat R (repm_fz r) p
  · cases h
    cases repm_fz r with
    | scr hq =>
      rename_i ns pp
      refine .inr (.inr ⟨pp, _, rfl, R.fr.sql hq, ?_⟩)
      have e : ((cutL ns lo hi).map fun n => M.fz (.int n)) = ((cutL ns lo hi).map D.int).map M.fz := by rw [List.map_map]; rfl
      rw [e] at p
      exact sp_lst R (cut_ints ns lo hi) p
  · rename_i m' _ _ _
    cases e1 : lstD m with
    | none => rw [e1] at h; cases h
    | some ds =>
      rw [e1] at h; cases h
      obtain ⟨q, ws, rfl, hq, rs⟩ := lstD_rep R.fr r e1
      exact .inr (.inr ⟨q, ws, rfl, SqL.of hq, sp_lst R (cut_reps rs lo hi) p⟩)
def sl00 : FP := g1 fun m => sliceM m none none
def sl10 : FP := g2 fun m a => match a with
  | .fz (.int i) => sliceM m (some i) none
  | _ => none
def sl01 : FP := g2 fun m a => match a with
  | .fz (.int i) => sliceM m none (some i)
  | _ => none
def slice11E (fe fl fu : FE) : FE := fun env => bindO (fe env) fun a env1 => bindO (fl env1) fun b env2 => match intA b env2 with
  | some i => bindO (fu env2) fun c env3 => match intA c env3 with
    | some j => runP (g1 fun m => sliceM m (some i) (some j)) [a] env3
    | none => none
  | none => none
section
variable {X : Cx} {W : WX} {e l u : Expr} {fe fl fu : FE} {p2 pos : Pos}
theorem sl_any : SlR X (rSl X.K) := sl_str.or (sl_tupA.or sl_list)
theorem e_slice10 (he : PE X e (rE X.K W fe)) (hl : PE X l (rE X.K W fl)) : PE X (.Subscript e (.Slice (some l) none none p2) pos) (rE X.K W (callE sl10 (arg2 fe fl))) := PE_mono (pe_slice sl_any he (po_some hl) po_none) fun σ H Q p =>
  rE_imp (fun x H1 p1 => rE_imp (fun y H2 p2 => by
    obtain ⟨F, a, b, m, fps, R, r1, r2, h, p⟩ := g2_at (ra_nil p2)
    split at h
    · obtain rfl := rep_int (repm_fz r2)
      exact ⟨_, rfl, slice_at R r1 h p⟩
    · cases h) (ra_cons p1)) (ra_cons (r_call p))
theorem e_slice01 (he : PE X e (rE X.K W fe)) (hu : PE X u (rE X.K W fu)) : PE X (.Subscript e (.Slice none (some u) none p2) pos) (rE X.K W (callE sl01 (arg2 fe fu))) := PE_mono (pe_slice sl_any he po_none (po_some hu)) fun σ H Q p =>
  rE_imp (fun x H1 p1 => rE_imp (fun y H2 p2 => by
    obtain ⟨F, a, b, m, fps, R, r1, r2, h, p⟩ := g2_at (ra_nil p2)
    split at h
    · obtain rfl := rep_int (repm_fz r2)
      exact ⟨_, rfl, slice_at R r1 h p⟩
    · cases h) (ra_cons p1)) (ra_cons (r_call p))
end
def flatD : D → Bool
  | .non => true
  | .bl _ => true
  | .int _ => true
  | .str _ => true
  | _ => false
def eqD : D → D → Bool
  | .non, .non => true
  | .bl a, .bl b => a == b
  | .bl a, .int b => (if a then 1 else 0) == b
  | .int a, .bl b => a == (if b then 1 else 0)
  | .int a, .int b => a == b
  | .str a, .str b => a == b
  | _, _ => false
theorem flat_rep {K : PySem.W.Frag} {F : Hp} {v : V} {d : D} (r : Rep K F v d) (h : flatD d = true) : flatV v = true := by
  cases r <;> first | rfl | cases h
theorem eq_rep {K : PySem.W.Frag} {F : Hp} {v w : V} {d e : D} (r : Rep K F v d) (r2 : Rep K F w e) (h : flatD d = true) (h2 : flatD e = true) : eqV v w = eqD d e := by
  cases r <;> first | (cases h; done) | (cases r2 <;> first | rfl | (cases h2; done))
theorem in_rep {K : PySem.W.Frag} {F : Hp} {x : V} {d : D} (r : Rep K F x d) (h : flatD d = true) : ∀ {vs : List V} {ds : List D}, Reps K F vs ds → ds.all flatD = true → vs.all flatV = true ∧ inV x vs = ds.any fun e => eqD e d
  | _, _, .nil, _ => ⟨rfl, rfl⟩
  | _, _, .cons a b, hf => by
    rw [List.all_cons, Bool.and_eq_true] at hf
    obtain ⟨h1, h2⟩ := in_rep r h b hf.2
    refine ⟨by rw [List.all_cons, flat_rep a hf.1, h1]; rfl, ?_⟩
    unfold inV at h2 ⊢
    rw [List.any_cons, List.any_cons, h2, eq_rep a r hf.1 h]
def inB : M → M → Option Bool
  | .fz (.str ⟨⟨[c]⟩⟩), .fz (.str t) => some (decide (c ∈ t.cps.toList))
  | .fz d, b => if flatD d then match seqD b with
      | some ds => if ds.all flatD then some (ds.any fun e => eqD e d) else none
      | none => none
    else none
  | _, _ => none
def inM (neg : Bool) (a b : M) : Option M := match inB a b with
  | some k => some (.fz (.bl (if neg then !k else k)))
  | none => none
theorem inB_at {K : PySem.W.Frag} {F H : Hp} {a b : M} {x y : V} {fa fb : List Addr} {k : Bool} (s : Sub F H) (r1 : RepM K F H a x fa) (r2 : RepM K F H b y fb) (h : inB a b = some k) :
    (∃ (c : Nat) (z : Str), x = .str ⟨#[c]⟩ ∧ y = .str z ∧ k = decide (c ∈ z.cps.toList)) ∨ ∃ p xs, y = .ref p ∧ (SqL K H p xs ∨ SqT K H p xs) ∧ flatV x = true ∧ xs.all flatV = true ∧ k = inV x xs := by
  unfold inB at h
  split at h
  · rename_i c t
    cases h
    obtain rfl := rep_str (repm_fz r1)
    obtain rfl := rep_str (repm_fz r2)
    exact .inl ⟨c, t, rfl, rfl, rfl⟩
  · rename_i d _
    split at h
    · rename_i hf
      cases e1 : seqD b with
      | none => rw [e1] at h; cases h
      | some ds =>
        simp only [e1] at h
        split at h
        · rename_i ha
          cases h
          obtain ⟨p, vs, rfl, hq, rs⟩ := seqD_rep s r2 e1
          obtain ⟨h1, h2⟩ := in_rep (repm_fz r1) hf rs ha
          exact .inr ⟨p, vs, rfl, hq, flat_rep (repm_fz r1) hf, h1, h2.symm⟩
        · cases h
    · cases h
  · cases h
def intM1 : M → Option M
  | .fz (.int i) => some (.fz (.int i))
  | .fz (.bl b) => some (.fz (.int (if b then 1 else 0)))
  | _ => none
def listM : M → Option M := fun m => match seqD m with
  | some ds => some (.lst (ds.map .fz))
  | none => none
def tupleM : M → Option M := fun m => match m with
  | .fz (.tup ds) => some (.fz (.tup ds))
  | m => match lstD m with
    | some ds => some (.fz (.tup ds))
    | none => none
def bools : List D → Option (List Bool)
  | [] => some []
  | .bl b :: r => match bools r with
    | some bs => some (b :: bs)
    | none => none
  | _ => none
def allM (all : Bool) : M → Option M := fun m => match lstD m with
  | some ds => match bools ds with
    | some bs => some (.fz (.bl (if all then bs.all id else bs.any id)))
    | none => none
  | none => none
theorem bools_reps {K : PySem.W.Frag} {F : Hp} : ∀ {vs : List V} {ds : List D} {bs : List Bool}, Reps K F vs ds → bools ds = some bs → vs = bs.map V.bl
  | _, [], bs, .nil, e => by rw [bools] at e; cases e; rfl
  | _, .bl b :: r, bs, .cons a t, e => by
    rw [bools] at e
    cases e2 : bools r with
    | none => rw [e2] at e; cases e
    | some cs => rw [e2] at e; cases e; rw [rep_bl a, bools_reps t e2]; rfl
  | _, .non :: _, _, _, e => by simp [bools] at e
  | _, .int _ :: _, _, _, e => by simp [bools] at e
  | _, .str _ :: _, _, _, e => by simp [bools] at e
  | _, .lst _ :: _, _, _, e => by simp [bools] at e
  | _, .tup _ :: _, _, _, e => by simp [bools] at e
  | _, .dK _ :: _, _, _, e => by simp [bools] at e
  | _, .dT _ :: _, _, _, e => by simp [bools] at e
  | _, .scr _ :: _, _, _, e => by simp [bools] at e
  | _, .ins _ _ :: _, _, _, e => by simp [bools] at e
  | _, .lam _ :: _, _, _, e => by simp [bools] at e
section
variable {X : Cx} {W : WX} {e e2 : Expr} {fa fb : FE} {p pos : Pos}
theorem opc_all {K : PySem.W.Frag} : OpC K (g1 (allM true)) (rAll K) := fun vs H Q Ex p => by
  obtain ⟨x, F, a, m, fps, rfl, R, r, h, p⟩ := g1_at p
  unfold allM at h
  cases e1 : lstD a with
  | none => rw [e1] at h; cases h
  | some ds =>
    simp only [e1] at h
    cases e2 : bools ds with
    | none => rw [e2] at h; cases h
    | some bs =>
      simp only [e2] at h
      cases h
      obtain ⟨q, vs, rfl, hq, rs⟩ := lstD_rep R.fr r e1
      exact ⟨q, bs, rfl, by rw [← bools_reps rs e2]; exact SqL.of hq, sp_flat R (.bl _) p⟩
theorem e_all (hc : X.calm = true) (hg : Gl X "all") (hm : X.mg "all" = none) (ha : PE X e (rE X.K W fa)) (hs : starEach [e] X.env = (false, eval e X.env) :: starEach [] X.env := by rfl) : PE X (.Call (.Name "all" p) [e] [] pos) (rE X.K W (callE (g1 (allM true)) (arg1 fa))) :=
  e_callB (cr_all hc) opc_all hg hm (by decide +kernel) (a_cons ha a_nil hs) (he := hs)
theorem e_int1 (hg : Gl X "int") (hm : X.mg "int" = none) (ha : PE X e (rE X.K W fa)) (hs : starEach [e] X.env = (false, eval e X.env) :: starEach [] X.env := by rfl) : PE X (.Call (.Name "int" p) [e] [] pos) (rE X.K W (callE (g1 intM1) (arg1 fa))) :=
  e_callTy call_int1 (fun vs H Q Ex p => by
    obtain ⟨x, F, a, m, fps, rfl, R, r, h, p⟩ := g1_at p
    unfold intM1 at h
    split at h
    · cases h
      obtain rfl := rep_int (repm_fz r)
      exact .inl ⟨_, rfl, sp_flat R (.int _) p⟩
    · cases h
      obtain rfl := rep_bl (repm_fz r)
      exact .inr ⟨_, rfl, sp_flat R (.int _) p⟩
    · cases h) hg hm (by decide +kernel) (a_cons ha a_nil hs) (he := hs)
theorem e_tuple (hg : Gl X "tuple") (hm : X.mg "tuple" = none) (ha : PE X e (rE X.K W fa)) (hs : starEach [e] X.env = (false, eval e X.env) :: starEach [] X.env := by rfl) : PE X (.Call (.Name "tuple" p) [e] [] pos) (rE X.K W (callE (g1 tupleM) (arg1 fa))) :=
  e_callTy call_tuple_of (fun vs H Q Ex p => by
    obtain ⟨x, F, a, m, fps, rfl, R, r, h, p⟩ := g1_at p
    unfold tupleM at h
    split at h
    · cases h
      obtain ⟨q, vs, rfl, hq, rs⟩ := tup_rep R.fr (repm_fz r)
      exact ⟨q, vs, rfl, .inr ⟨hq, sp_flat R (repm_fz r) p⟩⟩
    · cases e1 : lstD a with
      | none => rw [e1] at h; cases h
      | some ds =>
        simp only [e1] at h
        cases h
        obtain ⟨q, vs, rfl, hq, rs⟩ := lstD_rep R.fr r e1
        exact ⟨q, vs, rfl, .inl ⟨SqL.of hq, sp_tup R rs p⟩⟩) hg hm (by decide +kernel) (a_cons ha a_nil hs) (he := hs)
def maxM : M → M → Option M := intM (fun _ _ => true) fun i j => .int (if j > i then j else i)
def minM : M → M → Option M := intM (fun _ _ => true) fun i j => .int (if j < i then j else i)
theorem e_max2 (hc : X.calm = true) (hg : Gl X "max") (hm : X.mg "max" = none) (ha : PE X e (rE X.K W fa)) (hb : PE X e2 (rE X.K W fb)) (hs : starEach [e, e2] X.env = (false, eval e X.env) :: starEach [e2] X.env := by rfl) (hs2 : starEach [e2] X.env = (false, eval e2 X.env) :: starEach [] X.env := by rfl) (hpl : (backTo pos (starEach [e2] X.env)).any (·.1) = false := by rfl) : PE X (.Call (.Name "max" p) [e, e2] [] pos) (rE X.K W (callE (g2 maxM) (arg2 fa fb))) :=
  e_callB (call_max2 hc) (fun vs H Q Ex p => by
    obtain ⟨x, y, F, a, b, m, fps, rfl, R, r1, r2, h, p⟩ := g2_atC p
    obtain ⟨i, j, rfl, rfl, _, rfl⟩ := intM_at h
    obtain rfl := rep_int (repm_fz r1)
    obtain rfl := rep_int (repm_fz r2)
    exact ⟨i, j, rfl, sp_flat R (.int _) p⟩) hg hm (by decide +kernel) (a_cons ha (a_cons hb a_nil hs2) hs) (he := hs) (hpl := hpl)
theorem e_min2 (hc : X.calm = true) (hg : Gl X "min") (hm : X.mg "min" = none) (ha : PE X e (rE X.K W fa)) (hb : PE X e2 (rE X.K W fb)) (hs : starEach [e, e2] X.env = (false, eval e X.env) :: starEach [e2] X.env := by rfl) (hs2 : starEach [e2] X.env = (false, eval e2 X.env) :: starEach [] X.env := by rfl) (hpl : (backTo pos (starEach [e2] X.env)).any (·.1) = false := by rfl) : PE X (.Call (.Name "min" p) [e, e2] [] pos) (rE X.K W (callE (g2 minM) (arg2 fa fb))) :=
  e_callB (call_min2 hc) (fun vs H Q Ex p => by
    obtain ⟨x, y, F, a, b, m, fps, rfl, R, r1, r2, h, p⟩ := g2_atC p
    obtain ⟨i, j, rfl, rfl, _, rfl⟩ := intM_at h
    obtain rfl := rep_int (repm_fz r1)
    obtain rfl := rep_int (repm_fz r2)
    exact ⟨i, j, rfl, sp_flat R (.int _) p⟩) hg hm (by decide +kernel) (a_cons ha (a_cons hb a_nil hs2) hs) (he := hs) (hpl := hpl)
end
end Ink
set_option Elab.async false
set_option linter.all false
set_option maxRecDepth 100000
namespace Ink
open PySem PySem.Spec PyProof.Rows L2
theorem enumEnd_list {prog : Program} {w : World} {A : Around} {E : Value → Shared → Prop} {s : Shared} {e it a : Addr} {c : Int} {i : Nat} {items : Array Value} {old : Value} {Q : Option Value → Shared → Prop} (hh : A.handled = none)
    (he : IsEnum s.heap e it c old) (hit : s.heap.IsListIter it a i) (hl : s.heap.IsList a items) (hx : items.size ≤ i) (hQ : ∀ h1, Heap.ExtBut it s.heap h1 → Q none { s with heap := h1 }) : wpAny (model prog w) A (pyNext (.ref e)) Q E s := by
  have hT : s.TypeIs (.ref e) "enumerate" := ⟨_, he, rfl⟩
  unfold pyNext
  refine wpAny_bind (wpAny_attempt (wpAny_callSpecial?_slot (name := Str.ofString "__next__") hT PySem.F.slot_enumerate_next
    (wpAny_call_entry PySem.F.slot_enumerate_next hT PySem.F.entry_enumerate_next ?_ (PySem.F.args_enumerate_next_1 _))))
  show wpAny _ _ (field (.ref e) 2 >>= _) _ _ _
  refine wpAny_bind (wpAny_field he rfl (x := .ref it) rfl ?_)
  refine wpAny_bind (wpAny_nextOf_list_end (A := A.in1) hh hit hl (by simp; exact hx) fun h1 x e1 hx1 => ?_)
  obtain ⟨o, ho, hc⟩ := hx1
  exact wpAny_bind (wpAny_isInstance (T := "StopIteration") (b := true) ⟨o, ho, hc⟩ isSubtype_stop (wpAny_pure (hQ _ e1)))
theorem enumEnd_tup {prog : Program} {w : World} {A : Around} {E : Value → Shared → Prop} {s : Shared} {e it a : Addr} {c : Int} {i : Nat} {items : Array Value} {old : Value} {Q : Option Value → Shared → Prop} (hh : A.handled = none)
    (he : IsEnum s.heap e it c old) (hit : s.heap.IsTupleIter it a i) (hl : s.heap.IsTuple a items) (hx : items.size ≤ i) (hQ : ∀ h1, Heap.ExtBut it s.heap h1 → Q none { s with heap := h1 }) : wpAny (model prog w) A (pyNext (.ref e)) Q E s := by
  have hT : s.TypeIs (.ref e) "enumerate" := ⟨_, he, rfl⟩
  unfold pyNext
  refine wpAny_bind (wpAny_attempt (wpAny_callSpecial?_slot (name := Str.ofString "__next__") hT PySem.F.slot_enumerate_next
    (wpAny_call_entry PySem.F.slot_enumerate_next hT PySem.F.entry_enumerate_next ?_ (PySem.F.args_enumerate_next_1 _))))
  show wpAny _ _ (field (.ref e) 2 >>= _) _ _ _
  refine wpAny_bind (wpAny_field he rfl (x := .ref it) rfl ?_)
  refine wpAny_bind (wpAny_nextOf_tuple_end (A := A.in1) hh hit hl (by simp; exact hx) fun h1 x e1 hx1 => ?_)
  obtain ⟨o, ho, hc⟩ := hx1
  exact wpAny_bind (wpAny_isInstance (T := "StopIteration") (b := true) ⟨o, ho, hc⟩ isSubtype_stop (wpAny_pure (hQ _ e1)))
/-- each item of the list at a in a new pair, counted from k -/
def Ielist (K : PySem.W.Frag) (a : Addr) (k : Int) : It :=
  ⟨fun i H => ∃ (xs : List V) (x : V), SqL K H a xs ∧ xs[i]? = some x, fun i H v H' => ∃ T x, v = .ref T ∧ H T = none ∧ H' = upd H T (.tup [.int (k + (i : Nat)), x]) ∧ ∀ xs, SqL K H a xs → xs[i]? = some x,
    fun i H => ∃ xs : List V, SqL K H a xs ∧ xs.length ≤ i⟩
theorem turnE_list {P : Program} {w : World} {K : PySem.W.Frag} {elts : List Expr} {kk : Nat} {tpos : Pos} (a e it : Addr) (k : Int) :
    Turn P w K (.Tuple elts kk tpos) (Ielist K a k) [e, it] e (fun i h => (∃ old, IsEnum h e it (k + (i : Nat)) old) ∧ h.IsListIter it a i ∧ e ≠ it ∧ a ≠ it ∧ a ≠ e) where
  mem := by simp
  obj := fun i h st b hb => by
    obtain ⟨⟨old, he⟩, ⟨o, ho, hc, hd⟩, _⟩ := st
    have z : b = e ∨ b = it := by simpa using hb
    rcases z with rfl | rfl
    · exact ⟨_, he, fun v q => nomatch q⟩
    · exact ⟨o, ho, fun v q => by rw [hd] at q; cases q⟩
  keep := fun i h h' st kp => by
    obtain ⟨⟨old, he⟩, hi, r⟩ := st
    exact ⟨⟨old, kp e (by simp) _ he⟩, hi.at fun o q => kp it (by simp) o q, r⟩
  item := by
    intro X hP hw hK hc i pins s σ H E I hf st hg
    subst hP hw hK
    obtain ⟨⟨old, he⟩, hit, hne, hai, hae⟩ := st
    obtain ⟨xs, x, hq, hx⟩ := hg
    obtain ⟨its, rv, p, hz⟩ := I.list hq
    obtain ⟨u, hu, ru⟩ := rv.get hx
    have hlt : i < its.toArray.size := by
      have := (List.getElem?_eq_some_iff.mp hu).1
      simpa using this
    have hel : e < s.heap.objs.size := Heap.lt_size he
    have hil : it < s.heap.objs.size := by
      obtain ⟨_, q, _⟩ := hit
      exact Heap.lt_size q
    have Dw := Draws.list (prog := X.prog) (w := X.w) (A := X.A.in1) (I.ok.hd hc) it a hai its.toArray
    refine wpAny_pyNext_enum_itemC Dw he ⟨hit, p.isList⟩ hlt hne (by simp; exact ⟨hne, fun q => hae q.symm⟩) fun y h1 tk hy ho hst hT hsz hk => ?_
    have ey : y = u := by
      have q : its.toArray[i]? = some u := by simpa using hu
      rw [q] at hy
      exact (Option.some.inj hy).symm
    subst ey
    refine ⟨_, rfl, wpAny_letOwnedTupleGo_enum (s := { s with heap := h1, toks := tk + 1 }) ho fun h2 he2 sb => ?_⟩
    have hT2 : h2.get? s.heap.objs.size = some { cls := .type "tuple", data := .seq #[.int (k + (i : Nat)) tk, y] } := (sb.2 _ (Nat.ne_of_gt hel)).trans hT
    have nw : ObjOk X.prog X.w (upd H s.heap.objs.size (.tup [.int (k + (i : Nat)), x])) h2 s.heap.objs.size (.tup [.int (k + (i : Nat)), x]) :=
      ⟨by show 2 ≤ sizeLine; decide, [.int (k + (i : Nat)) tk, y], .cons ⟨_, rfl⟩ (.cons ru .nil), ⟨_, hT2, rfl, _, rfl⟩⟩
    have I1 : Inv X pins σ (upd H s.heap.objs.size (.tup [.int (k + (i : Nat)), x])) { s with heap := h2, toks := tk + 1 } :=
      I.turnedNew (ch := [e, it]) (fun b ob hb q => (sb.2 b fun z => hb (by simp [z])).trans (hk b ob (fun z => hb (by simp [z])) (fun z => hb (by simp [z])) q)) hf (Nat.le_refl _) nw
    refine ⟨.ref s.heap.objs.size, _, I1, rfl, ⟨_, x, rfl, I.hok.fresh (Nat.le_refl _), rfl, fun ys hy => by rw [I.list_inj hy hq]; exact hx⟩, ⟨⟨y, ?_⟩, hst.1.at fun o q => (sb.2 it (Ne.symm hne)).trans q, hne, hai, hae⟩, fun b hb => ?_⟩
    · have e1 : k + ((i + 1 : Nat) : Int) = k + (i : Nat) + 1 := by omega
      rw [e1]
      exact he2
    · have z : b = e ∨ b = it := by simpa using hb
      have hb2 : b < s.heap.objs.size := by rcases z with rfl | rfl <;> assumption
      rw [upd_ne (Nat.ne_of_lt hb2)]
      exact (hf b hb).1
  done := by
    intro X hP hw hK hc i pins s σ H E I hf st hg
    subst hP hw hK
    obtain ⟨⟨old, he⟩, hit, hne, hai, hae⟩ := st
    obtain ⟨xs, hq, hx⟩ := hg
    obtain ⟨its, rv, p, hz⟩ := I.list hq
    obtain ⟨f0, f1, f2, f3, f4, f5⟩ := hf it (by simp)
    have hl := rv.length
    have hle : its.toArray.size ≤ i := by simp; omega
    exact enumEnd_list (I.ok.hd hc) he hit p.isList hle fun h1 eb => ⟨rfl, I.turned (t' := s.toks) (fun b o hb q => eb b o hb q) f0 f1 f3 f4 f5⟩
  self := fun A i s Q E st h => by
    obtain ⟨⟨_, he⟩, _⟩ := st
    exact wpAny_pyIter_enum he h
/-- each item of the tup at a in a new pair, counted from k -/
def Ietup (K : PySem.W.Frag) (a : Addr) (k : Int) : It :=
  ⟨fun i H => ∃ (xs : List V) (x : V), SqT K H a xs ∧ xs[i]? = some x, fun i H v H' => ∃ T x, v = .ref T ∧ H T = none ∧ H' = upd H T (.tup [.int (k + (i : Nat)), x]) ∧ ∀ xs, SqT K H a xs → xs[i]? = some x,
    fun i H => ∃ xs : List V, SqT K H a xs ∧ xs.length ≤ i⟩
theorem turnE_tup {P : Program} {w : World} {K : PySem.W.Frag} {elts : List Expr} {kk : Nat} {tpos : Pos} (a e it : Addr) (k : Int) :
    Turn P w K (.Tuple elts kk tpos) (Ietup K a k) [e, it] e (fun i h => (∃ old, IsEnum h e it (k + (i : Nat)) old) ∧ h.IsTupleIter it a i ∧ e ≠ it ∧ a ≠ it ∧ a ≠ e) where
  mem := by simp
  obj := fun i h st b hb => by
    obtain ⟨⟨old, he⟩, ⟨o, ho, hc, hd⟩, _⟩ := st
    have z : b = e ∨ b = it := by simpa using hb
    rcases z with rfl | rfl
    · exact ⟨_, he, fun v q => nomatch q⟩
    · exact ⟨o, ho, fun v q => by rw [hd] at q; cases q⟩
  keep := fun i h h' st kp => by
    obtain ⟨⟨old, he⟩, hi, r⟩ := st
    exact ⟨⟨old, kp e (by simp) _ he⟩, hi.at fun o q => kp it (by simp) o q, r⟩
  item := by
    intro X hP hw hK hc i pins s σ H E I hf st hg
    subst hP hw hK
    obtain ⟨⟨old, he⟩, hit, hne, hai, hae⟩ := st
    obtain ⟨xs, x, hq, hx⟩ := hg
    obtain ⟨its, rv, p, hz⟩ := I.tuple hq
    obtain ⟨u, hu, ru⟩ := rv.get hx
    have hlt : i < its.toArray.size := by
      have := (List.getElem?_eq_some_iff.mp hu).1
      simpa using this
    have hel : e < s.heap.objs.size := Heap.lt_size he
    have hil : it < s.heap.objs.size := by
      obtain ⟨_, q, _⟩ := hit
      exact Heap.lt_size q
    have Dw := Draws.tuple (prog := X.prog) (w := X.w) (A := X.A.in1) (I.ok.hd hc) it a hai its.toArray
    refine wpAny_pyNext_enum_itemC Dw he ⟨hit, (show s.heap.IsTuple a its.toArray from p)⟩ hlt hne (by simp; exact ⟨hne, fun q => hae q.symm⟩) fun y h1 tk hy ho hst hT hsz hk => ?_
    have ey : y = u := by
      have q : its.toArray[i]? = some u := by simpa using hu
      rw [q] at hy
      exact (Option.some.inj hy).symm
    subst ey
    refine ⟨_, rfl, wpAny_letOwnedTupleGo_enum (s := { s with heap := h1, toks := tk + 1 }) ho fun h2 he2 sb => ?_⟩
    have hT2 : h2.get? s.heap.objs.size = some { cls := .type "tuple", data := .seq #[.int (k + (i : Nat)) tk, y] } := (sb.2 _ (Nat.ne_of_gt hel)).trans hT
    have nw : ObjOk X.prog X.w (upd H s.heap.objs.size (.tup [.int (k + (i : Nat)), x])) h2 s.heap.objs.size (.tup [.int (k + (i : Nat)), x]) :=
      ⟨by show 2 ≤ sizeLine; decide, [.int (k + (i : Nat)) tk, y], .cons ⟨_, rfl⟩ (.cons ru .nil), ⟨_, hT2, rfl, _, rfl⟩⟩
    have I1 : Inv X pins σ (upd H s.heap.objs.size (.tup [.int (k + (i : Nat)), x])) { s with heap := h2, toks := tk + 1 } :=
      I.turnedNew (ch := [e, it]) (fun b ob hb q => (sb.2 b fun z => hb (by simp [z])).trans (hk b ob (fun z => hb (by simp [z])) (fun z => hb (by simp [z])) q)) hf (Nat.le_refl _) nw
    refine ⟨.ref s.heap.objs.size, _, I1, rfl, ⟨_, x, rfl, I.hok.fresh (Nat.le_refl _), rfl, fun ys hy => by rw [I.tuple_inj hy hq]; exact hx⟩, ⟨⟨y, ?_⟩, hst.1.at fun o q => (sb.2 it (Ne.symm hne)).trans q, hne, hai, hae⟩, fun b hb => ?_⟩
    · have e1 : k + ((i + 1 : Nat) : Int) = k + (i : Nat) + 1 := by omega
      rw [e1]
      exact he2
    · have z : b = e ∨ b = it := by simpa using hb
      have hb2 : b < s.heap.objs.size := by rcases z with rfl | rfl <;> assumption
      rw [upd_ne (Nat.ne_of_lt hb2)]
      exact (hf b hb).1
  done := by
    intro X hP hw hK hc i pins s σ H E I hf st hg
    subst hP hw hK
    obtain ⟨⟨old, he⟩, hit, hne, hai, hae⟩ := st
    obtain ⟨xs, hq, hx⟩ := hg
    obtain ⟨its, rv, p, hz⟩ := I.tuple hq
    obtain ⟨f0, f1, f2, f3, f4, f5⟩ := hf it (by simp)
    have hl := rv.length
    have hle : its.toArray.size ≤ i := by simp; omega
    exact enumEnd_tup (I.ok.hd hc) he hit (show s.heap.IsTuple a its.toArray from p) hle fun h1 eb => ⟨rfl, I.turned (t' := s.toks) (fun b o hb q => eb b o hb q) f0 f1 f3 f4 f5⟩
  self := fun A i s Q E st h => by
    obtain ⟨⟨_, he⟩, _⟩ := st
    exact wpAny_pyIter_enum he h
set_option maxHeartbeats 1000000 in
theorem meets_enum1 {v : Value} {o : Obj} {H : Heap → Prop} (B : Begins v o H) :
    Meets (Builtin.«enumerate.__new__» ⟨[.type "enumerate", v], []⟩) (fun _ R s => H s.heap ∧
      R (.ok (.ret (.ref (s.heap.push o).objs.size))) { s with heap := (s.heap.push o).push { cls := .type "enumerate", data := .fields #[.none, .bool false, .ref s.heap.objs.size, rawInt 0, .none, .none] } }) :=
  .of_wp fun prog w A R s h => by
    obtain ⟨hp, g, d, tk, os⟩ := s; obtain ⟨h1, h⟩ := h
    have hsub := sub_enumerate
    have q1 : ∀ {B1 : Around} {E : Value → Shared → Prop} {Q : Value → Shared → Prop}, Q (.ref hp.objs.size) ⟨hp.push o, g, d, tk, os⟩ → wpAny (model prog w) B1 (pyIter v) Q E ⟨hp, g, d, tk, os⟩ := fun q => B.iter prog w _ _ ⟨hp, g, d, tk, os⟩ _ h1 q
    wp_walk using q1
    refine wpAny_stack_any fun st => wpAny_pure ?_
    split
    · rename_i c _ _ _ _ _
      cases (c == Value.type "enumerate")
      · wp_walk using q1
        exact ⟨_, rfl, h⟩
      · wp_walk using q1
        exact ⟨_, rfl, h⟩
    · wp_walk using q1
      exact ⟨_, rfl, h⟩
theorem enum_one {prog : Program} {w : World} {A : Around} {E : Value → Shared → Prop} {s : Shared} {v : Value} {o : Obj} {H : Heap → Prop} {Q : Value → Shared → Prop} (B : Begins v o H) (h1 : H s.heap)
    (h : ∀ h2, IsEnum h2 (s.heap.objs.size + 1) s.heap.objs.size 0 .none → h2.get? s.heap.objs.size = some o → (∀ b o, s.heap.get? b = some o → h2.get? b = some o) → Q (.ref (s.heap.objs.size + 1)) { s with heap := h2 }) :
    wpAny (model prog w) A (call (.type "enumerate") [v]) Q E s := by
  refine callType_new PySem.F.called_enumerate (by decide) (PySem.F.typeCall_enumerate_1 _) (PySem.F.newCall_enumerate_1 _) (fun obj => PySem.F.args_object_init_2 obj _) PySem.F.entry_enumerate_new (meets_enum1 B) ⟨h1, ?_⟩
  have hz : (s.heap.push o).objs.size = s.heap.objs.size + 1 := Heap.size_push ..
  show _ ∧ _
  rw [hz]
  have he : IsEnum ((s.heap.push o).push { cls := .type "enumerate", data := .fields #[.none, .bool false, .ref s.heap.objs.size, rawInt 0, .none, .none] }) (s.heap.objs.size + 1) s.heap.objs.size 0 .none := by
    have q := Heap.get?_push_size (s.heap.push o) (o := { cls := .type "enumerate", data := .fields #[.none, .bool false, .ref s.heap.objs.size, rawInt 0, .none, .none] }) rfl
    rw [hz] at q
    exact q
  exact ⟨⟨_, he, rfl⟩, h _ he (Heap.get?_push_of_some _ (Heap.get?_push_size _ B.free)) fun b o x => Heap.get?_push_of_some _ (Heap.get?_push_of_some _ x)⟩
section
variable {X : Cx} {pins : List (Addr × Obj)} {σ : L2.St} {H1 : Hp} {s1 : Shared} {tg : Expr} {R : It → Hp → Prop} {a : Addr} {xs : List V}
theorem tl_list (I1 : Inv X pins σ H1 s1) (hq : SqL X.K H1 a xs) (q : R (Itl X.K a) H1) : wpAny (model X.prog X.w) X.A (pyIter (.ref a)) (PIE X pins σ tg R) X.xe s1 := by
  obtain ⟨its, rv, p, hz⟩ := I1.list hq
  refine wpAny_pyIter_list p.isList ⟨s1.heap.objs.size, [s1.heap.objs.size], _, _, H1, rfl, I1.kept (t' := s1.toks) fun b o e => Heap.get?_push_of_some _ e, turn_list a _, ⟨_, Heap.get?_push_size _ rfl, rfl, rfl⟩, fun b hb => ?_, q⟩
  obtain rfl : b = s1.heap.objs.size := by simpa using hb
  exact I1.fpOk (Nat.le_refl _) (I1.hok.fresh (Nat.le_refl _))
theorem tl_tup (I1 : Inv X pins σ H1 s1) (hq : SqT X.K H1 a xs) (q : R (Itt X.K a) H1) : wpAny (model X.prog X.w) X.A (pyIter (.ref a)) (PIE X pins σ tg R) X.xe s1 := by
  obtain ⟨its, rv, p, hz⟩ := I1.tuple hq
  refine wpAny_pyIter_tuple (show s1.heap.IsTuple a its.toArray from p) ⟨s1.heap.objs.size, [s1.heap.objs.size], _, _, H1, rfl, I1.kept (t' := s1.toks) fun b o e => Heap.get?_push_of_some _ e, turn_tuple a _, ⟨_, Heap.get?_push_size _ rfl, rfl, rfl⟩, fun b hb => ?_, q⟩
  obtain rfl : b = s1.heap.objs.size := by simpa using hb
  exact I1.fpOk (Nat.le_refl _) (I1.hok.fresh (Nat.le_refl _))
theorem tl_str {x : Str} {t : Tok} (I1 : Inv X pins σ H1 s1) (q : R (Its x) H1) : wpAny (model X.prog X.w) X.A (pyIter (.str x t)) (PIE X pins σ tg R) X.xe s1 := by
  cases ha : x.cps.all (· < 128)
  · exact wpAny_pyIter_wide ha (pi_one (tk := s1.toks) I1 _ (turn_str _ x t "str_iterator" (.inr rfl)) ⟨_, Heap.get?_push_size _ rfl, rfl, rfl⟩ q)
  · exact wpAny_pyIter_ascii ha (pi_one (tk := s1.toks) I1 _ (turn_str _ x t "str_ascii_iterator" (.inl rfl)) ⟨_, Heap.get?_push_size _ rfl, rfl, rfl⟩ q)
end
/-- a list, a tuple or a text -/
def iSeq (K : PySem.W.Frag) (te : TE) : TI := fun σ H R => te σ H fun x H1 => (∃ a xs, x = .ref a ∧ SqL K H1 a xs ∧ R (Itl K a) H1) ∨ (∃ a xs, x = .ref a ∧ SqT K H1 a xs ∧ R (Itt K a) H1) ∨ ∃ z, x = .str z ∧ R (Its z) H1
theorem pi_seq {X : Cx} {tg l : Expr} {tl : TE} (hl : PE X l tl) : PI X tg l (iSeq X.K tl) := ⟨fun pins s σ H R I h => thn (hl.run pins s σ H _ I h) fun v s1 ⟨x, H1, I1, r1, q1⟩ => by
  rcases q1 with ⟨a, xs, rfl, hq, q⟩ | ⟨a, xs, rfl, hq, q⟩ | ⟨z, rfl, q⟩
  · cases r1; exact tl_list I1 hq q
  · cases r1; exact tl_tup I1 hq q
  · obtain ⟨t, rfl⟩ := r1; exact tl_str I1 q⟩
/-- enumerate of a list or a tuple -/
def iEnumA (K : PySem.W.Frag) (ta : TA) : TI := fun σ H R => ta σ H fun vs H1 => (∃ a xs, vs = [.ref a] ∧ SqL K H1 a xs ∧ R (Ielist K a 0) H1) ∨ ∃ a xs, vs = [.ref a] ∧ SqT K H1 a xs ∧ R (Ietup K a 0) H1
theorem pi_enumA {X : Cx} {e : Expr} {ta : TA} {p pos tpos : Pos} {elts : List Expr} {kk : Nat} (hg : Gl X "enumerate") (hm : X.mg "enumerate" = none) (ha : PA X [e] ta) (hs : starEach [e] X.env = [(false, eval e X.env)] := by rfl) :
    PI X (.Tuple elts kk tpos) (.Call (.Name "enumerate" p) [e] [] pos) (iEnumA X.K ta) := ⟨fun pins s σ H R I h => by
  refine Call_ (ld_blt I hg hm boot_enumerate (PyProof.Rows.callWith_type1 (thn (ha.run pos pins s σ H _ I h) fun us s1 ⟨vs, H1, I1, r1, q1⟩ => ?_) hs rfl))
  have fpo : ∀ b ∈ [s1.heap.objs.size + 1, s1.heap.objs.size], FpOk X pins H1 b := fun b hb => by
    have z : b = s1.heap.objs.size + 1 ∨ b = s1.heap.objs.size := by simpa using hb
    have hle : s1.heap.objs.size ≤ b := by rcases z with rfl | rfl <;> omega
    exact I1.fpOk hle (I1.hok.fresh hle)
  rcases q1 with ⟨a, xs, rfl, hq, q⟩ | ⟨a, xs, rfl, hq, q⟩
  · rw [Vals.ref1 r1]
    obtain ⟨its, rv, pl, hz⟩ := I1.list hq
    have hlt : a < s1.heap.objs.size := Heap.lt_size pl.isList.choose_spec.1
    refine enum_one (begins_list a its.toArray) pl.isList fun h2 he ho hk => wpAny_pyIter_enum he ?_
    exact ⟨s1.heap.objs.size + 1, [s1.heap.objs.size + 1, s1.heap.objs.size], _, _, H1, rfl, I1.kept (t' := s1.toks) hk, turnE_list a (s1.heap.objs.size + 1) s1.heap.objs.size 0, ⟨⟨.none, by simpa using he⟩, ⟨_, ho, rfl, rfl⟩, Nat.succ_ne_self _, Nat.ne_of_lt hlt, Nat.ne_of_lt (Nat.lt_succ_of_lt hlt)⟩, fpo, q⟩
  · rw [Vals.ref1 r1]
    obtain ⟨its, rv, pl, hz⟩ := I1.tuple hq
    have pl2 : s1.heap.IsTuple a its.toArray := pl
    have hlt : a < s1.heap.objs.size := pl.lt
    refine enum_one (begins_tuple a its.toArray) pl2 fun h2 he ho hk => wpAny_pyIter_enum he ?_
    exact ⟨s1.heap.objs.size + 1, [s1.heap.objs.size + 1, s1.heap.objs.size], _, _, H1, rfl, I1.kept (t' := s1.toks) hk, turnE_tup a (s1.heap.objs.size + 1) s1.heap.objs.size 0, ⟨⟨.none, by simpa using he⟩, ⟨_, ho, rfl, rfl⟩, Nat.succ_ne_self _, Nat.ne_of_lt hlt, Nat.ne_of_lt (Nat.lt_succ_of_lt hlt)⟩, fpo, q⟩⟩
def enumD (k : Int) : List D → List D
  | [] => []
  | d :: ds => .tup [.int k, d] :: enumD (k + 1) ds
theorem enumD_length : ∀ (k : Int) (ds : List D), (enumD k ds).length = ds.length
  | _, [] => rfl
  | k, d :: ds => by rw [enumD]; simp [enumD_length (k + 1) ds]
theorem enumD_get : ∀ (k : Int) (ds : List D) (i : Nat), (enumD k ds)[i]? = ds[i]?.map fun d => .tup [.int (k + (i : Nat)), d]
  | _, [], i => by simp [enumD]
  | k, d :: ds, 0 => by simp [enumD]
  | k, d :: ds, i + 1 => by
    rw [enumD]
    simp only [List.getElem?_cons_succ]
    rw [enumD_get (k + 1) ds i]
    have e : k + 1 + (i : Nat) = k + ((i + 1 : Nat) : Int) := by omega
    rw [e]
section
variable {K : PySem.W.Frag} {F : Hp}
theorem it_enumL {p : Addr} {vs : List V} {ds : List D} {k : Int} (h : F p = some (.lst vs)) (r : Reps K F vs ds) : ItD K (Ielist K p k) F (enumD k ds) := fun F1 H s1 s2 => by
  have q : SqL K H p vs := SqL.of (s2 _ _ (s1 _ _ h))
  refine ⟨fun i hi => ⟨vs, q, by rw [r.length]; rw [enumD_length] at hi; exact hi⟩, fun i d hd => ?_⟩
  rw [enumD_get] at hd
  cases ei : ds[i]? with
  | none => rw [ei] at hd; cases hd
  | some d0 =>
    rw [ei] at hd
    cases hd
    obtain ⟨v, hv, rv⟩ := r.get ei
    refine ⟨⟨vs, v, q, hv⟩, fun x H2 hy => ?_⟩
    obtain ⟨T, y, rfl, hT, rfl, hy⟩ := hy
    have := hy vs q
    rw [hv] at this; cases this
    have e : Ext K F1 H (fun _ => False) (upd F1 T (.tup [.int (k + (i : Nat)), v])) (upd H T (.tup [.int (k + (i : Nat)), v])) (fun _ => False) := Ext.newF s2 hT
    exact ⟨_, sub_upd s2, .tup upd_same (.cons (.int _) (.cons (rv.mono (s1.trans e.ff)) .nil)), e⟩
theorem it_enumT {p : Addr} {vs : List V} {ds : List D} {k : Int} (h : SqT K F p vs) (r : Reps K F vs ds) : ItD K (Ietup K p k) F (enumD k ds) := fun F1 H s1 s2 => by
  have q : SqT K H p vs := s2.sqt (s1.sqt h)
  refine ⟨fun i hi => ⟨vs, q, by rw [r.length]; rw [enumD_length] at hi; exact hi⟩, fun i d hd => ?_⟩
  rw [enumD_get] at hd
  cases ei : ds[i]? with
  | none => rw [ei] at hd; cases hd
  | some d0 =>
    rw [ei] at hd
    cases hd
    obtain ⟨v, hv, rv⟩ := r.get ei
    refine ⟨⟨vs, v, q, hv⟩, fun x H2 hy => ?_⟩
    obtain ⟨T, y, rfl, hT, rfl, hy⟩ := hy
    have := hy vs q
    rw [hv] at this; cases this
    have e : Ext K F1 H (fun _ => False) (upd F1 T (.tup [.int (k + (i : Nat)), v])) (upd H T (.tup [.int (k + (i : Nat)), v])) (fun _ => False) := Ext.newF s2 hT
    exact ⟨_, sub_upd s2, .tup upd_same (.cons (.int _) (.cons (rv.mono (s1.trans e.ff)) .nil)), e⟩
end
/-- what a loop walks -/
def itemsA (m : M) : Option (List D) := match frz m with
  | some (.lst ds) => some ds
  | some (.tup ds) => some ds
  | some (.str x) => some (x.cps.toList.map fun c => .str ⟨#[c]⟩)
  | _ => none
def itemsE (k : Int) (m : M) : Option (List D) := match frz m with
  | some (.lst ds) => some (enumD k ds)
  | some (.tup ds) => some (enumD k ds)
  | _ => none
section
variable {X : Cx} {W : WX} {tg l : Expr} {f : FE}
theorem i_seq (h : PE X l (rE X.K W f)) : PI X tg l (rI X.K W (overE itemsA f)) := PI_mono (pi_seq (e_tk h)) fun σ H R p => rE_imp (fun x H1 ⟨F, env, fps, m, fp, ds, R1, r, d, ei, pj⟩ => by
  unfold itemsA at ei
  split at ei
  · rename_i ds1 ef
    cases ei
    obtain ⟨F1, s1, rd, R2, e⟩ := freeze_at R1 r d ef
    cases rd with
    | lst a b => exact .inl ⟨_, _, rfl, SqL.of (s1 _ _ a), pj _ F1 H1 fps R2 (it_list a b) e⟩
  · rename_i ds1 ef
    cases ei
    obtain ⟨F1, s1, rd, R2, e⟩ := freeze_at R1 r d ef
    cases rd with
    | tup a b => exact .inr (.inl ⟨_, _, rfl, SqT.of (s1 _ _ a), pj _ F1 H1 fps R2 (it_tup (SqT.of a) b) e⟩)
  · rename_i x1 ef
    cases ei
    obtain ⟨F1, s1, rd, R2, e⟩ := freeze_at R1 r d ef
    obtain rfl := rep_str rd
    exact .inr (.inr ⟨_, rfl, pj _ F1 H1 fps R2 (it_str _) e⟩)
  · cases ei) (r_over σ H R p)
theorem i_enum {p pos tpos : Pos} {elts : List Expr} {kk : Nat} (hg : Gl X "enumerate") (hm : X.mg "enumerate" = none) (h : PE X l (rE X.K W f)) (hs : starEach [l] X.env = [(false, eval l X.env)] := by rfl) : PI X (.Tuple elts kk tpos) (.Call (.Name "enumerate" p) [l] [] pos) (rI X.K W (overE (itemsE 0) f)) :=
  PI_mono (pi_enumA hg hm (pa_cons (e_tk h) pa_nil hs) hs) fun σ H R p => rE_imp (fun x H1 ⟨F, env, fps, m, fp, ds, R1, r, d, ei, pj⟩ => by
  unfold itemsE at ei
  split at ei
  · rename_i ds1 ef
    cases ei
    obtain ⟨F1, s1, rd, R2, e⟩ := freeze_at R1 r d ef
    cases rd with
    | lst a b => exact .inl ⟨_, _, rfl, SqL.of (s1 _ _ a), pj _ F1 H1 fps R2 (it_enumL a b) e⟩
  · rename_i ds1 ef
    cases ei
    obtain ⟨F1, s1, rd, R2, e⟩ := freeze_at R1 r d ef
    cases rd with
    | tup a b => exact .inr ⟨_, _, rfl, SqT.of (s1 _ _ a), pj _ F1 H1 fps R2 (it_enumT (SqT.of a) b) e⟩
  · cases ei) (r_over σ H R p)
end
end Ink
set_option Elab.async false
set_option linter.all false
set_option maxRecDepth 100000
namespace Ink
open PySem L2
inductive Kd where
  | non | bl | int | str | lst | tup | dct
  deriving DecidableEq
def kdName : Kd → String
  | .non => "NoneType" | .bl => "bool" | .int => "int" | .str => "str" | .lst => "list" | .tup => "tuple" | .dct => "dict"
def kdSub (k t : Kd) : Bool := decide (k = t) || (decide (k = .bl) && decide (t = .int))
def kdD : D → Kd
  | .non => .non | .bl _ => .bl | .int _ => .int | .str _ => .str | .lst _ => .lst | .tup _ => .tup | .dK _ => .dct | .dT _ => .dct | .scr _ => .lst | .ins _ _ => .non | .lam _ => .non
def kdM : M → Option Kd
  | .fz (.scr _) => none
  | .fz (.ins _ _) => none
  | .fz (.lam _) => none
  | .fz d => some (kdD d)
  | .lst _ => some .lst
  | .tup _ => some .tup
  | .dK _ => some .dct
  | .dT _ => some .dct
  | .ins _ _ => none
def resA (env : E) (a : Av) : Option M := match a with
  | .tm m => some m
  | .sl i => match env[i]? with
    | some (some m) => some m
    | _ => none
theorem resA_rep {K : PySem.W.Frag} {F H : Hp} {σ : St} {env : E} {fps : Nat → List Addr} {a : Av} {v : V} {fp : List Addr} {m : M} (R : REnv K F H σ env fps) (r : RepA K F H σ a v fp) (h : resA env a = some m) : ∃ fq, RepM K F H m v fq := by
  cases a with
  | tm n => cases h; exact ⟨fp, r⟩
  | sl i =>
    unfold resA at h
    simp only at h
    split at h
    · rename_i n e
      cases h
      obtain ⟨w, hw, rr⟩ := R.got i _ e
      obtain ⟨q, _⟩ := r
      rw [q] at hw; cases hw
      exact ⟨_, rr⟩
    · cases h
def isiE (ts : List Kd) (f : FE) : FE := fun env => bindO (f env) fun a env1 => match resA env1 a with
  | some m => match kdM m with
    | some k => some (.ok (.tm (.fz (.bl (ts.any fun t => kdSub k t)))) env1)
    | none => none
  | none => none
def tyM (T : Kd) (m : M) : Bool := match T, m with
  | .str, .fz (.str _) => true
  | .lst, .fz (.lst _) => true
  | .lst, .lst _ => true
  | .dct, .fz (.dK _) => true
  | .dct, .fz (.dT _) => true
  | .dct, .dK _ => true
  | .dct, .dT _ => true
  | _, _ => false
theorem tyM_rep {K : PySem.W.Frag} {F H : Hp} {m : M} {v : V} {fp : List Addr} {T : Kd} (s : Sub F H) (r : RepM K F H m v fp) (h : tyM T m = true) : tyV K (kdName T) v H := by
  unfold tyM at h
  split at h
  · obtain rfl := rep_str (repm_fz r); rfl
  · cases repm_fz r with
    | lst a _ => exact .inl ⟨rfl, _, SqL.of (s _ _ a)⟩
  · cases r with
    | lst a _ _ _ => exact .inl ⟨rfl, _, SqL.of a⟩
  · cases repm_fz r with
    | dK a _ _ => exact .inr (.inr (.inl ⟨rfl, .inl ⟨_, s _ _ a⟩⟩))
  · cases repm_fz r with
    | dT a _ _ => exact .inr (.inr (.inl ⟨rfl, .inr ⟨_, s _ _ a⟩⟩))
  · cases r with
    | dK a _ _ _ _ => exact .inr (.inr (.inl ⟨rfl, .inl ⟨_, a⟩⟩))
  · cases r with
    | dT a _ _ _ _ => exact .inr (.inr (.inl ⟨rfl, .inr ⟨_, a⟩⟩))
  · cases h
def bmE (T : Kd) (g : FP) (fo : FE) (fa : FA) : FE := fun env => bindO (fo env) fun a env1 => match resA env1 a with
  | some m => match tyM T m with
    | true => bindO (fa env1) fun as env2 => runP g (a :: as) env2
    | false => none
  | none => none
section
variable {X : Cx} {W : WX} {o e : Expr} {es : List Expr} {fo : FE} {fa : FA} {g : FP} {name : Str} {apos cpos : Pos} {id : String} {r : V → List V → Hp → VK → Prop} {T : Kd}
def OpMt (K : PySem.W.Frag) (g : FP) (r : V → List V → Hp → VK → Prop) : Prop := ∀ x vs H Q Ex, spOf K g (x :: vs) H Q Ex → r x vs H Q
theorem r_bm {K : PySem.W.Frag} (hp : OpMt K g r) : ∀ σ H Q, rE K W (bmE T g fo fa) σ H Q → tBM K (kdName T) r (rE K W fo) (rA K W fa) σ H Q := fun σ H Q ⟨F, env, fps, R, po⟩ => by
  refine ⟨F, env, fps, R, ?_⟩
  unfold bmE at po
  cases ef : fo env with
  | none => rw [ef] at po; exact po
  | some z =>
    rw [ef] at po
    cases z with
    | ex x env1 => exact po
    | ok a env1 =>
      simp only [bindO_ok] at po
      intro v F1 H1 fps1 fp R1 ra d e1
      cases er : resA env1 a with
      | none => rw [er] at po; exact po.elim
      | some m =>
        simp only [er] at po
        cases et : tyM T m with
        | false => rw [et] at po; exact po.elim
        | true =>
          simp only [et] at po
          obtain ⟨fq, rm⟩ := resA_rep R1 ra er
          refine ⟨tyM_rep R1.fr rm et, F1, env1, fps1, R1, ?_⟩
          cases eg : fa env1 with
          | none => rw [eg] at po; exact po
          | some z2 =>
            rw [eg] at po
            cases z2 with
            | ex x env2 => exact PX.wide po e1 fun _ h => .inl h
            | ok as env2 =>
              simp only [bindO_ok] at po
              intro vs F2 H2 fps2 fpA R2 rs d2 e2
              obtain ⟨r2, dd⟩ := pendA ra d e2
              refine hp v vs H2 Q _ (prim_sound R2 (RepAs.cons' r2 rs fun b hb q => dd b hb (.inr q)) (fun b hb q => ?_) (poE.wide po (e1.trans e2 (fun _ h => .inl h) (C := fun b => Own fps2 b ∨ Own (fcons fp fpA) b) fun b h => ?_) fun _ h => h))
              · rcases own_fcons.mp hb with hb | hb
                · exact dd b hb (.inl q)
                · exact d2 b hb q
              · rcases h with h | h
                · exact .inl (.inl h)
                · rcases own_fcons.mp h with h | h
                  · exact .inr (.inr h)
                  · exact .inl (.inr h)
theorem e_bm (pa : PlainAttrs (kdName T)) (slot : Slot (kdName T) name id) (hty : typeOf (.builtin id) = pure (.type "method_descriptor")) (hm : MtR X id r) (hp : OpMt X.K g r) (ho : PE X o (rE X.K W fo)) (ha : PA X (e :: es) (rA X.K W fa))
    (hbase : attributeBase o name X.env (eval o X.env) = eval o X.env := by rfl)
    (hfew : ((backTo cpos (starEach (e :: es) X.env)).all (fun x => !x.1) && (backToKw cpos (keywordEach [] X.env)).all (fun x => x.1.isSome)
      && decide ((e :: es).length + ([] : List Keyword).length + (if ([] : List Keyword).isEmpty then 0 else 1) < 30)) = true := by rfl)
    (hline : (apos.endLine == cpos.line) = true := by rfl) (hs : starEach (e :: es) X.env = (false, eval e X.env) :: starEach es X.env := by rfl) (hplain : (backTo cpos (starEach es X.env)).any (·.1) = false := by rfl) :
    PE X (.Call (.Attribute o name apos) (e :: es) [] cpos) (rE X.K W (bmE T g fo fa)) := PE_mono (pe_bm pa slot hty hm ho ha hbase hfew hline hs hplain) (r_bm hp)
end
theorem args_upd {K : PySem.W.Frag} {F H : Hp} {vs : List V} {env : E} {fps : Nat → List Addr} {i : Nat} {m : M} {p : Addr} {fp : List Addr} {o : HO} (R : REnv K F H (argS vs) env fps) (hv : vs[i]? = some (.ref p)) (hp : p ∈ fps i) (hF : F p = none)
    (r : RepM K F (upd H p o) m (.ref p) fp) (hfp : ∀ b ∈ fp, ∀ j, j ≠ i → b ∉ fps j) (ho : NT o := by exact fun _ h => by cases h) : REnv K F (upd H p o) (argS vs) (env.set i (some m)) (fun j => if j = i then fp else fps j) := by
  have R0 := R.drop i
  obtain ⟨u0, hu0, hk0⟩ := R.kin ⟨i, hp⟩
  have e : Ext K F H (fun b => b = p) F (upd H p o) (fun b => b = p) := Ext.put rfl hu0 hk0 ho
  obtain ⟨R1, _⟩ := R0.frame (B := fun b => b = p) (fun b ⟨j, hj⟩ hb => by
    subst hb
    by_cases ej : j = i
    · simp only [if_pos ej] at hj; cases hj
    · simp only [if_neg ej] at hj
      exact R.dj i j (fun q => ej q.symm) b hp hj) e (sub_put R.fr hF)
  have R2 := R1.put (i := i) (argS_get.mpr hv) r (fun b hb j hj q => by
    simp only [if_neg hj] at q
    exact hfp b hb j hj q)
  rw [List.set_set] at R2
  refine ⟨R2.fr, R2.len, fun j n h => ?_, fun j h => ?_, fun a c hac b hb => ?_, R2.tt⟩
  · obtain ⟨v, h1, h2⟩ := R2.got j n h
    by_cases ej : j = i
    · simp only [if_pos ej] at h2 ⊢; exact ⟨v, h1, h2⟩
    · simp only [if_neg ej] at h2 ⊢; exact ⟨v, h1, h2⟩
  · have := R2.nil j h
    by_cases ej : j = i
    · simp only [if_pos ej] at this ⊢; exact this
    · simp only [if_neg ej] at this ⊢; exact this
  · have := R2.dj a c hac b
    by_cases ea : a = i
    · by_cases ec : c = i
      · exact absurd (ea.trans ec.symm) hac
      · simp only [if_pos ea, if_neg ec] at this hb ⊢; exact this hb
    · by_cases ec : c = i
      · simp only [if_neg ea, if_pos ec] at this hb ⊢; exact this hb
      · simp only [if_neg ea, if_neg ec] at this hb ⊢; exact this hb
/-- xs.append(y) -/
def appG : FP := fun ms => match ms with
  | [.lst xs, y] => if xs.length < sizeLine then some (.ok (.fz .non) [some (.lst (xs ++ [y])), none]) else none
  | _ => none
theorem opm_append {K : PySem.W.Frag} : OpMt K appG rAppend := fun x vs H Q Ex p => by
  obtain ⟨F, ms, fps, R, p⟩ := p
  unfold appG at p
  split at p
  · rename_i xs y
    split at p
    · rename_i hl
      have l := R.len
      simp at l
      match vs, l with
      | [w], _ =>
        obtain ⟨v0, h0, r0⟩ := R.got 0 _ rfl
        cases h0
        obtain ⟨v1, h1, r1⟩ := R.got 1 _ rfl
        cases h1
        obtain ⟨q, ws, fq, rfl, _⟩ := repm_lst r0
        have dj : ∀ b ∈ fps 0, b ∉ fps 1 := R.dj 0 1 (by omega)
        obtain ⟨ws, hq, hlen, hin, hFq, rN⟩ := lst_append r0 r1 dj
        refine ⟨q, ws, w, rfl, rfl, hq, by omega, ?_⟩
        have R1 := R.drop 1
        have R2 := args_upd (i := 0) (m := .lst (xs ++ [y])) (fp := fps 0 ++ fps 1) R1 rfl (by simp; exact hin) hFq rN (fun b hb j hj z => by
          by_cases e1 : j = 1
          · simp only [if_pos e1] at z; cases z
          · simp only [if_neg e1] at z
            rcases List.mem_append.mp hb with hb | hb
            · exact R.dj 0 j (fun q => hj q.symm) b hb z
            · exact R.dj 1 j (fun q => e1 q.symm) b hb z)
        refine p .non F _ _ [] R2 (.fz .non) Own.not_nil ?_
        refine (Ext.putO R ⟨0, hin⟩).weak fun b h => ?_
        rcases h with ⟨j, hj⟩ | h
        · by_cases e0 : j = 0
          · simp only [if_pos e0] at hj
            rcases List.mem_append.mp hj with z | z
            · exact ⟨0, z⟩
            · exact ⟨1, z⟩
          · simp only [if_neg e0] at hj
            by_cases e1 : j = 1
            · simp only [if_pos e1] at hj; cases hj
            · simp only [if_neg e1] at hj; exact ⟨j, hj⟩
        · cases h
    · exact p.elim
  · exact p.elim
section
variable {X : Cx} {W : WX} {o e : Expr} {fo fe : FE} {apos cpos : Pos}
theorem e_append (ho : PE X o (rE X.K W fo)) (he : PE X e (rE X.K W fe)) (hbase : attributeBase o "append" X.env (eval o X.env) = eval o X.env := by rfl)
    (hfew : ((backTo cpos (starEach [e] X.env)).all (fun x => !x.1) && (backToKw cpos (keywordEach [] X.env)).all (fun x => x.1.isSome)
      && decide (([e]).length + ([] : List Keyword).length + (if ([] : List Keyword).isEmpty then 0 else 1) < 30)) = true := by rfl)
    (hline : (apos.endLine == cpos.line) = true := by rfl) (hs : starEach [e] X.env = (false, eval e X.env) :: starEach [] X.env := by rfl) (hplain : (backTo cpos (starEach [] X.env)).any (·.1) = false := by rfl) :
    PE X (.Call (.Attribute o "append" apos) [e] [] cpos) (rE X.K W (bmE .lst appG fo (arg1 (tk fe)))) := e_bm (T := .lst) PySem.F.plainAttrs_list PySem.F.slot_list_append PySem.F.type_list_append mt_append opm_append ho (a_cons (e_tk he) a_nil hs) hbase hfew hline hs hplain
end
theorem RepMs.set {K : PySem.W.Frag} {F H : Hp} : ∀ {ms : List M} {vs : List V} {fp : List Addr} {j : Nat} {m : M} {v : V} {fq : List Addr}, RepMs K F H ms vs fp → RepM K F H m v fq → (∀ b ∈ fq, b ∉ fp) → ∃ fr, RepMs K F H (ms.set j m) (vs.set j v) fr ∧ ∀ b ∈ fr, b ∈ fp ∨ b ∈ fq
  | [], _, _, j, m, v, fq, .nil, _, _ => ⟨[], .nil, fun b hb => by cases hb⟩
  | n :: ms, _, _, 0, m, v, fq, .cons (fp := f1) (fq := f2) a b d, r, dj => ⟨fq ++ f2, .cons r b fun b hb q => dj b hb (List.mem_append_right _ q), fun b hb => (List.mem_append.mp hb).elim .inr fun q => .inl (List.mem_append_right _ q)⟩
  | n :: ms, _, _, j + 1, m, v, fq, .cons (fp := f1) (fq := f2) a b d, r, dj => by
    obtain ⟨fr, h1, h2⟩ := RepMs.set (j := j) b r fun b hb q => dj b hb (List.mem_append_right _ q)
    refine ⟨f1 ++ fr, .cons a h1 fun b hb q => ?_, fun b hb => ?_⟩
    · rcases h2 b q with q | q
      · exact d b hb q
      · exact dj b q (List.mem_append_left _ hb)
    · rcases List.mem_append.mp hb with q | q
      · exact .inl (List.mem_append_left _ q)
      · exact (h2 b q).imp (List.mem_append_right _) fun z => z
def setG : FP := fun ms => match ms with
  | [v, .lst xs, .fz (.int i)] => match ixN xs.length i with
    | some j => some (.ok (.fz .non) [none, some (.lst (xs.set j v)), some (.fz (.int i))])
    | none => none
  | _ => none
theorem op_set {K : PySem.W.Frag} {v o i : V} {H : Hp} {Q : Hp → Prop} {Ex : XK} (p : spOf K setG [v, o, i] H (fun _ H1 => Q H1) Ex) : rSetL o i v H Q := by
  obtain ⟨F, ms, fps, R, p⟩ := p
  unfold setG at p
  split at p
  · rename_i y xs k
    cases ei : ixN xs.length k with
    | none => rw [ei] at p; exact p.elim
    | some j =>
      simp only [ei] at p
      obtain ⟨v0, h0, r0⟩ := R.got 0 _ rfl
      cases h0
      obtain ⟨v1, h1, r1⟩ := R.got 1 _ rfl
      cases h1
      obtain ⟨v2, h2, r2⟩ := R.got 2 _ rfl
      cases h2
      obtain rfl := rep_int (repm_fz r2)
      obtain ⟨q, ws, fq, rfl, hq, hF, rs, nq, hfp⟩ := repm_lst r1
      have dj : ∀ b ∈ fps 0, b ∉ fps 1 := R.dj 0 1 (by omega)
      refine ⟨q, ws, k, j, rfl, rfl, hq, by rw [rs.length]; exact ei, ?_⟩
      obtain ⟨fr, rN, hfr⟩ := rs.set (j := j) r0 fun b hb z => dj b hb (by rw [hfp]; exact List.mem_cons_of_mem _ z)
      have hnq : ∀ b ∈ fr, b ≠ q := fun b hb e => by
        subst e
        rcases hfr b hb with z | z
        · exact nq z
        · exact dj b z (by rw [hfp]; exact List.mem_cons_self ..)
      have rM : RepM K F (upd H q (.lst (ws.set j v))) (.lst (xs.set j y)) (.ref q) (q :: fr) := .lst upd_same hF (rN.frame (Sub.refl _) (fun b hb => upd_ne (hnq b hb)) fun b hb => (rN.live b hb).2) fun z => hnq q z rfl
      have R1 := R.drop 0
      have R2 := args_upd (i := 1) (m := .lst (xs.set j y)) (fp := q :: fr) R1 rfl (by simp [hfp]) hF rM (fun b hb a ha z => by
        by_cases e1 : a = 0
        · simp only [if_pos e1] at z; cases z
        · simp only [if_neg e1] at z
          rcases List.mem_cons.mp hb with rfl | hb
          · exact R.dj 1 a (fun q => ha q.symm) b (by rw [hfp]; exact List.mem_cons_self ..) z
          · rcases hfr b hb with hb | hb
            · exact R.dj 1 a (fun q => ha q.symm) b (by rw [hfp]; exact List.mem_cons_of_mem _ hb) z
            · exact R.dj 0 a (fun q => e1 q.symm) b hb z)
      refine p .non F _ _ [] R2 (.fz .non) Own.not_nil ?_
      refine (Ext.putO R ⟨1, by rw [hfp]; exact List.mem_cons_self ..⟩).weak fun b h => ?_
      rcases h with ⟨a, ha⟩ | h
      · by_cases e0 : a = 1
        · simp only [if_pos e0] at ha
          rcases List.mem_cons.mp ha with rfl | z
          · exact ⟨1, by rw [hfp]; exact List.mem_cons_self ..⟩
          · rcases hfr b z with z | z
            · exact ⟨1, by rw [hfp]; exact List.mem_cons_of_mem _ z⟩
            · exact ⟨0, z⟩
        · simp only [if_neg e0] at ha
          by_cases e1 : a = 0
          · simp only [if_pos e1] at ha; cases ha
          · simp only [if_neg e1] at ha; exact ⟨a, ha⟩
      · cases h
  · exact p.elim
def setS (fe fo fi : FE) : FS := fun env => bindS (callE setG (arg3 fe fo fi) env) fun _ env1 => some (.nx env1)
end Ink
set_option Elab.async false
set_option linter.all false
set_option maxRecDepth 100000
namespace Ink
open PySem L2
theorem get_list {X : Cx} : PGet X (rIxL X.K) := fun pins s σ H o i ov iv Q I ro ri h => by
  obtain ⟨p, xs, k, v, rfl, rfl, hq, he, q⟩ := h
  cases ro
  obtain ⟨t, rfl⟩ := ri
  obtain ⟨its, r, pl, hz⟩ := I.list hq
  obtain ⟨j, h1, h2, h3, h4, h5⟩ := atI_get he
  obtain ⟨w, ew, rw'⟩ := r.get h2
  have hl := r.length
  have hn := line63
  have fin : EP X pins σ Q w s := ⟨v, H, I, rw', q⟩
  by_cases h0 : 0 ≤ k
  · have hj : k.toNat = j := by
      rw [seqIndex_of h0 h5] at h1
      exact Option.some.inj h1
    exact wpAny_getItem_list pl.isList h0 (by omega) (by rw [hj]; simpa using ew) fin
  · have hj : (k + (its.toArray.size : Int)).toNat = j := by
      rw [seqIndex_neg (by omega) h4] at h1
      rw [List.size_toArray, ← hl]
      exact Option.some.inj h1
    exact wpAny_getItem_list_neg pl.isList (by omega) (by rw [List.size_toArray] <;> omega) (by omega) (by rw [hj]; simpa using ew) fin
/-- the int at a place of an owned list -/
def ixInt (m : M) (i : Int) : Option Int := match m with
  | .lst ms => match atI ms i with
    | some (.fz (.int x)) => some x
    | _ => none
  | _ => none
def augIx (f : Int → Int → Int) (fo fi fe : FE) : FS := fun env => bindS (fo env) fun a env1 => bindS (fi env1) fun b env2 => match intA b env2 with
  | some i => match resA env2 a with
    | some m => match ixInt m i with
      | some x => bindS (fe env2) fun c env3 => match intA c env3 with
        | some y => bindS (runP setG [.tm (.fz (.int (f x y))), a, b] env3) fun _ env4 => some (.nx env4)
        | none => none
      | none => none
    | none => none
  | none => none
theorem ixInt_rep {K : PySem.W.Frag} {F H : Hp} {m : M} {v : V} {fp : List Addr} {i x : Int} (r : RepM K F H m v fp) (h : ixInt m i = some x) : ∃ p vs, v = .ref p ∧ H p = some (.lst vs) ∧ atI vs i = some (.int x) := by
  unfold ixInt at h
  split at h
  · rename_i ms
    obtain ⟨p, vs, fq, rfl, hp, hF, rs, _⟩ := repm_lst r
    split at h
    · rename_i z ez
      cases h
      refine ⟨p, vs, rfl, hp, ?_⟩
      unfold atI at ez ⊢
      rw [rs.length]
      cases ej : ixN ms.length i with
      | none => rw [ej] at ez; cases ez
      | some j =>
        rw [ej] at ez
        have gen : ∀ {ms : List M} {vs : List V} {fp : List Addr} {j : Nat}, RepMs K F H ms vs fp → ms[j]? = some (.fz (.int x)) → vs[j]? = some (.int x) := by
          intro ms
          induction ms with
          | nil => intro vs fp j _ e; simp at e
          | cons m ms ih =>
            intro vs fp j r e
            cases r with
            | cons a b d =>
              cases j with
              | zero => simp at e; subst e; rw [rep_int (repm_fz a)]; rfl
              | succ j => simp at e; simpa using ih b e
        exact gen rs ez
    · cases h
  · cases h
section
variable {X : Cx} {W : WX} {P : List Nat} {o i e : Expr} {fo fi fe : FE} {pos tpos : Pos} {op : Operator} {f : Int → Int → Int}
theorem s_augix (hop : PIp X op (rI0 fun i j => .int (f i j))) (ho : PE X o (rE X.K W fo)) (hi : PE X i (rE X.K W fi)) (he : PE X e (rE X.K W fe)) (ha : ∀ ov iv new, augStore i ov iv new = (do holding [new, ov, iv] (setItem ov iv new); release [new, ov, iv] []; pure .next) := by intros; rfl) :
    PS X (.AugAssign (.Subscript o i tpos) op e pos) (rS X.K W P (augIx f fo fi fe)) := PS_mono (ps_augS ho hi get_list he hop set_list ha) fun D σ H ⟨F, env, fps, R, po⟩ => by
  refine ⟨F, env, fps, R, ?_⟩
  unfold augIx at po
  cases ef : fo env with
  | none => rw [ef] at po; exact po
  | some z =>
    rw [ef] at po
    cases z with
    | ex x env1 => exact PXS.px po
    | ok a env1 =>
      simp only [bindS] at po
      intro ov F1 H1 fps1 fp R1 r d e1
      refine ⟨F1, env1, fps1, R1, ?_⟩
      cases eg : fi env1 with
      | none => rw [eg] at po; exact po
      | some z2 =>
        rw [eg] at po
        cases z2 with
        | ex x env2 => exact PX.wide (PXS.px po) e1 fun _ h => .inl h
        | ok b env2 =>
          simp only at po
          intro iv F2 H2 fps2 fp2 R2 r2 d2 e2
          obtain ⟨ra, da⟩ := pendA r d e2
          have e12 : Ext X.K F H (Own fps) F2 H2 (fun b => Own fps2 b ∨ (b ∈ fp ∨ b ∈ fp2)) := e1.trans e2 (fun _ h => .inl h) fun b h => by
            rcases h with h | h | h
            · exact .inl (.inl h)
            · exact .inr (.inr h)
            · exact .inl (.inr h)
          cases ei : intA b env2 with
          | none => rw [ei] at po; exact po.elim
          | some k =>
            simp only [ei] at po
            cases em : resA env2 a with
            | none => rw [em] at po; exact po.elim
            | some m =>
              simp only [em] at po
              cases ex : ixInt m k with
              | none => rw [ex] at po; exact po.elim
              | some x =>
                simp only [ex] at po
                have hiv := intA_rep R2 r2 ei
                obtain ⟨fq, rm⟩ := resA_rep R2 ra em
                obtain ⟨p, vs, rfl, hp, hat⟩ := ixInt_rep rm ex
                subst hiv
                refine ⟨p, vs, k, .int x, rfl, rfl, SqL.of hp, hat, F2, env2, fps2, R2, ?_⟩
                cases ec : fe env2 with
                | none => rw [ec] at po; exact po
                | some z3 =>
                  rw [ec] at po
                  cases z3 with
                  | ex xx env3 => exact PX.wide (PXS.px po) e12 fun _ h => .inl h
                  | ok c env3 =>
                    simp only at po
                    intro yv F3 H3 fps3 fp3 R3 r3 d3 e3
                    cases ey : intA c env3 with
                    | none => rw [ey] at po; exact po.elim
                    | some y =>
                      simp only [ey] at po
                      obtain rfl := intA_rep R3 r3 ey
                      obtain ⟨ra3, da3⟩ := pendA ra (fun b hb q => da b hb (.inl q)) e3
                      obtain ⟨rb3, db3⟩ := pendA r2 d2 e3
                      refine ⟨x, y, rfl, rfl, ?_⟩
                      have hab : ∀ b ∈ fp, b ∉ fp2 := fun b hb q => da b hb (.inr q)
                      have rs := RepAs.cons' (a := .tm (.fz (.int (f x y)))) (fp := []) (RepM.fz (K := X.K) (F := F3) (H := H3) (.int (f x y))) (RepAs.cons' ra3 (RepAs.cons' rb3 .nil' fun b hb ⟨_, q⟩ => by cases q) fun b hb q => by
                        rcases own_fcons.mp q with q | ⟨_, q⟩
                        · exact hab b hb q
                        · cases q) fun b hb => by cases hb
                      have ow : ∀ b, Own (fcons [] (fcons fp (fcons fp2 fun _ => []))) b → b ∈ fp ∨ b ∈ fp2 := fun b h => by
                        rcases own_fcons.mp h with h | h
                        · cases h
                        · rcases own_fcons.mp h with h | h
                          · exact .inl h
                          · rcases own_fcons.mp h with h | ⟨_, h⟩
                            · exact .inr h
                            · cases h
                      have e13 : Ext X.K F H (Own fps) F3 H3 (fun b => Own fps3 b ∨ (b ∈ fp ∨ b ∈ fp2)) := e12.trans e3 (fun _ h => .inl h) fun b h => by
                        rcases h with h | h
                        · exact .inl (.inl h)
                        · exact .inr (.inr h)
                      refine op_set (prim_sound (W := W) R3 rs (fun b hb q => ?_) ?_)
                      · rcases ow b hb with hb | hb
                        · exact da3 b hb (.inl q)
                        · exact db3 b hb (.inl q)
                      · cases er : runP setG [.tm (.fz (.int (f x y))), a, b] env3 with
                        | none => rw [er] at po; exact po
                        | some z4 =>
                          rw [er] at po
                          cases z4 with
                          | ex xx env4 => exact PX.wide (PXS.px po) e13 fun b h => h.imp id (ow b)
                          | ok rr env4 => exact fun v F4 H4 fps4 fp4 R4 _ _ e4 => po σ F4 H4 fps4 R4 .refl (e13.trans e4 (fun b h => h.imp id (ow b)) fun b h => .inl (.inl h))
end
def iaddM : M → M → Option M
  | .fz (.int i), .fz (.int j) => some (.fz (.int (i + j)))
  | .fz (.str s), .fz (.str t) => if s.length + t.length ≤ sizeLine then some (.fz (.str (s ++ t))) else none
  | _, _ => none
def augNm (i : Nat) (g : FP) (fe : FE) : FS := fun env => match env[i]? with
  | some (some _) => bindS (fe env) fun a env1 => bindS (runP g [.sl i, a] env1) fun r env2 => match r with
    | .tm m => some (.nx (env2.set i (some m)))
    | .sl _ => none
  | _ => none
def parS (i j : Nat) (fa : FA) : FS := fun env => bindS (fa env) fun as env1 => match tms as with
  | some [m, n] => some (.nx ((env1.set i (some m)).set j (some n)))
  | _ => none
section
variable {X : Cx} {W : WX} {P : List Nat} {a b : Expr} {fa : FA} {pos px py pt pt2 : Pos} {kt k2 : Nat} {i j : Nat} {x y : Str}
theorem s_par (hc : X.calm = true) (hN : X.N.Nodup) (hi : X.N[i]? = some x) (hj : X.N[j]? = some y) (hij : i ≠ j) (hx : X.env.scope.names.lookup x = some .local) (hy : X.env.scope.names.lookup y = some .local) (ha : PA X [a, b] (rA X.K W fa))
    (hw : swappedStores [.Tuple [.Name x px, .Name y py] kt pt] (.Tuple [a, b] k2 pt2) X.env = pure (some [x, y]) := by rfl) (hp : apart [i, j] P = true := by rfl)
    (hs : swapsWithSole [.Tuple [.Name x px, .Name y py] kt pt] (.Tuple [a, b] k2 pt2) pos.line X.env = pure false := by rfl) :
    PS X (.Assign [.Tuple [.Name x px, .Name y py] kt pt] (.Tuple [a, b] k2 pt2) pos) (rS X.K W P (parS i j fa)) := PS_mono (ps_par hc hN hi hj hij hx hy ha hw hs) fun D σ H ⟨F, env, fps, R, po⟩ => by
  refine ⟨F, env, fps, R, ?_⟩
  unfold parS at po
  cases ef : fa env with
  | none => rw [ef] at po; exact po
  | some z =>
    rw [ef] at po
    cases z with
    | ex x env1 => exact PXS.px po
    | ok as env1 =>
      simp only [bindS] at po
      intro vs F1 H1 fps1 fpA R1 rs d e1
      split at po
      · rename_i m n et
        obtain ⟨fp, rm, ho⟩ := tms_reps rs et
        cases rm with
        | cons r1 rr dj =>
          cases rr with
          | cons r2 rn _ =>
            cases rn
            rename_i v f1 w f2 _
            refine ⟨v, w, rfl, ?_⟩
            obtain ⟨fps2, R2, h2⟩ := store_len (i := i) R1 r1 fun b hb q => d b (ho b (List.mem_append_left _ hb)) q
            obtain ⟨fps3, R3, h3⟩ := store_len (i := j) R2 r2 fun b hb q => by
              rcases h2 b q with q | q
              · exact d b (ho b (List.mem_append_right _ (by simp [hb]))) q
              · exact dj b q (by simp [hb])
            refine po _ F1 H1 fps3 R3 (((Chg.set (S := [i, j]) (by simp)).trans (Chg.set (by simp))).pin hp) (e1.weak fun b h => ?_)
            rcases h3 b h with h | h
            · rcases h2 b h with h | h
              · exact .inl h
              · exact .inr (ho b (List.mem_append_left _ h))
            · exact .inr (ho b (List.mem_append_right _ (by simp [h])))
      · exact po.elim
end
end Ink
set_option Elab.async false
set_option linter.all false
set_option maxRecDepth 100000
namespace Ink
open PySem L2
def stepS (acc : List Str) (x : Str) : List Str := if acc.any (· == x) then acc else acc ++ [x]
def ddS (xs : List Str) : List Str := xs.foldl stepS []
theorem stepS_any (acc : List Str) (v k : Str) : (stepS acc v).any (· == k) = (acc.any (· == k) || decide (k = v)) := by
  unfold stepS
  by_cases h : acc.any (· == v) = true
  · rw [if_pos h]
    by_cases e : k = v
    · subst e; rw [h]; simp
    · simp [e]
  · rw [if_neg h, List.any_append]
    by_cases e : k = v
    · subst e; simp
    · have hb : (v == k) = false := beq_eq_false_iff_ne.mpr fun q => e q.symm
      simp [hb, e]
theorem stepS_length (acc : List Str) (v : Str) : (stepS acc v).length = if acc.any (· == v) then acc.length else acc.length + 1 := by
  unfold stepS
  split <;> simp
theorem ddS_take_succ {xs : List Str} {i : Nat} {x : Str} (h : xs[i]? = some x) : ddS (xs.take (i + 1)) = stepS (ddS (xs.take i)) x := by
  unfold ddS
  rw [List.take_add_one, h, List.foldl_append]
  rfl
theorem foldS_le : ∀ (xs acc : List Str), (xs.foldl stepS acc).length ≤ acc.length + xs.length
  | [], acc => by simp
  | x :: xs, acc => by
    have a := foldS_le xs (stepS acc x)
    have b := stepS_length acc x
    rw [List.foldl_cons, List.length_cons]
    split at b <;> omega
theorem ddS_le (xs : List Str) : (ddS xs).length ≤ xs.length := by
  have a := foldS_le xs []
  unfold ddS
  simpa using a
section
variable {prog : Program} {w : World} {A : Around} {R : Result → Shared → Prop} {I : Addr} {fp wr : List Addr} {G : Array GenState → Array GenState → Prop} {n : Nat} {P : Nat → Value → Prop} {Sx : Nat → Shared → Prop}
theorem loopTexts (Wk : WalksS prog w A.in1 I fp wr G n P Sx) (S : Addr) (hS : S ∉ fp) (xs : List Str) (hn : xs.length = n) (hb : n + 1 < scanBound) (hv : ∀ i v, P i v → ∃ t x, xs[i]? = some x ∧ v = .str x t) :
    ∀ (k i : Nat) (s : Shared), n - i = k → i ≤ n → Sx i s → s.heap.SetOf (PySem.strKind prog w) S (fun q => (ddS (xs.take i)).any (· == q)) (ddS (xs.take i)).length →
      (∀ s1, Moved (S :: wr) G s s1 → s1.heap.SetOf (PySem.strKind prog w) S (fun q => (ddS xs).any (· == q)) (ddS xs).length → R (.ok (.ret .none)) s1) →
      codeAny (model prog w) A (.builtin "set.update.loop" ⟨[.ref S, .ref I], []⟩) R s := by
  have nw : S ∉ wr := fun h => hS (Wk.sub _ h)
  have up : ∀ b ∈ wr, b ∈ S :: wr := fun b hb => List.mem_cons_of_mem _ hb
  intro k
  induction k with
  | zero =>
    intro i s hk hi st so hR
    obtain rfl : i = n := by omega
    rw [← hn, List.take_length] at so
    refine codeAny_builtin PyProof.Rows.F.entry_set_update_loop ?_
    rw [Around.under_plainId PyProof.Rows.F.plain_set_update_loop _]
    show wpAny _ A.in1 (pyNext (.ref I) >>= _) _ _ s
    refine wpAny_bind (Wk.done s _ _ st fun s1 hm => ?_)
    show wpAny _ A.in1 (ret Value.none) _ _ s1
    refine wpAny_pure (hR s1 (hm.mono up) ?_)
    obtain ⟨o, es, ep, t, ho, rest⟩ := so
    exact ⟨o, es, ep, t, hm.heap S _ nw ho, rest⟩
  | succ k ih =>
    intro i s hk hi st so hR
    have hlt : i < n := by omega
    refine codeAny_builtin PyProof.Rows.F.entry_set_update_loop ?_
    rw [Around.under_plainId PyProof.Rows.F.plain_set_update_loop _]
    show wpAny _ A.in1 (pyNext (.ref I) >>= _) _ _ s
    refine wpAny_bind (Wk.item i s _ _ hlt st fun v s1 hP st1 hm => ?_)
    obtain ⟨t, x, hx, rfl⟩ := hv i v hP
    have so1 : s1.heap.SetOf (PySem.strKind prog w) S (fun q => (ddS (xs.take i)).any (· == q)) (ddS (xs.take i)).length := by
      obtain ⟨o, es, ep, tb, ho, rest⟩ := so
      exact ⟨o, es, ep, tb, hm.heap S _ nw ho, rest⟩
    show wpAny _ A.in1 (holding [Value.str x t] (setAdd S (.str x t)) >>= _) _ _ s1
    refine wpAny_bind (wpAny_holding ?_)
    unfold setAdd
    refine wpAny_holding (wpAny_bind ((PySem.strKind prog w).pyHash (k := x) (strKind_is _ _ _ _) ?_))
    have room : (ddS (xs.take i)).length + 1 < scanBound := by
      have a := ddS_le (xs.take i)
      have b : (xs.take i).length ≤ i := by rw [List.length_take]; exact Nat.min_le_left _ _
      omega
    refine wpAny_setAddHashed_of (knd := PySem.strKind prog w) (s := { s1 with toks := s1.toks + 1 }) (strKind_is _ _ _ _) rfl so1 room fun h2 hsb so2 => ?_
    have so3 : h2.SetOf (PySem.strKind prog w) S (fun q => (ddS (xs.take (i + 1))).any (· == q)) (ddS (xs.take (i + 1))).length :=
      PyProof.Rows.SetOf_congr so2 (fun q => by rw [ddS_take_succ hx, stepS_any]) (by rw [ddS_take_succ hx, stepS_length])
    refine wpAny_pure ⟨plainId_quiet PyProof.Rows.F.plain_set_update_loop _, ih (i + 1) _ (by omega) hlt (Wk.frame _ s1 _ _ st1 (Nat.le_succ _) fun b hb o e => ?_) so3 fun s2 hm2 so4 => ?_⟩
    · rw [hsb.2 b (fun q : b = S => hS (by rw [← q]; exact hb))]; exact e
    · refine hR s2 (Moved.trans Wk.gtrans ((hm.mono up).then_heap (Nat.le_succ _) fun b o hb e => ?_) hm2) so4
      rw [hsb.2 b (fun q : b = S => hb (by rw [q]; exact List.mem_cons_self))]; exact e
end
abbrev emptySet (led : Bool) : Obj := { cls := .type "set", dict := none, data := .set #[] 0 (.fresh 0 0 led) }
section
variable {prog : Program} {w : World} {A : Around} {E : Value → Shared → Prop} {s : Shared}
set_option maxHeartbeats 3200000 in
theorem set_texts {l : Addr} {items : Array Value} {xs : List Str} {Q : Value → Shared → Prop} (hh : A.handled = none) (hl : s.heap.IsTuple l items) (hi : ∀ (i : Nat) (v : Value), items[i]? = some v → ∃ t x, xs[i]? = some x ∧ v = .str x t) (hn : xs.length = items.size) (hb : items.size + 1 < scanBound)
    (h : ∀ (h2 : Heap) (tk : Nat), h2.SetOf (PySem.strKind prog w) s.heap.objs.size (fun q => (ddS xs).any (· == q)) (ddS xs).length → (∀ b o, b < s.heap.objs.size → s.heap.get? b = some o → h2.get? b = some o) → Q (.ref s.heap.objs.size) { s with heap := h2, toks := tk }) :
    wpAny (model prog w) A (call (.type "set") [.ref l]) Q E s := by
  obtain ⟨c, tl, hmro⟩ := PySem.F.called_set.mro
  have hmade := PySem.F.called_set.made
  have hsub := PySem.F.called_set.sub
  refine wpAny_call (codeAny_of_tree ?_)
  show wpAny _ _ (callAny (.type "set") _) _ _ _
  refine wpAny_pure ⟨Code.quiet_builtin _ (by decide +kernel), codeAny_builtin PySem.F.entry_type_call ?_⟩
  rw [Around.under_plain (weight_type_call_type "set" [.ref l] []) rfl]
  have h1 := PySem.F.called_set.notType
  have h2 := PySem.F.called_set.canCreate
  have hct := PySem.F.typeCall_set_1 (.ref l)
  repeat (any_goals (first | assumption | wp_step))
  refine codeAny_mono (code_set_new_1 (.ref l) (E := E) (Q₁ := fun obj t => ∃ led : Bool, obj = .ref s.heap.objs.size ∧ t = { s with heap := s.heap.push (emptySet led) }) fun led => ⟨led, rfl, rfl⟩) fun r t hr => ?_
  cases r with
  | error e => exact hr
  | ok fl =>
    cases fl with
    | ret obj =>
      obtain ⟨led, rfl, rfl⟩ := hr
      have gS : (s.heap.push (emptySet led)).get? s.heap.objs.size = some (emptySet led) := Heap.get?_push_size _ rfl
      have hT : Shared.TypeIs { s with heap := s.heap.push (emptySet led) } (.ref s.heap.objs.size) "set" := ⟨_, gS, rfl⟩
      have hli := PySem.F.called_set.init.lookup
      have hbi := PySem.F.called_set.init.bind (.ref s.heap.objs.size)
      repeat (any_goals (first | assumption | wp_step))
      refine codeAny_mono (codeAny_call_builtin (R := wants (fun r t => r = .none ∧ ∃ h2 tk, t = { s with heap := h2, toks := tk } ∧ h2.SetOf (PySem.strKind prog w) s.heap.objs.size (fun q => (ddS xs).any (· == q)) (ddS xs).length ∧
          (∀ b o, b < s.heap.objs.size → s.heap.get? b = some o → h2.get? b = some o)) E) PySem.F.called_set.init.plain PySem.F.entry_set_init (check_set_init_1 hT ?_)) fun r2 t2 hr2 => ?_
      · obtain ⟨⟨ocls, odict, odata, oslots⟩, hol, hcl, nl, hdl⟩ := hl
        simp only at hcl hdl
        subst hcl hdl
        have hol2 : (s.heap.push (emptySet led)).get? l = some { cls := .type "tuple", dict := odict, data := .seq items nl, slots := oslots } := Heap.get?_push_of_some _ hol
        have hsls := PySem.F.sub_tuple_set
        have hslf := PySem.F.sub_tuple_frozenset
        have hne : (Value.type "tuple" == Value.type "dict") = false := by decide
        have hl1 : (s.heap.push (emptySet led)).IsTuple l items := ⟨_, hol2, rfl, nl, rfl⟩
        unfold Builtin.«set.__init__» noKeywords Builtin.Frozenset.updateFrom
        generalize hPI : pyIter = PI
        wp_walk
        subst hPI
        refine wpAny_pyIter_tuple hl1 (wpAny_bind (wpAny_runValue ?_))
        have lS : l < s.heap.objs.size := Heap.lt_size hol
        have neI : l ≠ (s.heap.push (emptySet led)).objs.size := by rw [Heap.size_push]; exact Nat.ne_of_lt (Nat.lt_succ_of_lt lS)
        have nSf : s.heap.objs.size ∉ [(s.heap.push (emptySet led)).objs.size, l] := by
          rw [Heap.size_push]
          simp only [List.mem_cons, List.mem_singleton, List.not_mem_nil, or_false, not_or]
          exact ⟨Nat.ne_of_lt (Nat.lt_succ_self _), Nat.ne_of_gt lS⟩
        refine loopTexts ((Walks.tuple (by simp [hh]) _ l neI items).toS) s.heap.objs.size nSf xs hn hb hi (items.size - 0) 0 _ (by omega) (Nat.zero_le _) ⟨⟨_, Heap.get?_push_size _ rfl, rfl, rfl⟩, (hl1.push _)⟩ ?hS0 ?hR
        case hS0 =>
          have g2 : ((s.heap.push (emptySet led)).push { cls := .type "tuple_iterator", data := .fields #[.ref l, .int 0 0] }).get? s.heap.objs.size = some (emptySet led) := Heap.get?_push_of_some _ gS
          exact PyProof.Rows.SetOf_congr ((PyProof.Rows.setObjOf_fresh (knd := PySem.strKind prog w) led).setOf g2 (by unfold scanBound; omega)) (fun _ => rfl) rfl
        case hR =>
          intro t1 hm so
          obtain ⟨h3, g3, d3, tk3, os3⟩ := t1
          obtain rfl : g3 = s.gens := hm.gens
          obtain rfl : d3 = s.drawn := hm.drawn
          obtain rfl : os3 = s.os := hm.os
          show wpAny _ _ _ _ _ _
          refine wpAny_pure ?_
          show wpAny _ _ (ret Value.none) _ _ _
          refine wpAny_pure ⟨rfl, h3, tk3, rfl, so, fun b o hb e => ?_⟩
          have n1 : b ≠ s.heap.objs.size := Nat.ne_of_lt hb
          have n2 : b ≠ (s.heap.push (emptySet led)).objs.size := by rw [Heap.size_push]; exact Nat.ne_of_lt (Nat.lt_succ_of_lt hb)
          exact hm.heap b o (by simp only [List.mem_cons, List.mem_singleton, List.not_mem_nil, or_false, not_or]; exact ⟨n1, n2⟩) (Heap.get?_push_of_some _ (Heap.get?_push_of_some _ e))
      · cases r2 with
        | error e => exact hr2
        | ok fl2 =>
          cases fl2 with
          | ret r =>
            obtain ⟨rfl, h3, tk, rfl, so, hk⟩ := hr2
            repeat (any_goals (first | assumption | wp_step))
            exact h _ _ so hk
          | _ => exact hr2.elim
    | _ => exact hr.elim
end
def strsD : List D → Option (List Str)
  | [] => some []
  | .str x :: r => match strsD r with
    | some xs => some (x :: xs)
    | none => none
  | _ => none
theorem strsD_map (xs : List Str) : strsD (xs.map D.str) = some xs := by
  induction xs with
  | nil => rfl
  | cons x xs ih => simp only [List.map_cons, strsD, ih]
theorem strsD_reps {K : PySem.W.Frag} {F : Hp} : ∀ {vs : List V} {ds : List D} {xs : List Str}, Reps K F vs ds → strsD ds = some xs → vs = xs.map V.str
  | _, [], xs, .nil, e => by rw [strsD] at e; cases e; rfl
  | _, .str b :: r, xs, .cons a t, e => by
    rw [strsD] at e
    cases e2 : strsD r with
    | none => rw [e2] at e; cases e
    | some cs => rw [e2] at e; cases e; rw [rep_str a, strsD_reps t e2]; rfl
  | _, .non :: _, _, _, e => by simp [strsD] at e
  | _, .int _ :: _, _, _, e => by simp [strsD] at e
  | _, .bl _ :: _, _, _, e => by simp [strsD] at e
  | _, .lst _ :: _, _, _, e => by simp [strsD] at e
  | _, .tup _ :: _, _, _, e => by simp [strsD] at e
  | _, .dK _ :: _, _, _, e => by simp [strsD] at e
  | _, .dT _ :: _, _, _, e => by simp [strsD] at e
  | _, .scr _ :: _, _, _, e => by simp [strsD] at e
  | _, .ins _ _ :: _, _, _, e => by simp [strsD] at e
  | _, .lam _ :: _, _, _, e => by simp [strsD] at e
/-- len(set(t)), t a tuple of texts -/
def lenSetE (f : FE) : FE := fun env => bindO (f env) fun a env1 => match resA env1 a with
  | some (.fz (.tup ds)) => match strsD ds with
    | some xs => if xs.length ≤ 4000 then some (.ok (.tm (.fz (.int (ddS xs).length))) env1) else none
    | none => none
  | _ => none
theorem e_lenset {X : Cx} {W : WX} {a : Expr} {f : FE} {p p2 q pos : Pos} (hc : X.calm = true) (hg : Gl X "len") (hm : X.mg "len" = none) (hg2 : Gl X "set") (hm2 : X.mg "set" = none) (ha : PE X a (rE X.K W f))
    (na : starEach [a] X.env = (false, eval a X.env) :: starEach [] X.env := by rfl) : PE X (.Call (.Name "len" p) [.Call (.Name "set" p2) [a] [] q] [] pos) (rE X.K W (lenSetE f)) := ⟨fun pins s σ H Q I h => by
  obtain ⟨F, env, fps, R, po⟩ := h
  refine PyProof.Rows.Call_ (ld_blt I hg hm boot_len ?_)
  refine PyProof.Rows.callWith_builtin1 (PyProof.Rows.args_cons ?_ rfl) rfl rfl
  refine PyProof.Rows.Call_ (ld_blt I hg2 hm2 PyProof.Rows.boot_set ?_)
  have key : rE X.K W f σ H (fun x H1 => ∃ l, ∃ xs : List Str, x = .ref l ∧ SqT X.K H1 l (xs.map V.str) ∧ xs.length ≤ 4000 ∧ Q (.int (ddS xs).length) H1) := by
    refine ⟨F, env, fps, R, ?_⟩
    unfold lenSetE at po
    cases ef : f env with
    | none => rw [ef] at po; exact po
    | some z =>
      rw [ef] at po
      cases z with
      | ex x env1 => exact po
      | ok b env1 =>
        simp only [bindO_ok] at po
        intro v F1 H1 fps1 fp R1 r d e1
        cases er : resA env1 b with
        | none => rw [er] at po; exact po.elim
        | some m =>
          rw [er] at po
          split at po
          · rename_i ds em
            cases em
            obtain ⟨fq, rm⟩ := resA_rep R1 r er
            cases es : strsD ds with
            | none => rw [es] at po; exact po.elim
            | some xs =>
              simp only [es] at po
              split at po
              · rename_i hl
                obtain ⟨q, vs, rfl, hq, rs⟩ := tup_rep R1.fr (repm_fz rm)
                exact ⟨q, xs, rfl, by rw [← strsD_reps rs es]; exact hq, hl, po _ F1 H1 fps1 [] R1 (RepM.fz (.int _)) Own.not_nil (e1.weak fun b h => .inl (h.elim id fun z => by cases z))⟩
              · exact po.elim
          · exact po.elim
  refine PyProof.Rows.callWith_type1 (PyProof.Rows.args_cons (thn (ha.run pins s σ H _ I key) fun v s1 ⟨x, H1, I1, r1, q1⟩ => PyProof.Rows.args_nil ?_) na) na rfl
  obtain ⟨l, xs, rfl, hq, hl, q1⟩ := q1
  cases r1
  obtain ⟨its, rv, pl, hz⟩ := I1.tuple hq
  have hlen : its.toArray.size = xs.length := by rw [List.size_toArray, ← rv.length, List.length_map]
  refine set_texts (xs := xs) (I1.ok.hd hc) pl (fun i v hv => ?_) hlen.symm (by rw [hlen]; unfold scanBound; omega) fun h2 tk so hk => ?_
  · have hv2 : its[i]? = some v := by simpa using hv
    have hi : i < xs.length := by
      have := (List.getElem?_eq_some_iff.mp hv2).1
      rw [← hlen]; simpa using this
    obtain ⟨u, hu, t, ru⟩ := rv.get (i := i) (x := .str xs[i]) (by simp [hi])
    rw [hv2] at hu; cases hu
    exact ⟨t, xs[i], List.getElem?_eq_getElem hi, ru⟩
  · refine PyProof.Rows.args_nil ?_
    obtain ⟨o, es, ep, t, ho, hex, hd, _, _, _, hf, hn⟩ := so
    have I2 : Inv X pins σ H1 { s1 with heap := h2, toks := tk } := I1.kept fun b o e => hk b o (Heap.lt_size e) e
    have hle := ddS_le xs
    exact call_len_set ho hex hd hf (by rw [hn]; omega) ⟨.int (ddS xs).length, H1, I2.tok _, ⟨_, by rw [hn]⟩, q1⟩⟩
end Ink
set_option Elab.async false
set_option linter.all false
set_option maxRecDepth 100000
namespace Ink
open PySem L2
def repL {α : Type} (n : Nat) (xs : List α) : List α := (List.replicate n xs).flatten
def repS (z : Str) (n : Nat) : Str := ⟨(repL n z.cps.toList).toArray⟩
theorem repL_reps {K : PySem.W.Frag} {F : Hp} {vs : List V} {ds : List D} (r : Reps K F vs ds) : ∀ n : Nat, Reps K F (List.replicate n vs).flatten (repL n ds)
  | 0 => .nil
  | n + 1 => by
    unfold repL
    rw [List.replicate_succ, List.flatten_cons, List.replicate_succ, List.flatten_cons]
    exact r.append (repL_reps r n)
theorem foldl_cps (a : Array Nat) : ∀ (k : Nat) (acc : List Nat), List.foldl (fun x y => x ++ y) acc.toArray (List.replicate k a) = (acc ++ (List.replicate k a.toList).flatten).toArray
  | 0, acc => by simp
  | k + 1, acc => by
    rw [List.replicate_succ, List.foldl_cons]
    have e : acc.toArray ++ a = (acc ++ a.toList).toArray := by
      apply Array.ext'
      simp
    rw [e, foldl_cps a k]
    simp [List.replicate_succ]
theorem op_mulstr {X : Cx} : OpR X (binaryOp .Mult) (fun x y H Q => ∃ z n, x = .str z ∧ y = .int n ∧ 0 ≤ n ∧ n ≤ 1000 ∧ z.length ≤ 1000 ∧ Q (.str (repS z n.toNat)) H) := fun pins s σ H x y v u Q I rx ry h => by
  obtain ⟨z, n, rfl, rfl, h0, h1, hz, q⟩ := h
  obtain ⟨t, rfl⟩ := rx
  obtain ⟨t2, rfl⟩ := ry
  have hmul : z.length * n.toNat ≤ 1000 * 1000 := Nat.mul_le_mul hz (by omega)
  have hlenR : (repL n.toNat z.cps.toList).length = n.toNat * z.length := by
    unfold repL
    rw [PyProof.Rows.lm_len_rep_flat]
    show n.toNat * z.cps.toList.length = n.toNat * z.cps.size
    simp
  refine PySem.P.mul_str ?_ (fun _ _ => ?_) (fun _ _ => ?_) ?_
  · rw [decide_eq_false (by omega), decide_eq_false (by omega)]; rfl
  · intro hgt
    have : (2 ^ 63 - 1) / n ≥ (2 ^ 63 - 1) / 1000 := by
      rename_i hn1 _
      apply Int.le_ediv_of_mul_le (by omega)
      have : (2 ^ 63 - 1 : Int) / 1000 * n ≤ (2 ^ 63 - 1) / 1000 * 1000 := Int.mul_le_mul_of_nonneg_left (by omega) (by decide)
      have h2 : (2 ^ 63 - 1 : Int) / 1000 * 1000 ≤ 2 ^ 63 - 1 := Int.ediv_mul_le _ (by decide)
      omega
    have h3 : ((2 : Int) ^ 63 - 1) / 1000 ≥ 1000 := by decide
    omega
  · unfold Builtin.Str.tooLong
    rw [sizeLine_eq]
    exact decide_eq_false (by omega)
  · by_cases hn : n < 1
    · rw [if_pos hn]
      have e : n.toNat = 0 := by omega
      have e2 : repS z n.toNat = Str.empty := by rw [e]; rfl
      rw [e2] at q
      exact ⟨by decide, .str Str.empty, H, I.tok _, ⟨_, rfl⟩, q⟩
    · rw [if_neg hn]
      by_cases hc : (n == 1 || z.length == 0) = true
      · rw [if_pos hc]
        have e2 : repS z n.toNat = z := by
          simp only [Bool.or_eq_true, beq_iff_eq] at hc
          rcases hc with hc | hc
          · subst hc
            obtain ⟨a⟩ := z
            unfold repS repL
            simp
          · obtain ⟨a⟩ := z
            have ha : a = #[] := Array.eq_empty_of_size_eq_zero hc
            subst ha
            unfold repS repL
            simp
        rw [e2] at q
        exact ⟨.str z, H, I, ⟨_, rfl⟩, q⟩
      · rw [if_neg hc]
        have e3 : (⟨(List.replicate n.toNat z.cps).foldl (fun x y => x ++ y) #[]⟩ : Str) = repS z n.toNat := by
          have := foldl_cps z.cps n.toNat []
          rw [List.nil_append] at this
          unfold repS repL
          rw [← this]
        refine ⟨?_, .str (repS z n.toNat), H, I.tok _, ⟨_, by rw [← e3]⟩, q⟩
        show Array.size _ ≤ sizeLine
        have : (⟨(List.replicate n.toNat z.cps).foldl (fun x y => x ++ y) #[]⟩ : Str).cps.size = (repS z n.toNat).cps.size := by rw [e3]
        rw [this]
        show (repL n.toNat z.cps.toList).toArray.size ≤ sizeLine
        rw [List.size_toArray, hlenR, sizeLine_eq]
        have : n.toNat * z.length = z.length * n.toNat := Nat.mul_comm _ _
        omega
/-- t * n where the answer is t itself -/
theorem tup_mul_same (l : Addr) (items : Array Value) (n : Nat) (dd : Option Addr) (sl : Array (Option Value)) (x : Int) (u : Tok) (c0 : (decide (x < -(2 ^ 63)) || decide (x ≥ 2 ^ 63)) = false) (c1 : (items.isEmpty || x == 1) = true) :
    Meets (Builtin.«tuple.__mul__» ⟨[.ref l, .int x u], []⟩) (fun _ R s => s.heap.get? l = some { cls := .type "tuple", dict := dd, data := .seq items n, slots := sl } ∧ R (.ok (.ret (Value.ref l))) s) :=
  .of_wp fun prog w A R s h => by
    obtain ⟨hp, g, d, tk, os⟩ := s
    obtain ⟨hl, h⟩ := h
    have f1 := AutoSeq1.idx_int
    wp_walk using AutoSeq1.wpAny_loadPart' hl
    repeat (first
      | (refine wpAny_ite_false (decide_eq_false (by rw [c0]; exact Bool.false_ne_true)) ?_; wp_walk using AutoSeq1.wpAny_loadPart' hl)
      | (refine wpAny_ite_true (decide_eq_true c1) ?_; wp_walk using AutoSeq1.wpAny_loadPart' hl))
    exact ⟨_, rfl, h⟩
theorem op_tupsame {X : Cx} : OpR X (binaryOp .Mult) (fun x y H Q => ∃ l k xs, x = .ref l ∧ y = .int k ∧ SqT X.K H l xs ∧ (xs = [] ∨ k = 1) ∧ -1000 ≤ k ∧ k ≤ 1000 ∧ Q (.ref l) H) := fun pins s σ H x y v u Q I rx ry h => by
  obtain ⟨l, k, xs, rfl, rfl, hT, hne, h1, h2, q⟩ := h
  cases rx
  obtain ⟨t, rfl⟩ := ry
  obtain ⟨its, r, ⟨⟨cls, dd, data, sl⟩, ho, hc, n, hd⟩, hs⟩ := I.tuple hT
  simp only at hc hd
  subst hc hd
  have c0 : (decide (k < -(2 ^ 63)) || decide (k ≥ 2 ^ 63)) = false := by rw [decide_eq_false (by omega), decide_eq_false (by omega)]; rfl
  have c1 : (its.toArray.isEmpty || k == 1) = true := by
    rcases hne with e | e
    · subst e
      have : its = [] := List.eq_nil_of_length_eq_zero (by rw [← r.length]; rfl)
      subst this
      rfl
    · subst e; simp
  exact wpAny_binaryOp_repeat_ref (T := "tuple") (U := "int") (by decide) ⟨_, ho, rfl⟩ (fun s2 => typeIs_int s2 k t) noFill_tuple_mul PySem.F.fills_int_mul PySem.F.slot_int_rmul repeat_tuple PySem.F.slot_int_index.lookup
    (call_meets PySem.F.slot_int_rmul (typeIs_int s k t) PySem.F.entry_int_rmul (PySem.F.args_int_rmul_2 _ _) (int_rmul_tuple k t l its.toArray n dd sl)
      ⟨ho, rfl, ⟨_, ho, rfl⟩, call_meets PySem.F.slot_tuple_mul ⟨_, ho, rfl⟩ PySem.F.entry_tuple_mul (PySem.F.args_tuple_mul_2 _ _) (tup_mul_same l its.toArray n dd sl k t c0 c1) ⟨ho, ⟨.ref l, H, I, rfl, q⟩⟩⟩)
def mulM : M → M → Option M
  | .fz (.int i), .fz (.int j) => match mulC i j with
    | true => some (.fz (.int (i * j)))
    | false => none
  | .fz (.str z), .fz (.int n) => if 0 ≤ n ∧ n ≤ 1000 ∧ z.length ≤ 1000 then some (.fz (.str (repS z n.toNat))) else none
  | .fz (.tup ds), .fz (.int k) => if ds = [] ∨ k = 1 then (if -1000 ≤ k ∧ k ≤ 1000 then some (.fz (.tup ds)) else none) else if 2 ≤ k ∧ k ≤ 1000 ∧ ds.length ≤ 1000 then some (.fz (.tup (repL k.toNat ds))) else none
  | a, .fz (.int k) => match lstD a with
    | some ds => if -1000 ≤ k ∧ k ≤ 1000000 ∧ ds.length * k.toNat ≤ sizeLine then some (.lst ((repL k.toNat ds).map .fz)) else none
    | none => none
  | _, _ => none
abbrev mulG : FP := g2 mulM
theorem op2_mul {K : PySem.W.Frag} : Op2 K mulG (fun x y H Q => L2.rI CMul (fun i j => .int (i * j)) x y H Q ∨ ((∃ z n, x = .str z ∧ y = .int n ∧ 0 ≤ n ∧ n ≤ 1000 ∧ z.length ≤ 1000 ∧ Q (.str (repS z n.toNat)) H) ∨
    ((∃ l k xs, x = .ref l ∧ y = .int k ∧ SqT K H l xs ∧ (xs = [] ∨ k = 1) ∧ -1000 ≤ k ∧ k ≤ 1000 ∧ Q (.ref l) H) ∨ (rRepT K x y H Q ∨ rRep x y H Q)))) := fun x y H Q Ex p => by
  obtain ⟨F, a, b, m, fps, R, r1, r2, e, p⟩ := g2_at p
  unfold mulM at e
  split at e
  · rename_i i j
    cases hc : mulC i j with
    | false => rw [hc] at e; cases e
    | true =>
      rw [hc] at e; cases e
      obtain rfl := rep_int (repm_fz r1)
      obtain rfl := rep_int (repm_fz r2)
      refine .inl ⟨_, _, rfl, rfl, ?_, sp_flat R (.int _) p⟩
      simp only [mulC, Bool.or_eq_true, Bool.and_eq_true, decide_eq_true_eq] at hc
      exact hc
  · split at e
    · rename_i hl
      cases e
      obtain rfl := rep_str (repm_fz r1)
      obtain rfl := rep_int (repm_fz r2)
      exact .inr (.inl ⟨_, _, rfl, rfl, hl.1, hl.2.1, hl.2.2, sp_flat R (.str _) p⟩)
    · cases e
  · rename_i ds k
    obtain ⟨q, vs, rfl, hq, rs⟩ := tup_rep R.fr (repm_fz r1)
    obtain rfl := rep_int (repm_fz r2)
    split at e
    · rename_i hs
      split at e
      · rename_i hk
        cases e
        refine .inr (.inr (.inl ⟨q, k, vs, rfl, rfl, hq, ?_, hk.1, hk.2, sp_flat R (repm_fz r1) p⟩))
        rcases hs with hs | hs
        · subst hs
          exact .inl (List.eq_nil_of_length_eq_zero (by rw [rs.length]; rfl))
        · exact .inr hs
      · cases e
    · rename_i hs
      split at e
      · rename_i hk
        cases e
        refine .inr (.inr (.inr (.inl ⟨q, k, vs, rfl, rfl, hq, fun z => hs (.inl ?_), hk.1, hk.2.1, by rw [rs.length]; exact hk.2.2, sp_tup R (repL_reps rs _) p⟩)))
        subst z
        exact List.eq_nil_of_length_eq_zero (by rw [← rs.length]; rfl)
      · cases e
  · rename_i k _ _ _
    cases e1 : lstD a with
    | none => rw [e1] at e; cases e
    | some ds =>
      simp only [e1] at e
      split at e
      · rename_i hk
        cases e
        obtain ⟨q, vs, rfl, hq, rs⟩ := lstD_rep R.fr r1 e1
        obtain rfl := rep_int (repm_fz r2)
        exact .inr (.inr (.inr (.inr ⟨q, k, vs, rfl, rfl, hq, by omega, by omega, by rw [rs.length]; exact hk.2.2, sp_lst R (repL_reps rs _) p⟩)))
      · cases e
  · cases e
theorem e_mul {X : Cx} {W : WX} {a b : Expr} {fa fb : FE} {pos : Pos} (ha : PE X a (rE X.K W fa)) (hb : PE X b (rE X.K W fb)) : PE X (.BinOp a .Mult b pos) (rE X.K W (callE mulG (arg2 fa fb))) := e_op (op_mul.or (op_mulstr.or (op_tupsame.or (op_repT.or op_rep)))) op2_mul ha hb
end Ink
set_option Elab.async false
set_option linter.all false
set_option maxRecDepth 100000
namespace Ink
open PySem PySem.Spec PyProof.Rows L2 LamX
abbrev noTab : Obj := { cls := .none, data := .fields #[] }
theorem law_run {P : Program} {w : World} {K : PySem.W.Frag} {mg mb : Str → Option Value} {CX : CXT} {fa a : Addr} {cs : List (Addr × Addr)} {s1 : Shared} {vs : List Value} {ns : List Int}
    (kin : K.In s1.heap) (gl : s1.heap.Ns mainGlobals mg) (bu : s1.heap.Ns builtinsNs mb) (bb : ∀ x : Str, x ≠ "__name__" → mb x = bootBuiltins x) (lim : s1.heap.NoLimit) (gens : s1.gens = #[])
    (tab : ∀ p ∈ cs, s1.heap.get? p.2 = some noTab) (ntab : ∀ p ∈ cs, K.lookup p.2 = none) (cod : ∀ p ∈ cs, PySem.W.CodeHd s1.heap p.1 p.2)
    (bm : ∃ (m : Addr) (ob : Obj), mg "__builtins__" = some (.ref m) ∧ m ≠ builtinsNs ∧ s1.heap.get? m = some ob ∧ ob.cls = .type "module" ∧ ob.dict = some builtinsNs ∧ ob.data = .plain)
    (scr : s1.heap.get? a = some { cls := .type "list", data := .seq vs.toArray }) (hin : IntsAre vs ns) (len : ns.length ≤ sizeLine)
    (run : ∀ (base : Heap) (H : Hp), K.In base → base.Ns mainGlobals mg → (∀ p ∈ cs, TabB base mg p.1 p.2) → (∀ p ∈ cs, H p.2 = some (.tbl #[])) → (∀ b ps, H b = some (.tbl ps) → ∃ p ∈ cs, p.2 = b) → SqL K H a (ns.map V.int) → Env0 P w K mg base callerA [] s1 H →
      codeAny (model P w) callerA (.call (.ref fa) ⟨[.ref a], []⟩) (CR CX [] P w H s1 (fun v _ => v = .bl true) (fun _ _ _ => False)) s1)
    (nox : ∀ H e s', CX [] H s1 (fun _ _ _ => False) e s' → False) :
    codeAny (model P w) callerA (.call (.ref fa) ⟨[.ref a], []⟩) (fun r s' => r = .ok (.ret (.bool true)) ∧ OldK s1.heap s'.heap ∧ s'.os = s1.os ∧ AllBare s'.gens) s1 := by
  classical
  obtain ⟨ta, hta⟩ : ∃ ta, ta = cs.map (·.2) := ⟨_, rfl⟩
  have mem : ∀ p ∈ cs, p.2 ∈ ta := fun p hp => by rw [hta]; exact List.mem_map.mpr ⟨p, hp, rfl⟩
  have mem' : ∀ b ∈ ta, ∃ p ∈ cs, p.2 = b := fun b hb => by rw [hta] at hb; exact List.mem_map.mp hb
  have tobj : ∀ b ∈ ta, s1.heap.get? b = some noTab := fun b hb => by
    obtain ⟨p, hp, rfl⟩ := mem' b hb
    exact tab p hp
  have ant : a ∉ ta := fun z => by
    have q := tobj a z
    rw [scr] at q
    have y : (Data.seq vs.toArray _ : Data) = .fields #[] := congrArg Obj.data (Option.some.inj q)
    cases y
  have rv := vals_ints hin
  have lv := hin.length
  obtain ⟨so, hso⟩ : ∃ so : Obj, so = { cls := .type "list", data := .seq vs.toArray } := ⟨_, rfl⟩
  obtain ⟨H, hH⟩ : ∃ H : Hp, H = fun b => if b ∈ ta then some (.tbl #[]) else if b = a ∧ K.lookup a = none then some (.frz so (.lst (ns.map V.int))) else none := ⟨_, rfl⟩
  have Ht : ∀ b ∈ ta, H b = some (.tbl #[]) := fun b hb => by rw [hH]; exact if_pos hb
  have Ha : K.lookup a = none → H a = some (.frz so (.lst (ns.map V.int))) := fun h => by rw [hH]; exact (if_neg ant).trans (if_pos ⟨rfl, h⟩)
  have Hn : ∀ b, b ∉ ta → ¬ (b = a ∧ K.lookup a = none) → H b = none := fun b h1 h2 => by rw [hH]; exact (if_neg h1).trans (if_neg h2)
  have Hc : ∀ b u, H b = some u → (b ∈ ta ∧ u = .tbl #[]) ∨ (b = a ∧ K.lookup a = none ∧ u = .frz so (.lst (ns.map V.int))) := fun b u e => by
    by_cases h1 : b ∈ ta
    · rw [Ht b h1] at e; exact .inl ⟨h1, (Option.some.inj e).symm⟩
    · by_cases h2 : b = a ∧ K.lookup a = none
      · rw [h2.1, Ha h2.2] at e; exact .inr ⟨h2.1, h2.2, (Option.some.inj e).symm⟩
      · rw [Hn b h1 h2] at e; cases e
  have hok : HOk P w H s1.heap := fun b u e => by
    rcases Hc b u e with ⟨h1, rfl⟩ | ⟨rfl, _, rfl⟩
    · exact tobj b h1
    · rw [hso]
      exact ⟨scr, by rw [List.length_map]; exact len, vs, _, rv, scr⟩
  have sq : SqL K H a (ns.map V.int) := by
    cases hk : K.lookup a with
    | none => exact .inl (.inr ⟨so, Ha hk⟩)
    | some o =>
      have e := kin a o hk
      rw [scr] at e; cases e
      exact .inr ⟨_, vs.toArray, _, hk, rfl, rfl, rfl, by rw [List.size_toArray, lv]; exact len, by simpa using rv⟩
  -- what is not tracked
  have free : ∀ {b : Addr} {o : Obj}, s1.heap.get? b = some o → o.data ≠ .fields #[] → (∀ xs n, o.data ≠ .seq xs n) → H b = none := fun {b o} e h1 h2 => Hn b
    (fun z => by rw [tobj b z] at e; cases e; exact h1 rfl) fun z => by
      rw [z.1, scr] at e; cases e
      exact h2 _ _ rfl
  have at_ : ∀ {b : Addr} {o : Obj}, s1.heap.get? b = some o → H b = none → (hidT s1.heap H).get? b = some o := fun e n => hidT_get e n
  have ns_ : ∀ {b : Addr} {m : Str → Option Value}, s1.heap.Ns b m → (hidT s1.heap H).Ns b m := fun ⟨o, es, ep, e, d, r⟩ => ⟨o, es, ep, at_ e (free e (by rw [d]; exact nofun) (by rw [d]; exact nofun)), d, r⟩
  have kin' : K.In (hidT s1.heap H) := fun b o e => at_ (kin b o e) (Hn b (fun z => by
    obtain ⟨p, hp, rfl⟩ := mem' b z
    rw [ntab p hp] at e; cases e) fun z => by
      rw [z.1, z.2] at e; cases e)
  have tb : ∀ p ∈ cs, TabB (hidT s1.heap H) mg p.1 p.2 := fun p hp => by
    have ht := tab p hp
    refine ⟨?_, ?_, fun z => ?_⟩
    · obtain ⟨o, us, file, tf, flags, tg, inF, text, tt, e1, r1, r2, r3, rest⟩ := cod p hp
      exact ⟨o, us, file, tf, flags, tg, inF, text, tt, at_ e1 (free e1 (fun z => by rw [r2] at z; cases z; simp at r3) (by rw [r2]; exact nofun)), r1, r2, r3, rest⟩
    · obtain ⟨m, ob, b1, b2, b3, b4, b5, b6⟩ := bm
      refine ⟨m, ob, b1, b2, fun q => ?_, fun q => ?_, at_ b3 (free b3 (by rw [b6]; exact nofun) (by rw [b6]; exact nofun)), b4, b5, b6⟩
      · obtain ⟨o, es, ep, e, hd, _⟩ := gl
        rw [q, e] at b3; cases b3
        rw [hd] at b6; cases b6
      · rw [q, ht] at b3; cases b3
        cases b6
    · obtain ⟨o, es, ep, e, hd, _⟩ := gl
      rw [z, ht] at e; cases e
      cases hd
  have e0 : Env0 P w K mg (hidT s1.heap H) callerA [] s1 H := ⟨rfl, ⟨kin', ns_ gl, ⟨mb, ns_ bu, bb⟩, let ⟨mc, h1, h2⟩ := lim; ⟨mc, ns_ h1, h2⟩⟩, fun b o e => of_hidT e, Nat.le_of_eq (hidT_size _ _), trivial, (fun b hb => by cases (show b ∈ ([] : List Addr) from hb)), hok, .of_eq gens⟩
  refine codeAny_mono (run _ H kin' (ns_ gl) tb (fun p hp => Ht _ (mem p hp)) (fun b ps e => ?_) sq e0) fun r s' h => ?_
  · rcases Hc b _ e with ⟨h1, _⟩ | ⟨_, _, z⟩
    · exact mem' b h1
    · cases z
  cases r with
  | error e => exact (nox H e s' h).elim
  | ok fl =>
    cases fl with
    | next => exact h.elim
    | brk => exact h.elim
    | cont => exact h.elim
    | ret u =>
      obtain ⟨v, H', os, bare, un, hok', rr, q⟩ := h
      cases (show v = .bl true from q)
      obtain rfl : u = Value.bool true := rr
      have old : ∀ b o, b ∉ ta → s1.heap.get? b = some o → s'.heap.get? b = some o := fun b o nb e => by
        cases z : H b with
        | none => exact un.keep b o e z (fun y => by cases (show b ∈ ([] : List Addr) from y)) (by simp)
        | some y =>
          rcases Hc b y z with ⟨h1, _⟩ | ⟨rfl, _, rfl⟩
          · exact absurd h1 nb
          · obtain ⟨e1, _⟩ := hok b _ z
            obtain ⟨e2, _⟩ := hok' b _ (un.frzs b so _ z)
            rw [e] at e1; cases e1
            exact e2
      have grown : ∀ p ∈ cs, ∃ more : Array Value, s'.heap.get? p.2 = some { cls := .none, data := .fields more } := fun p hp => by
        obtain ⟨more, z⟩ := un.tbls p.2 #[] (Ht _ (mem p hp))
        exact ⟨_, hok' p.2 _ z⟩
      refine ⟨rfl, ⟨fun b o e => ?_, fun b o e => ?_⟩, os, bare⟩
      · by_cases hb : b ∈ ta
        · obtain ⟨p, hp, rfl⟩ := mem' b hb
          obtain ⟨more, hm⟩ := grown p hp
          rw [tab p hp] at e; cases e
          exact .inr (.inl ⟨((cod p hp).tab (tab p hp)).isCodeTable, rfl, #[], more, rfl, by rw [Array.empty_append]; exact hm⟩)
        · exact .inl (old b o hb e)
      · by_cases hb : b ∈ ta
        · obtain ⟨p, hp, rfl⟩ := mem' b hb
          obtain ⟨more, hm⟩ := grown p hp
          exact ⟨_, hm⟩
        · exact ⟨o, old b o hb e⟩
end Ink
set_option Elab.async false
set_option linter.all false
set_option maxRecDepth 100000
namespace Ink
open PySem L2
theorem e_globI {X : Cx} {W : WX} {x : Str} {i : Int} {pos : Pos} (hg : Gl X x) (hm : ∃ t, X.mg x = some (.int i t)) (hd : (x == ("__debug__" : Str)) = false := by decide) : PE X (.Name x pos) (rE X.K W (cE (.int i))) := by
  obtain ⟨t, e⟩ := hm
  exact e_glob (v := .int i) hg e ⟨t, rfl⟩ (fun _ => .int i) hd
theorem e_globS {X : Cx} {W : WX} {x z : Str} {pos : Pos} (hg : Gl X x) (hm : ∃ t, X.mg x = some (.str z t)) (hd : (x == ("__debug__" : Str)) = false := by decide) : PE X (.Name x pos) (rE X.K W (cE (.str z))) := by
  obtain ⟨t, e⟩ := hm
  exact e_glob (v := .str z) hg e ⟨t, rfl⟩ (fun _ => .str z) hd
/-- a def that is called where no repr is under way -/
def FnG (P : Program) (w : World) (K : PySem.W.Frag) (mg : Str → Option Value) (base : Heap) (CX : CXT) (k : Nat) (f : Addr) (fd : FuncData) (ps : List Str) (sp : Sp) : Prop :=
  ∀ (A : Around) (outer : List Env) (s : Shared) (H : Hp) (args : Args) (us : List Value) (vs : List V) (Q : VK) (E : XK), A.guards = some [] → Room k A → Env0 P w K mg base A outer s H → BindsTo s fd args (ps.zip us) → Vals vs us → sp vs H Q E →
    codeAny (model P w) A (.call (.ref f) args) (CR CX outer P w H s Q E) s
/-- the law's own def: it makes lambdas, so its code object is told -/
theorem fn_mkO {P : Program} {w : World} {K : PySem.W.Frag} {mg : Str → Option Value} {base : Heap} {x qual : Str} {params : Arguments} {body : List Stmt} {scope : Scope} {f : Addr} {fd : FuncData} {N ps : List Str} {k np nl : Nat} {asg : List Nat} {fb : FS}
    (F : FunD K x qual params body scope [] [] f fd) (hf : f = He.ga K x) (S : FnScope N ps scope) (hN : N.length = np + nl) (hp : ps.length = np)
    (hb : ∀ (cdv : Value) (A : Around) (outer : List Env) (s : Shared) (H : Hp) (Ex : XK), cdv = .ref (He.codeOf K (x, none)) → A.guards = some [] → Room k (A.deeper (PyProof.Rows.envOfC qual scope s.heap.objs.size f cdv)) → PSs (cxOf (L2.CX P w) P w K mg base N qual scope f cdv A outer s H Ex) body (rS K (fun cls d _ H' => Ex cls d H') (pinsOf np asg) fb)) :
    FnG P w K mg base (L2.CX P w) (k + 1) f fd ps (spOf K (fnM np nl asg fb)) := by
  obtain ⟨oc, od, dV, kV, doc, pm, an, cdv, ct, osl, e1, lk, hc, _, _⟩ := F.ex
  subst e1
  obtain ⟨c, hc1⟩ := He.codeIn_ref hc
  have hco : cdv = .ref (He.codeOf K (x, none)) := by
    rw [hc1]
    subst hf
    rw [He.codeOf_eq (p := (x, none)) lk hc1]
  intro A outer s H args us vs Q E hg hr e0 hbd rv h
  have hl : vs.length = ps.length := by rw [(fn_body hN h).1, hp]
  exact LamX.run_ofS lk hc S hr e0 hbd rv hl fun hr' => ⟨_, hb cdv A outer s H E hco hg hr', (fn_body hN h).2⟩
/-- the law's promise from its mirror -/
theorem sp_law {K : PySem.W.Frag} {H : Hp} {a : Addr} {ns : List Int} {g : FP} {ms : E} (hg : g [.fz (.scr ns)] = some (.ok (.fz (.bl true)) ms)) (hT : ∀ p ∈ TL K, H p.1 = some (.tbl #[])) (hO : ∀ b ps, H b = some (.tbl ps) → ∃ p ∈ TL K, p.1 = b) (hS : SqL K H a (ns.map V.int)) : spOf K g [.ref a] H (fun v _ => v = .bl true) (fun _ _ _ => False) := by
  have tb : ∀ p ∈ TL K, LamX.TabS H p.1 p.2 := fun p hp => LamX.TabS.nil (hT p hp)
  have fin : ∀ F : Hp, Sub F H → (∀ b ps, F b ≠ some (.tbl ps)) → SqL K F a (ns.map V.int) → spOf K g [.ref a] H (fun v _ => v = .bl true) (fun _ _ _ => False) := fun F sF nF hF => by
    refine ⟨F, [.fz (.scr ns)], fun _ => [], ⟨sF, rfl, fun i m h => ?_, fun _ _ => rfl, (fun _ _ _ b hb => by cases hb), ⟨nF, tb, hO, fun p hp ps h pos cv hc => by
      rw [hT p hp] at h; cases h
      have z : codeAmong pos [] = some cv := hc
      simp [codeAmong] at z⟩⟩, ?_⟩
    · match i, h with
      | 0, h =>
        cases h
        exact ⟨.ref a, rfl, RepM.fz (.scr hF)⟩
      | i + 1, h => simp at h
    · rw [hg]
      exact fun v F' H' fps' fp R r _ _ => rep_bl (repm_fz r)
  rcases hS with h | h
  · refine fin (fun b => if b = a then H b else none) (fun b o e => ?_) (fun b ps e => ?_) (.inl ?_)
    · by_cases z : b = a
      · simp only [if_pos z] at e; exact e
      · simp only [if_neg z] at e; cases e
    · by_cases z : b = a
      · simp only [if_pos z] at e
        rw [z] at e
        rcases h with h | ⟨o, h⟩ <;> rw [h] at e <;> cases e
      · simp only [if_neg z] at e; cases e
    · rcases h with h | ⟨o, h⟩
      · exact .inl (by simp only [if_true]; exact h)
      · exact .inr ⟨o, by simp only [if_true]; exact h⟩
  · exact fin (fun _ => none) (fun b o e => by cases e) (fun b ps e => by cases e) (.inr h)
theorem walkT {l : PySem.W.OpenLaw} {n k : Nat} {q : Program} {loose : List Str} {XP : (Str → Option Value) → Heap → Prop} {YP : World → Heap → Prop} {d : DefRec} {CX : World → CXT} {x : Str} (hn : l.most = some n) (hn2 : n ≤ sizeLine) (hdf : d.params.defaults = []) (hr : Room k callerA)
    (F : ∀ (w : World) (mg : Str → Option Value) (fa : Addr) (h : Heap), YP w h → h.Ns PySem.mainGlobals mg → mg d.name = some (.ref fa) → ∃ (K : PySem.W.Frag) (fd : FuncData) (cs : List (Addr × Addr)) (sp : Sp), K.In h ∧ (∀ p ∈ cs, h.get? p.2 = some noTab) ∧ (∀ p ∈ cs, K.lookup p.2 = none) ∧ (∀ p ∈ cs, PySem.W.CodeHd h p.1 p.2) ∧
      (∀ (s : Shared) (u : Value), BindsTo s fd ⟨[u], []⟩ [(x, u)]) ∧ (∀ (H : Hp) (a : Addr) (ns : List Int), ns.length ≤ n → (∀ p ∈ cs, H p.2 = some (.tbl #[])) → (∀ b ps, H b = some (.tbl ps) → ∃ p ∈ cs, p.2 = b) → SqL K H a (ns.map V.int) → sp [.ref a] H (fun v _ => v = .bl true) fun _ _ _ => False) ∧ ∀ base : Heap, K.In base → base.Ns PySem.mainGlobals mg → (∀ p ∈ cs, LamX.TabB base mg p.1 p.2) → FnG l.prog w K mg base (CX w) k fa fd [x] sp)
    (hCX : ∀ (w : World) (H : Hp) (s : Shared) (e : Value) (s' : Shared), CX w [] H s (fun _ _ _ => False) e s' → False) : PySem.W.WalkO q loose XP YP l.row.toRowW d [] (fun f vs => PySem.call f vs) := by
  refine Att.attach_call hn hdf ?_
  intro w s0 s1 mg mb fa o pm cd doc a vs ns G Y _ _ _ hm hob hin hle hge
  have z := F w mg fa _ Y G.T.g hm
  obtain ⟨K, fd, cs, sp, kx, hT, nT, hC, hbd, hs, hf⟩ := z
  refine law_run kx G.T.g G.T.b G.T.builtins G.T.nolimit hge hT nT hC G.T.bmain hob hin (Nat.le_trans hle hn2) (fun base H kb nb tb hH hO hS e0 => ?_) fun H e s' => hCX w H s1 e s'
  exact hf base kb nb tb callerA [] s1 H ⟨[.ref a], []⟩ [.ref a] [.ref a] _ _ rfl hr e0 (hbd s1 (.ref a)) (.cons rfl .nil) (hs H a ns hle hH hO hS)
theorem noCX {P : Program} {w : World} {H : Hp} {s : Shared} {e : Value} {s' : Shared} (h : L2.CX P w [] H s (fun _ _ _ => False) e s') : False := by
  obtain ⟨_, _, _, _, _, _, _, _, _, _, _, _, z⟩ := h
  exact z
end Ink
set_option Elab.async false
set_option linter.all false
set_option maxRecDepth 100000
namespace Ink
open PySem L2
section
variable {X : Cx} {W : WX} {a b : Expr} {fa fb : FE} {pos : Pos} {g : FP}
theorem t_cmp {op : CmpOp} {r : R2} (ho : OpR X (compareOp op) r) (hp : Op2 X.K g r) (ha : PE X a (rE X.K W fa)) (hb : PE X b (rE X.K W fb)) (hm : behindInMarks op b = false) : PT X (.Compare a [op] [b] pos) (rT X.K W (tst (callE g (arg2 fa fb)))) :=
  PT_mono (pt_cmpR ho ha hb hm) fun σ H Q z => r_two hp σ H _ (r_tst σ H Q z)
theorem t_lt (ha : PE X a (rE X.K W fa)) (hb : PE X b (rE X.K W fb)) : PT X (.Compare a [.Lt] [b] pos) (rT X.K W (tst (callE ltG (arg2 fa fb)))) := t_cmp op_lt (op2_int0 fun i j F => .bl _) ha hb (nomark _)
theorem t_le (ha : PE X a (rE X.K W fa)) (hb : PE X b (rE X.K W fb)) : PT X (.Compare a [.LtE] [b] pos) (rT X.K W (tst (callE leG (arg2 fa fb)))) := t_cmp op_le (op2_int0 fun i j F => .bl _) ha hb (nomark _)
theorem t_gt (ha : PE X a (rE X.K W fa)) (hb : PE X b (rE X.K W fb)) : PT X (.Compare a [.Gt] [b] pos) (rT X.K W (tst (callE gtG (arg2 fa fb)))) := t_cmp op_gt (op2_int0 fun i j F => .bl _) ha hb (nomark _)
theorem t_ge (ha : PE X a (rE X.K W fa)) (hb : PE X b (rE X.K W fb)) : PT X (.Compare a [.GtE] [b] pos) (rT X.K W (tst (callE geG (arg2 fa fb)))) := t_cmp op_ge (op2_int0 fun i j F => .bl _) ha hb (nomark _)
theorem t_isN (ha : PE X a (rE X.K W fa)) (hb : PE X b (rE X.K W fb)) : PT X (.Compare a [.Is] [b] pos) (rT X.K W (tst (callE (g2 isNM) (arg2 fa fb)))) := t_cmp op_isN (fun x y H Q Ex p => by
  obtain ⟨F, a, b, m, fps, R, r1, r2, e, p⟩ := g2_at p
  unfold isNM at e
  split at e
  · cases e
    exact ⟨rep_non (repm_fz r2), sp_flat R (by rw [isNon_rep r1]; exact .bl _) p⟩
  · cases e) ha hb (nomark _)
theorem t_eq (hu : X.A.units + 64 < cLine) (ha : PE X a (rE X.K W fa)) (hb : PE X b (rE X.K W fb)) : PT X (.Compare a [.Eq] [b] pos) (rT X.K W (tst (callE (g2 eqM) (arg2 fa fb)))) := t_cmp (op_eq.or (op_eqD hu)) (fun x y H Q Ex p => by
  obtain ⟨F, a, b, m, fps, R, r1, r2, e, p⟩ := g2_at p
  unfold eqM at e
  cases ek : eqB a b with
  | none => rw [ek] at e; cases e
  | some k =>
    rw [ek] at e; cases e
    have q := sp_flat R (Rep.bl k) p
    rcases eqB_at R.fr r1 r2 ek with ⟨h, rfl⟩ | ⟨d, e, h1, h2, h3, h4, rfl⟩
    · exact .inl ⟨h, q⟩
    · exact .inr ⟨d, e, h1, h2, h3, h4, q⟩) ha hb (nomark _)
theorem t_ne (hu : X.A.units + 64 < cLine) (ha : PE X a (rE X.K W fa)) (hb : PE X b (rE X.K W fb)) : PT X (.Compare a [.NotEq] [b] pos) (rT X.K W (tst (callE (g2 neM) (arg2 fa fb)))) := t_cmp (op_ne.or (op_neD hu)) (fun x y H Q Ex p => by
  obtain ⟨F, a, b, m, fps, R, r1, r2, e, p⟩ := g2_at p
  unfold neM at e
  cases ek : eqB a b with
  | none => rw [ek] at e; cases e
  | some k =>
    rw [ek] at e; cases e
    have q := sp_flat R (Rep.bl (!k)) p
    rcases eqB_at R.fr r1 r2 ek with ⟨h, rfl⟩ | ⟨d, e, h1, h2, h3, h4, rfl⟩
    · exact .inl ⟨h, q⟩
    · exact .inr ⟨d, e, h1, h2, h3, h4, q⟩) ha hb (nomark _)
end
end Ink
set_option Elab.async false
set_option linter.all false
set_option maxRecDepth 100000
namespace Ink
open PySem L2
def kSeq (g : FS) (o : Option Fl) : Option Fl := match o with
  | some (.nx env1) => g env1
  | o => o
@[simp] theorem kSeq_nx {g : FS} {env1 : E} : kSeq g (some (.nx env1)) = g env1 := (rfl)
@[simp] theorem kSeq_rt {g : FS} {m : M} {env1 : E} : kSeq g (some (.rt m env1)) = some (.rt m env1) := (rfl)
@[simp] theorem kSeq_bk {g : FS} {env1 : E} : kSeq g (some (.bk env1)) = some (.bk env1) := (rfl)
@[simp] theorem kSeq_ct {g : FS} {env1 : E} : kSeq g (some (.ct env1)) = some (.ct env1) := (rfl)
@[simp] theorem kSeq_ex {g : FS} {x : Xc} {env1 : E} : kSeq g (some (.ex x env1)) = some (.ex x env1) := (rfl)
@[simp] theorem ev_seqS {env : E} {f g : FS} : seqS f g env = kSeq g (f env) := (rfl)
@[simp] theorem ev_skip {env : E} : skipS env = some (.nx env) := (rfl)
def kIf (f : FS) (g : FS) (o : Option (Out Bool)) : Option Fl := match o with
  | some (.ok true env1) => f env1
  | some (.ok false env1) => g env1
  | some (.ex x env1) => some (.ex x env1)
  | _ => none
@[simp] theorem kIf_0 {f : FS} {g : FS} {env1 : E} : kIf f g (some (.ok true env1)) = f env1 := (rfl)
@[simp] theorem kIf_1 {f : FS} {g : FS} {env1 : E} : kIf f g (some (.ok false env1)) = g env1 := (rfl)
@[simp] theorem kIf_2 {f : FS} {g : FS} {x : Xc} {env1 : E} : kIf f g (some (.ex x env1)) = some (.ex x env1) := (rfl)
@[simp] theorem ev_ifS {env : E} {c : FT} {f g : FS} : ifS c f g env = kIf f g (c env) := by
  unfold ifS kIf
  cases c env with
  | none => rfl
  | some o => cases o with
    | ok b e => cases b <;> rfl
    | ex x e => rfl
def kRet  (o : Option (Out Av)) : Option Fl := match o with
  | some (.ok (.tm m) env1) => some (.rt m env1)
  | some (.ex x env1) => some (.ex x env1)
  | _ => none
@[simp] theorem kRet_0  {m : M} {env1 : E} : kRet  (some (.ok (.tm m) env1)) = some (.rt m env1) := (rfl)
@[simp] theorem kRet_1  {x : Xc} {env1 : E} : kRet  (some (.ex x env1)) = some (.ex x env1) := (rfl)
@[simp] theorem ev_retS {env : E} {f : FE} : retS f env = kRet (f env) := by
  unfold retS kRet
  cases f env with
  | none => rfl
  | some o => cases o with
    | ok a e => cases a <;> rfl
    | ex x e => rfl
@[simp] theorem ev_retV {env : E} {i : Nat} : retV i env = match env[i]? with
  | some (some m) => some (.rt m (env.set i none))
  | _ => none := (rfl)
@[simp] theorem ev_retN {env : E} : retN env = some (.rt (.fz .non) env) := (rfl)
def kExp  (o : Option (Out Av)) : Option Fl := match o with
  | some (.ok a env1) => some (.nx env1)
  | some (.ex x env1) => some (.ex x env1)
  | _ => none
@[simp] theorem kExp_0  {a : Av} {env1 : E} : kExp  (some (.ok a env1)) = some (.nx env1) := (rfl)
@[simp] theorem kExp_1  {x : Xc} {env1 : E} : kExp  (some (.ex x env1)) = some (.ex x env1) := (rfl)
@[simp] theorem ev_exprS {env : E} {f : FE} : exprS f env = kExp (f env) := by
  unfold exprS kExp bindS
  cases f env with
  | none => rfl
  | some o => cases o <;> rfl
def kSt  (o : Option E) : Option Fl := match o with
  | some env1 => some (.nx env1)
  | _ => none
@[simp] theorem kSt_0  {env1 : E} : kSt  (some env1) = some (.nx env1) := (rfl)
def kAsg (g : FG) (o : Option (Out Av)) : Option Fl := match o with
  | some (.ok (.tm m) env1) => kSt (g m env1)
  | some (.ex x env1) => some (.ex x env1)
  | _ => none
@[simp] theorem kAsg_0 {g : FG} {m : M} {env1 : E} : kAsg g (some (.ok (.tm m) env1)) = kSt (g m env1) := (rfl)
@[simp] theorem kAsg_1 {g : FG} {x : Xc} {env1 : E} : kAsg g (some (.ex x env1)) = some (.ex x env1) := (rfl)
@[simp] theorem ev_asgS {env : E} {f : FE} {g : FG} : asgS f g env = kAsg g (f env) := by
  unfold asgS kAsg bindS
  cases f env with
  | none => rfl
  | some o => cases o with
    | ok a e => cases a with
      | tm m => simp only []; unfold kSt; cases g m e <;> rfl
      | sl i => rfl
    | ex x e => rfl
@[simp] theorem ev_nmG {env : E} {i : Nat} {m : M} : nmG i m env = some (env.set i (some m)) := (rfl)
@[simp] theorem ev_tupG {env : E} {gs : List FG} {ds : List D} : tupG gs (.fz (.tup ds)) env = eachG gs (ds.map M.fz) env := (rfl)
@[simp] theorem ev_tupG2 {env : E} {gs : List FG} {ds : List M} : tupG gs (.tup ds) env = eachG gs ds env := (rfl)
def kEach (gs : List FG) (ds : List M) (o : Option E) : Option E := match o with
  | some env1 => eachG gs ds env1
  | none => none
@[simp] theorem kEach_0 {gs : List FG} {ds : List M} {env1 : E} : kEach gs ds (some env1) = eachG gs ds env1 := (rfl)
@[simp] theorem ev_each0 {env : E} : eachG [] [] env = some env := (rfl)
@[simp] theorem ev_each1 {env : E} {g : FG} {gs : List FG} {d : M} {ds : List M} : eachG (g :: gs) (d :: ds) env = kEach gs ds (g d env) := by
  rw [eachG]
  unfold kEach
  cases g d env <;> rfl
@[simp] theorem ev_cE {env : E} {d : D} : cE d env = some (.ok (.tm (.fz d)) env) := (rfl)
@[simp] theorem ev_vE {env : E} {i : Nat} : vE i env = match env[i]? with
  | some (some _) => some (.ok (.sl i) env)
  | _ => none := (rfl)
@[simp] theorem ev_take1 {env : E} {m : M} : takeA (.tm m) env = some (m, env) := (rfl)
def kTk2 (i : Nat) (env : E) (o : Option D) : Option (M × E) := match o with
  | some d => some (.fz d, env.set i (some (.fz d)))
  | none => none
@[simp] theorem kTk2_0 {i : Nat} {env : E} {d : D} : kTk2 i env (some d) = some (.fz d, env.set i (some (.fz d))) := (rfl)
@[simp] theorem ev_take2 {env : E} {i : Nat} : takeA (.sl i) env = match env[i]? with
    | some (some m) => kTk2 i env (frz m)
    | _ => none := by
  unfold takeA kTk2
  rfl
def kTk1 (o : Option (M × E)) : Option (Out Av) := match o with
  | some (m, env2) => some (.ok (.tm m) env2)
  | none => none
@[simp] theorem kTk1_0 {m : M} {env2 : E} : kTk1 (some (m, env2)) = some (.ok (.tm m) env2) := (rfl)
def kTk  (o : Option (Out Av)) : Option (Out Av) := match o with
  | some (.ok a env1) => kTk1 (takeA a env1)
  | some (.ex x env1) => some (.ex x env1)
  | _ => none
@[simp] theorem kTk_0  {a : Av} {env1 : E} : kTk  (some (.ok a env1)) = kTk1 (takeA a env1) := (rfl)
@[simp] theorem kTk_1  {x : Xc} {env1 : E} : kTk  (some (.ex x env1)) = some (.ex x env1) := (rfl)
@[simp] theorem ev_tk {env : E} {f : FE} : tk f env = kTk (f env) := by
  unfold tk kTk bindO
  cases f env with
  | none => rfl
  | some o => cases o <;> rfl
@[simp] theorem ev_nilA {env : E} : nilA env = some (.ok [] env) := (rfl)
def kCn2 (a : Av) (o : Option (Out (List Av))) : Option (Out (List Av)) := match o with
  | some (.ok as env1) => some (.ok (a :: as) env1)
  | some (.ex x env1) => some (.ex x env1)
  | _ => none
@[simp] theorem kCn2_0 {a : Av} {as : List Av} {env1 : E} : kCn2 a (some (.ok as env1)) = some (.ok (a :: as) env1) := (rfl)
@[simp] theorem kCn2_1 {a : Av} {x : Xc} {env1 : E} : kCn2 a (some (.ex x env1)) = some (.ex x env1) := (rfl)
def kCn (g : FA) (o : Option (Out Av)) : Option (Out (List Av)) := match o with
  | some (.ok a env1) => kCn2 a (g env1)
  | some (.ex x env1) => some (.ex x env1)
  | _ => none
@[simp] theorem kCn_0 {g : FA} {a : Av} {env1 : E} : kCn g (some (.ok a env1)) = kCn2 a (g env1) := (rfl)
@[simp] theorem kCn_1 {g : FA} {x : Xc} {env1 : E} : kCn g (some (.ex x env1)) = some (.ex x env1) := (rfl)
@[simp] theorem ev_consA {env : E} {f : FE} {g : FA} : consA f g env = kCn g (f env) := by
  unfold consA kCn bindO
  cases f env with
  | none => rfl
  | some o => cases o with
    | ok a e => simp only []; unfold kCn2; cases g e with
      | none => rfl
      | some o => cases o <;> rfl
    | ex x e => rfl
def kRn (as : List Av) (env : E) (o : Option OutP) : Option (Out Av) := match o with
  | some (.ok m ms) => some (.ok (.tm m) (back env as ms))
  | some (.ex x ms) => some (.ex x (back env as ms))
  | _ => none
@[simp] theorem kRn_0 {as : List Av} {env : E} {m : M} {ms : E} : kRn as env (some (.ok m ms)) = some (.ok (.tm m) (back env as ms)) := (rfl)
@[simp] theorem kRn_1 {as : List Av} {env : E} {x : Xc} {ms : E} : kRn as env (some (.ex x ms)) = some (.ex x (back env as ms)) := (rfl)
def kRb (g : FP) (as : List Av) (env : E) (ms : List M) (b : Bool) : Option (Out Av) := match b with
  | true => kRn as env (g ms)
  | false => none
@[simp] theorem kRb_0 {g : FP} {as : List Av} {env : E} {ms : List M} : kRb g as env ms true = kRn as env (g ms) := (rfl)
def kRm (g : FP) (as : List Av) (env : E) (o : Option (List M)) : Option (Out Av) := match o with
  | some ms => kRb g as env ms (okA env as)
  | none => none
@[simp] theorem kRm_0 {g : FP} {as : List Av} {env : E} {ms : List M} : kRm g as env (some ms) = kRb g as env ms (okA env as) := (rfl)
@[simp] theorem ev_runP {env : E} {g : FP} {as : List Av} : runP g as env = kRm g as env (res env as) := by
  unfold runP kRm
  cases res env as with
  | none => rfl
  | some ms =>
    simp only []
    unfold kRb
    cases okA env as with
    | false => rfl
    | true => simp only []; unfold kRn; cases g ms with
      | none => rfl
      | some o => cases o <;> rfl
def kCall (g : FP) (o : Option (Out (List Av))) : Option (Out Av) := match o with
  | some (.ok as env1) => runP g as env1
  | some (.ex x env1) => some (.ex x env1)
  | _ => none
@[simp] theorem kCall_0 {g : FP} {as : List Av} {env1 : E} : kCall g (some (.ok as env1)) = runP g as env1 := (rfl)
@[simp] theorem kCall_1 {g : FP} {x : Xc} {env1 : E} : kCall g (some (.ex x env1)) = some (.ex x env1) := (rfl)
@[simp] theorem ev_callE {env : E} {g : FP} {fa : FA} : callE g fa env = kCall g (fa env) := by
  unfold callE kCall bindO
  cases fa env with
  | none => rfl
  | some o => cases o <;> rfl
def kRs (m : M) (o : Option (List M)) : Option (List M) := match o with
  | some ms => some (m :: ms)
  | none => none
@[simp] theorem kRs_0 {m : M} {ms : List M} : kRs m (some ms) = some (m :: ms) := (rfl)
@[simp] theorem ev_res0 {env : E} : res env [] = some [] := (rfl)
@[simp] theorem ev_res1 {env : E} {m : M} {r : List Av} : res env (.tm m :: r) = kRs m (res env r) := (rfl)
@[simp] theorem ev_res2 {env : E} {i : Nat} {r : List Av} : res env (.sl i :: r) = match env[i]? with
    | some (some m) => kRs m (res env r)
    | _ => none := (rfl)
@[simp] theorem ev_okA0 {env : E} : okA env [] = true := (rfl)
@[simp] theorem ev_okA1 {env : E} {m : M} {r : List Av} : okA env (.tm m :: r) = okA env r := (rfl)
@[simp] theorem ev_okA2 {env : E} {i : Nat} {r : List Av} : okA env (.sl i :: r) = ((match env[i]? with
    | some (some m) => isFz m || !hasSl i r
    | _ => false) && okA env r) := (rfl)
@[simp] theorem ev_isFz {d : D} : isFz (.fz d) = true := (rfl)
@[simp] theorem ev_isFzL {ms : List M} : isFz (.lst ms) = false := (rfl)
@[simp] theorem ev_hs0 {i : Nat} : hasSl i [] = false := (rfl)
@[simp] theorem ev_hs1 {i : Nat} {m : M} {r : List Av} : hasSl i (.tm m :: r) = hasSl i r := (rfl)
@[simp] theorem ev_hs2 {i j : Nat} {r : List Av} : hasSl i (.sl j :: r) = ((j == i) || hasSl i r) := (rfl)
@[simp] theorem ev_back0 {env ms : E} : back env [] ms = env := by cases ms <;> rfl
@[simp] theorem ev_back1 {env : E} {m : M} {r : List Av} {o : Option M} {ms : E} : back env (.tm m :: r) (o :: ms) = back env r ms := (rfl)
@[simp] theorem ev_back2 {env : E} {i : Nat} {r : List Av} {o : Option M} {ms : E} : back env (.sl i :: r) (o :: ms) = back (env.set i o) r ms := (rfl)
def kG (xs : E) (o : Option M) : Option OutP := match o with
  | some m => some (.ok m xs)
  | none => none
@[simp] theorem kG_0 {xs : E} {m : M} : kG xs (some m) = some (.ok m xs) := (rfl)
@[simp] theorem ev_g1 {h : M → Option M} {a : M} : g1 h [a] = kG [some a] (h a) := (rfl)
@[simp] theorem ev_g2 {h : M → M → Option M} {a b : M} : g2 h [a, b] = kG [some a, some b] (h a b) := (rfl)
@[simp] theorem ev_boolA1 {env : E} {b : Bool} : boolA (.tm (.fz (.bl b))) env = some b := (rfl)
@[simp] theorem ev_boolA2 {env : E} {i : Nat} : boolA (.sl i) env = match env[i]? with
    | some (some (.fz (.bl b))) => some b
    | _ => none := (rfl)
def kT1 (env : E) (o : Option Bool) : Option (Out Bool) := match o with
  | some b => some (.ok b env)
  | none => none
@[simp] theorem kT1_0 {env : E} {b : Bool} : kT1 env (some b) = some (.ok b env) := (rfl)
def kT  (o : Option (Out Av)) : Option (Out Bool) := match o with
  | some (.ok a env1) => kT1 env1 (boolA a env1)
  | some (.ex x env1) => some (.ex x env1)
  | _ => none
@[simp] theorem kT_0  {a : Av} {env1 : E} : kT  (some (.ok a env1)) = kT1 env1 (boolA a env1) := (rfl)
@[simp] theorem kT_1  {x : Xc} {env1 : E} : kT  (some (.ex x env1)) = some (.ex x env1) := (rfl)
@[simp] theorem ev_tst {env : E} {f : FE} : tst f env = kT (f env) := by
  unfold tst kT bindO
  cases f env with
  | none => rfl
  | some o => cases o <;> rfl
def kAndT (g : FT) (o : Option (Out Bool)) : Option (Out Bool) := match o with
  | some (.ok true env1) => g env1
  | some (.ok false env1) => some (.ok false env1)
  | some (.ex x env1) => some (.ex x env1)
  | _ => none
@[simp] theorem kAndT_0 {g : FT} {env1 : E} : kAndT g (some (.ok true env1)) = g env1 := (rfl)
@[simp] theorem kAndT_1 {g : FT} {env1 : E} : kAndT g (some (.ok false env1)) = some (.ok false env1) := (rfl)
@[simp] theorem kAndT_2 {g : FT} {x : Xc} {env1 : E} : kAndT g (some (.ex x env1)) = some (.ex x env1) := (rfl)
@[simp] theorem ev_andT {env : E} {f : FT} {g : FT} : andT f g env = kAndT g (f env) := by
  unfold andT kAndT bindO
  cases f env with
  | none => rfl
  | some o => cases o with
    | ok b e => cases b <;> rfl
    | ex x e => rfl
def kOrT (g : FT) (o : Option (Out Bool)) : Option (Out Bool) := match o with
  | some (.ok true env1) => some (.ok true env1)
  | some (.ok false env1) => g env1
  | some (.ex x env1) => some (.ex x env1)
  | _ => none
@[simp] theorem kOrT_0 {g : FT} {env1 : E} : kOrT g (some (.ok true env1)) = some (.ok true env1) := (rfl)
@[simp] theorem kOrT_1 {g : FT} {env1 : E} : kOrT g (some (.ok false env1)) = g env1 := (rfl)
@[simp] theorem kOrT_2 {g : FT} {x : Xc} {env1 : E} : kOrT g (some (.ex x env1)) = some (.ex x env1) := (rfl)
@[simp] theorem ev_orT {env : E} {f : FT} {g : FT} : orT f g env = kOrT g (f env) := by
  unfold orT kOrT bindO
  cases f env with
  | none => rfl
  | some o => cases o with
    | ok b e => cases b <;> rfl
    | ex x e => rfl
def kNotT  (o : Option (Out Bool)) : Option (Out Bool) := match o with
  | some (.ok true env1) => some (.ok false env1)
  | some (.ok false env1) => some (.ok true env1)
  | some (.ex x env1) => some (.ex x env1)
  | _ => none
@[simp] theorem kNotT_0  {env1 : E} : kNotT  (some (.ok true env1)) = some (.ok false env1) := (rfl)
@[simp] theorem kNotT_1  {env1 : E} : kNotT  (some (.ok false env1)) = some (.ok true env1) := (rfl)
@[simp] theorem kNotT_2  {x : Xc} {env1 : E} : kNotT  (some (.ex x env1)) = some (.ex x env1) := (rfl)
@[simp] theorem ev_notT {env : E} {f : FT} : notT f env = kNotT  (f env) := by
  unfold notT kNotT bindO
  cases f env with
  | none => rfl
  | some o => cases o with
    | ok b e => cases b <;> rfl
    | ex x e => rfl
def kIfE (fa : FE) (fb : FE) (o : Option (Out Bool)) : Option (Out Av) := match o with
  | some (.ok true env1) => fa env1
  | some (.ok false env1) => fb env1
  | some (.ex x env1) => some (.ex x env1)
  | _ => none
@[simp] theorem kIfE_0 {fa : FE} {fb : FE} {env1 : E} : kIfE fa fb (some (.ok true env1)) = fa env1 := (rfl)
@[simp] theorem kIfE_1 {fa : FE} {fb : FE} {env1 : E} : kIfE fa fb (some (.ok false env1)) = fb env1 := (rfl)
@[simp] theorem kIfE_2 {fa : FE} {fb : FE} {x : Xc} {env1 : E} : kIfE fa fb (some (.ex x env1)) = some (.ex x env1) := (rfl)
@[simp] theorem ev_ifE {env : E} {c : FT} {fa : FE} {fb : FE} : ifE c fa fb env = kIfE fa fb (c env) := by
  unfold ifE kIfE bindO
  cases c env with
  | none => rfl
  | some o => cases o with
    | ok b e => cases b <;> rfl
    | ex x e => rfl
@[simp] theorem ev_intA1 {env : E} {i : Int} : intA (.tm (.fz (.int i))) env = some i := (rfl)
@[simp] theorem ev_intA2 {env : E} {k : Nat} : intA (.sl k) env = match env[k]? with
    | some (some (.fz (.int i))) => some i
    | _ => none := (rfl)
@[simp] theorem ev_resA1 {env : E} {m : M} : resA env (.tm m) = some m := (rfl)
@[simp] theorem ev_resA2 {env : E} {i : Nat} : resA env (.sl i) = match env[i]? with
    | some (some m) => some m
    | _ => none := (rfl)
def kOk (m : M) (b : Bool) : Option M := match b with
  | true => some m
  | false => none
@[simp] theorem kOk_0 {m : M} : kOk m true = some m := (rfl)
@[simp] theorem ev_intM {c : Int → Int → Bool} {f : Int → Int → D} {i j : Int} : intM c f (.fz (.int i)) (.fz (.int j)) = kOk (.fz (f i j)) (c i j) := (rfl)
def kFor (g : FG) (fb : FS) (o : Option (Out (List D))) : Option Fl := match o with
  | some (.ok ds env1) => loopD g fb ds env1
  | some (.ex x env1) => some (.ex x env1)
  | _ => none
@[simp] theorem kFor_0 {g : FG} {fb : FS} {ds : List D} {env1 : E} : kFor g fb (some (.ok ds env1)) = loopD g fb ds env1 := (rfl)
@[simp] theorem kFor_1 {g : FG} {fb : FS} {x : Xc} {env1 : E} : kFor g fb (some (.ex x env1)) = some (.ex x env1) := (rfl)
@[simp] theorem ev_forS {env : E} {fi : FI} {g : FG} {fb : FS} : forS fi g fb env = kFor g fb (fi env) := by
  unfold forS kFor bindS
  cases fi env with
  | none => rfl
  | some o => cases o <;> rfl
def kR1 (env : E) (o : Option Int) : Option (Out (List D)) := match o with
  | some n => if fits n then some (.ok (rangeD 0 n) env) else none
  | none => none
@[simp] theorem kR1_0 {env : E} {n : Int} : kR1 env (some n) = if fits n then some (.ok (rangeD 0 n) env) else none := (rfl)
def kR  (o : Option (Out Av)) : Option (Out (List D)) := match o with
  | some (.ok a env1) => kR1 env1 (intA a env1)
  | some (.ex x env1) => some (.ex x env1)
  | _ => none
@[simp] theorem kR_0  {a : Av} {env1 : E} : kR  (some (.ok a env1)) = kR1 env1 (intA a env1) := (rfl)
@[simp] theorem kR_1  {x : Xc} {env1 : E} : kR  (some (.ex x env1)) = some (.ex x env1) := (rfl)
@[simp] theorem ev_rng1 {env : E} {f : FE} : rng1 f env = kR (f env) := by
  unfold rng1 kR bindO
  cases f env with
  | none => rfl
  | some o => cases o <;> rfl
def kR2c (env : E) (o p : Option Int) : Option (Out (List D)) := match o, p with
  | some i, some j => if fits i && fits j then some (.ok (rangeD i j) env) else none
  | _, _ => none
@[simp] theorem kR2c_0 {env : E} {i j : Int} : kR2c env (some i) (some j) = if fits i && fits j then some (.ok (rangeD i j) env) else none := (rfl)
def kR2b (a : Av) (o : Option (Out Av)) : Option (Out (List D)) := match o with
  | some (.ok b env1) => kR2c env1 (intA a env1) (intA b env1)
  | some (.ex x env1) => some (.ex x env1)
  | _ => none
@[simp] theorem kR2b_0 {a : Av} {b : Av} {env1 : E} : kR2b a (some (.ok b env1)) = kR2c env1 (intA a env1) (intA b env1) := (rfl)
@[simp] theorem kR2b_1 {a : Av} {x : Xc} {env1 : E} : kR2b a (some (.ex x env1)) = some (.ex x env1) := (rfl)
def kR2 (g : FE) (o : Option (Out Av)) : Option (Out (List D)) := match o with
  | some (.ok a env1) => kR2b a (g env1)
  | some (.ex x env1) => some (.ex x env1)
  | _ => none
@[simp] theorem kR2_0 {g : FE} {a : Av} {env1 : E} : kR2 g (some (.ok a env1)) = kR2b a (g env1) := (rfl)
@[simp] theorem kR2_1 {g : FE} {x : Xc} {env1 : E} : kR2 g (some (.ex x env1)) = some (.ex x env1) := (rfl)
@[simp] theorem ev_rng2 {env : E} {f g : FE} : rng2 f g env = kR2 g (f env) := by
  unfold rng2 kR2 bindO
  cases f env with
  | none => rfl
  | some o => cases o with
    | ok a e => simp only []; unfold kR2b; cases g e with
      | none => rfl
      | some o => cases o with
        | ok b e2 => simp only []; unfold kR2c; cases intA a e2 <;> cases intA b e2 <;> rfl
        | ex x e2 => rfl
    | ex x e => rfl
def kOv1 (env : E) (o : Option (List D)) : Option (Out (List D)) := match o with
  | some ds => some (.ok ds env)
  | none => none
@[simp] theorem kOv1_0 {env : E} {ds : List D} : kOv1 env (some ds) = some (.ok ds env) := (rfl)
def kOv (it : M → Option (List D)) (o : Option (Out Av)) : Option (Out (List D)) := match o with
  | some (.ok (.tm m) env1) => kOv1 env1 (it m)
  | some (.ex x env1) => some (.ex x env1)
  | _ => none
@[simp] theorem kOv_0 {it : M → Option (List D)} {m : M} {env1 : E} : kOv it (some (.ok (.tm m) env1)) = kOv1 env1 (it m) := (rfl)
@[simp] theorem kOv_1 {it : M → Option (List D)} {x : Xc} {env1 : E} : kOv it (some (.ex x env1)) = some (.ex x env1) := (rfl)
@[simp] theorem ev_overE {env : E} {it : M → Option (List D)} {f : FE} : overE it f env = kOv it (tk f env) := by
  unfold overE kOv bindO
  cases tk f env with
  | none => rfl
  | some o => cases o with
    | ok a e => cases a with
      | tm m => simp only []; unfold kOv1; cases it m <;> rfl
      | sl i => rfl
    | ex x e => rfl
def kCo1 (o : Option (List M × E)) : Option (Out Av) := match o with
  | some (ms, env2) => some (.ok (.tm (.lst ms)) env2)
  | none => none
@[simp] theorem kCo1_0 {ms : List M} {env2 : E} : kCo1 (some (ms, env2)) = some (.ok (.tm (.lst ms)) env2) := (rfl)
def kCo (g : FG) (ft : FT) (fe : FE) (own : List Nat) (o : Option (Out (List D))) : Option (Out Av) := match o with
  | some (.ok ds env1) => if ds.length ≤ sizeLine then kCo1 (compD g ft fe own ds (wipeE env1 own)) else none
  | some (.ex x env1) => some (.ex x env1)
  | _ => none
@[simp] theorem kCo_0 {g : FG} {ft : FT} {fe : FE} {own : List Nat} {ds : List D} {env1 : E} : kCo g ft fe own (some (.ok ds env1)) = if ds.length ≤ sizeLine then kCo1 (compD g ft fe own ds (wipeE env1 own)) else none := (rfl)
@[simp] theorem kCo_1 {g : FG} {ft : FT} {fe : FE} {own : List Nat} {x : Xc} {env1 : E} : kCo g ft fe own (some (.ex x env1)) = some (.ex x env1) := (rfl)
@[simp] theorem ev_compE {env : E} {fi : FI} {g : FG} {ft : FT} {fe : FE} {own : List Nat} : compE fi g ft fe own env = kCo g ft fe own (fi env) := by
  unfold compE kCo bindO
  cases fi env with
  | none => rfl
  | some o => cases o with
    | ok ds e =>
      simp only []
      unfold kCo1
      split
      · cases compD g ft fe own ds (wipeE e own) <;> rfl
      · rfl
    | ex x e => rfl
@[simp] theorem ev_wipe0 {env : E} : wipeE env [] = env := (rfl)
@[simp] theorem ev_wipe1 {env : E} {v : Nat} {vs : List Nat} : wipeE env (v :: vs) = (wipeE env vs).set v none := (rfl)
@[simp] theorem ev_yesT {env : E} : yesT env = some (.ok true env) := (rfl)
@[simp] theorem ev_tms0 : tms [] = some [] := (rfl)
@[simp] theorem ev_tms1 {m : M} {r : List Av} : tms (.tm m :: r) = kRs m (tms r) := (rfl)
def kLs1 (env : E) (o : Option (List M)) : Option (Out Av) := match o with
  | some ms => if ms.length ≤ sizeLine then some (.ok (.tm (.lst ms)) env) else none
  | none => none
@[simp] theorem kLs1_0 {env : E} {ms : List M} : kLs1 env (some ms) = if ms.length ≤ sizeLine then some (.ok (.tm (.lst ms)) env) else none := (rfl)
def kLs  (o : Option (Out (List Av))) : Option (Out Av) := match o with
  | some (.ok as env1) => kLs1 env1 (tms as)
  | some (.ex x env1) => some (.ex x env1)
  | _ => none
@[simp] theorem kLs_0  {as : List Av} {env1 : E} : kLs  (some (.ok as env1)) = kLs1 env1 (tms as) := (rfl)
@[simp] theorem kLs_1  {x : Xc} {env1 : E} : kLs  (some (.ex x env1)) = some (.ex x env1) := (rfl)
@[simp] theorem ev_lstE {env : E} {fa : FA} : lstE fa env = kLs (fa env) := by
  unfold lstE kLs bindO
  cases fa env with
  | none => rfl
  | some o => cases o <;> rfl
def kTu2 (env : E) (ms : List M) (o : Option (List D)) : Option (Out Av) := match o with
  | some ds => if ds.length ≤ sizeLine then some (.ok (.tm (.fz (.tup ds))) env) else none
  | none => if ms.length ≤ sizeLine then some (.ok (.tm (.tup ms)) env) else none
@[simp] theorem kTu2_0 {env : E} {ms : List M} {ds : List D} : kTu2 env ms (some ds) = if ds.length ≤ sizeLine then some (.ok (.tm (.fz (.tup ds))) env) else none := (rfl)
@[simp] theorem kTu2_1 {env : E} {ms : List M} : kTu2 env ms none = if ms.length ≤ sizeLine then some (.ok (.tm (.tup ms)) env) else none := (rfl)
def kTu1 (env : E) (o : Option (List M)) : Option (Out Av) := match o with
  | some ms => kTu2 env ms (unfz ms)
  | none => none
@[simp] theorem kTu1_0 {env : E} {ms : List M} : kTu1 env (some ms) = kTu2 env ms (unfz ms) := (rfl)
def kTu  (o : Option (Out (List Av))) : Option (Out Av) := match o with
  | some (.ok as env1) => kTu1 env1 (tms as)
  | some (.ex x env1) => some (.ex x env1)
  | _ => none
@[simp] theorem kTu_0  {as : List Av} {env1 : E} : kTu  (some (.ok as env1)) = kTu1 env1 (tms as) := (rfl)
@[simp] theorem kTu_1  {x : Xc} {env1 : E} : kTu  (some (.ex x env1)) = some (.ex x env1) := (rfl)
@[simp] theorem ev_tupE {env : E} {fa : FA} : tupE fa env = kTu (fa env) := by
  unfold tupE kTu bindO
  cases fa env with
  | none => rfl
  | some o => cases o <;> rfl
def kAnd1 (fb : FE) (env1 : E) (o : Option Bool) : Option (Out Av) := match o with
  | some true => fb env1
  | some false => some (.ok (.tm (.fz (.bl false))) env1)
  | none => none
@[simp] theorem kAnd1_0 {fb : FE} {env1 : E} : kAnd1 fb env1 (some true) = fb env1 := (rfl)
@[simp] theorem kAnd1_1 {fb : FE} {env1 : E} : kAnd1 fb env1 (some false) = some (.ok (.tm (.fz (.bl false))) env1) := (rfl)
def kAnd (fb : FE) (o : Option (Out Av)) : Option (Out Av) := match o with
  | some (.ok a env1) => kAnd1 fb env1 (boolA a env1)
  | some (.ex x env1) => some (.ex x env1)
  | _ => none
@[simp] theorem kAnd_0 {fb : FE} {a : Av} {env1 : E} : kAnd fb (some (.ok a env1)) = kAnd1 fb env1 (boolA a env1) := (rfl)
@[simp] theorem kAnd_1 {fb : FE} {x : Xc} {env1 : E} : kAnd fb (some (.ex x env1)) = some (.ex x env1) := (rfl)
@[simp] theorem ev_andE {env : E} {fa fb : FE} : andE fa fb env = kAnd fb (fa env) := by
  unfold andE kAnd bindO
  cases fa env with
  | none => rfl
  | some o => cases o with
    | ok a e => simp only []; unfold kAnd1; rfl
    | ex x e => rfl
def kOr1 (fb : FE) (env1 : E) (o : Option Bool) : Option (Out Av) := match o with
  | some true => some (.ok (.tm (.fz (.bl true))) env1)
  | some false => fb env1
  | none => none
@[simp] theorem kOr1_0 {fb : FE} {env1 : E} : kOr1 fb env1 (some true) = some (.ok (.tm (.fz (.bl true))) env1) := (rfl)
@[simp] theorem kOr1_1 {fb : FE} {env1 : E} : kOr1 fb env1 (some false) = fb env1 := (rfl)
def kOr (fb : FE) (o : Option (Out Av)) : Option (Out Av) := match o with
  | some (.ok a env1) => kOr1 fb env1 (boolA a env1)
  | some (.ex x env1) => some (.ex x env1)
  | _ => none
@[simp] theorem kOr_0 {fb : FE} {a : Av} {env1 : E} : kOr fb (some (.ok a env1)) = kOr1 fb env1 (boolA a env1) := (rfl)
@[simp] theorem kOr_1 {fb : FE} {x : Xc} {env1 : E} : kOr fb (some (.ex x env1)) = some (.ex x env1) := (rfl)
@[simp] theorem ev_orE {env : E} {fa fb : FE} : orE fa fb env = kOr fb (fa env) := by
  unfold orE kOr bindO
  cases fa env with
  | none => rfl
  | some o => cases o with
    | ok a e => simp only []; unfold kOr1; rfl
    | ex x e => rfl
def kNo1 (env1 : E) (o : Option Bool) : Option (Out Av) := match o with
  | some b => some (.ok (.tm (.fz (.bl (!b)))) env1)
  | none => none
@[simp] theorem kNo1_0 {env1 : E} {b : Bool} : kNo1 env1 (some b) = some (.ok (.tm (.fz (.bl (!b)))) env1) := (rfl)
def kNo  (o : Option (Out Av)) : Option (Out Av) := match o with
  | some (.ok a env1) => kNo1 env1 (boolA a env1)
  | some (.ex x env1) => some (.ex x env1)
  | _ => none
@[simp] theorem kNo_0  {a : Av} {env1 : E} : kNo  (some (.ok a env1)) = kNo1 env1 (boolA a env1) := (rfl)
@[simp] theorem kNo_1  {x : Xc} {env1 : E} : kNo  (some (.ex x env1)) = some (.ex x env1) := (rfl)
@[simp] theorem ev_notE {env : E} {f : FE} : notE f env = kNo (f env) := by
  unfold notE kNo bindO
  cases f env with
  | none => rfl
  | some o => cases o <;> rfl
def kCh4 (q : Int → Int → Bool) (j : Int) (env : E) (o : Option Int) : Option (Out Av) := match o with
  | some k => some (.ok (.tm (.fz (.bl (q j k)))) env)
  | none => none
@[simp] theorem kCh4_0 {q : Int → Int → Bool} {j k : Int} {env : E} : kCh4 q j env (some k) = some (.ok (.tm (.fz (.bl (q j k)))) env) := (rfl)
def kCh3 (q : Int → Int → Bool) (j : Int) (o : Option (Out Av)) : Option (Out Av) := match o with
  | some (.ok c env1) => kCh4 q j env1 (intA c env1)
  | some (.ex x env1) => some (.ex x env1)
  | _ => none
@[simp] theorem kCh3_0 {q : Int → Int → Bool} {j : Int} {c : Av} {env1 : E} : kCh3 q j (some (.ok c env1)) = kCh4 q j env1 (intA c env1) := (rfl)
@[simp] theorem kCh3_1 {q : Int → Int → Bool} {j : Int} {x : Xc} {env1 : E} : kCh3 q j (some (.ex x env1)) = some (.ex x env1) := (rfl)
def kCh2 (q : Int → Int → Bool) (j : Int) (fc : FE) (env : E) (b : Bool) : Option (Out Av) := match b with
  | true => kCh3 q j (fc env)
  | false => some (.ok (.tm (.fz (.bl false))) env)
@[simp] theorem kCh2_0 {q : Int → Int → Bool} {j : Int} {fc : FE} {env : E} : kCh2 q j fc env true = kCh3 q j (fc env) := (rfl)
@[simp] theorem kCh2_1 {q : Int → Int → Bool} {j : Int} {fc : FE} {env : E} : kCh2 q j fc env false = some (.ok (.tm (.fz (.bl false))) env) := (rfl)
def kCh1 (p q : Int → Int → Bool) (fc : FE) (env : E) (a b : Option Int) : Option (Out Av) := match a, b with
  | some i, some j => kCh2 q j fc env (p i j)
  | _, _ => none
@[simp] theorem kCh1_0 {p q : Int → Int → Bool} {fc : FE} {env : E} {i j : Int} : kCh1 p q fc env (some i) (some j) = kCh2 q j fc env (p i j) := (rfl)
def kChb (p : Int → Int → Bool) (q : Int → Int → Bool) (fc : FE) (a : Av) (o : Option (Out Av)) : Option (Out Av) := match o with
  | some (.ok b env1) => kCh1 p q fc env1 (intA a env1) (intA b env1)
  | some (.ex x env1) => some (.ex x env1)
  | _ => none
@[simp] theorem kChb_0 {p : Int → Int → Bool} {q : Int → Int → Bool} {fc : FE} {a : Av} {b : Av} {env1 : E} : kChb p q fc a (some (.ok b env1)) = kCh1 p q fc env1 (intA a env1) (intA b env1) := (rfl)
@[simp] theorem kChb_1 {p : Int → Int → Bool} {q : Int → Int → Bool} {fc : FE} {a : Av} {x : Xc} {env1 : E} : kChb p q fc a (some (.ex x env1)) = some (.ex x env1) := (rfl)
def kCha (p : Int → Int → Bool) (q : Int → Int → Bool) (fb : FE) (fc : FE) (o : Option (Out Av)) : Option (Out Av) := match o with
  | some (.ok a env1) => kChb p q fc a (fb env1)
  | some (.ex x env1) => some (.ex x env1)
  | _ => none
@[simp] theorem kCha_0 {p : Int → Int → Bool} {q : Int → Int → Bool} {fb : FE} {fc : FE} {a : Av} {env1 : E} : kCha p q fb fc (some (.ok a env1)) = kChb p q fc a (fb env1) := (rfl)
@[simp] theorem kCha_1 {p : Int → Int → Bool} {q : Int → Int → Bool} {fb : FE} {fc : FE} {x : Xc} {env1 : E} : kCha p q fb fc (some (.ex x env1)) = some (.ex x env1) := (rfl)
@[simp] theorem ev_chainE {env : E} {p q : Int → Int → Bool} {fa fb fc : FE} : chainE p q fa fb fc env = kCha p q fb fc (fa env) := by
  unfold chainE kCha bindO
  cases fa env with
  | none => rfl
  | some o => cases o with
    | ok a e => simp only []; unfold kChb; cases fb e with
      | none => rfl
      | some o => cases o with
        | ok b e2 =>
          simp only []
          unfold kCh1
          cases intA a e2 with
          | none => cases intA b e2 <;> rfl
          | some i => cases intA b e2 with
            | none => rfl
            | some j =>
              simp only []
              unfold kCh2
              cases p i j with
              | false => rfl
              | true =>
                simp only []
                unfold kCh3
                cases fc e2 with
                | none => rfl
                | some o => cases o with
                  | ok c e3 => simp only []; unfold kCh4; cases intA c e3 <;> rfl
                  | ex x e3 => rfl
        | ex x e2 => rfl
    | ex x e => rfl
def kIs2 (ts : List Kd) (env : E) (o : Option Kd) : Option (Out Av) := match o with
  | some k => some (.ok (.tm (.fz (.bl (ts.any fun t => kdSub k t)))) env)
  | none => none
@[simp] theorem kIs2_0 {ts : List Kd} {env : E} {k : Kd} : kIs2 ts env (some k) = some (.ok (.tm (.fz (.bl (ts.any fun t => kdSub k t)))) env) := (rfl)
def kIs1 (ts : List Kd) (env : E) (o : Option M) : Option (Out Av) := match o with
  | some m => kIs2 ts env (kdM m)
  | none => none
@[simp] theorem kIs1_0 {ts : List Kd} {env : E} {m : M} : kIs1 ts env (some m) = kIs2 ts env (kdM m) := (rfl)
def kIs (ts : List Kd) (o : Option (Out Av)) : Option (Out Av) := match o with
  | some (.ok a env1) => kIs1 ts env1 (resA env1 a)
  | some (.ex x env1) => some (.ex x env1)
  | _ => none
@[simp] theorem kIs_0 {ts : List Kd} {a : Av} {env1 : E} : kIs ts (some (.ok a env1)) = kIs1 ts env1 (resA env1 a) := (rfl)
@[simp] theorem kIs_1 {ts : List Kd} {x : Xc} {env1 : E} : kIs ts (some (.ex x env1)) = some (.ex x env1) := (rfl)
@[simp] theorem ev_isiE {env : E} {ts : List Kd} {f : FE} : isiE ts f env = kIs ts (f env) := by
  unfold isiE kIs bindO
  cases f env with
  | none => rfl
  | some o => cases o <;> rfl
def kBm3 (g : FP) (a : Av) (o : Option (Out (List Av))) : Option (Out Av) := match o with
  | some (.ok as env2) => runP g (a :: as) env2
  | some (.ex x env2) => some (.ex x env2)
  | none => none
@[simp] theorem kBm3_0 {g : FP} {a : Av} {as : List Av} {env2 : E} : kBm3 g a (some (.ok as env2)) = runP g (a :: as) env2 := (rfl)
@[simp] theorem kBm3_1 {g : FP} {a : Av} {x : Xc} {env2 : E} : kBm3 g a (some (.ex x env2)) = some (.ex x env2) := (rfl)
def kBm2 (g : FP) (fa : FA) (a : Av) (env : E) (b : Bool) : Option (Out Av) := match b with
  | true => kBm3 g a (fa env)
  | false => none
@[simp] theorem kBm2_0 {g : FP} {fa : FA} {a : Av} {env : E} : kBm2 g fa a env true = kBm3 g a (fa env) := (rfl)
def kBm1 (T : Kd) (g : FP) (fa : FA) (a : Av) (env : E) (o : Option M) : Option (Out Av) := match o with
  | some m => kBm2 g fa a env (tyM T m)
  | none => none
@[simp] theorem kBm1_0 {T : Kd} {g : FP} {fa : FA} {a : Av} {env : E} {m : M} : kBm1 T g fa a env (some m) = kBm2 g fa a env (tyM T m) := (rfl)
def kBm (T : Kd) (g : FP) (fa : FA) (o : Option (Out Av)) : Option (Out Av) := match o with
  | some (.ok a env1) => kBm1 T g fa a env1 (resA env1 a)
  | some (.ex x env1) => some (.ex x env1)
  | _ => none
@[simp] theorem kBm_0 {T : Kd} {g : FP} {fa : FA} {a : Av} {env1 : E} : kBm T g fa (some (.ok a env1)) = kBm1 T g fa a env1 (resA env1 a) := (rfl)
@[simp] theorem kBm_1 {T : Kd} {g : FP} {fa : FA} {x : Xc} {env1 : E} : kBm T g fa (some (.ex x env1)) = some (.ex x env1) := (rfl)
@[simp] theorem ev_bmE {env : E} {T : Kd} {g : FP} {fo : FE} {fa : FA} : bmE T g fo fa env = kBm T g fa (fo env) := by
  unfold bmE kBm bindO
  cases fo env with
  | none => rfl
  | some o => cases o with
    | ok a e =>
      simp only []
      unfold kBm1
      cases resA e a with
      | none => rfl
      | some m =>
        simp only []
        unfold kBm2
        cases tyM T m with
        | false => rfl
        | true => simp only []; unfold kBm3; cases fa e with
          | none => rfl
          | some o => cases o <;> rfl
    | ex x e => rfl
@[simp] theorem ev_app {xs : List M} {y : M} : appG [.lst xs, y] = if xs.length < sizeLine then some (.ok (.fz .non) [some (.lst (xs ++ [y])), none]) else none := (rfl)
@[simp] theorem ev_tyl {ms : List M} : tyM .lst (.lst ms) = true := (rfl)
def kSet (v : M) (xs : List M) (i : Int) (o : Option Nat) : Option OutP := match o with
    | some j => some (.ok (.fz .non) [none, some (.lst (xs.set j v)), some (.fz (.int i))])
    | none => none
@[simp] theorem kSet_0 {v : M} {xs : List M} {i : Int} {j : Nat} : kSet v xs i (some j) = some (.ok (.fz .non) [none, some (.lst (xs.set j v)), some (.fz (.int i))]) := (rfl)
@[simp] theorem ev_setG {v : M} {xs : List M} {i : Int} : setG [v, .lst xs, .fz (.int i)] = kSet v xs i (ixN xs.length i) := (rfl)
@[simp] theorem ev_setS {env : E} {fe fo fi : FE} : setS fe fo fi env = kExp (callE setG (arg3 fe fo fi) env) := by
  unfold setS bindS kExp
  cases callE setG (arg3 fe fo fi) env with
  | none => rfl
  | some o => cases o <;> rfl
def kAu4 (f : Int → Int → Int) (a b : Av) (x : Int) (env : E) (o : Option Int) : Option Fl := match o with
  | some y => kExp (runP setG [.tm (.fz (.int (f x y))), a, b] env)
  | none => none
@[simp] theorem kAu4_0 {f : Int → Int → Int} {a b : Av} {x y : Int} {env : E} : kAu4 f a b x env (some y) = kExp (runP setG [.tm (.fz (.int (f x y))), a, b] env) := (rfl)
def kAu3 (f : Int → Int → Int) (a b : Av) (x : Int) (o : Option (Out Av)) : Option Fl := match o with
  | some (.ok c env3) => kAu4 f a b x env3 (intA c env3)
  | some (.ex x env3) => some (.ex x env3)
  | none => none
@[simp] theorem kAu3_0 {f : Int → Int → Int} {a b c : Av} {x : Int} {env3 : E} : kAu3 f a b x (some (.ok c env3)) = kAu4 f a b x env3 (intA c env3) := (rfl)
@[simp] theorem kAu3_1 {f : Int → Int → Int} {a b : Av} {x : Int} {y : Xc} {env3 : E} : kAu3 f a b x (some (.ex y env3)) = some (.ex y env3) := (rfl)
def kAu2 (f : Int → Int → Int) (a b : Av) (fe : FE) (env : E) (o : Option Int) : Option Fl := match o with
  | some x => kAu3 f a b x (fe env)
  | none => none
@[simp] theorem kAu2_0 {f : Int → Int → Int} {a b : Av} {fe : FE} {env : E} {x : Int} : kAu2 f a b fe env (some x) = kAu3 f a b x (fe env) := (rfl)
def kAu1 (f : Int → Int → Int) (a b : Av) (fe : FE) (env : E) (o : Option Int) (p : Option M) : Option Fl := match o, p with
  | some i, some m => kAu2 f a b fe env (ixInt m i)
  | _, _ => none
@[simp] theorem kAu1_0 {f : Int → Int → Int} {a b : Av} {fe : FE} {env : E} {i : Int} {m : M} : kAu1 f a b fe env (some i) (some m) = kAu2 f a b fe env (ixInt m i) := (rfl)
def kAub (f : Int → Int → Int) (a : Av) (fe : FE) (o : Option (Out Av)) : Option Fl := match o with
  | some (.ok b env1) => kAu1 f a b fe env1 (intA b env1) (resA env1 a)
  | some (.ex x env1) => some (.ex x env1)
  | _ => none
@[simp] theorem kAub_0 {f : Int → Int → Int} {a : Av} {fe : FE} {b : Av} {env1 : E} : kAub f a fe (some (.ok b env1)) = kAu1 f a b fe env1 (intA b env1) (resA env1 a) := (rfl)
@[simp] theorem kAub_1 {f : Int → Int → Int} {a : Av} {fe : FE} {x : Xc} {env1 : E} : kAub f a fe (some (.ex x env1)) = some (.ex x env1) := (rfl)
def kAu (f : Int → Int → Int) (fi : FE) (fe : FE) (o : Option (Out Av)) : Option Fl := match o with
  | some (.ok a env1) => kAub f a fe (fi env1)
  | some (.ex x env1) => some (.ex x env1)
  | _ => none
@[simp] theorem kAu_0 {f : Int → Int → Int} {fi : FE} {fe : FE} {a : Av} {env1 : E} : kAu f fi fe (some (.ok a env1)) = kAub f a fe (fi env1) := (rfl)
@[simp] theorem kAu_1 {f : Int → Int → Int} {fi : FE} {fe : FE} {x : Xc} {env1 : E} : kAu f fi fe (some (.ex x env1)) = some (.ex x env1) := (rfl)
@[simp] theorem ev_augIx {env : E} {f : Int → Int → Int} {fo fi fe : FE} : augIx f fo fi fe env = kAu f fi fe (fo env) := by
  unfold augIx kAu bindS
  cases fo env with
  | none => rfl
  | some o => cases o with
    | ok a e => simp only []; unfold kAub; cases fi e with
      | none => rfl
      | some o => cases o with
        | ok b e2 =>
          simp only []
          unfold kAu1
          cases intA b e2 with
          | none => rfl
          | some i => cases resA e2 a with
            | none => rfl
            | some m =>
              simp only []
              unfold kAu2
              cases ixInt m i with
              | none => rfl
              | some x => simp only []; unfold kAu3; cases fe e2 with
                | none => rfl
                | some o => cases o with
                  | ok c e3 => simp only []; unfold kAu4; cases intA c e3 with
                    | none => rfl
                    | some y => simp only []; unfold kExp; cases runP setG [.tm (.fz (.int (f x y))), a, b] e3 with
                      | none => rfl
                      | some o => cases o <;> rfl
                  | ex x e3 => rfl
        | ex x e2 => rfl
    | ex x e => rfl
def kNm2 (i : Nat) (o : Option (Out Av)) : Option Fl := match o with
  | some (.ok (.tm m) env1) => some (.nx (env1.set i (some m)))
  | some (.ex x env1) => some (.ex x env1)
  | _ => none
@[simp] theorem kNm2_0 {i : Nat} {m : M} {env1 : E} : kNm2 i (some (.ok (.tm m) env1)) = some (.nx (env1.set i (some m))) := (rfl)
@[simp] theorem kNm2_1 {i : Nat} {x : Xc} {env1 : E} : kNm2 i (some (.ex x env1)) = some (.ex x env1) := (rfl)
def kNm1 (i : Nat) (g : FP) (o : Option (Out Av)) : Option Fl := match o with
  | some (.ok a env1) => kNm2 i (runP g [.sl i, a] env1)
  | some (.ex x env1) => some (.ex x env1)
  | _ => none
@[simp] theorem kNm1_0 {i : Nat} {g : FP} {a : Av} {env1 : E} : kNm1 i g (some (.ok a env1)) = kNm2 i (runP g [.sl i, a] env1) := (rfl)
@[simp] theorem kNm1_1 {i : Nat} {g : FP} {x : Xc} {env1 : E} : kNm1 i g (some (.ex x env1)) = some (.ex x env1) := (rfl)
theorem kNm1_eq {i : Nat} {g : FP} {o : Option (Out Av)} : (bindS o fun a env1 => bindS (runP g [.sl i, a] env1) fun r env2 => match r with
    | .tm m => some (.nx (env2.set i (some m)))
    | .sl _ => none) = kNm1 i g o := by
  unfold kNm1 bindS
  cases o with
  | none => rfl
  | some o => cases o with
    | ok a e => simp only []; unfold kNm2; cases runP g [.sl i, a] e with
      | none => rfl
      | some o => cases o with
        | ok b e2 => cases b <;> rfl
        | ex x e2 => rfl
    | ex x e => rfl
@[simp] theorem ev_augNm {env : E} {i : Nat} {g : FP} {fe : FE} : augNm i g fe env = match env[i]? with
  | some (some _) => kNm1 i g (fe env)
  | _ => none := by
  unfold augNm
  cases env[i]? with
  | none => rfl
  | some o => cases o with
    | none => rfl
    | some m => exact kNm1_eq
def kPa1 (i j : Nat) (env : E) (o : Option (List M)) : Option Fl := match o with
  | some [m, n] => some (.nx ((env.set i (some m)).set j (some n)))
  | _ => none
@[simp] theorem kPa1_0 {i j : Nat} {env : E} {m n : M} : kPa1 i j env (some [m, n]) = some (.nx ((env.set i (some m)).set j (some n))) := (rfl)
def kPa (i : Nat) (j : Nat) (o : Option (Out (List Av))) : Option Fl := match o with
  | some (.ok as env1) => kPa1 i j env1 (tms as)
  | some (.ex x env1) => some (.ex x env1)
  | _ => none
@[simp] theorem kPa_0 {i : Nat} {j : Nat} {as : List Av} {env1 : E} : kPa i j (some (.ok as env1)) = kPa1 i j env1 (tms as) := (rfl)
@[simp] theorem kPa_1 {i : Nat} {j : Nat} {x : Xc} {env1 : E} : kPa i j (some (.ex x env1)) = some (.ex x env1) := (rfl)
@[simp] theorem ev_parS {env : E} {i j : Nat} {fa : FA} : parS i j fa env = kPa i j (fa env) := by
  unfold parS kPa bindS
  cases fa env with
  | none => rfl
  | some o => cases o <;> rfl
def kSl3 (a : Av) (i : Int) (env : E) (o : Option Int) : Option (Out Av) := match o with
  | some j => runP (g1 fun m => sliceM m (some i) (some j)) [a] env
  | none => none
@[simp] theorem kSl3_0 {a : Av} {i j : Int} {env : E} : kSl3 a i env (some j) = runP (g1 fun m => sliceM m (some i) (some j)) [a] env := (rfl)
def kSl2b (a : Av) (i : Int) (o : Option (Out Av)) : Option (Out Av) := match o with
  | some (.ok c env1) => kSl3 a i env1 (intA c env1)
  | some (.ex x env1) => some (.ex x env1)
  | _ => none
@[simp] theorem kSl2b_0 {a : Av} {i : Int} {c : Av} {env1 : E} : kSl2b a i (some (.ok c env1)) = kSl3 a i env1 (intA c env1) := (rfl)
@[simp] theorem kSl2b_1 {a : Av} {i : Int} {x : Xc} {env1 : E} : kSl2b a i (some (.ex x env1)) = some (.ex x env1) := (rfl)
def kSl2 (a : Av) (fu : FE) (env : E) (o : Option Int) : Option (Out Av) := match o with
  | some i => kSl2b a i (fu env)
  | none => none
@[simp] theorem kSl2_0 {a : Av} {fu : FE} {env : E} {i : Int} : kSl2 a fu env (some i) = kSl2b a i (fu env) := (rfl)
def kSl1 (a : Av) (fu : FE) (o : Option (Out Av)) : Option (Out Av) := match o with
  | some (.ok b env1) => kSl2 a fu env1 (intA b env1)
  | some (.ex x env1) => some (.ex x env1)
  | _ => none
@[simp] theorem kSl1_0 {a : Av} {fu : FE} {b : Av} {env1 : E} : kSl1 a fu (some (.ok b env1)) = kSl2 a fu env1 (intA b env1) := (rfl)
@[simp] theorem kSl1_1 {a : Av} {fu : FE} {x : Xc} {env1 : E} : kSl1 a fu (some (.ex x env1)) = some (.ex x env1) := (rfl)
def kSl (fl : FE) (fu : FE) (o : Option (Out Av)) : Option (Out Av) := match o with
  | some (.ok a env1) => kSl1 a fu (fl env1)
  | some (.ex x env1) => some (.ex x env1)
  | _ => none
@[simp] theorem kSl_0 {fl : FE} {fu : FE} {a : Av} {env1 : E} : kSl fl fu (some (.ok a env1)) = kSl1 a fu (fl env1) := (rfl)
@[simp] theorem kSl_1 {fl : FE} {fu : FE} {x : Xc} {env1 : E} : kSl fl fu (some (.ex x env1)) = some (.ex x env1) := (rfl)
@[simp] theorem ev_slice11 {env : E} {fe fl fu : FE} : slice11E fe fl fu env = kSl fl fu (fe env) := by
  unfold slice11E kSl bindO
  cases fe env with
  | none => rfl
  | some o => cases o with
    | ok a e => simp only []; unfold kSl1; cases fl e with
      | none => rfl
      | some o => cases o with
        | ok b e2 => simp only []; unfold kSl2; cases intA b e2 with
          | none => rfl
          | some i => simp only []; unfold kSl2b; cases fu e2 with
            | none => rfl
            | some o => cases o with
              | ok c e3 => simp only []; unfold kSl3; cases intA c e3 <;> rfl
              | ex x e3 => rfl
        | ex x e2 => rfl
    | ex x e => rfl
def kDd1 (env : E) (o : Option (List Str)) : Option (Out Av) := match o with
    | some xs => if xs.length ≤ 4000 then some (.ok (.tm (.fz (.int (ddS xs).length))) env) else none
    | none => none
@[simp] theorem kDd1_0 {env : E} {xs : List Str} : kDd1 env (some xs) = if xs.length ≤ 4000 then some (.ok (.tm (.fz (.int (ddS xs).length))) env) else none := (rfl)
def kDd2 (env : E) (o : Option M) : Option (Out Av) := match o with
  | some (.fz (.tup ds)) => kDd1 env (strsD ds)
  | _ => none
@[simp] theorem kDd2_0 {env : E} {ds : List D} : kDd2 env (some (.fz (.tup ds))) = kDd1 env (strsD ds) := (rfl)
def kDd  (o : Option (Out Av)) : Option (Out Av) := match o with
  | some (.ok a env1) => kDd2 env1 (resA env1 a)
  | some (.ex x env1) => some (.ex x env1)
  | _ => none
@[simp] theorem kDd_0  {a : Av} {env1 : E} : kDd  (some (.ok a env1)) = kDd2 env1 (resA env1 a) := (rfl)
@[simp] theorem kDd_1  {x : Xc} {env1 : E} : kDd  (some (.ex x env1)) = some (.ex x env1) := (rfl)
@[simp] theorem ev_lenSet {env : E} {f : FE} : lenSetE f env = kDd (f env) := by
  unfold lenSetE kDd bindO
  cases f env with
  | none => rfl
  | some o => cases o with
    | ok a e => simp only []; unfold kDd2 kDd1; rfl
    | ex x e => rfl
def kFn (asg : List Nat) (ms : List M) (o : Option Fl) : Option OutP := match o with
    | some (.nx env') => some (.ok (.fz .non) (outA asg 0 ms env'))
    | some (.rt m env') => some (.ok m (outA asg 0 ms env'))
    | some (.ex x env') => some (.ex x (outA asg 0 ms env'))
    | _ => none
@[simp] theorem kFn_0 {asg : List Nat} {ms : List M} {env1 : E} : kFn asg ms (some (.nx env1)) = some (.ok (.fz .non) (outA asg 0 ms env1)) := (rfl)
@[simp] theorem kFn_1 {asg : List Nat} {ms : List M} {m : M} {env1 : E} : kFn asg ms (some (.rt m env1)) = some (.ok m (outA asg 0 ms env1)) := (rfl)
@[simp] theorem kFn_2 {asg : List Nat} {ms : List M} {x : Xc} {env1 : E} : kFn asg ms (some (.ex x env1)) = some (.ex x (outA asg 0 ms env1)) := (rfl)
@[simp] theorem ev_fnM {np nl : Nat} {asg : List Nat} {body : FS} {ms : List M} : fnM np nl asg body ms = if ms.length = np then kFn asg ms (body (argE ms ++ List.replicate nl none)) else none := (rfl)
@[simp] theorem divC_eq {i j : Int} : divC i j = (decide (0 < j) && decide (j < 1208925819614629174706176)) := (rfl)
@[simp] theorem modC_eq {i j : Int} : modC i j = decide (0 < j) := (rfl)
@[simp] theorem powC_eq {i j : Int} : powC i j = (decide (0 ≤ j) && (decide (j ≤ 1000000) && decide (i.natAbs < 2 ^ 64))) := (rfl)
@[simp] theorem fits_eq {i : Int} : fits i = (decide (-(2 ^ 62) ≤ i) && decide (i < 2 ^ 62)) := (rfl)
@[simp] theorem sizeLine_eq : sizeLine = 16777216 := (rfl)
@[simp] theorem ev_out0 {asg : List Nat} {i : Nat} {env : E} : outA asg i [] env = [] := by unfold outA; rfl
@[simp] theorem ev_out1 {asg : List Nat} {i : Nat} {m : M} {ms : List M} {o : Option M} {env : E} : outA asg i (m :: ms) (o :: env) = (if asg.contains i then fzOnly m else o) :: outA asg (i + 1) ms env := (rfl)
@[simp] theorem ev_fzo {d : D} : fzOnly (.fz d) = some (.fz d) := (rfl)
@[simp] theorem ev_frz1 {d : D} : frz (.fz d) = some d := by unfold frz; rfl
@[simp] theorem ev_frz2 {ms : List M} : frz (.lst ms) = match frzs ms with
  | some ds => some (.lst ds)
  | none => none := by first | (rw [frz]; cases frzs ms <;> rfl) | rw [frz]
@[simp] theorem ev_frzs0 : frzs [] = some [] := by unfold frzs; rfl
@[simp] theorem ev_frzs1 {m : M} {ms : List M} : frzs (m :: ms) = match frz m with
  | some d => match frzs ms with
    | some ds => some (d :: ds)
    | none => none
  | none => none := by
  first | (rw [frzs]; cases frz m <;> cases frzs ms <;> rfl) | rw [frzs]
@[simp] theorem ev_frzm {ds : List D} : frzs (ds.map M.fz) = some ds := by
  induction ds with
  | nil => simp
  | cons d ds ih => simp [ih]
@[simp] theorem ev_unfz0 : unfz [] = some [] := (rfl)
@[simp] theorem ev_unfzl {xs r : List M} : unfz (.lst xs :: r) = none := (rfl)
@[simp] theorem ev_unfzt {xs r : List M} : unfz (.tup xs :: r) = none := (rfl)
@[simp] theorem ev_unfzk {xs} {r : List M} : unfz (.dK xs :: r) = none := (rfl)
@[simp] theorem ev_unfzT {xs} {r : List M} : unfz (.dT xs :: r) = none := (rfl)
@[simp] theorem ev_unfzi {C fs} {r : List M} : unfz (.ins C fs :: r) = none := (rfl)
@[simp] theorem ev_unfz1 {d : D} {r : List M} : unfz (.fz d :: r) = match unfz r with
    | some ds => some (d :: ds)
    | none => none := (rfl)
@[simp] theorem ev_unfzm {ds : List D} : unfz (ds.map M.fz) = some ds := unfz_map ds
@[simp] theorem ev_lstD1 {ds : List D} : lstD (.fz (.lst ds)) = some ds := (rfl)
@[simp] theorem ev_lstD2 {ms : List M} : lstD (.lst ms) = unfz ms := (rfl)
@[simp] theorem ev_seqD1 {ds : List D} : seqD (.fz (.lst ds)) = some ds := (rfl)
@[simp] theorem ev_seqD2 {ms : List M} : seqD (.lst ms) = unfz ms := (rfl)
@[simp] theorem ev_seqD3 {ds : List D} : seqD (.fz (.tup ds)) = some ds := (rfl)
@[simp] theorem ev_len1 {s : Str} : lenM (.fz (.str s)) = if s.length ≤ sizeLine then some (.fz (.int s.length)) else none := (rfl)
@[simp] theorem ev_len2 {ms : List M} : lenM (.lst ms) = some (.fz (.int ms.length)) := (rfl)
@[simp] theorem ev_len3 {ds : List D} : lenM (.fz (.lst ds)) = some (.fz (.int ds.length)) := (rfl)
@[simp] theorem ev_len4 {ds : List D} : lenM (.fz (.tup ds)) = some (.fz (.int ds.length)) := (rfl)
@[simp] theorem ev_abs {i : Int} : absM (.fz (.int i)) = some (.fz (.int (if i < 0 then -i else i))) := (rfl)
@[simp] theorem ev_neg {i : Int} : negM (.fz (.int i)) = some (.fz (.int (-i))) := (rfl)
@[simp] theorem ev_add1 {i j : Int} : addM (.fz (.int i)) (.fz (.int j)) = some (.fz (.int (i + j))) := (rfl)
@[simp] theorem ev_add2 {s t : Str} : addM (.fz (.str s)) (.fz (.str t)) = if s.length + t.length ≤ sizeLine then some (.fz (.str (s ++ t))) else none := (rfl)
@[simp] theorem ev_add3 {s t : List D} : addM (.fz (.tup s)) (.fz (.tup t)) = if s.length + t.length ≤ sizeLine then some (.fz (.tup (s ++ t))) else none := (rfl)
@[simp] theorem ev_add4 {s t : List M} : addM (.lst s) (.lst t) = match unfz s with
    | some s => match unfz t with
      | some t => if s.length + t.length ≤ sizeLine then some (.lst ((s ++ t).map .fz)) else none
      | none => none
    | none => none := (rfl)
@[simp] theorem ev_add5 {s : List M} {t : List D} : addM (.lst s) (.fz (.lst t)) = match unfz s with
    | some s => if s.length + t.length ≤ sizeLine then some (.lst ((s ++ t).map .fz)) else none
    | none => none := (rfl)
@[simp] theorem ev_add6 {s : List D} {t : List M} : addM (.fz (.lst s)) (.lst t) = match unfz t with
    | some t => if s.length + t.length ≤ sizeLine then some (.lst ((s ++ t).map .fz)) else none
    | none => none := (rfl)
@[simp] theorem ev_add7 {s t : List D} : addM (.fz (.lst s)) (.fz (.lst t)) = if s.length + t.length ≤ sizeLine then some (.lst ((s ++ t).map .fz)) else none := (rfl)
@[simp] theorem ev_mul1 {i j : Int} : mulM (.fz (.int i)) (.fz (.int j)) = match mulC i j with
    | true => some (.fz (.int (i * j)))
    | false => none := (rfl)
@[simp] theorem ev_mul2 {z : Str} {n : Int} : mulM (.fz (.str z)) (.fz (.int n)) = if 0 ≤ n ∧ n ≤ 1000 ∧ z.length ≤ 1000 then some (.fz (.str (repS z n.toNat))) else none := (rfl)
@[simp] theorem ev_mul3 {ds : List D} {k : Int} : mulM (.fz (.tup ds)) (.fz (.int k)) = if ds = [] ∨ k = 1 then (if -1000 ≤ k ∧ k ≤ 1000 then some (.fz (.tup ds)) else none) else if 2 ≤ k ∧ k ≤ 1000 ∧ ds.length ≤ 1000 then some (.fz (.tup (repL k.toNat ds))) else none := (rfl)
@[simp] theorem ev_max {i j : Int} : maxM (.fz (.int i)) (.fz (.int j)) = some (.fz (.int (if i < j then j else i))) := (rfl)
@[simp] theorem ev_min {i j : Int} : minM (.fz (.int i)) (.fz (.int j)) = some (.fz (.int (if j < i then j else i))) := (rfl)
@[simp] theorem ev_int1 {i : Int} : intM1 (.fz (.int i)) = some (.fz (.int i)) := (rfl)
@[simp] theorem ev_int2 {b : Bool} : intM1 (.fz (.bl b)) = some (.fz (.int (if b then 1 else 0))) := (rfl)
@[simp] theorem ev_list {m : M} : listM m = match seqD m with
  | some ds => some (.lst (ds.map .fz))
  | none => none := (rfl)
@[simp] theorem ev_tuple1 {ds : List D} : tupleM (.fz (.tup ds)) = some (.fz (.tup ds)) := (rfl)
@[simp] theorem ev_tuple2 {ds : List D} : tupleM (.fz (.lst ds)) = some (.fz (.tup ds)) := (rfl)
@[simp] theorem ev_tuple3 {ms : List M} : tupleM (.lst ms) = match unfz ms with
    | some ds => some (.fz (.tup ds))
    | none => none := (rfl)
@[simp] theorem ev_isN {m : M} : isNM m (.fz .non) = some (.fz (.bl (isNon m))) := (rfl)
@[simp] theorem ev_notN {m : M} : notNM m (.fz .non) = some (.fz (.bl (!isNon m))) := (rfl)
@[simp] theorem ev_ix {ms : List M} {i : Int} : ixM (.lst ms) (.fz (.int i)) = match unfz ms with
    | some ds => match atI ds i with
      | some d => some (.fz d)
      | none => none
    | none => none := (rfl)
@[simp] theorem ev_ix2 {ds : List D} {i : Int} : ixM (.fz (.lst ds)) (.fz (.int i)) = match atI ds i with
      | some d => some (.fz d)
      | none => none := (rfl)
@[simp] theorem ev_ix3 {ds : List D} {i : Int} : ixM (.fz (.tup ds)) (.fz (.int i)) = match atI ds i with
      | some d => some (.fz d)
      | none => none := (rfl)
@[simp] theorem ev_ix4 {s : Str} {i : Int} : ixM (.fz (.str s)) (.fz (.int i)) = if s.length ≤ sizeLine then match atI s.cps.toList i with
      | some c => some (.fz (.str ⟨#[c]⟩))
      | none => none
    else none := (rfl)
@[simp] theorem ev_ixInt {ms : List M} {i : Int} : ixInt (.lst ms) i = match atI ms i with
    | some (.fz (.int x)) => some x
    | _ => none := (rfl)
@[simp] theorem ev_eq1 {i j : Int} : eqM (.fz (.int i)) (.fz (.int j)) = some (.fz (.bl (decide (i = j)))) := (rfl)
@[simp] theorem ev_eq2 {i j : Str} : eqM (.fz (.str i)) (.fz (.str j)) = some (.fz (.bl (decide (i = j)))) := (rfl)
@[simp] theorem ev_eq3 {i j : Bool} : eqM (.fz (.bl i)) (.fz (.bl j)) = some (.fz (.bl (decide (i = j)))) := (rfl)
@[simp] theorem ev_ne1 {i j : Int} : neM (.fz (.int i)) (.fz (.int j)) = some (.fz (.bl (!decide (i = j)))) := (rfl)
@[simp] theorem ev_ne2 {i j : Str} : neM (.fz (.str i)) (.fz (.str j)) = some (.fz (.bl (!decide (i = j)))) := (rfl)
@[simp] theorem ev_ne3 {i j : Bool} : neM (.fz (.bl i)) (.fz (.bl j)) = some (.fz (.bl (!decide (i = j)))) := (rfl)
@[simp] theorem ixN_nat {n k : Nat} : ixN n (k : Int) = if k < n then some k else none := by
  unfold ixN
  by_cases h : k < n
  · simp [h]
  · simp [h]
@[simp] theorem ixN_0 {n : Nat} : ixN n 0 = if 0 < n then some 0 else none := ixN_nat (k := 0)
@[simp] theorem ixN_1 {n : Nat} : ixN n 1 = if 1 < n then some 1 else none := ixN_nat (k := 1)
@[simp] theorem ixN_lit {n k : Nat} : ixN n (no_index (OfNat.ofNat k : Int)) = if (OfNat.ofNat k : Nat) < n then some (OfNat.ofNat k : Nat) else none := ixN_nat (k := k)
@[simp] theorem atI_nat {α : Type} {xs : List α} {k : Nat} : atI xs (k : Int) = xs[k]? := by
  unfold atI
  rw [ixN_nat]
  by_cases h : k < xs.length
  · simp [h]
  · simp [h]
@[simp] theorem atI_0 {α : Type} {xs : List α} : atI xs 0 = xs[0]? := atI_nat (k := 0)
@[simp] theorem atI_1 {α : Type} {xs : List α} : atI xs 1 = xs[1]? := atI_nat (k := 1)
@[simp] theorem atI_lit {α : Type} {xs : List α} {k : Nat} : atI xs (no_index (OfNat.ofNat k : Int)) = xs[(OfNat.ofNat k : Nat)]? := atI_nat (k := k)
def sel {α : Type} (b : Bool) (x y : α) : α := match b with
  | true => x
  | false => y
@[simp] theorem sel_t {α : Type} {x y : α} : sel true x y = x := (rfl)
@[simp] theorem sel_f {α : Type} {x y : α} : sel false x y = y := (rfl)
theorem sel_ite {α : Type} {b : Bool} {x y : α} : sel b x y = if b = true then x else y := by cases b <;> rfl
@[simp] theorem kNotT_b {b : Bool} {env : E} : kNotT (some (.ok b env)) = some (.ok (!b) env) := by cases b <;> rfl
theorem kIf_b {f g : FS} {b : Bool} {env : E} : kIf f g (some (.ok b env)) = sel b (f env) (g env) := by cases b <;> rfl
@[simp] theorem kAndT_b {g : FT} {b : Bool} {env : E} : kAndT g (some (.ok b env)) = sel b (g env) (some (.ok false env)) := by cases b <;> rfl
@[simp] theorem kOrT_b {g : FT} {b : Bool} {env : E} : kOrT g (some (.ok b env)) = sel b (some (.ok true env)) (g env) := by cases b <;> rfl
@[simp] theorem kAnd1_b {g : FE} {b : Bool} {env : E} : kAnd1 g env (some b) = sel b (g env) (some (.ok (.tm (.fz (.bl false))) env)) := by cases b <;> rfl
@[simp] theorem kOr1_b {g : FE} {b : Bool} {env : E} : kOr1 g env (some b) = sel b (some (.ok (.tm (.fz (.bl true))) env)) (g env) := by cases b <;> rfl
@[simp] theorem kCh2_c {q : Int → Int → Bool} {j k : Int} {env : E} {b : Bool} : kCh2 q j (cE (.int k)) env b = some (.ok (.tm (.fz (.bl (b && q j k)))) env) := by cases b <;> rfl
def kCh2z (q : Int → Int → Bool) (j : Int) (fc : FE) (env : E) (b : Bool) : Option (Out Av) := kCh2 q j fc env b
@[simp] theorem kCh2_v {q : Int → Int → Bool} {j : Int} {i : Nat} {env : E} {b : Bool} : kCh2 q j (vE i) env b = match env[i]? with
    | some (some (.fz (.int k))) => some (.ok (.tm (.fz (.bl (b && q j k)))) env)
    | _ => kCh2z q j (vE i) env b := by
  split
  · rename_i k e
    cases b
    · rfl
    · simp [e]
  · rfl
@[simp] theorem ite_ok1 {b c : Bool} {env : E} : (sel b (some (Out.ok c env)) (some (Out.ok false env)) = some (Out.ok (b && c) env)) := by cases b <;> rfl
@[simp] theorem ite_ok2 {b c : Bool} {env : E} : (sel b (some (Out.ok true env)) (some (Out.ok c env)) = some (Out.ok (b || c) env)) := by cases b <;> rfl
@[simp] theorem ite_ok3 {b c : Bool} {env : E} : (sel b (some (Out.ok (Av.tm (.fz (.bl c))) env)) (some (Out.ok (Av.tm (.fz (.bl false))) env)) = some (Out.ok (Av.tm (.fz (.bl (b && c)))) env)) := by cases b <;> rfl
@[simp] theorem ite_ok4 {b c : Bool} {env : E} : (sel b (some (Out.ok (Av.tm (.fz (.bl true))) env)) (some (Out.ok (Av.tm (.fz (.bl c))) env)) = some (Out.ok (Av.tm (.fz (.bl (b || c)))) env)) := by cases b <;> rfl
@[simp] theorem ev_sl01 {m : M} {i : Int} : sl01 [m, .fz (.int i)] = kG [some m, some (.fz (.int i))] (sliceM m none (some i)) := (rfl)
@[simp] theorem ev_sl10 {m : M} {i : Int} : sl10 [m, .fz (.int i)] = kG [some m, some (.fz (.int i))] (sliceM m (some i) none) := (rfl)
@[simp] theorem ev_sl00 {m : M} : sl00 [m] = kG [some m] (sliceM m none none) := (rfl)
@[simp] theorem ev_slS {s : Str} {lo hi : Option Int} : sliceM (.fz (.str s)) lo hi = if s.length ≤ sizeLine then some (.fz (.str (cutS s lo hi))) else none := (rfl)
@[simp] theorem ev_slT {ds : List D} {lo hi : Option Int} : sliceM (.fz (.tup ds)) lo hi = some (.fz (.tup (cutL ds lo hi))) := (rfl)
@[simp] theorem ev_slZ {ns : List Int} {lo hi : Option Int} : sliceM (.fz (.scr ns)) lo hi = some (.lst ((cutL ns lo hi).map fun n => .fz (.int n))) := (rfl)
@[simp] theorem ev_slL {ds : List D} {lo hi : Option Int} : sliceM (.fz (.lst ds)) lo hi = some (.lst ((cutL ds lo hi).map .fz)) := (rfl)
@[simp] theorem ev_slM {ms : List M} {lo hi : Option Int} : sliceM (.lst ms) lo hi = match unfz ms with
    | some ds => some (.lst ((cutL ds lo hi).map .fz))
    | none => none := (rfl)
theorem cutL_to {α : Type} {xs : List α} {i : Int} (h : 0 ≤ i) : cutL xs none (some i) = xs.take i.toNat := by
  have e : ¬ i < 0 := by omega
  simp only [cutL, HT.sIx, e, if_false, List.drop_zero, Nat.sub_zero]
  rw [Nat.min_comm, ← List.take_take]
  exact List.take_of_length_le (by simp; omega)
theorem cutL_from {α : Type} {xs : List α} {i : Int} (h : 0 ≤ i) : cutL xs (some i) none = xs.drop i.toNat := by
  have e : ¬ i < 0 := by omega
  simp only [cutL, HT.sIx, e, if_false]
  by_cases hl : i.toNat ≤ xs.length
  · rw [Nat.min_eq_left hl, List.take_of_length_le (by simp)]
  · rw [Nat.min_eq_right (by omega), List.drop_of_length_le (Nat.le_refl _), List.drop_of_length_le (by omega)]
    simp
theorem cutL_last {α : Type} {xs : List α} : cutL xs none (some (-1)) = xs.dropLast := by
  simp only [cutL, HT.sIx]
  rw [List.dropLast_eq_take]
  congr 1
  simp
  omega
/-- an index within -/
theorem atI_at {α : Type} {xs : List α} {i : Int} (h0 : 0 ≤ i) (h : i < xs.length) : ∃ x, xs[i.toNat]? = some x ∧ atI xs i = some x := by
  have hl : i.toNat < xs.length := by omega
  refine ⟨xs[i.toNat], by simp [hl], ?_⟩
  simp [atI, ixN, h0, h, hl]
theorem atI_mem {α : Type} {xs : List α} {i : Int} (h0 : 0 ≤ i) (h : i < xs.length) : ∃ x, x ∈ xs ∧ atI xs i = some x := by
  obtain ⟨x, e, e2⟩ := atI_at h0 h
  exact ⟨x, List.mem_of_getElem? e, e2⟩
theorem bools_map (f : D → Bool) : ∀ (ds : List D), bools (ds.map fun d => .bl (f d)) = some (ds.map f)
  | [] => rfl
  | d :: ds => by simp only [List.map_cons, bools, bools_map f ds]
theorem all_map (f : D → Bool) (ds : List D) : allM true (.lst (ds.map fun d => .fz (.bl (f d)))) = some (.fz (.bl (ds.all f))) := by
  have e : (ds.map fun d => M.fz (.bl (f d))) = (ds.map fun d => D.bl (f d)).map M.fz := by rw [List.map_map]; rfl
  unfold allM
  rw [e]
  simp only [lstD, unfz_map, bools_map, if_true]
  rw [List.all_map]
  rfl
theorem comp_list {α : Type} {g : FG} {ft : FT} {fe : FE} {own : List Nat} (enc : α → D) (f : α → M) (env : E) : ∀ (xs : List α), (∀ x ∈ xs, ∃ env1 env2, g (.fz (enc x)) env = some env1 ∧ ft env1 = some (.ok true env1) ∧ fe env1 = some (.ok (.tm (f x)) env2) ∧ wipeE env2 own = env) →
    compD g ft fe own (xs.map enc) env = some (xs.map f, env)
  | [], _ => rfl
  | x :: xs, h => by
    obtain ⟨env1, env2, e1, e2, e3, e4⟩ := h x (List.mem_cons_self ..)
    rw [List.map_cons, compD, e1]
    simp only [e2, e3, e4, comp_list enc f env xs fun d hd => h d (List.mem_cons_of_mem _ hd), List.map_cons]
theorem bools_list {α : Type} (f : α → Bool) : ∀ (xs : List α), bools (xs.map fun x => .bl (f x)) = some (xs.map f)
  | [] => rfl
  | d :: ds => by simp only [List.map_cons, bools, bools_list f ds]
@[simp] theorem all_list {α : Type} (f : α → Bool) (xs : List α) : allM true (.lst (xs.map fun x => .fz (.bl (f x)))) = some (.fz (.bl (xs.all f))) := by
  have e : (xs.map fun x => M.fz (.bl (f x))) = (xs.map fun x => D.bl (f x)).map M.fz := by rw [List.map_map]; rfl
  unfold allM
  rw [e]
  simp only [lstD, unfz_map, bools_list, if_true]
  rw [List.all_map]
  rfl
theorem loop_listAll {α : Type} {g : FG} {fb : FS} (enc : α → D) (I : E → Prop) (p : α → Bool) (m : M) : ∀ (xs : List α) (env : E), (∀ (x : α) (env : E), x ∈ xs → I env → ∃ env1 env2, g (.fz (enc x)) env = some env1 ∧ fb env1 = sel (p x) (some (.nx env2)) (some (.rt m env2)) ∧ I env2) → I env →
    ∃ env', loopD g fb (xs.map enc) env = sel (xs.all p) (some (.nx env')) (some (.rt m env')) ∧ I env'
  | [], env, _, h => ⟨env, rfl, h⟩
  | d :: ds, env, hs, h => by
    obtain ⟨env1, env2, e1, e2, h2⟩ := hs d env (List.mem_cons_self ..) h
    rw [List.map_cons, loopD, e1]
    cases hp : p d with
    | false =>
      rw [hp] at e2
      exact ⟨env2, by simp only [e2]; simp [hp], h2⟩
    | true =>
      rw [hp] at e2
      obtain ⟨env', e, h'⟩ := loop_listAll enc I p m ds env2 (fun d env hd => hs d env (List.mem_cons_of_mem _ hd)) h2
      exact ⟨env', by simp only [e2]; simp [hp, e], h'⟩
def Nx (P : E → Prop) (o : Option Fl) : Prop := match o with
  | some (.nx env) => P env
  | some (.ct env) => P env
  | _ => False
@[simp] theorem Nx_nx {P : E → Prop} {env : E} : Nx P (some (.nx env)) = P env := (rfl)
@[simp] theorem Nx_ct {P : E → Prop} {env : E} : Nx P (some (.ct env)) = P env := (rfl)
def Stp (fb : FS) (P : E → Prop) (o : Option E) : Prop := match o with
  | some env => Nx P (fb env)
  | none => False
@[simp] theorem Stp_some {fb : FS} {P : E → Prop} {env : E} : Stp fb P (some env) = Nx P (fb env) := (rfl)
theorem loop_list {α : Type} {g : FG} {fb : FS} (enc : α → D) (I : Nat → E → Prop) : ∀ (xs : List α) (k : Nat) (env : E), (∀ (j : Nat) (x : α) (env : E), xs[j]? = some x → I (k + j) env → Stp fb (I (k + j + 1)) (g (.fz (enc x)) env)) → I k env →
    ∃ env', loopD g fb (xs.map enc) env = some (.nx env') ∧ I (k + xs.length) env'
  | [], k, env, _, h => ⟨env, rfl, h⟩
  | d :: ds, k, env, hs, h => by
    have q := hs 0 d env rfl h
    rw [List.map_cons, loopD]
    cases e1 : g (.fz (enc d)) env with
    | none => rw [e1] at q; exact q.elim
    | some env1 =>
      rw [e1, Stp_some] at q
      simp only []
      have ih : ∀ env2, I (k + 1) env2 → ∃ env', loopD g fb (ds.map enc) env2 = some (.nx env') ∧ I (k + (d :: ds).length) env' := fun env2 h2 => by
        obtain ⟨env', e, h'⟩ := loop_list enc I ds (k + 1) env2 (fun j x env hx hI => by
          have z := hs (j + 1) x env (by simpa using hx) (by rw [show k + (j + 1) = k + 1 + j by omega]; exact hI)
          rw [show k + 1 + j + 1 = k + (j + 1) + 1 by omega]; exact z) h2
        exact ⟨env', e, by rw [List.length_cons, show k + (ds.length + 1) = k + 1 + ds.length by omega]; exact h'⟩
      cases e2 : fb env1 with
      | none => rw [e2] at q; exact q.elim
      | some fl =>
        rw [e2] at q
        cases fl with
        | nx env2 => exact ih env2 q
        | ct env2 => exact ih env2 q
        | bk env2 => exact q.elim
        | rt m env2 => exact q.elim
        | ex x env2 => exact q.elim
/-- over range(n) -/
theorem loop_range {g : FG} {fb : FS} (I : Nat → E → Prop) (n : Nat) (env : E) (hs : ∀ (j : Nat) (env : E), j < n → I j env → Stp fb (I (j + 1)) (g (.fz (.int (j : Nat))) env)) (h : I 0 env) :
    ∃ env', loopD g fb (rangeD 0 (n : Int)) env = some (.nx env') ∧ I n env' := by
  have e : rangeD 0 (n : Int) = (List.range n).map fun j => D.int (j : Nat) := by
    unfold rangeD
    simp
  rw [e]
  obtain ⟨env', e1, h1⟩ := loop_list (fun j : Nat => D.int (j : Nat)) I (List.range n) 0 env (fun j x env hx hI => by
    rw [Nat.zero_add] at hI ⊢
    obtain ⟨hj, ex⟩ := List.getElem?_eq_some_iff.mp hx
    simp at hj ex
    subst ex
    exact hs j env hj hI) h
  exact ⟨env', e1, by simpa using h1⟩
def kApp {α : Type} (o p : Option (List α)) : Option (List α) := match o, p with
  | some a, some b => some (a ++ b)
  | _, _ => none
@[simp] theorem kApp_0 {α : Type} {a b : List α} : kApp (some a) (some b) = some (a ++ b) := (rfl)
@[simp] theorem unfz_app {ns : List M} : ∀ {ms : List M}, unfz (ms ++ ns) = kApp (unfz ms) (unfz ns)
  | [] => by cases e : unfz ns <;> simp [e, kApp]
  | m :: ms => by
    cases m with
    | fz d =>
      rw [List.cons_append, ev_unfz1, ev_unfz1, unfz_app (ms := ms)]
      cases unfz ms <;> cases unfz ns <;> rfl
    | lst xs => cases e : unfz ns <;> rfl
    | tup xs => cases e : unfz ns <;> rfl
    | dK xs => cases e : unfz ns <;> rfl
    | dT xs => cases e : unfz ns <;> rfl
    | ins C fs => cases e : unfz ns <;> rfl
@[simp] theorem frzs_app {ns : List M} : ∀ {ms : List M}, frzs (ms ++ ns) = kApp (frzs ms) (frzs ns)
  | [] => by cases e : frzs ns <;> simp [e, kApp]
  | m :: ms => by
    rw [List.cons_append, ev_frzs1, ev_frzs1, frzs_app (ms := ms)]
    cases frz m <;> cases frzs ms <;> cases frzs ns <;> rfl
@[simp] theorem frzs_mapf {α : Type} (f : α → D) (xs : List α) : frzs (xs.map fun x => M.fz (f x)) = some (xs.map f) := by
  have e : (xs.map fun x => M.fz (f x)) = (xs.map f).map M.fz := by rw [List.map_map]; rfl
  rw [e, ev_frzm]
@[simp] theorem unfz_mapf {α : Type} (f : α → D) (xs : List α) : unfz (xs.map fun x => M.fz (f x)) = some (xs.map f) := by
  have e : (xs.map fun x => M.fz (f x)) = (xs.map f).map M.fz := by rw [List.map_map]; rfl
  rw [e, ev_unfzm]
@[simp] theorem frzs_mapc {α : Type} (f : α → D) (xs : List α) : frzs (xs.map (M.fz ∘ f)) = some (xs.map f) := frzs_mapf f xs
@[simp] theorem unfz_mapc {α : Type} (f : α → D) (xs : List α) : unfz (xs.map (M.fz ∘ f)) = some (xs.map f) := unfz_mapf f xs
@[simp] theorem itemsA_lst {ms : List M} : itemsA (.lst ms) = frzs ms := by
  unfold itemsA
  rw [ev_frz2]
  cases frzs ms <;> rfl
@[simp] theorem itemsA_str {x : Str} : itemsA (.fz (.str x)) = some (x.cps.toList.map fun c => .str ⟨#[c]⟩) := by simp [itemsA]
@[simp] theorem itemsA_tup {ds : List D} : itemsA (.fz (.tup ds)) = some ds := by simp [itemsA]
@[simp] theorem itemsE_tup {ds : List D} : itemsE 0 (.fz (.tup ds)) = some (enumD 0 ds) := by simp [itemsE]
end Ink
set_option Elab.async false
set_option linter.all false
set_option maxRecDepth 100000
namespace Ink
open PySem L2
def keyM : M → Option Key
  | .fz (.int i) => some (.inl i)
  | .fz (.str x) => some (.inr x)
  | _ => none
def valK {α : Type} (kvs : List (Key × α)) (k : Key) : Option α := (kvs.find? fun kv => decide (kv.1 = k)).map (·.2)
def dctM : M → Option (List (Key × M))
  | .dK kvs => some kvs
  | .fz (.dK kvs) => some (kvs.map fun kv => (kv.1, .fz kv.2))
  | _ => none
theorem keyM_rep {K : PySem.W.Frag} {F H : Hp} {m : M} {v : V} {fp : List Addr} {k : Key} (r : RepM K F H m v fp) (h : keyM m = some k) : v = kV k := by
  unfold keyM at h
  split at h
  · cases h
    exact rep_int (repm_fz r)
  · cases h
    exact rep_str (repm_fz r)
  · cases h
theorem RepMs.ofReps {K : PySem.W.Frag} {F H : Hp} : ∀ {vs : List V} {ds : List D}, Reps K F vs ds → RepMs K F H (ds.map M.fz) vs []
  | _, _, .nil => .nil
  | _, _, .cons a b => .cons (fp := []) (fq := []) (RepM.fz a) (RepMs.ofReps b) fun b hb => by cases hb
theorem dct_rep {K : PySem.W.Frag} {F H : Hp} {m : M} {v : V} {fp : List Addr} {ms : List (Key × M)} (s : Sub F H) (r : RepM K F H m v fp) (h : dctM m = some ms) :
    ∃ a kvs fp', v = .ref a ∧ H a = some (.dK kvs) ∧ kvs.map (·.1) = ms.map (·.1) ∧ RepMs K F H (ms.map (·.2)) (kvs.map (·.2)) fp' := by
  unfold dctM at h
  split at h
  · cases h
    cases r with
    | dK a b c d e => exact ⟨_, _, _, rfl, a, c, d⟩
  · cases h
    cases repm_fz r with
    | dK a b c =>
      refine ⟨_, _, [], rfl, s _ _ a, by rw [b, List.map_map]; rfl, ?_⟩
      have q := RepMs.ofReps (H := H) c
      rw [List.map_map] at q ⊢
      exact q
  · cases h
theorem val_rep {K : PySem.W.Frag} {F H : Hp} {k : Key} : ∀ {ms : List (Key × M)} {kvs : List (Key × V)} {fp : List Addr}, kvs.map (·.1) = ms.map (·.1) → RepMs K F H (ms.map (·.2)) (kvs.map (·.2)) fp →
    (valK ms k = none ∧ valV kvs k = none) ∨ ∃ m v fq, valK ms k = some m ∧ valV kvs k = some v ∧ RepM K F H m v fq ∧ ∀ b ∈ fq, b ∈ fp
  | [], [], _, _, _ => .inl ⟨rfl, rfl⟩
  | [], _ :: _, _, h, _ => by simp at h
  | _ :: _, [], _, h, _ => by simp at h
  | (k1, m) :: ms, (k2, v) :: kvs, fp, h, r => by
    simp only [List.map_cons, List.cons.injEq] at h r
    obtain ⟨rfl, h⟩ := h
    cases r with
    | cons a b c =>
      by_cases e : k2 = k
      · refine .inr ⟨m, v, _, by simp [valK, e], valV_pos e, a, fun b hb => List.mem_append_left _ hb⟩
      · have e1 : valK ((k2, m) :: ms) k = valK ms k := by simp [valK, e]
        rw [e1, valV_neg e]
        rcases val_rep h b with q | ⟨m1, v1, fq, q1, q2, q3, q4⟩
        · exact .inl q
        · exact .inr ⟨m1, v1, fq, q1, q2, q3, fun b hb => List.mem_append_right _ (q4 b hb)⟩
def inA (neg : Bool) (a b : M) : Option M := match dctM b with
  | some ms => match keyM a with
    | some k => some (.fz (.bl (if neg then !(valK ms k).isSome else (valK ms k).isSome)))
    | none => none
  | none => inM neg a b
section
variable {X : Cx}
theorem op_inD (hu : X.A.units + 64 < cLine) : OpR X (compareOp .In) (fun x y H Q => ∃ a o, y = .ref a ∧ DGet H a x o ∧ Q (.bl o.isSome) H) := by
  intro pins s σ H x y v u Q I rx ry h
  obtain ⟨a, o, rfl, g, q⟩ := h
  obtain rfl : u = Value.ref a := ry
  exact d_in (by omega) I g rx fun s3 I3 => ⟨.bl o.isSome, H, I3, rfl, q⟩
theorem ix_dict (hu : X.A.units + 64 < cLine) : IxR X (fun x y H Q => ∃ a v, x = .ref a ∧ DGet H a y (some v) ∧ Q v H) := by
  intro value slice pins s σ H x y v u Q I rx ry h hs
  obtain ⟨a, w, rfl, g, q⟩ := h
  obtain rfl : v = Value.ref a := rx
  exact PyProof.Rows.tail_any (dict_typeIs I g) PySem.F.slot_dict_getitem.lookup (d_getItem (by omega) I g ry fun w' s3 I3 rw' => ⟨w, H, I3, rw', q⟩) hs
end
theorem op2_inA {X : Cx} {rs rq : R2} (K : PySem.W.Frag) (hs : ∀ c z H Q, Q (.bl (decide (c ∈ (z : Str).cps.toList))) H → rs (.str ⟨#[c]⟩) (.str z) H Q) (hq : ∀ x p xs H Q, (SqL K H p xs ∨ SqT K H p xs) → flatV x = true → xs.all flatV = true → Q (.bl (inV x xs)) H → rq x (.ref p) H Q) :
    Op2 K (g2 (inA false)) (fun x y H Q => (rs x y H Q ∨ rq x y H Q) ∨ ∃ a o, y = .ref a ∧ DGet H a x o ∧ Q (.bl (o.isSome)) H) := fun x y H Q Ex p => by
  obtain ⟨F, a, b, m, fps, R, r1, r2, e, p⟩ := g2_at p
  unfold inA at e
  split at e
  · rename_i ms hd
    split at e
    · rename_i k hk
      cases e
      obtain ⟨ad, kvs, fp', rfl, hH, hk2, rs2⟩ := dct_rep R.fr r2 hd
      refine .inr ⟨ad, valV kvs k, rfl, .inl ⟨kvs, k, .inl hH, keyM_rep r1 hk, rfl⟩, ?_⟩
      have q := sp_flat R (Rep.bl _) p
      rcases val_rep (k := k) hk2 rs2 with ⟨q1, q2⟩ | ⟨m1, v1, fq, q1, q2, _, _⟩
      · rw [q1] at q; rw [q2]; exact q
      · rw [q1] at q; rw [q2]; exact q
    · cases e
  · unfold inM at e
    cases ek : inB a b with
    | none => rw [ek] at e; cases e
    | some k =>
      rw [ek] at e; cases e
      have q := sp_flat R (Rep.bl _) p
      rcases inB_at R.fr r1 r2 ek with ⟨c, z, rfl, rfl, rfl⟩ | ⟨pp, xs, rfl, h2, h3, h4, rfl⟩
      · exact .inl (.inl (hs c z H Q q))
      · exact .inl (.inr (hq x pp xs H Q h2 h3 h4 q))
def ixA (a b : M) : Option M := match dctM a with
  | some ms => match keyM b with
    | some k => match valK ms k with
      | some (.fz d) => some (.fz d)
      | _ => none
    | none => none
  | none => ixM a b
theorem op2_ixA {K : PySem.W.Frag} : Op2 K (g2 ixA) (fun x y H Q => rIx K x y H Q ∨ ∃ a v, x = .ref a ∧ DGet H a y (some v) ∧ Q v H) := fun x y H Q Ex p => by
  obtain ⟨F, a, b, m, fps, R, r1, r2, e, p⟩ := g2_at p
  unfold ixA at e
  split at e
  · rename_i ms hd
    split at e
    · rename_i k hk
      split at e
      · rename_i d hv
        cases e
        obtain ⟨ad, kvs, fp', rfl, hH, hk2, rs2⟩ := dct_rep R.fr r1 hd
        rcases val_rep (k := k) hk2 rs2 with ⟨q1, q2⟩ | ⟨m1, v1, fq, q1, q2, rr, _⟩
        · rw [hv] at q1; cases q1
        · rw [hv] at q1; cases q1
          exact .inr ⟨ad, v1, rfl, .inl ⟨kvs, k, .inl hH, keyM_rep r2 hk, q2.symm⟩, sp_flat R (repm_fz rr) p⟩
      · cases e
    · cases e
  · refine .inl (op2_ix x y H Q Ex ⟨F, [a, b], fps, R, ?_⟩)
    rw [show ixG [a, b] = some (.ok m [some a, some b]) by show g2 ixM [a, b] = _; simp only [g2, e]]
    exact p
end Ink
set_option Elab.async false
set_option linter.all false
set_option maxRecDepth 100000
namespace Ink
open PySem L2
section
variable {κ : Type} [DecidableEq κ]
def hasK {α : Type} (kvs : List (κ × α)) (k : κ) : Bool := kvs.any fun kv => decide (kv.1 = k)
def putM (kvs : List (κ × M)) (k : κ) (m : M) : List (κ × M) := if hasK kvs k then kvs.map (fun kv => if kv.1 = k then (kv.1, m) else kv) else kvs ++ [(k, m)]
theorem hasK_keys {α β : Type} {k : κ} : ∀ {xs : List (κ × α)} {ys : List (κ × β)}, xs.map (·.1) = ys.map (·.1) → hasK xs k = hasK ys k
  | [], [], _ => rfl
  | [], _ :: _, h => by simp at h
  | _ :: _, [], h => by simp at h
  | x :: xs, y :: ys, h => by
    simp only [List.map_cons, List.cons.injEq] at h
    have ih := hasK_keys (k := k) h.2
    unfold hasK at ih ⊢
    simp only [List.any_cons, h.1, ih]
/-- a key that stands there gets a plain thing -/
theorem put_old {K : PySem.W.Frag} {F H : Hp} {k : κ} {d : D} {v : V} (rd : Rep K F v d) : ∀ {ms : List (κ × M)} {kvs : List (κ × V)} {fp : List Addr}, kvs.map (·.1) = ms.map (·.1) → RepMs K F H (ms.map (·.2)) (kvs.map (·.2)) fp →
    ∃ fq, (∀ b ∈ fq, b ∈ fp) ∧ (kvs.map fun kv => if kv.1 = k then (kv.1, v) else kv).map (·.1) = (ms.map fun kv => if kv.1 = k then (kv.1, M.fz d) else kv).map (·.1) ∧ RepMs K F H ((ms.map fun kv => if kv.1 = k then (kv.1, M.fz d) else kv).map (·.2)) ((kvs.map fun kv => if kv.1 = k then (kv.1, v) else kv).map (·.2)) fq
  | [], [], fp, _, r => ⟨fp, fun _ h => h, rfl, r⟩
  | [], _ :: _, _, h, _ => by simp at h
  | _ :: _, [], _, h, _ => by simp at h
  | (k1, m) :: ms, (k2, w) :: kvs, fp, h, r => by
    simp only [List.map_cons, List.cons.injEq] at h r
    obtain ⟨rfl, h⟩ := h
    cases r with
    | cons a b c =>
      obtain ⟨fq, s, e, r2⟩ := put_old rd (k := k) h b
      by_cases q : k2 = k
      · refine ⟨[] ++ fq, fun b hb => List.mem_append_right _ (s b hb), ?_, ?_⟩
        · simp only [List.map_cons, q, if_true, e]
        · simp only [List.map_cons, q, if_true]
          exact .cons (RepM.fz rd) r2 fun b hb => by cases hb
      · rename_i f1 f2
        refine ⟨f1 ++ fq, fun b hb => ?_, ?_, ?_⟩
        · rcases List.mem_append.mp hb with z | z
          · exact List.mem_append_left _ z
          · exact List.mem_append_right _ (s b z)
        · simp only [List.map_cons, if_neg q, e]
        · simp only [List.map_cons, if_neg q]
          exact .cons a r2 fun b hb z => c b hb (s b z)
/-- a key that does not stand there: anything that is owned apart -/
theorem put_new {K : PySem.W.Frag} {F H : Hp} {k : κ} {m : M} {v : V} {fm : List Addr} {ms : List (κ × M)} {kvs : List (κ × V)} {fp : List Addr} (h : kvs.map (·.1) = ms.map (·.1)) (r : RepMs K F H (ms.map (·.2)) (kvs.map (·.2)) fp) (rm : RepM K F H m v fm) (d : ∀ b ∈ fp, b ∉ fm) :
    (kvs ++ [(k, v)]).map (·.1) = (ms ++ [(k, m)]).map (·.1) ∧ RepMs K F H ((ms ++ [(k, m)]).map (·.2)) ((kvs ++ [(k, v)]).map (·.2)) (fp ++ fm) := by
  refine ⟨by simp [h], ?_⟩
  rw [List.map_append, List.map_append]
  have q : RepMs K F H [m] [v] (fm ++ []) := .cons rm .nil fun b _ z => by cases z
  rw [List.append_nil] at q
  exact r.append q d
def okPut (kvs : List (κ × M)) (k : κ) (v : M) : Bool := decide (kvs.length < sizeLine) && (!hasK kvs k || isFz v)
/-- the dict behind d[k] = v -/
theorem put_rep {K : PySem.W.Frag} {F H : Hp} {k : κ} {m : M} {v : V} {fm : List Addr} {ms : List (κ × M)} {kvs : List (κ × V)} {fp : List Addr} (h : kvs.map (·.1) = ms.map (·.1)) (r : RepMs K F H (ms.map (·.2)) (kvs.map (·.2)) fp) (rm : RepM K F H m v fm) (d : ∀ b ∈ fp, b ∉ fm) (ok : okPut ms k m = true) :
    ∃ fq, (∀ b ∈ fq, b ∈ fp ∨ b ∈ fm) ∧ (putK kvs k v).map (·.1) = (putM ms k m).map (·.1) ∧ RepMs K F H ((putM ms k m).map (·.2)) ((putK kvs k v).map (·.2)) fq := by
  have hh : hasK kvs k = hasK ms k := hasK_keys h
  unfold putK putM
  have e1 : (kvs.any fun kv => decide (kv.1 = k)) = hasK ms k := hh
  rw [e1]
  cases hk : hasK ms k with
  | false =>
    obtain ⟨a, b⟩ := put_new (k := k) h r rm d
    exact ⟨fp ++ fm, fun b hb => List.mem_append.mp hb, by simpa using a, by simpa using b⟩
  | true =>
    unfold okPut at ok
    rw [hk] at ok
    simp at ok
    cases m with
    | fz dd =>
      obtain ⟨fq, s, a, b⟩ := put_old (repm_fz rm) (k := k) h r
      exact ⟨fq, fun b hb => .inl (s b hb), by simpa using a, by simpa using b⟩
    | lst _ => simp [isFz] at ok
    | tup _ => simp [isFz] at ok
    | dK _ => simp [isFz] at ok
    | dT _ => simp [isFz] at ok
    | ins _ _ => simp [isFz] at ok
end
end Ink
set_option Elab.async false
set_option linter.all false
set_option maxRecDepth 100000
namespace Ink
open PySem L2
mutual
/-- no owned tuple within -/
def noT : M → Bool
  | .fz _ => true
  | .lst ms => noTs ms
  | .tup _ => false
  | .dK kvs => noTK kvs
  | .dT kvs => noTT kvs
  | .ins _ fs => noTF fs
def noTs : List M → Bool
  | [] => true
  | m :: ms => noT m && noTs ms
def noTK : List (Key × M) → Bool
  | [] => true
  | (_, m) :: ms => noT m && noTK ms
def noTT : List (List Key × M) → Bool
  | [] => true
  | (_, m) :: ms => noT m && noTT ms
def noTF : List (Str × M) → Bool
  | [] => true
  | (_, m) :: ms => noT m && noTF ms
end
mutual
/-- tuples, numbers, texts alone -/
def noL : D → Bool
  | .non => true
  | .bl _ => true
  | .int _ => true
  | .str _ => true
  | .tup ds => noLs ds
  | .lst _ => false
  | .dK _ => false
  | .dT _ => false
  | .scr _ => false
  | .ins _ _ => false
  | .lam _ => false
def noLs : List D → Bool
  | [] => true
  | d :: ds => noL d && noLs ds
end
mutual
def noLM : M → Bool
  | .fz d => noL d
  | .lst ms => noLMs ms
  | .tup ms => noLMs ms
  | .dK kvs => noLMK kvs
  | .dT kvs => noLMT kvs
  | .ins _ fs => noLMF fs
def noLMs : List M → Bool
  | [] => true
  | m :: ms => noLM m && noLMs ms
def noLMK : List (Key × M) → Bool
  | [] => true
  | (_, m) :: ms => noLM m && noLMK ms
def noLMT : List (List Key × M) → Bool
  | [] => true
  | (_, m) :: ms => noLM m && noLMT ms
def noLMF : List (Str × M) → Bool
  | [] => true
  | (_, m) :: ms => noLM m && noLMF ms
end
theorem noLMK_vals : ∀ kvs : List (Key × M), noLMK kvs = noLMs (kvs.map (·.2))
  | [] => by simp [noLMK, noLMs]
  | (k, m) :: r => by simp [noLMK, noLMs, noLMK_vals r]
theorem noLMT_vals : ∀ kvs : List (List Key × M), noLMT kvs = noLMs (kvs.map (·.2))
  | [] => by simp [noLMT, noLMs]
  | (k, m) :: r => by simp [noLMT, noLMs, noLMT_vals r]
/-- a thing as it is lent -/
def borM (m : M) : Option M := match noT m with
  | true => match frz m with
    | some d => some (.fz d)
    | none => none
  | false => none
def borO : Option M → Option M
  | some m => borM m
  | none => none
def borE (env : E) : E := env.map borO
def Bor (env : E) (fps : Nat → List Addr) (b : Addr) : Prop := ∃ i m d, b ∈ fps i ∧ env[i]? = some (some m) ∧ noT m = true ∧ frz m = some d
section
variable {K : PySem.W.Frag} {F H : Hp} {σ : St} {env : E} {fps : Nat → List Addr}
theorem Bor.own {b : Addr} (h : Bor env fps b) : Own fps b := let ⟨i, _, _, hb, _⟩ := h; ⟨i, hb⟩
end
def noLX (x : Xc) : Bool := match x.fs with
  | none => true
  | some fs => noLs (fs.map (·.2))
def pureK (env : E) (o : Option (Out Av)) : Option (Out Av) := match o with
  | some (.ok (.tm r) _) => if noLM r then some (.ok (.tm r) env) else none
  | some (.ex x _) => if noLX x then some (.ex x env) else none
  | _ => none
def pureE (f : FE) : FE := fun env => pureK env (f (borE env))
end Ink
set_option Elab.async false
set_option linter.all false
set_option maxRecDepth 100000
namespace Ink
open PySem L2
def noneS : FS := fun _ => none
def mvE (i : Nat) : FE := fun env => match env[i]? with
  | some (some m) => some (.ok (.tm m) (env.set i none))
  | _ => none
theorem e_mv (i : Nat) {X : Cx} {W : WX} {x : Str} {pos : Pos} (hN : X.N[i]? = some x := by rfl) (hv : Vis X.env.scope x := by first | exact Or.inl rfl | exact Or.inr (Or.inl rfl) | exact Or.inr (Or.inr rfl)) (hd : (x == ("__debug__" : Str)) = false := by decide)
    (hcd : (x == ("__classdict__" : Str)) = false := by decide) : PE X (.Name x pos) (rE X.K W (mvE i)) := PE_mono (pe_var hN hv hd hcd) fun σ H Q ⟨F, env, fps, R, p⟩ => by
  unfold mvE at p
  split at p
  · rename_i m e
    obtain ⟨v, hv, r⟩ := R.got i m e
    refine ⟨v, hv, p v F H _ (fps i) (R.drop i) r (fun b hb ⟨j, hj⟩ => ?_) (Ext.refl fun b h => ?_)⟩
    · by_cases ej : j = i
      · simp only [if_pos ej] at hj; cases hj
      · simp only [if_neg ej] at hj; exact R.dj i j (fun q => ej q.symm) b hb hj
    · rcases h with ⟨j, hj⟩ | h
      · by_cases ej : j = i
        · simp only [if_pos ej] at hj; cases hj
        · simp only [if_neg ej] at hj; exact ⟨j, hj⟩
      · exact ⟨i, h⟩
  · exact p.elim
theorem RepMs.focus {K : PySem.W.Frag} {F H : Hp} : ∀ {ms : List M} {vs : List V} {fp : List Addr} {j : Nat} {m : M}, RepMs K F H ms vs fp → ms[j]? = some m →
    ∃ (v : V) (f1 fr : List Addr), vs[j]? = some v ∧ RepM K F H m v f1 ∧ (∀ b, b ∈ fp ↔ b ∈ f1 ∨ b ∈ fr) ∧ (∀ b ∈ f1, b ∉ fr) ∧
      ∀ (F' H' : Hp) (m' : M) (f' : List Addr), Sub F F' → (∀ b ∈ fr, H' b = H b ∧ F' b = none) → RepM K F' H' m' v f' → (∀ b ∈ f', b ∉ fr) → ∃ (fp' : List Addr), RepMs K F' H' (ms.set j m') vs fp' ∧ ∀ b, b ∈ fp' ↔ b ∈ f' ∨ b ∈ fr
  | [], _, _, j, m, .nil, e => by simp at e
  | n :: ms, _, _, 0, m, .cons (fp := f1) (fq := f2) (v := v) (vs := vs) a b d, e => by
    simp at e
    subst e
    refine ⟨v, f1, f2, rfl, a, fun b => List.mem_append, d, fun F' H' m' f' s h r dj => ?_⟩
    exact ⟨f' ++ f2, .cons r (b.frame s (fun b hb => (h b hb).1) fun b hb => (h b hb).2) dj, fun b => List.mem_append⟩
  | n :: ms, _, _, j + 1, m, .cons (fp := f1) (fq := f2) (v := v) (vs := vs) a b d, e => by
    simp at e
    obtain ⟨v1, g1, gr, h1, h2, h3, h4, h5⟩ := RepMs.focus b e
    refine ⟨v1, g1, f1 ++ gr, by simpa using h1, h2, fun b => ?_, fun b hb q => ?_, fun F' H' m' f' s h r dj => ?_⟩
    · rw [List.mem_append, List.mem_append, h3 b]
      constructor
      · rintro (q | q | q)
        · exact .inr (.inl q)
        · exact .inl q
        · exact .inr (.inr q)
      · rintro (q | q | q)
        · exact .inr (.inl q)
        · exact .inl q
        · exact .inr (.inr q)
    · rcases List.mem_append.mp q with q | q
      · exact d b q ((h3 b).mpr (.inl hb))
      · exact h4 b hb q
    · obtain ⟨fp', r2, m2⟩ := h5 F' H' m' f' s (fun b hb => h b (List.mem_append_right _ hb)) r fun b hb q => dj b hb (List.mem_append_right _ q)
      refine ⟨f1 ++ fp', .cons (a.frame s (fun b hb => (h b (List.mem_append_left _ hb)).1) fun b hb => (h b (List.mem_append_left _ hb)).2) r2 fun b hb q => ?_, fun b => ?_⟩
      · rcases (m2 b).mp q with q | q
        · exact dj b q (List.mem_append_left _ hb)
        · exact d b hb ((h3 b).mpr (.inr q))
      · rw [List.mem_append, m2 b, List.mem_append]
        constructor
        · rintro (q | q | q)
          · exact .inr (.inl q)
          · exact .inl q
          · exact .inr (.inr q)
        · rintro (q | q | q)
          · exact .inr (.inl q)
          · exact .inl q
          · exact .inr (.inr q)
def ixB : FP := fun ms => match ms with
  | [.tup xs, .fz (.int i)] => match atI xs i with
    | some (.fz d) => some (.ok (.fz d) [some (.tup xs), some (.fz (.int i))])
    | some m => some (.ok m [none, some (.fz (.int i))])
    | none => none
  | ms => g2 ixA ms
theorem atI_rms {K : PySem.W.Frag} {F H : Hp} {vs : List V} {ms : List M} {fp : List Addr} {i : Int} {m : M} (r : RepMs K F H ms vs fp) (h : atI ms i = some m) : ∃ (v : V) (f1 fr : List Addr), atI vs i = some v ∧ RepM K F H m v f1 ∧ (∀ b, b ∈ fp ↔ b ∈ f1 ∨ b ∈ fr) ∧ (∀ b ∈ f1, b ∉ fr) := by
  unfold atI at h ⊢
  rw [r.length]
  cases e : ixN ms.length i with
  | none => rw [e] at h; cases h
  | some j =>
    rw [e] at h
    obtain ⟨v, f1, fr, h1, h2, h3, h4, _⟩ := r.focus (j := j) h
    exact ⟨v, f1, fr, h1, h2, h3, h4⟩
theorem op2_ixB {K : PySem.W.Frag} : Op2 K ixB (fun x y H Q => rIx K x y H Q ∨ ∃ a v, x = .ref a ∧ DGet H a y (some v) ∧ Q v H) := fun x y H Q Ex p => by
  obtain ⟨F, ms, fps, R, p⟩ := p
  unfold ixB at p
  split at p
  · rename_i xs i
    obtain ⟨v0, h0, r0⟩ := R.got 0 _ rfl
    cases h0
    obtain ⟨v1, h1, r1⟩ := R.got 1 _ rfl
    cases h1
    obtain rfl := rep_int (repm_fz r1)
    have hz := r1.fz_nil
    generalize hf : fps 0 = f0 at r0
    cases r0 with
    | @tup pa ws _ fq a f rs n =>
      split at p
      · rename_i d ed
        obtain ⟨v, f1, fr, e1, r2, _, _⟩ := atI_rms rs ed
        exact .inl (.inr (.inl ⟨pa, ws, i, v, rfl, rfl, SqT.of a, e1, p v F H fps [] R (.fz (repm_fz r2)) Own.not_nil (Ext.refl fun b h => h.elim id fun q => by cases q)⟩))
      · rename_i m hnf ed
        obtain ⟨v, f1, fr, e1, r2, s1, s2⟩ := atI_rms rs ed
        refine .inl (.inr (.inl ⟨pa, ws, i, v, rfl, rfl, SqT.of a, e1, p v F H _ f1 (R.drop 0) r2 (fun b hb ⟨j, hj⟩ => ?_) (Ext.refl fun b h => ?_)⟩))
        · by_cases ej : j = 0
          · simp only [if_pos ej] at hj; cases hj
          · simp only [if_neg ej] at hj
            exact R.dj 0 j (fun q => ej q.symm) b (by rw [hf]; exact List.mem_cons_of_mem _ ((s1 b).mpr (.inl hb))) hj
        · rcases h with ⟨j, hj⟩ | h
          · by_cases ej : j = 0
            · simp only [if_pos ej] at hj; cases hj
            · simp only [if_neg ej] at hj; exact ⟨j, hj⟩
          · exact ⟨0, by rw [hf]; exact List.mem_cons_of_mem _ ((s1 b).mpr (.inl h))⟩
      · exact p.elim
  · exact op2_ixA x y H Q Ex ⟨F, ms, fps, R, p⟩
end Ink
set_option Elab.async false
set_option linter.all false
set_option maxRecDepth 100000
namespace Ink
open PySem L2
section
variable {κ α : Type} [DecidableEq κ]
def valG (kvs : List (κ × α)) (k : κ) : Option α := (kvs.find? fun kv => decide (kv.1 = k)).map (·.2)
def chgG : List (κ × α) → κ → α → List (κ × α)
  | [], _, _ => []
  | (k1, m1) :: r, k, m => if k1 = k then (k1, m) :: r else (k1, m1) :: chgG r k m
theorem valG_pos {k : κ} {m : α} {r : List (κ × α)} : valG ((k, m) :: r) k = some m := by simp [valG]
theorem valG_neg {k k1 : κ} {m : α} {r : List (κ × α)} (h : ¬ k1 = k) : valG ((k1, m) :: r) k = valG r k := by simp [valG, h]
theorem valG_at {k : κ} : ∀ {kvs : List (κ × α)} {m : α}, valG kvs k = some m → ∃ j : Nat, (kvs.map (·.2))[j]? = some m ∧ (∀ m', (chgG kvs k m').map (·.2) = (kvs.map (·.2)).set j m' ∧ (chgG kvs k m').map (·.1) = kvs.map (·.1)) ∧
    ∀ {β : Type} (zs : List (κ × β)), zs.map (·.1) = kvs.map (·.1) → valG zs k = (zs.map (·.2))[j]?
  | [], m, h => by simp [valG] at h
  | (k1, m1) :: r, m, h => by
    by_cases e : k1 = k
    · subst e
      rw [valG_pos] at h; cases h
      refine ⟨0, rfl, fun m' => by simp [chgG], fun zs hz => ?_⟩
      match zs, hz with
      | (k2, z) :: zs, hz =>
        simp only [List.map_cons, List.cons.injEq] at hz
        obtain ⟨rfl, _⟩ := hz
        rw [valG_pos]; rfl
    · rw [valG_neg e] at h
      obtain ⟨j, h1, h2, h3⟩ := valG_at h
      refine ⟨j + 1, by simpa using h1, fun m' => ?_, fun zs hz => ?_⟩
      · obtain ⟨a, b⟩ := h2 m'
        constructor
        · simp only [chgG, if_neg e, List.map_cons, a, List.set_cons_succ]
        · simp only [chgG, if_neg e, List.map_cons, b]
      · match zs, hz with
        | (k2, z) :: zs, hz =>
          simp only [List.map_cons, List.cons.injEq] at hz
          obtain ⟨hk2, hz⟩ := hz
          rw [hk2, valG_neg e, h3 zs hz]; rfl
end
inductive Way where
  | ix (i : Int) | ky (k : Key) | kt (k : List Key) | fl (x : Str)
def getC : M → Way → Option M
  | .lst ms, .ix i => atI ms i
  | .dK kvs, .ky k => valG kvs k
  | .dT kvs, .kt k => valG kvs k
  | .ins _ fs, .fl x => valG fs x
  | _, _ => none
def putC : M → Way → M → Option M
  | .lst ms, .ix i, m => match ixN ms.length i with
    | some j => some (.lst (ms.set j m))
    | none => none
  | .dK kvs, .ky k, m => some (.dK (chgG kvs k m))
  | .dT kvs, .kt k, m => some (.dT (chgG kvs k m))
  | .ins C fs, .fl x, m => some (.ins C (chgG fs x m))
  | _, _, _ => none
def chO : HO → Way → Option V
  | .lst vs, .ix i => atI vs i
  | .dK kvs, .ky k => valG kvs k
  | .dT kvs, .kt k => valG kvs k
  | .ins _ _ fs, .fl x => valG fs x
  | _, _ => none
theorem mem_cons_split {b p : Addr} {fq f1 fr : List Addr} (h : ∀ b, b ∈ fq ↔ b ∈ f1 ∨ b ∈ fr) : b ∈ p :: fq ↔ b ∈ f1 ∨ b ∈ p :: fr := by
  rw [List.mem_cons, h b, List.mem_cons]
  constructor
  · rintro (q | q | q)
    · exact .inr (.inl q)
    · exact .inl q
    · exact .inr (.inr q)
  · rintro (q | q | q)
    · exact .inr (.inl q)
    · exact .inl q
    · exact .inr (.inr q)
theorem RepM.focus {K : PySem.W.Frag} {F H : Hp} {m : M} {v : V} {fp : List Addr} {s : Way} {m1 : M} (h : RepM K F H m v fp) (e : getC m s = some m1) :
    ∃ (p : Addr) (o : HO) (v1 : V) (f1 fr : List Addr), v = .ref p ∧ H p = some o ∧ F p = none ∧ chO o s = some v1 ∧ RepM K F H m1 v1 f1 ∧ p ∈ fr ∧ (∀ b, b ∈ fp ↔ b ∈ f1 ∨ b ∈ fr) ∧ (∀ b ∈ f1, b ∉ fr) ∧
      ∀ (F' H' : Hp) (m' : M) (f' : List Addr), Sub F F' → (∀ b ∈ fr, H' b = H b ∧ F' b = none) → RepM K F' H' m' v1 f' → (∀ b ∈ f', b ∉ fr) → ∃ (mm : M) (fp' : List Addr), putC m s m' = some mm ∧ RepM K F' H' mm v fp' ∧ ∀ b, b ∈ fp' ↔ b ∈ f' ∨ b ∈ fr := by
  have split : ∀ {p : Addr} {fq f1 fr : List Addr}, p ∉ fq → (∀ b, b ∈ fq ↔ b ∈ f1 ∨ b ∈ fr) → (∀ b ∈ f1, b ∉ fr) → ∀ b ∈ f1, b ∉ p :: fr := fun n hs d b hb q => by
    rcases List.mem_cons.mp q with rfl | q
    · exact n ((hs b).mpr (.inl hb))
    · exact d b hb q
  have np : ∀ {p : Addr} {fq f1 fr f' fp' : List Addr}, (∀ b, b ∈ fp' ↔ b ∈ f' ∨ b ∈ fr) → p ∉ fq → (∀ b, b ∈ fq ↔ b ∈ f1 ∨ b ∈ fr) → (∀ b ∈ f', b ∉ p :: fr) → p ∉ fp' := fun m2 n hs dj q => by
    rcases (m2 _).mp q with q | q
    · exact dj _ q (List.mem_cons_self ..)
    · exact n ((hs _).mpr (.inr q))
  cases h with
  | fz _ => cases s <;> simp [getC] at e
  | tup _ _ _ _ => cases s <;> simp [getC] at e
  | @lst p vs ms fq a f rs n =>
    cases s with
    | ix i =>
      simp only [getC, atI] at e
      cases ej : ixN ms.length i with
      | none => rw [ej] at e; cases e
      | some j =>
        rw [ej] at e
        obtain ⟨v1, f1, fr, h1, h2, h3, h4, h5⟩ := rs.focus (j := j) e
        refine ⟨p, _, v1, f1, p :: fr, rfl, a, f, ?_, h2, List.mem_cons_self .., fun b => mem_cons_split h3, split n h3 h4, fun F' H' m' f' s hk r dj => ?_⟩
        · simp only [chO, atI, rs.length, ej]; exact h1
        · obtain ⟨fp', r2, m2⟩ := h5 F' H' m' f' s (fun b hb => hk b (List.mem_cons_of_mem _ hb)) r fun b hb q => dj b hb (List.mem_cons_of_mem _ q)
          refine ⟨.lst (ms.set j m'), p :: fp', by simp only [putC, ej], .lst (by rw [(hk p (List.mem_cons_self ..)).1]; exact a) (hk p (List.mem_cons_self ..)).2 r2 (np m2 n h3 dj), fun b => mem_cons_split m2⟩
    | _ => simp [getC] at e
  | @dK p kvs ms fq a f hk rs n =>
    cases s with
    | ky k =>
      obtain ⟨j, e1, e2, e3⟩ := valG_at (show valG ms k = some m1 from e)
      obtain ⟨v1, f1, fr, h1, h2, h3, h4, h5⟩ := rs.focus (j := j) e1
      refine ⟨p, _, v1, f1, p :: fr, rfl, a, f, ?_, h2, List.mem_cons_self .., fun b => mem_cons_split h3, split n h3 h4, fun F' H' m' f' s hh r dj => ?_⟩
      · show valG kvs k = some v1
        rw [e3 kvs hk]; exact h1
      · obtain ⟨fp', r2, m2⟩ := h5 F' H' m' f' s (fun b hb => hh b (List.mem_cons_of_mem _ hb)) r fun b hb q => dj b hb (List.mem_cons_of_mem _ q)
        refine ⟨.dK (chgG ms k m'), p :: fp', rfl, .dK (by rw [(hh p (List.mem_cons_self ..)).1]; exact a) (hh p (List.mem_cons_self ..)).2 (by rw [hk, (e2 m').2]) (by rw [(e2 m').1]; exact r2) (np m2 n h3 dj), fun b => mem_cons_split m2⟩
    | _ => simp [getC] at e
  | @dT p kvs ms fq a f hk rs n =>
    cases s with
    | kt k =>
      obtain ⟨j, e1, e2, e3⟩ := valG_at (show valG ms k = some m1 from e)
      obtain ⟨v1, f1, fr, h1, h2, h3, h4, h5⟩ := rs.focus (j := j) e1
      refine ⟨p, _, v1, f1, p :: fr, rfl, a, f, ?_, h2, List.mem_cons_self .., fun b => mem_cons_split h3, split n h3 h4, fun F' H' m' f' s hh r dj => ?_⟩
      · show valG kvs k = some v1
        rw [e3 kvs hk]; exact h1
      · obtain ⟨fp', r2, m2⟩ := h5 F' H' m' f' s (fun b hb => hh b (List.mem_cons_of_mem _ hb)) r fun b hb q => dj b hb (List.mem_cons_of_mem _ q)
        refine ⟨.dT (chgG ms k m'), p :: fp', rfl, .dT (by rw [(hh p (List.mem_cons_self ..)).1]; exact a) (hh p (List.mem_cons_self ..)).2 (by rw [hk, (e2 m').2]) (by rw [(e2 m').1]; exact r2) (np m2 n h3 dj), fun b => mem_cons_split m2⟩
    | _ => simp [getC] at e
  | @ins p C dx kvs ms fq a f hk rs n =>
    cases s with
    | fl k =>
      obtain ⟨j, e1, e2, e3⟩ := valG_at (show valG ms k = some m1 from e)
      obtain ⟨v1, f1, fr, h1, h2, h3, h4, h5⟩ := rs.focus (j := j) e1
      refine ⟨p, _, v1, f1, p :: fr, rfl, a, f, ?_, h2, List.mem_cons_self .., fun b => mem_cons_split h3, split n h3 h4, fun F' H' m' f' s hh r dj => ?_⟩
      · show valG kvs k = some v1
        rw [e3 kvs hk]; exact h1
      · obtain ⟨fp', r2, m2⟩ := h5 F' H' m' f' s (fun b hb => hh b (List.mem_cons_of_mem _ hb)) r fun b hb q => dj b hb (List.mem_cons_of_mem _ q)
        refine ⟨.ins C (chgG ms k m'), p :: fp', rfl, .ins (by rw [(hh p (List.mem_cons_self ..)).1]; exact a) (hh p (List.mem_cons_self ..)).2 (by rw [hk, (e2 m').2]) (by rw [(e2 m').1]; exact r2) (np m2 n h3 dj), fun b => mem_cons_split m2⟩
    | _ => simp [getC] at e
def kSub4 (env : E) (i : Nat) (r : M) (o : Option M) : Option (Out Av) := match o with
  | some m' => some (.ok (.tm r) (env.set i (some m')))
  | none => none
def kSub3 (env : E) (i : Nat) (s : Way) (m : M) (o : Option OutP) : Option (Out Av) := match o with
  | some (.ok r (some m1' :: _)) => kSub4 env i r (putC m s m1')
  | _ => none
def kSub2 (env : E) (i : Nat) (s : Way) (g : FP) (ms : List M) (m : M) (o : Option M) : Option (Out Av) := match o with
  | some m1 => kSub3 env i s m (g (m1 :: ms))
  | none => none
def partG (env : E) (i : Nat) (s : Way) (g : FP) (ms : List M) : Option (Out Av) := match env[i]? with
  | some (some m) => kSub2 env i s g ms m (getC m s)
  | _ => none
end Ink
set_option Elab.async false
set_option linter.all false
set_option maxRecDepth 100000
namespace Ink
open PySem L2
/-- an expression that tells a part of what slot i holds -/
abbrev FC := E → Option (E × Way)
def kPart2 (i : Nat) (s : Way) (g : FP) (env : E) (o : Option (List M)) : Option (Out Av) := match o with
  | some ms => if noLMs ms then partG env i s g ms else none
  | none => none
def kPart1 (i : Nat) (s : Way) (g : FP) (env : E) (o : Option (Out (List Av))) : Option (Out Av) := match o with
  | some (.ok as _) => kPart2 i s g env (tms as)
  | _ => none
def kPart0 (T : Kd) (i : Nat) (s : Way) (g : FP) (fa : FA) (env : E) (o : Option M) : Option (Out Av) := match o with
  | some m1 => match tyM T m1 with
    | true => kPart1 i s g env (fa (borE env))
    | false => none
  | none => none
def kPartC (T : Kd) (i : Nat) (g : FP) (fa : FA) (o : Option (E × Way)) : Option (Out Av) := match o with
  | some (env, s) => match env[i]? with
    | some (some m) => kPart0 T i s g fa env (getC m s)
    | _ => none
  | none => none
def partE (T : Kd) (i : Nat) (fc : FC) (g : FP) (fa : FA) : FE := fun env => kPartC T i g fa (fc env)
section
variable {X : Cx} {W : WX} {o e : Expr} {es : List Expr} {fc : FC} {fa : FA} {g : FP} {name : Str} {apos cpos : Pos} {id : String} {r : V → List V → Hp → VK → Prop} {T : Kd} {i : Nat}
def keyE (env : E) (f : FE) : Option Key := match f (borE env) with
  | some (.ok a env1) => match resA env1 a with
    | some m => keyM m
    | none => none
  | _ => none
/-- NAME[e] -/
def ixC (i : Nat) (f : FE) : FC := fun env => match keyE env f with
  | some (.inl n) => match env[i]? with
    | some (some (.lst ms)) => if (atI ms n).isSome then some (env, .ix n) else none
    | _ => none
  | _ => none
variable {x : Str} {px pos : Pos} {f fd : FE}
/-- NAME.setdefault(k, []) -/
def sdC (i : Nat) (f : FE) : FC := fun env => match keyE env f with
  | some k => match env[i]? with
    | some (some (.dK kvs)) => if kvs.length < sizeLine then (match valG kvs k with
      | some _ => some (env, .ky k)
      | none => some (env.set i (some (.dK (kvs ++ [(k, .lst [])]))), .ky k)) else none
    | _ => none
  | none => none
theorem valG_keys {κ α β : Type} [DecidableEq κ] {k : κ} : ∀ {xs : List (κ × α)} {ys : List (κ × β)}, xs.map (·.1) = ys.map (·.1) → (valG xs k = none ↔ valG ys k = none)
  | [], [], _ => ⟨fun _ => rfl, fun _ => rfl⟩
  | [], _ :: _, h => by simp at h
  | _ :: _, [], h => by simp at h
  | (a, b) :: xs, (c, d) :: ys, h => by
    simp only [List.map_cons, List.cons.injEq] at h
    obtain ⟨rfl, h⟩ := h
    by_cases e : a = k
    · subst e
      rw [valG_pos, valG_pos]
      exact ⟨(fun q => nomatch q), (fun q => nomatch q)⟩
    · rw [valG_neg e, valG_neg e]
      exact valG_keys h
end
end Ink
set_option Elab.async false
set_option linter.all false
set_option maxRecDepth 100000
namespace Ink
open PySem L2
def keysD : List D → Option (List Key)
  | [] => some []
  | .int i :: r => match keysD r with
    | some ks => some (.inl i :: ks)
    | none => none
  | .str x :: r => match keysD r with
    | some ks => some (.inr x :: ks)
    | none => none
  | _ :: _ => none
def keyT : M → Option (List Key)
  | .fz (.tup ds) => keysD ds
  | _ => none
theorem keysD_reps {K : PySem.W.Frag} {F : Hp} : ∀ {vs : List V} {ds : List D} {ks : List Key}, Reps K F vs ds → keysD ds = some ks → vs = ks.map kV
  | _, [], ks, .nil, e => by rw [keysD] at e; cases e; rfl
  | _, .int i :: r, ks, .cons a t, e => by
    rw [keysD] at e
    cases e2 : keysD r with
    | none => rw [e2] at e; cases e
    | some cs => rw [e2] at e; cases e; rw [rep_int a, keysD_reps t e2]; rfl
  | _, .str i :: r, ks, .cons a t, e => by
    rw [keysD] at e
    cases e2 : keysD r with
    | none => rw [e2] at e; cases e
    | some cs => rw [e2] at e; cases e; rw [rep_str a, keysD_reps t e2]; rfl
  | _, .non :: _, _, _, e => by simp [keysD] at e
  | _, .bl _ :: _, _, _, e => by simp [keysD] at e
  | _, .lst _ :: _, _, _, e => by simp [keysD] at e
  | _, .tup _ :: _, _, _, e => by simp [keysD] at e
  | _, .dK _ :: _, _, _, e => by simp [keysD] at e
  | _, .dT _ :: _, _, _, e => by simp [keysD] at e
  | _, .scr _ :: _, _, _, e => by simp [keysD] at e
  | _, .ins _ _ :: _, _, _, e => by simp [keysD] at e
  | _, .lam _ :: _, _, _, e => by simp [keysD] at e
theorem keyT_rep {K : PySem.W.Frag} {F H : Hp} {m : M} {v : V} {fp : List Addr} {k : List Key} (s : Sub F H) (r : RepM K F H m v fp) (h : keyT m = some k) : ∃ b, v = .ref b ∧ H b = some (.tup (k.map kV)) := by
  unfold keyT at h
  split at h
  · cases repm_fz r with
    | tup a b => exact ⟨_, rfl, by rw [s _ _ a, keysD_reps b h]⟩
  · cases h
theorem PSet.or {X : Cx} {t t' : TSet} (h : PSet X t) (h' : PSet X t') : PSet X (fun o i v H Q => t o i v H Q ∨ t' o i v H Q) := fun pins s σ H o i v ov iv u Q I a b c q => q.elim (h pins s σ H o i v ov iv u Q I a b c) (h' pins s σ H o i v ov iv u Q I a b c)
def setA : FP := fun ms => match ms with
  | [v, .dK kvs, k] => match keyM k with
    | some kk => if okPut kvs kk v then some (.ok (.fz .non) [none, some (.dK (putM kvs kk v)), some k]) else none
    | none => none
  | [v, .dT kvs, k] => match keyT k with
    | some kk => if okPut kvs kk v then some (.ok (.fz .non) [none, some (.dT (putM kvs kk v)), some k]) else none
    | none => none
  | ms => setG ms
section
variable {K : PySem.W.Frag}
theorem op_setA {v o i : V} {H : Hp} {Q : Hp → Prop} {Ex : XK} (p : spOf K setA [v, o, i] H (fun _ H1 => Q H1) Ex) : rSetL o i v H Q ∨ rSetD o i v H Q := by
  obtain ⟨F, ms, fps, R, p⟩ := p
  unfold setA at p
  have fin : ∀ {q : Addr} {fq fr : List Addr} {mm m2 : M} {ob : HO}, fps 1 = q :: fq → o = .ref q → F q = none → ms = [ms.getD 0 mm, ms.getD 1 mm, ms.getD 2 mm] → (∀ b ∈ fr, b ∈ fq ∨ b ∈ fps 0) → RepM K F (upd H q ob) m2 (.ref q) (q :: fr) →
      poP K F H (Own fps) [v, o, i] (some (.ok (.fz .non) [none, some m2, some (ms.getD 2 mm)])) (fun _ H1 => Q H1) Ex → Q (upd H q ob) := by
    intro q fq fr mm m2 ob hfp eo hF hms hfr rM p
    subst eo
    have R1 := R.drop 0
    have R2 := args_upd (i := 1) (m := m2) (fp := q :: fr) R1 rfl (by simp [hfp]) hF rM (fun b hb a ha z => by
      by_cases e1 : a = 0
      · simp only [if_pos e1] at z; cases z
      · simp only [if_neg e1] at z
        rcases List.mem_cons.mp hb with rfl | hb
        · exact R.dj 1 a (fun q => ha q.symm) b (by rw [hfp]; exact List.mem_cons_self ..) z
        · rcases hfr b hb with hb | hb
          · exact R.dj 1 a (fun q => ha q.symm) b (by rw [hfp]; exact List.mem_cons_of_mem _ hb) z
          · exact R.dj 0 a (fun q => e1 q.symm) b hb z) (rM.nt (List.mem_cons_self ..) upd_same)
    rw [hms] at R2
    refine p .non F _ _ [] R2 (.fz .non) Own.not_nil ?_
    refine (Ext.putO R ⟨1, by rw [hfp]; exact List.mem_cons_self ..⟩ (rM.nt (List.mem_cons_self ..) upd_same)).weak fun b h => ?_
    rcases h with ⟨a, ha⟩ | h
    · by_cases e0 : a = 1
      · simp only [if_pos e0] at ha
        rcases List.mem_cons.mp ha with rfl | z
        · exact ⟨1, by rw [hfp]; exact List.mem_cons_self ..⟩
        · rcases hfr b z with z | z
          · exact ⟨1, by rw [hfp]; exact List.mem_cons_of_mem _ z⟩
          · exact ⟨0, z⟩
      · simp only [if_neg e0] at ha
        by_cases e1 : a = 0
        · simp only [if_pos e1] at ha; cases ha
        · simp only [if_neg e1] at ha; exact ⟨a, ha⟩
    · cases h
  split at p
  · rename_i y kvs k
    cases ek : keyM k with
    | none => rw [ek] at p; exact p.elim
    | some kk =>
      simp only [ek] at p
      split at p
      · rename_i hok
        obtain ⟨v0, h0, r0⟩ := R.got 0 _ rfl
        cases h0
        obtain ⟨v1, h1, r1⟩ := R.got 1 _ rfl
        cases h1
        obtain ⟨v2, h2, r2⟩ := R.got 2 _ rfl
        cases h2
        have ekv := keyM_rep r2 ek
        have dj : ∀ b ∈ fps 0, b ∉ fps 1 := R.dj 0 1 (by omega)
        have hl : kvs.length < sizeLine := by
          simp only [okPut, Bool.and_eq_true, decide_eq_true_eq] at hok
          exact hok.1
        generalize hfp : fps 1 = f1 at r1
        cases r1 with
        | @dK q ws _ fq a f hk rs n =>
          obtain ⟨fr, s1, k1, r3⟩ := put_rep (k := kk) hk rs r0 (fun b hb z => dj b z (by rw [hfp]; exact List.mem_cons_of_mem _ hb)) hok
          have hnq : ∀ b ∈ fr, b ≠ q := fun b hb e => by
            subst e
            rcases s1 b hb with z | z
            · exact n z
            · exact dj b z (by rw [hfp]; exact List.mem_cons_self ..)
          have hlw : ws.length = kvs.length := by have := congrArg List.length hk; simpa using this
          refine .inr ⟨q, _, rfl, .inl ⟨ws, kk, a, ekv, by omega, rfl⟩, ?_⟩
          exact fin (mm := y) hfp rfl f rfl s1 (.dK upd_same f k1 (r3.frame (Sub.refl _) (fun b hb => upd_ne (hnq b hb)) fun b hb => (r3.live b hb).2) fun z => hnq q z rfl) p
      · exact p.elim
  · rename_i y kvs k
    cases ek : keyT k with
    | none => rw [ek] at p; exact p.elim
    | some kk =>
      simp only [ek] at p
      split at p
      · rename_i hok
        obtain ⟨v0, h0, r0⟩ := R.got 0 _ rfl
        cases h0
        obtain ⟨v1, h1, r1⟩ := R.got 1 _ rfl
        cases h1
        obtain ⟨v2, h2, r2⟩ := R.got 2 _ rfl
        cases h2
        obtain ⟨kb, ekv, hkb⟩ := keyT_rep R.fr r2 ek
        have dj : ∀ b ∈ fps 0, b ∉ fps 1 := R.dj 0 1 (by omega)
        have hl : kvs.length < sizeLine := by
          simp only [okPut, Bool.and_eq_true, decide_eq_true_eq] at hok
          exact hok.1
        generalize hfp : fps 1 = f1 at r1
        cases r1 with
        | @dT q ws _ fq a f hk rs n =>
          obtain ⟨fr, s1, k1, r3⟩ := put_rep (k := kk) hk rs r0 (fun b hb z => dj b z (by rw [hfp]; exact List.mem_cons_of_mem _ hb)) hok
          have hnq : ∀ b ∈ fr, b ≠ q := fun b hb e => by
            subst e
            rcases s1 b hb with z | z
            · exact n z
            · exact dj b z (by rw [hfp]; exact List.mem_cons_self ..)
          have hlw : ws.length = kvs.length := by have := congrArg List.length hk; simpa using this
          refine .inr ⟨q, _, rfl, .inr ⟨ws, kk, kb, a, ekv, hkb, by omega, rfl⟩, ?_⟩
          exact fin (mm := y) hfp rfl f rfl s1 (.dT upd_same f k1 (r3.frame (Sub.refl _) (fun b hb => upd_ne (hnq b hb)) fun b hb => (r3.live b hb).2) fun z => hnq q z rfl) p
      · exact p.elim
  · exact .inl (op_set ⟨F, _, fps, R, p⟩)
end
def setSA (fe fo fi : FE) : FS := fun env => bindS (callE setA (arg3 fe fo fi) env) fun _ env1 => some (.nx env1)
section
variable {X : Cx} {W : WX} {P : List Nat} {e o i : Expr} {fe fo fi : FE} {pos spos : Pos}
theorem s_setitemA (hu : X.A.units + 64 < cLine) (he : PE X e (rE X.K W fe)) (ho : PE X o (rE X.K W fo)) (hi : PE X i (rE X.K W fi)) (ha : ∀ v, assign (.Subscript o i spos) X.env v = (do
      let ov ← holding [v] (eval o X.env)
      let iv ← holding [v, ov] (eval i X.env)
      standAt spos
      holding [v, ov, iv] (setItem ov iv v)
      release [v, ov, iv] []) := by intro _; rfl)
    (hs : swapsWithSole [.Subscript o i spos] e pos.line X.env = pure false := by rfl) (hw : swappedStores [.Subscript o i spos] e X.env = pure none := by rfl)
    (h1 : (assignEach [.Subscript o i spos] X.env).map (·.2) = [assign (.Subscript o i spos) X.env] := by rfl) : PS X (.Assign [.Subscript o i spos] e pos) (rS X.K W P (setSA (tk fe) fo fi)) := PS_mono (ps_asg (e_tk he) (pg_sub ho hi (PSet.or set_list (set_dict (by omega))) ha) hs hw h1) fun D σ H ⟨F, env, fps, R, p⟩ => by
  have q : rE X.K W (callE setA (arg3 (tk fe) fo fi)) σ H (fun _ H1 => D.nx σ H1) := by
    refine ⟨F, env, fps, R, ?_⟩
    unfold setSA at p
    cases ef : callE setA (arg3 (tk fe) fo fi) env with
    | none => rw [ef] at p; exact p
    | some z =>
      rw [ef] at p
      cases z with
      | ex x env1 => exact PXS.px p
      | ok a env1 => exact fun v F' H' fps' fp R' r d e' => p σ F' H' fps' R' .refl (e'.weak fun _ h => .inl h)
  exact rE_imp (fun x H1 p1 => rE_imp (fun y H2 p2 => rE_imp (fun z H3 p3 => op_setA (ra_nil p3)) (ra_cons p2)) (ra_cons p1)) (ra_cons (r_call q))
def newE (m : M) : FE := fun env => some (.ok (.tm m) env)
theorem e_dnewT : PE X (.Dict [] [] pos) (rE X.K W (newE (.dT []))) := PE_mono pe_dnewT fun σ H Q ⟨F, env, fps, R, p⟩ q hq => by
  have en : Ext X.K F H (fun _ => False) F (upd H q (.dT [])) (fun b => False ∨ b = q) := Ext.new hq
  obtain ⟨R2, n2⟩ := R.frame (fun b _ h => h) en (sub_new R.fr hq)
  refine p (.ref q) F _ fps [q] R2 (.dT upd_same (sub_none R.fr hq) rfl .nil fun h => by cases h) (fun b hb z => n2 b z (.inr (by simpa using hb))) ?_
  exact (Ext.new (A := Own fps) hq).weak fun b h => h.imp id fun z => by simpa using z
end
end Ink
set_option Elab.async false
set_option linter.all false
set_option maxRecDepth 100000
namespace Ink
open PySem L2
def disp1 (fk fv : FE) : FE := fun env => bindO (fk env) fun a env1 => match resA env1 a with
  | some mk => match keyM mk with
    | some k => bindO (fv env1) fun b env2 => match b with
      | .tm m => some (.ok (.tm (.dK [(k, m)])) env2)
      | .sl _ => none
    | none => none
  | none => none
section
variable {X : Cx} {W : WX} {e o ek ev : Expr} {es : List Expr} {fe fo fk fv : FE} {pos apos cpos : Pos}
def getK2 (m k z : M) (o : Option M) : Option OutP := match o with
  | some (.fz d) => some (.ok (.fz d) [some m, some k, some z])
  | some _ => none
  | none => some (.ok z [some m, some k, none])
def getV (m k : M) : Option (Option M) := match m with
  | .dK kvs => (keyM k).map (valG kvs)
  | .fz (.dK kvs) => (keyM k).map fun kk => (valG kvs kk).map M.fz
  | .dT kvs => (keyT k).map (valG kvs)
  | .fz (.dT kvs) => (keyT k).map fun kk => (valG kvs kk).map M.fz
  | _ => none
def getG : FP := fun ms => match ms with
  | [m, k, z] => match getV m k with
    | some o => getK2 m k z o
    | none => none
  | _ => none
theorem valG_rms {K : PySem.W.Frag} {F H : Hp} {κ : Type} [DecidableEq κ] {kvs : List (κ × V)} {ms : List (κ × M)} {fp : List Addr} {k : κ} (hk : kvs.map (·.1) = ms.map (·.1)) (r : RepMs K F H (ms.map (·.2)) (kvs.map (·.2)) fp) :
    (valG ms k = none ∧ valG kvs k = none) ∨ ∃ m v fq, valG ms k = some m ∧ valG kvs k = some v ∧ RepM K F H m v fq := by
  cases e : valG ms k with
  | none => exact .inl ⟨rfl, (valG_keys hk).mpr e⟩
  | some m =>
    obtain ⟨j, e1, _, e3⟩ := valG_at e
    obtain ⟨v, f1, fr, h1, h2, _⟩ := r.focus e1
    exact .inr ⟨m, v, f1, rfl, by rw [e3 kvs hk]; exact h1, h2⟩
theorem valG_reps {K : PySem.W.Frag} {F : Hp} {κ : Type} [DecidableEq κ] {kvs : List (κ × V)} {ds : List (κ × D)} {k : κ} (hk : kvs.map (·.1) = ds.map (·.1)) (r : Reps K F (kvs.map (·.2)) (ds.map (·.2))) :
    (valG ds k = none ∧ valG kvs k = none) ∨ ∃ d v, valG ds k = some d ∧ valG kvs k = some v ∧ Rep K F v d := by
  cases e : valG ds k with
  | none => exact .inl ⟨rfl, (valG_keys hk).mpr e⟩
  | some m =>
    obtain ⟨j, e1, _, e3⟩ := valG_at e
    obtain ⟨v, h1, h2⟩ := r.get e1
    exact .inr ⟨m, v, rfl, by rw [e3 kvs hk]; exact h1, h2⟩
theorem getV_rep {K : PySem.W.Frag} {F H : Hp} {m k : M} {x y : V} {f1 f2 : List Addr} {o : Option M} (s : Sub F H) (r1 : RepM K F H m x f1) (r2 : RepM K F H k y f2) (h : getV m k = some o) :
    ∃ a, x = .ref a ∧ ((o = none ∧ DGet H a y none) ∨ ∃ n v fq, o = some n ∧ DGet H a y (some v) ∧ RepM K F H n v fq) := by
  unfold getV at h
  split at h
  · rename_i kvs
    cases ek : keyM k with
    | none => rw [ek] at h; cases h
    | some kk =>
      rw [ek] at h
      have ey := keyM_rep r2 ek
      subst ey
      cases r1 with
      | @dK p ws _ fq a f hk rs n =>
        cases h
        refine ⟨p, rfl, ?_⟩
        rcases valG_rms (k := kk) hk rs with ⟨z1, z2⟩ | ⟨m, v, fq, z1, z2, z3⟩
        · exact .inl ⟨z1, .inl ⟨ws, kk, .inl a, rfl, z2.symm⟩⟩
        · exact .inr ⟨m, v, fq, z1, .inl ⟨ws, kk, .inl a, rfl, z2.symm⟩, z3⟩
  · rename_i kvs
    cases ek : keyM k with
    | none => rw [ek] at h; cases h
    | some kk =>
      rw [ek] at h
      have ey := keyM_rep r2 ek
      subst ey
      cases repm_fz r1 with
      | @dK p ws _ a hk rs =>
        cases h
        refine ⟨p, rfl, ?_⟩
        rcases valG_reps (k := kk) hk rs with ⟨z1, z2⟩ | ⟨m, v, z1, z2, z3⟩
        · exact .inl ⟨by show Option.map M.fz (valG kvs kk) = _; rw [z1]; rfl, .inl ⟨ws, kk, .inl (s _ _ a), rfl, z2.symm⟩⟩
        · exact .inr ⟨.fz m, v, [], by show Option.map M.fz (valG kvs kk) = _; rw [z1]; rfl, .inl ⟨ws, kk, .inl (s _ _ a), rfl, z2.symm⟩, .fz z3⟩
  · rename_i kvs
    cases ek : keyT k with
    | none => rw [ek] at h; cases h
    | some kk =>
      rw [ek] at h
      obtain ⟨b, rfl, hb⟩ := keyT_rep s r2 ek
      cases r1 with
      | @dT p ws _ fq a f hk rs n =>
        cases h
        refine ⟨p, rfl, ?_⟩
        rcases valG_rms (k := kk) hk rs with ⟨z1, z2⟩ | ⟨m, v, fq, z1, z2, z3⟩
        · exact .inl ⟨z1, .inr ⟨ws, kk, b, .inl a, rfl, hb, z2.symm⟩⟩
        · exact .inr ⟨m, v, fq, z1, .inr ⟨ws, kk, b, .inl a, rfl, hb, z2.symm⟩, z3⟩
  · rename_i kvs
    cases ek : keyT k with
    | none => rw [ek] at h; cases h
    | some kk =>
      rw [ek] at h
      obtain ⟨b, rfl, hb⟩ := keyT_rep s r2 ek
      cases repm_fz r1 with
      | @dT p ws _ a hk rs =>
        cases h
        refine ⟨p, rfl, ?_⟩
        rcases valG_reps (k := kk) hk rs with ⟨z1, z2⟩ | ⟨m, v, z1, z2, z3⟩
        · exact .inl ⟨by show Option.map M.fz (valG kvs kk) = _; rw [z1]; rfl, .inr ⟨ws, kk, b, .inl (s _ _ a), rfl, hb, z2.symm⟩⟩
        · exact .inr ⟨.fz m, v, [], by show Option.map M.fz (valG kvs kk) = _; rw [z1]; rfl, .inr ⟨ws, kk, b, .inl (s _ _ a), rfl, hb, z2.symm⟩, .fz z3⟩
  · cases h
def kIxF (m k : M) (o : Option M) : Option OutP := match o with
  | some (.fz d) => some (.ok (.fz d) [some m, some k])
  | _ => none
def ixF : FP := fun ms => match ms with
  | [m, k] => match getV m k with
    | some o => kIxF m k o
    | none => ixB [m, k]
  | _ => none
theorem op2_ixF {K : PySem.W.Frag} : Op2 K ixF (fun x y H Q => rIx K x y H Q ∨ ∃ a v, x = .ref a ∧ DGet H a y (some v) ∧ Q v H) := fun x y H Q Ex p => by
  obtain ⟨F, ms, fps, R, p⟩ := p
  unfold ixF at p
  split at p
  · rename_i m k
    cases eg : getV m k with
    | none => rw [eg] at p; exact op2_ixB x y H Q Ex ⟨F, _, fps, R, p⟩
    | some oo =>
      simp only [eg] at p
      obtain ⟨v0, h0, r0⟩ := R.got 0 _ rfl
      cases h0
      obtain ⟨v1, h1, r1⟩ := R.got 1 _ rfl
      cases h1
      obtain ⟨a, rfl, ⟨rfl, g⟩ | ⟨n, v, fq, rfl, g, rn⟩⟩ := getV_rep R.fr r0 r1 eg
      · exact p.elim
      · cases n with
        | fz d => exact .inr ⟨a, v, rfl, g, p v F H fps [] R (.fz (repm_fz rn)) Own.not_nil (Ext.refl fun b h => h.elim id fun q => by cases q)⟩
        | _ => exact p.elim
  · exact p.elim
def inF (neg : Bool) (a b : M) : Option M := match getV b a with
  | some o => some (.fz (.bl (Bool.xor o.isSome neg)))
  | none => inA neg a b
variable {a b : Expr} {fa fb : FE}
theorem e_itemF (hu : X.A.units + 64 < cLine) (ha : PE X a (rE X.K W fa)) (hb : PE X b (rE X.K W fb)) (hs : PlainIx b := by exact fun _ _ => rfl) : PE X (.Subscript a b pos) (rE X.K W (callE ixF (arg2 fa fb))) := e_ix (ix_seq.or (ix_dict hu)) op2_ixF ha hb hs
theorem op2_inF {r : R2} (h : Op2 X.K (g2 (inA false)) (fun x y H Q => r x y H Q ∨ ∃ a o, y = .ref a ∧ DGet H a x o ∧ Q (.bl (o.isSome)) H)) : Op2 X.K (g2 (inF false)) (fun x y H Q => r x y H Q ∨ ∃ a o, y = .ref a ∧ DGet H a x o ∧ Q (.bl (o.isSome)) H) := fun x y H Q Ex p => by
  obtain ⟨F, a, b, m, fps, R, r1, r2, e, p⟩ := g2_at p
  unfold inF at e
  cases eg : getV b a with
  | none => rw [eg] at e; exact h x y H Q Ex ⟨F, [a, b], fps, R, by rw [show g2 (inA false) [a, b] = some (.ok m [some a, some b]) by simp only [g2, e]]; exact p⟩
  | some oo =>
    rw [eg] at e
    cases e
    obtain ⟨ad, rfl, ⟨rfl, g⟩ | ⟨n, v, fq, rfl, g, rn⟩⟩ := getV_rep R.fr r2 r1 eg
    · exact .inr ⟨ad, none, rfl, g, sp_flat R (Rep.bl _) p⟩
    · exact .inr ⟨ad, some v, rfl, g, sp_flat R (Rep.bl _) p⟩
theorem e_inF (hu : X.A.units + 64 < cLine) (ha : PE X a (rE X.K W fa)) (hb : PE X b (rE X.K W fb)) (hm : behindInMarks .In b = false := by rfl) : PE X (.Compare a [.In] [b] pos) (rE X.K W (callE (g2 (inF false)) (arg2 fa fb))) :=
  e_cmp ((op_in_sign.or op_in_seq).or (op_inD hu)) (op2_inF (op2_inA (X := X) X.K (fun c z H Q q => ⟨c, z, rfl, rfl, q⟩) fun x p xs H Q h2 h3 h4 q => ⟨p, xs, rfl, h2, h3, h4, q⟩)) ha hb hm
theorem t_inF (hu : X.A.units + 64 < cLine) (ha : PE X a (rE X.K W fa)) (hb : PE X b (rE X.K W fb)) (hm : behindInMarks .In b = false := by rfl) : PT X (.Compare a [.In] [b] pos) (rT X.K W (tst (callE (g2 (inF false)) (arg2 fa fb)))) :=
  t_cmp ((op_in_sign.or op_in_seq).or (op_inD hu)) (op2_inF (op2_inA (X := X) X.K (fun c z H Q q => ⟨c, z, rfl, rfl, q⟩) fun x p xs H Q h2 h3 h4 q => ⟨p, xs, rfl, h2, h3, h4, q⟩)) ha hb hm
def revM (m : M) : Option M := match lstD m with
  | some ds => some (.lst (ds.reverse.map .fz))
  | none => none
def rvsG : FP := fun ms => match ms with
  | [.lst xs] => match unfz xs with
    | some ds => some (.ok (.fz .non) [some (.lst (ds.reverse.map .fz))])
    | none => none
  | _ => none
def frE (f : FE) : FE := fun env => bindO (f env) fun a env1 => match a with
  | .tm m => match frz m with
    | some d => some (.ok (.tm (.fz d)) env1)
    | none => none
  | .sl _ => none
end
end Ink
set_option Elab.async false
set_option linter.all false
set_option maxRecDepth 100000
namespace Ink
open PySem L2
@[simp] theorem ev_mvE {env : E} {i : Nat} : mvE i env = match env[i]? with
  | some (some m) => some (.ok (.tm m) (env.set i none))
  | _ => none := (rfl)
@[simp] theorem ev_newE {env : E} {m : M} : newE m env = some (.ok (.tm m) env) := (rfl)
@[simp] theorem isFz_dK {kvs} : isFz (.dK kvs) = false := (rfl)
@[simp] theorem isFz_dT {kvs} : isFz (.dT kvs) = false := (rfl)
@[simp] theorem isFz_tup {ms} : isFz (.tup ms) = false := (rfl)
@[simp] theorem isFz_ins {C fs} : isFz (.ins C fs) = false := (rfl)
@[simp] theorem ev_pureE {env : E} {f : FE} : pureE f env = pureK env (f (borE env)) := (rfl)
@[simp] theorem pureK_0 {env env1 : E} {r : M} : pureK env (some (.ok (.tm r) env1)) = if noLM r then some (.ok (.tm r) env) else none := (rfl)
@[simp] theorem pureK_1 {env env1 : E} {x : Xc} : pureK env (some (.ex x env1)) = if noLX x then some (.ex x env) else none := (rfl)
@[simp] theorem borE_nil : borE [] = [] := (rfl)
@[simp] theorem borE_cons {o : Option M} {env : E} : borE (o :: env) = borO o :: borE env := (rfl)
@[simp] theorem borO_none : borO none = none := (rfl)
@[simp] theorem borO_fz {d : D} : borO (some (.fz d)) = some (.fz d) := by simp [borO, borM, noT]
def kBor (o : Option D) (b : Bool) : Option M := match b with
  | true => match o with
    | some d => some (.fz d)
    | none => none
  | false => none
@[simp] theorem kBor_0 {d : D} : kBor (some d) true = some (.fz d) := (rfl)
theorem borO_m {m : M} : borO (some m) = kBor (frz m) (noT m) := by
  show borM m = _
  unfold borM kBor
  cases noT m <;> cases frz m <;> rfl
@[simp] theorem borO_l {ms : List M} : borO (some (.lst ms)) = kBor (frz (.lst ms)) (noT (.lst ms)) := borO_m
@[simp] theorem borO_k {ms} : borO (some (.dK ms)) = kBor (frz (.dK ms)) (noT (.dK ms)) := borO_m
@[simp] theorem borO_kt {ms} : borO (some (.dT ms)) = kBor (frz (.dT ms)) (noT (.dT ms)) := borO_m
@[simp] theorem borO_t {ms} : borO (some (.tup ms)) = none := by simp [borO, borM, noT]
@[simp] theorem noT_fz {d : D} : noT (.fz d) = true := by simp [noT]
@[simp] theorem noT_l {ms : List M} : noT (.lst ms) = ms.all noT := by
  have : ∀ ms : List M, noTs ms = ms.all noT := fun ms => by
    induction ms with
    | nil => simp [noTs]
    | cons m ms ih => simp [noTs, ih]
  rw [noT, this]
@[simp] theorem noT_k {ms : List (Key × M)} : noT (.dK ms) = ms.all fun kv => noT kv.2 := by
  have : ∀ ms : List (Key × M), noTK ms = ms.all fun kv => noT kv.2 := fun ms => by
    induction ms with
    | nil => simp [noTK]
    | cons m ms ih => obtain ⟨k, m⟩ := m; simp [noTK, ih]
  rw [noT, this]
@[simp] theorem noT_kt {ms : List (List Key × M)} : noT (.dT ms) = ms.all fun kv => noT kv.2 := by
  have : ∀ ms : List (List Key × M), noTT ms = ms.all fun kv => noT kv.2 := fun ms => by
    induction ms with
    | nil => simp [noTT]
    | cons m ms ih => obtain ⟨k, m⟩ := m; simp [noTT, ih]
  rw [noT, this]
@[simp] theorem noL_non : noL .non = true := by simp [noL]
@[simp] theorem noL_bl {b} : noL (.bl b) = true := by simp [noL]
@[simp] theorem noL_int {b} : noL (.int b) = true := by simp [noL]
@[simp] theorem noL_str {b} : noL (.str b) = true := by simp [noL]
@[simp] theorem noL_tup {ds : List D} : noL (.tup ds) = ds.all noL := by
  have : ∀ ds : List D, noLs ds = ds.all noL := fun ds => by
    induction ds with
    | nil => simp [noLs]
    | cons m ms ih => simp [noLs, ih]
  rw [noL, this]
theorem noLMs_all : ∀ ds : List M, noLMs ds = ds.all noLM := fun ds => by
    induction ds with
    | nil => simp [noLMs]
    | cons m ms ih => simp [noLMs, ih]
@[simp] theorem noLMs_eq {ds : List M} : noLMs ds = ds.all noLM := noLMs_all ds
@[simp] theorem noLM_fz {d : D} : noLM (.fz d) = noL d := by simp [noLM]
@[simp] theorem noLM_l {ds : List M} : noLM (.lst ds) = ds.all noLM := by rw [noLM, noLMs_all]
@[simp] theorem noLM_t {ds : List M} : noLM (.tup ds) = ds.all noLM := by rw [noLM, noLMs_all]
@[simp] theorem noLM_k {ms : List (Key × M)} : noLM (.dK ms) = ms.all fun kv => noLM kv.2 := by
  rw [noLM, noLMK_vals, noLMs_all, List.all_map]; rfl
@[simp] theorem noLM_kt {ms : List (List Key × M)} : noLM (.dT ms) = ms.all fun kv => noLM kv.2 := by
  rw [noLM, noLMT_vals, noLMs_all, List.all_map]; rfl
@[simp] theorem noLX_none {c : Str} : noLX ⟨c, none⟩ = true := (rfl)
@[simp] theorem frz_tup {ms : List M} : frz (.tup ms) = match frzs ms with
    | some ds => some (.tup ds)
    | none => none := by rw [frz] <;> cases frzs ms <;> rfl
def kFK (o : Option (List (Key × D))) : Option D := match o with
    | some ds => some (.dK ds)
    | none => none
@[simp] theorem kFK_0 {ds} : kFK (some ds) = some (.dK ds) := (rfl)
@[simp] theorem frz_dK {ms} : frz (.dK ms) = kFK (frzK ms) := by rw [frz] <;> unfold kFK <;> cases frzK ms <;> rfl
def kFT (o : Option (List (List Key × D))) : Option D := match o with
    | some ds => some (.dT ds)
    | none => none
@[simp] theorem kFT_0 {ds} : kFT (some ds) = some (.dT ds) := (rfl)
@[simp] theorem frz_dT {ms} : frz (.dT ms) = kFT (frzT ms) := by rw [frz] <;> unfold kFT <;> cases frzT ms <;> rfl
theorem frzK_map {α : Type} {k : α → Key} {f : α → M} {g : α → D} : ∀ {xs : List α}, (∀ x ∈ xs, frz (f x) = some (g x)) → frzK (xs.map fun x => (k x, f x)) = some (xs.map fun x => (k x, g x))
  | [], _ => by simp [frzK]
  | x :: xs, h => by
    have ih := frzK_map (k := k) (f := f) (g := g) (xs := xs) fun y hy => h y (List.mem_cons_of_mem _ hy)
    simp [frzK, h x (List.mem_cons_self ..), ih]
theorem frzT_map {α : Type} {k : α → List Key} {f : α → M} {g : α → D} : ∀ {xs : List α}, (∀ x ∈ xs, frz (f x) = some (g x)) → frzT (xs.map fun x => (k x, f x)) = some (xs.map fun x => (k x, g x))
  | [], _ => by simp [frzT]
  | x :: xs, h => by
    have ih := frzT_map (k := k) (f := f) (g := g) (xs := xs) fun y hy => h y (List.mem_cons_of_mem _ hy)
    simp [frzT, h x (List.mem_cons_self ..), ih]
@[simp] theorem frzK_fz {α : Type} {k : α → Key} {g : α → D} {xs : List α} : frzK (xs.map fun x => (k x, M.fz (g x))) = some (xs.map fun x => (k x, g x)) := frzK_map (f := fun x => M.fz (g x)) fun x _ => ev_frz1
@[simp] theorem frzT_fz {α : Type} {k : α → List Key} {g : α → D} {xs : List α} : frzT (xs.map fun x => (k x, M.fz (g x))) = some (xs.map fun x => (k x, g x)) := frzT_map (f := fun x => M.fz (g x)) fun x _ => ev_frz1
@[simp] theorem frzK_nil : frzK [] = some [] := by simp [frzK]
@[simp] theorem frzT_nil : frzT [] = some [] := by simp [frzT]
@[simp] theorem keyM_int {i : Int} : keyM (.fz (.int i)) = some (.inl i) := (rfl)
@[simp] theorem keyM_str {i : Str} : keyM (.fz (.str i)) = some (.inr i) := (rfl)
@[simp] theorem keyT_t {ds : List D} : keyT (.fz (.tup ds)) = keysD ds := (rfl)
@[simp] theorem keysD_nil : keysD [] = some [] := by simp [keysD]
@[simp] theorem keysD_int {i : Int} {r : List D} : keysD (.int i :: r) = match keysD r with
    | some ks => some (.inl i :: ks)
    | none => none := by rw [keysD] <;> cases keysD r <;> rfl
@[simp] theorem keysD_str {i : Str} {r : List D} : keysD (.str i :: r) = match keysD r with
    | some ks => some (.inr i :: ks)
    | none => none := by rw [keysD] <;> cases keysD r <;> rfl
@[simp] theorem getV_k {kvs : List (Key × M)} {k : M} : getV (.dK kvs) k = (keyM k).map (valG kvs) := (rfl)
@[simp] theorem getV_fk {kvs : List (Key × D)} {k : M} : getV (.fz (.dK kvs)) k = (keyM k).map fun kk => (valG kvs kk).map M.fz := (rfl)
@[simp] theorem getV_t {kvs : List (List Key × M)} {k : M} : getV (.dT kvs) k = (keyT k).map (valG kvs) := (rfl)
@[simp] theorem getV_ft {kvs : List (List Key × D)} {k : M} : getV (.fz (.dT kvs)) k = (keyT k).map fun kk => (valG kvs kk).map M.fz := (rfl)
@[simp] theorem getV_1 {ds : List D} {k : M} : getV (.fz (.tup ds)) k = none := (rfl)
@[simp] theorem getV_2 {ds : List D} {k : M} : getV (.fz (.lst ds)) k = none := (rfl)
@[simp] theorem getV_3 {ds : List M} {k : M} : getV (.lst ds) k = none := (rfl)
@[simp] theorem getV_4 {ds : Str} {k : M} : getV (.fz (.str ds)) k = none := (rfl)
@[simp] theorem getV_5 {ds : List M} {k : M} : getV (.tup ds) k = none := (rfl)
@[simp] theorem getK2_0 {m k z : M} {d : D} : getK2 m k z (some (.fz d)) = some (.ok (.fz d) [some m, some k, some z]) := (rfl)
@[simp] theorem getK2_1 {m k z : M} : getK2 m k z none = some (.ok z [some m, some k, none]) := (rfl)
@[simp] theorem getK2_2 {m k z : M} {o : Option D} : getK2 m k z (o.map M.fz) = match o with
  | some d => some (.ok (.fz d) [some m, some k, some z])
  | none => some (.ok z [some m, some k, none]) := by cases o <;> rfl
def kGetG (m k z : M) (o : Option (Option M)) : Option OutP := match o with
    | some o => getK2 m k z o
    | none => none
@[simp] theorem kGetG_0 {m k z : M} {o : Option M} : kGetG m k z (some o) = getK2 m k z o := (rfl)
@[simp] theorem ev_getG {m k z : M} : getG [m, k, z] = kGetG m k z (getV m k) := by
  unfold getG kGetG
  simp only [] <;> cases getV m k <;> rfl
@[simp] theorem kIxF_0 {m k : M} {d : D} : kIxF m k (some (.fz d)) = some (.ok (.fz d) [some m, some k]) := (rfl)
@[simp] theorem kIxF_1 {m k : M} {o : Option D} : kIxF m k (o.map M.fz) = match o with
  | some d => some (.ok (.fz d) [some m, some k])
  | none => none := by cases o <;> rfl
def kIxG (m k : M) (o : Option (Option M)) : Option OutP := match o with
    | some o => kIxF m k o
    | none => ixB [m, k]
@[simp] theorem kIxG_0 {m k : M} {o : Option M} : kIxG m k (some o) = kIxF m k o := (rfl)
@[simp] theorem kIxG_1 {m k : M} : kIxG m k none = ixB [m, k] := (rfl)
@[simp] theorem ev_ixF {m k : M} : ixF [m, k] = kIxG m k (getV m k) := by
  unfold ixF kIxG
  simp only [] <;> cases getV m k <;> rfl
@[simp] theorem ixB_1 {ds : List D} {k : M} : ixB [.fz (.tup ds), k] = kG [some (.fz (.tup ds)), some k] (ixM (.fz (.tup ds)) k) := (rfl)
@[simp] theorem ixB_2 {ds : List D} {k : M} : ixB [.fz (.lst ds), k] = kG [some (.fz (.lst ds)), some k] (ixM (.fz (.lst ds)) k) := (rfl)
@[simp] theorem ixB_3 {ds : List M} {k : M} : ixB [.lst ds, k] = kG [some (.lst ds), some k] (ixM (.lst ds) k) := (rfl)
@[simp] theorem ixB_4 {ds : Str} {k : M} : ixB [.fz (.str ds), k] = kG [some (.fz (.str ds)), some k] (ixM (.fz (.str ds)) k) := (rfl)
def kIxT (xs : List M) (i : Int) (o : Option M) : Option OutP := match o with
    | some (.fz d) => some (.ok (.fz d) [some (.tup xs), some (.fz (.int i))])
    | some m => some (.ok m [none, some (.fz (.int i))])
    | none => none
@[simp] theorem kIxT_0 {xs i d} : kIxT xs i (some (.fz d)) = some (.ok (.fz d) [some (.tup xs), some (.fz (.int i))]) := (rfl)
@[simp] theorem kIxT_1 {xs i d} : kIxT xs i (some (.lst d)) = some (.ok (.lst d) [none, some (.fz (.int i))]) := (rfl)
@[simp] theorem kIxT_2 {xs i d} : kIxT xs i (some (.tup d)) = some (.ok (.tup d) [none, some (.fz (.int i))]) := (rfl)
@[simp] theorem kIxT_3 {xs i d} : kIxT xs i (some (.dK d)) = some (.ok (.dK d) [none, some (.fz (.int i))]) := (rfl)
@[simp] theorem kIxT_4 {xs i d} : kIxT xs i (some (.dT d)) = some (.ok (.dT d) [none, some (.fz (.int i))]) := (rfl)
@[simp] theorem kIxT_5 {xs i C d} : kIxT xs i (some (.ins C d)) = some (.ok (.ins C d) [none, some (.fz (.int i))]) := (rfl)
@[simp] theorem ixB_5 {xs : List M} {i : Int} : ixB [.tup xs, .fz (.int i)] = kIxT xs i (atI xs i) := by
  unfold ixB kIxT
  simp only [] <;> (cases atI xs i with
  | none => rfl
  | some m => cases m <;> rfl)
def kInF (neg : Bool) (a b : M) (o : Option (Option M)) : Option M := match o with
  | some o => some (.fz (.bl (Bool.xor o.isSome neg)))
  | none => inA neg a b
@[simp] theorem kInF_0 {neg a b o} : kInF neg a b (some o) = some (.fz (.bl (Bool.xor o.isSome neg))) := (rfl)
@[simp] theorem kInF_1 {neg a b} : kInF neg a b none = inA neg a b := (rfl)
@[simp] theorem ev_inF {neg a b} : inF neg a b = kInF neg a b (getV b a) := by
  unfold inF kInF; cases getV b a <;> rfl
@[simp] theorem inA_1 {neg a} {ds : List D} : inA neg a (.fz (.tup ds)) = inM neg a (.fz (.tup ds)) := (rfl)
@[simp] theorem inA_2 {neg a} {ds : List D} : inA neg a (.fz (.lst ds)) = inM neg a (.fz (.lst ds)) := (rfl)
@[simp] theorem inA_3 {neg a} {ds : List M} : inA neg a (.lst ds) = inM neg a (.lst ds) := (rfl)
@[simp] theorem inA_4 {neg a} {ds : Str} : inA neg a (.fz (.str ds)) = inM neg a (.fz (.str ds)) := (rfl)
@[simp] theorem ev_setSA {env : E} {fe fo fi : FE} : setSA fe fo fi env = kExp (callE setA (arg3 fe fo fi) env) := by
  unfold setSA kExp bindS
  cases callE setA (arg3 fe fo fi) env with
  | none => rfl
  | some o => cases o <;> rfl
def kPut (v k : M) (kvs : List (Key × M)) (o : Option Key) : Option OutP := match o with
    | some kk => if okPut kvs kk v then some (.ok (.fz .non) [none, some (.dK (putM kvs kk v)), some k]) else none
    | none => none
@[simp] theorem kPut_0 {v k kvs kk} : kPut v k kvs (some kk) = if okPut kvs kk v then some (.ok (.fz .non) [none, some (.dK (putM kvs kk v)), some k]) else none := (rfl)
@[simp] theorem setA_k {v k : M} {kvs : List (Key × M)} : setA [v, .dK kvs, k] = kPut v k kvs (keyM k) := by
  unfold setA kPut
  simp only [] <;> cases keyM k <;> rfl
def kPutT (v k : M) (kvs : List (List Key × M)) (o : Option (List Key)) : Option OutP := match o with
    | some kk => if okPut kvs kk v then some (.ok (.fz .non) [none, some (.dT (putM kvs kk v)), some k]) else none
    | none => none
@[simp] theorem kPutT_0 {v k kvs kk} : kPutT v k kvs (some kk) = if okPut kvs kk v then some (.ok (.fz .non) [none, some (.dT (putM kvs kk v)), some k]) else none := (rfl)
@[simp] theorem setA_t {v k : M} {kvs : List (List Key × M)} : setA [v, .dT kvs, k] = kPutT v k kvs (keyT k) := by
  unfold setA kPutT
  simp only [] <;> cases keyT k <;> rfl
@[simp] theorem setA_l {v k : M} {xs : List M} : setA [v, .lst xs, k] = setG [v, .lst xs, k] := (rfl)
def kDp3 (k : Key) (o : Option (Out Av)) : Option (Out Av) := match o with
  | some (.ok (.tm m) env2) => some (.ok (.tm (.dK [(k, m)])) env2)
  | some (.ex x env2) => some (.ex x env2)
  | _ => none
@[simp] theorem kDp3_0 {k m env2} : kDp3 k (some (.ok (.tm m) env2)) = some (.ok (.tm (.dK [(k, m)])) env2) := (rfl)
def kDp2 (fv : FE) (env1 : E) (o : Option Key) : Option (Out Av) := match o with
  | some k => kDp3 k (fv env1)
  | none => none
@[simp] theorem kDp2_0 {fv env1 k} : kDp2 fv env1 (some k) = kDp3 k (fv env1) := (rfl)
def kDp1 (fv : FE) (env1 : E) (o : Option M) : Option (Out Av) := match o with
  | some mk => kDp2 fv env1 (keyM mk)
  | none => none
@[simp] theorem kDp1_0 {fv env1 m} : kDp1 fv env1 (some m) = kDp2 fv env1 (keyM m) := (rfl)
def kDp0 (fv : FE) (o : Option (Out Av)) : Option (Out Av) := match o with
  | some (.ok a env1) => kDp1 fv env1 (resA env1 a)
  | some (.ex x env2) => some (.ex x env2)
  | none => none
@[simp] theorem kDp0_0 {fv a env1} : kDp0 fv (some (.ok a env1)) = kDp1 fv env1 (resA env1 a) := (rfl)
@[simp] theorem ev_disp1 {env : E} {fk fv : FE} : disp1 fk fv env = kDp0 fv (fk env) := by
  unfold disp1 kDp0 bindO
  cases fk env with
  | none => rfl
  | some o =>
    cases o with
    | ex x e => rfl
    | ok a e =>
      simp only []
      unfold kDp1
      cases resA e a with
      | none => rfl
      | some m =>
        simp only []
        unfold kDp2
        cases keyM m with
        | none => rfl
        | some k =>
          simp only []
          unfold kDp3
          cases fv e with
          | none => rfl
          | some o => cases o with
            | ex x e => rfl
            | ok b e => cases b <;> rfl
@[simp] theorem ev_partE {env : E} {T : Kd} {i : Nat} {fc : FC} {g : FP} {fa : FA} : partE T i fc g fa env = kPartC T i g fa (fc env) := (rfl)
@[simp] theorem kPartC_0 {T i g fa env s} : kPartC T i g fa (some (env, s)) = match env[i]? with
    | some (some m) => kPart0 T i s g fa env (getC m s)
    | _ => none := (rfl)
def kPart00 (i : Nat) (s : Way) (g : FP) (fa : FA) (env : E) (b : Bool) : Option (Out Av) := match b with
  | true => kPart1 i s g env (fa (borE env))
  | false => none
@[simp] theorem kPart00_0 {i s g fa env} : kPart00 i s g fa env true = kPart1 i s g env (fa (borE env)) := (rfl)
@[simp] theorem kPart0_0 {T i s g fa env m} : kPart0 T i s g fa env (some m) = kPart00 i s g fa env (tyM T m) := by
  unfold kPart0 kPart00
  simp only [] <;> cases tyM T m <;> rfl
@[simp] theorem kPart1_0 {i s g env as env1} : kPart1 i s g env (some (.ok as env1)) = kPart2 i s g env (tms as) := (rfl)
@[simp] theorem kPart2_0 {i s g env ms} : kPart2 i s g env (some ms) = if noLMs ms then partG env i s g ms else none := (rfl)
@[simp] theorem ev_partG {env i s g ms} : partG env i s g ms = match env[i]? with
  | some (some m) => kSub2 env i s g ms m (getC m s)
  | _ => none := (rfl)
@[simp] theorem kSub2_0 {env i s g ms m m1} : kSub2 env i s g ms m (some m1) = kSub3 env i s m (g (m1 :: ms)) := (rfl)
@[simp] theorem kSub3_0 {env i s m r m1 ms} : kSub3 env i s m (some (.ok r (some m1 :: ms))) = kSub4 env i r (putC m s m1) := (rfl)
@[simp] theorem kSub4_0 {env i r m} : kSub4 env i r (some m) = some (.ok (.tm r) (env.set i (some m))) := (rfl)
@[simp] theorem getC_l {ms i} : getC (.lst ms) (.ix i) = atI ms i := (rfl)
@[simp] theorem getC_k {ms i} : getC (.dK ms) (.ky i) = valG ms i := (rfl)
@[simp] theorem getC_t {ms i} : getC (.dT ms) (.kt i) = valG ms i := (rfl)
@[simp] theorem getC_f {C ms i} : getC (.ins C ms) (.fl i) = valG ms i := (rfl)
def kPc (ms : List M) (m : M) (o : Option Nat) : Option M := match o with
  | some j => some (.lst (ms.set j m))
  | none => none
@[simp] theorem kPc_0 {ms m j} : kPc ms m (some j) = some (.lst (ms.set j m)) := (rfl)
@[simp] theorem putC_l {ms i m} : putC (.lst ms) (.ix i) m = kPc ms m (ixN ms.length i) := by
  unfold putC kPc <;> simp only [] <;> cases ixN ms.length i <;> rfl
@[simp] theorem putC_k {ms i m} : putC (.dK ms) (.ky i) m = some (.dK (chgG ms i m)) := (rfl)
@[simp] theorem putC_t {ms i m} : putC (.dT ms) (.kt i) m = some (.dT (chgG ms i m)) := (rfl)
@[simp] theorem putC_f {C ms i m} : putC (.ins C ms) (.fl i) m = some (.ins C (chgG ms i m)) := (rfl)
def kKe1 (o : Option M) : Option Key := match o with
    | some m => keyM m
    | none => none
@[simp] theorem kKe1_0 {m} : kKe1 (some m) = keyM m := (rfl)
def kKe (o : Option (Out Av)) : Option Key := match o with
  | some (.ok a env1) => kKe1 (resA env1 a)
  | _ => none
@[simp] theorem kKe_0 {a env1} : kKe (some (.ok a env1)) = kKe1 (resA env1 a) := (rfl)
@[simp] theorem ev_keyE {env f} : keyE env f = kKe (f (borE env)) := by
  unfold keyE kKe kKe1
  cases f (borE env) with
  | none => rfl
  | some o => cases o with
    | ok a e => simp only [] <;> cases resA e a <;> rfl
    | ex x e => rfl
def kIc (i : Nat) (env : E) (o : Option Key) : Option (E × Way) := match o with
  | some (.inl n) => match env[i]? with
    | some (some (.lst ms)) => if (atI ms n).isSome then some (env, .ix n) else none
    | _ => none
  | _ => none
@[simp] theorem kIc_0 {i env n} : kIc i env (some (.inl n)) = match env[i]? with
    | some (some (.lst ms)) => if (atI ms n).isSome then some (env, .ix n) else none
    | _ => none := (rfl)
@[simp] theorem ev_ixC {env i f} : ixC i f env = kIc i env (keyE env f) := by
  unfold ixC kIc
  cases keyE env f with
  | none => rfl
  | some k => cases k <;> rfl
def kSd1 (i : Nat) (env : E) (k : Key) (kvs : List (Key × M)) (o : Option M) : Option (E × Way) := match o with
      | some _ => some (env, .ky k)
      | none => some (env.set i (some (.dK (kvs ++ [(k, .lst [])]))), .ky k)
@[simp] theorem kSd1_0 {i env k kvs m} : kSd1 i env k kvs (some m) = some (env, .ky k) := (rfl)
@[simp] theorem kSd1_1 {i env k kvs} : kSd1 i env k kvs none = some (env.set i (some (.dK (kvs ++ [(k, .lst [])]))), .ky k) := (rfl)
def kSd (i : Nat) (env : E) (o : Option Key) : Option (E × Way) := match o with
  | some k => match env[i]? with
    | some (some (.dK kvs)) => if kvs.length < sizeLine then kSd1 i env k kvs (valG kvs k) else none
    | _ => none
  | none => none
@[simp] theorem kSd_0 {i env k} : kSd i env (some k) = match env[i]? with
    | some (some (.dK kvs)) => if kvs.length < sizeLine then kSd1 i env k kvs (valG kvs k) else none
    | _ => none := (rfl)
@[simp] theorem ev_sdC {env i f} : sdC i f env = kSd i env (keyE env f) := by
  unfold sdC kSd
  generalize keyE env f = ok
  generalize env[i]? = oi
  cases ok with
  | none => rfl
  | some k =>
    cases oi with
    | none => rfl
    | some o =>
      cases o with
      | none => rfl
      | some m =>
        cases m with
        | dK kvs =>
          by_cases h : kvs.length < sizeLine
          · simp only [if_pos h, kSd1] <;> (generalize valG kvs k = ov; cases ov <;> rfl)
          · simp only [if_neg h]
        | _ => rfl
def kRv (o : Option (List D)) : Option M := match o with
  | some ds => some (.lst (ds.reverse.map .fz))
  | none => none
@[simp] theorem kRv_0 {ds} : kRv (some ds) = some (.lst (ds.reverse.map .fz)) := (rfl)
@[simp] theorem ev_revM {m} : revM m = kRv (lstD m) := by unfold revM kRv; cases lstD m <;> rfl
def kRvs (o : Option (List D)) : Option OutP := match o with
    | some ds => some (.ok (.fz .non) [some (.lst (ds.reverse.map .fz))])
    | none => none
@[simp] theorem kRvs_0 {ds} : kRvs (some ds) = some (.ok (.fz .non) [some (.lst (ds.reverse.map .fz))]) := (rfl)
@[simp] theorem ev_rvsG {xs : List M} : rvsG [.lst xs] = kRvs (unfz xs) := by unfold rvsG kRvs <;> simp only [] <;> cases unfz xs <;> rfl
@[simp] theorem tyM_l {ms} : tyM .lst (.lst ms) = true := (rfl)
@[simp] theorem tyM_fl {ms} : tyM .lst (.fz (.lst ms)) = true := (rfl)
@[simp] theorem tyM_d {ms} : tyM .dct (.dK ms) = true := (rfl)
@[simp] theorem tyM_fd {ms} : tyM .dct (.fz (.dK ms)) = true := (rfl)
@[simp] theorem tyM_dt {ms} : tyM .dct (.dT ms) = true := (rfl)
@[simp] theorem tyM_fdt {ms} : tyM .dct (.fz (.dT ms)) = true := (rfl)
@[simp] theorem ev_iadd1 {i j : Int} : iaddM (.fz (.int i)) (.fz (.int j)) = some (.fz (.int (i + j))) := (rfl)
@[simp] theorem ev_iadd2 {s t : Str} : iaddM (.fz (.str s)) (.fz (.str t)) = if s.length + t.length ≤ sizeLine then some (.fz (.str (s ++ t))) else none := (rfl)
@[simp] theorem all_noT {α : Type} {f : α → D} {xs : List α} : xs.all (noT ∘ fun x => M.fz (f x)) = true := by simp [List.all_eq_true]
@[simp] theorem all_noLM {α : Type} {f : α → D} {xs : List α} : xs.all (noLM ∘ fun x => M.fz (f x)) = xs.all fun x => noL (f x) := by
  have : (noLM ∘ fun x => M.fz (f x)) = fun x => noL (f x) := by funext x; simp
  rw [this]
@[simp] theorem all_tt {α : Type} {xs : List α} : (xs.all fun _ => true) = true := by simp
def kFr1 (env1 : E) (o : Option D) : Option (Out Av) := match o with
    | some d => some (.ok (.tm (.fz d)) env1)
    | none => none
@[simp] theorem kFr1_0 {env1 d} : kFr1 env1 (some d) = some (.ok (.tm (.fz d)) env1) := (rfl)
def kFr (o : Option (Out Av)) : Option (Out Av) := match o with
  | some (.ok (.tm m) env1) => kFr1 env1 (frz m)
  | some (.ex x env1) => some (.ex x env1)
  | _ => none
@[simp] theorem kFr_0 {m env1} : kFr (some (.ok (.tm m) env1)) = kFr1 env1 (frz m) := (rfl)
@[simp] theorem kFr_1 {x env1} : kFr (some (.ex x env1)) = some (.ex x env1) := (rfl)
@[simp] theorem ev_frE {env : E} {f : FE} : frE f env = kFr (f env) := by
  unfold frE kFr bindO
  cases f env with
  | none => rfl
  | some o => cases o with
    | ex x e => rfl
    | ok a e => cases a with
      | sl i => rfl
      | tm m => simp only [] <;> unfold kFr1 <;> cases frz m <;> rfl
@[simp] theorem itemsA_fl {ds : List D} : itemsA (.fz (.lst ds)) = some ds := by simp [itemsA]
end Ink
set_option Elab.async false
set_option linter.all false
set_option maxRecDepth 100000
namespace Ink
open PySem L2 PyProof.Rows
def mergeM (kvs more : List (Key × M)) : List (Key × M) := more.foldl (fun acc kv => putM acc kv.1 kv.2) kvs
/-- only frozen dicts (or made ones of plain things) are taken in -/
def updG : FP := fun ms => match ms with
  | [.dK kvs, .fz (.dK ds)] => if kvs.length + ds.length ≤ sizeLine then some (.ok (.fz .non) [some (.dK (mergeM kvs (ds.map fun kv => (kv.1, .fz kv.2)))), some (.fz (.dK ds))]) else none
  | _ => none
def pairsD : List D → Option (List (Key × D))
  | [] => some []
  | .tup [.int k, d] :: r => match pairsD r with
    | some ps => some ((.inl k, d) :: ps)
    | none => none
  | .tup [.str k, d] :: r => match pairsD r with
    | some ps => some ((.inr k, d) :: ps)
    | none => none
  | _ :: _ => none
def dictM (m : M) : Option M := match lstD m with
  | some ds => match pairsD ds with
    | some ps => if ps.length ≤ sizeLine then some (.dK (mergeM [] (ps.map fun kv => (kv.1, .fz kv.2)))) else none
    | none => none
  | none => none
end Ink
set_option Elab.async false
set_option linter.all false
set_option maxRecDepth 100000
namespace Ink
open PySem L2
def kDc2 (o : Option (List (Key × D))) : Option M := match o with
    | some ps => if ps.length ≤ sizeLine then some (.dK (mergeM [] (ps.map fun kv => (kv.1, .fz kv.2)))) else none
    | none => none
@[simp] theorem kDc2_0 {ps} : kDc2 (some ps) = if ps.length ≤ sizeLine then some (.dK (mergeM [] (ps.map fun kv => (kv.1, .fz kv.2)))) else none := (rfl)
def kDc1 (o : Option (List D)) : Option M := match o with
  | some ds => kDc2 (pairsD ds)
  | none => none
@[simp] theorem kDc1_0 {ds} : kDc1 (some ds) = kDc2 (pairsD ds) := (rfl)
@[simp] theorem ev_dictM {m : M} : dictM m = kDc1 (lstD m) := by
  unfold dictM kDc1 kDc2
  cases lstD m with
  | none => rfl
  | some ds => simp only [] <;> cases pairsD ds <;> rfl
@[simp] theorem ev_updG {kvs : List (Key × M)} {ds : List (Key × D)} : updG [.dK kvs, .fz (.dK ds)] = if kvs.length + ds.length ≤ sizeLine then some (.ok (.fz .non) [some (.dK (mergeM kvs (ds.map fun kv => (kv.1, .fz kv.2)))), some (.fz (.dK ds))]) else none := (rfl)
end Ink
set_option Elab.async false
set_option linter.all false
set_option maxRecDepth 100000
set_option maxHeartbeats 0
namespace Ink
open PySem L2 PyProof.Rows
end Ink
set_option Elab.async false
set_option linter.all false
set_option maxRecDepth 100000
set_option maxHeartbeats 0
namespace Ink
open PySem L2 PyProof.Rows
def numsD : List D → Option (List Int)
  | [] => some []
  | .int i :: r => match numsD r with
    | some ns => some (i :: ns)
    | none => none
  | _ :: _ => none
theorem numsD_map (ns : List Int) : numsD (ns.map D.int) = some ns := by
  induction ns with
  | nil => rfl
  | cons n ns ih => rw [List.map_cons, numsD, ih]
def numsM (m : M) : Option (List Int) := match lstD m with
  | some ds => numsD ds
  | none => none
end Ink
set_option Elab.async false
set_option linter.all false
set_option maxRecDepth 100000
set_option maxHeartbeats 0
namespace Ink
open PySem L2 PyProof.Rows
def lrgE (f : FE) : FE := fun env => bindO (f env) fun a env1 => match intA a env1 with
  | some n => if decide (-(2 ^ 62) ≤ n) && decide (n ≤ 16777216) then some (.ok (.tm (.lst ((rangeD 0 n).map M.fz))) env1) else none
  | none => none
section
variable {X : Cx} {W : WX} {e : Expr} {f : FE} {p p2 pos pos2 : Pos}
def keyD : Key → D
  | .inl i => .int i
  | .inr x => .str x
theorem keyD_rep {K : PySem.W.Frag} {F : Hp} (k : Key) : Rep K F (kV k) (keyD k) := by
  cases k with
  | inl i => exact .int i
  | inr x => exact .str x
theorem keys_reps {K : PySem.W.Frag} {F : Hp} : ∀ ks : List Key, Reps K F (ks.map kV) (ks.map keyD)
  | [] => .nil
  | k :: ks => .cons (keyD_rep k) (keys_reps ks)
def listDM (m : M) : Option M := match m with
  | .dK kvs => some (.lst ((kvs.map fun kv => keyD kv.1).map M.fz))
  | .fz (.dK kvs) => some (.lst ((kvs.map fun kv => keyD kv.1).map M.fz))
  | m => listM m
theorem e_listD (hc : X.calm = true) (hg : Gl X "list") (hm : X.mg "list" = none) (ha : PE X e (rE X.K W f)) (hs : starEach [e] X.env = (false, eval e X.env) :: starEach [] X.env := by rfl) : PE X (.Call (.Name "list" p) [e] [] pos) (rE X.K W (callE (g1 listDM) (arg1 f))) :=
  e_callTy (CallR.or (call_list_dK hc) call_list_of) (fun vs H Q Ex p => by
    obtain ⟨x, F, a, m, fps, rfl, R, r, h, p⟩ := g1_at p
    unfold listDM at h
    split at h
    · rename_i kvs
      cases h
      left
      generalize fps 0 = f0 at r
      cases r with
      | @dK q ws _ fq hq hf hk rs n =>
        refine ⟨q, ws, rfl, hq, ?_⟩
        have e1 : (ws.map fun kv => kV kv.1) = (kvs.map (·.1)).map kV := by rw [← hk, List.map_map]; rfl
        have e2 : (kvs.map fun kv => keyD kv.1) = (kvs.map (·.1)).map keyD := by rw [List.map_map]; rfl
        rw [e1]
        rw [e2] at p
        exact sp_lst R (keys_reps _) p
    · rename_i kvs
      cases h
      left
      cases repm_fz r with
      | @dK q ws _ hq hk rs =>
        refine ⟨q, ws, rfl, R.fr _ _ hq, ?_⟩
        have e1 : (ws.map fun kv => kV kv.1) = (kvs.map (·.1)).map kV := by rw [← hk, List.map_map]; rfl
        have e2 : (kvs.map fun kv => keyD kv.1) = (kvs.map (·.1)).map keyD := by rw [List.map_map]; rfl
        rw [e1]
        rw [e2] at p
        exact sp_lst R (keys_reps _) p
    · right
      unfold listM at h
      cases e1 : seqD a with
      | none => rw [e1] at h; cases h
      | some ds =>
        simp only [e1] at h
        cases h
        obtain ⟨q, vs, rfl, hq, rs⟩ := seqD_rep R.fr r e1
        exact ⟨q, vs, rfl, hq, sp_lst R rs p⟩) hg hm (by decide +kernel) (a_cons ha a_nil hs) (he := hs)
def kLr1 (env1 : E) (o : Option Int) : Option (Out Av) := match o with
  | some n => if decide (-(2 ^ 62) ≤ n) && decide (n ≤ 16777216) then some (.ok (.tm (.lst ((rangeD 0 n).map M.fz))) env1) else none
  | none => none
@[simp] theorem kLr1_0 {env1 n} : kLr1 env1 (some n) = if decide (-(2 ^ 62) ≤ n) && decide (n ≤ 16777216) then some (.ok (.tm (.lst ((rangeD 0 n).map M.fz))) env1) else none := (rfl)
def kLr (o : Option (Out Av)) : Option (Out Av) := match o with
  | some (.ok a env1) => kLr1 env1 (intA a env1)
  | some (.ex x env1) => some (.ex x env1)
  | none => none
@[simp] theorem kLr_0 {a env1} : kLr (some (.ok a env1)) = kLr1 env1 (intA a env1) := (rfl)
@[simp] theorem ev_lrgE {env : E} {f : FE} : lrgE f env = kLr (f env) := by
  unfold lrgE kLr bindO
  cases f env with
  | none => rfl
  | some o => cases o with
    | ok a e => simp only [] <;> unfold kLr1 <;> cases intA a e <;> rfl
    | ex x e => rfl
@[simp] theorem listDM_l {ms : List M} : listDM (.lst ms) = listM (.lst ms) := (rfl)
@[simp] theorem listDM_fl {ms : List D} : listDM (.fz (.lst ms)) = listM (.fz (.lst ms)) := (rfl)
@[simp] theorem listDM_ft {ms : List D} : listDM (.fz (.tup ms)) = listM (.fz (.tup ms)) := (rfl)
@[simp] theorem listDM_k {kvs : List (Key × M)} : listDM (.dK kvs) = some (.lst ((kvs.map fun kv => keyD kv.1).map M.fz)) := (rfl)
def kNm (o : Option (List D)) : Option (List Int) := match o with
  | some ds => numsD ds
  | none => none
@[simp] theorem kNm_0 {ds} : kNm (some ds) = numsD ds := (rfl)
@[simp] theorem ev_numsM {m : M} : numsM m = kNm (lstD m) := by unfold numsM kNm; cases lstD m <;> rfl
@[simp] theorem numsD_ints {ns : List Int} : numsD (ns.map D.int) = some ns := numsD_map ns
end
end Ink
set_option Elab.async false
set_option linter.all false
set_option maxRecDepth 100000
namespace Ink
open PySem L2
def unlG (gs : List FG) : FG := fun m env => match lstD m with
  | some ds => eachG gs (ds.map M.fz) env
  | none => none
@[simp] theorem ev_unlG {gs : List FG} {ms : List M} {env : E} : unlG gs (.lst ms) env = match unfz ms with
  | some ds => eachG gs (ds.map M.fz) env
  | none => none := (rfl)
end Ink
set_option Elab.async false
set_option linter.all false
set_option maxRecDepth 100000
namespace Ink
open PySem L2
def isNonO : Option (Option M) → Bool
  | some (some (.fz .non)) => true
  | _ => false
theorem isNonO_eq {o : Option (Option M)} (h : isNonO o = true) : o = some (some (.fz .non)) := by
  unfold isNonO at h
  split at h
  · rfl
  · cases h
def dflP (g : FP) : FP := fun ms => match g (ms ++ [.fz .non]) with
  | some (.ok r outs) => if isNonO outs[ms.length]? then some (.ok r (outs.take ms.length)) else none
  | some (.ex x outs) => if isNonO outs[ms.length]? then some (.ex x (outs.take ms.length)) else none
  | none => none
theorem renv_more {K : PySem.W.Frag} {F H : Hp} {vs : List V} {ms : List M} {fps : Nat → List Addr} (R : REnv K F H (argS vs) (argE ms) fps) : REnv K F H (argS (vs ++ [.non])) (argE (ms ++ [.fz .non])) fps := by
  have hl : ms.length = vs.length := by have := R.len; simpa [argE, argS] using this
  have hn : fps ms.length = [] := R.nil _ fun m h => by simp [argE] at h
  refine ⟨R.fr, by simp [argE, argS, hl], fun i m h => ?_, fun i h => ?_, R.dj, R.tt⟩
  · by_cases q : i < ms.length
    · obtain ⟨v, h1, h2⟩ := R.got i m (by
        simp only [argE, List.map_append] at h
        rwa [List.getElem?_append_left (by simpa using q)] at h)
      exact ⟨v, by
        have q2 : i < vs.length := by omega
        simp only [argS, List.map_append]
        rw [List.getElem?_append_left (by simpa using q2)]
        exact h1, h2⟩
    · have e : i = ms.length := by
        have := (List.getElem?_eq_some_iff.mp h).1
        simp [argE] at this
        omega
      subst e
      have em : m = .fz .non := by
        have := h
        simp [argE] at this
        exact this.symm
      subst em
      rw [hn]
      exact ⟨.non, by simp [argS, hl], RepM.fz .non⟩
  · by_cases q : i < ms.length
    · refine R.nil i fun m hm => h m ?_
      simp only [argE, List.map_append]
      rw [List.getElem?_append_left (by simpa using q)]
      exact hm
    · refine R.nil i fun m hm => ?_
      have := (List.getElem?_eq_some_iff.mp hm).1
      simp [argE] at this
      omega
theorem renv_less {K : PySem.W.Frag} {F H : Hp} {vs : List V} {outs : E} {fps : Nat → List Addr} (R : REnv K F H (argS (vs ++ [.non])) outs fps) (h : outs[vs.length]? = some (some (.fz .non))) : REnv K F H (argS vs) (outs.take vs.length) fps := by
  have hl : outs.length = vs.length + 1 := by have := R.len; simpa [argS] using this
  have hn : fps vs.length = [] := by
    obtain ⟨v, _, r⟩ := R.got _ _ h
    exact r.fz_nil
  refine ⟨R.fr, by simp [argS, hl], fun i m hm => ?_, fun i hi => ?_, R.dj, R.tt⟩
  · have q : i < vs.length := by
      have := (List.getElem?_eq_some_iff.mp hm).1
      simp at this
      omega
    rw [List.getElem?_take_of_lt q] at hm
    obtain ⟨v, h1, h2⟩ := R.got i m hm
    exact ⟨v, by
      simp only [argS, List.map_append] at h1
      rwa [List.getElem?_append_left (by simpa using q)] at h1, h2⟩
  · by_cases q : i < vs.length
    · exact R.nil i fun m hm => hi m (by rw [List.getElem?_take_of_lt q]; exact hm)
    · by_cases e : i = vs.length
      · rw [e]; exact hn
      · refine R.nil i fun m hm => ?_
        have := (List.getElem?_eq_some_iff.mp hm).1
        omega
theorem sp_dfl {K : PySem.W.Frag} {g : FP} {vs : List V} {H : Hp} {Q : VK} {Ex : XK} (h : spOf K (dflP g) vs H Q Ex) : spOf K g (vs ++ [.non]) H Q Ex := by
  obtain ⟨F, ms, fps, R, p⟩ := h
  have hl : ms.length = vs.length := by have := R.len; simpa [argE, argS] using this
  refine ⟨F, ms ++ [.fz .non], fps, renv_more R, ?_⟩
  unfold dflP at p
  cases e : g (ms ++ [.fz .non]) with
  | none => rw [e] at p; exact p
  | some o =>
    rw [e] at p
    cases o with
    | ex x outs =>
      simp only at p
      by_cases q : isNonO outs[ms.length]? = true
      · rw [if_pos q] at p
        have hq := isNonO_eq q
        rw [hl] at hq p
        intro cls d F' H' fps' R' rx e'
        exact p cls d F' H' fps' (renv_less R' hq) rx e'
      · rw [if_neg q] at p
        exact p.elim
    | ok r outs =>
      simp only at p
      by_cases q : isNonO outs[ms.length]? = true
      · rw [if_pos q] at p
        have hq := isNonO_eq q
        rw [hl] at hq p
        intro v F' H' fps' fp R' r' d' e'
        exact p v F' H' fps' fp (renv_less R' hq) r' d' e'
      · rw [if_neg q] at p
        exact p.elim
structure FnD (P : Program) (w : World) (K : PySem.W.Frag) (mg : Str → Option Value) (base : Heap) (k : Nat) (x : Str) (ps : List Str) (g : FP) : Prop where
  ex : ∃ f fd us, FnOk P w K mg base (L2.CX P w) k f fd ps (spOf K g) ∧ mg x = some (.ref f) ∧ PySem.W.keepIn K (.ref f) = true ∧ Binds K fd ps [] ∧ Vals [V.non] us ∧ Binds K fd ps us
theorem e_callD {X : Cx} {W : WX} {k : Nat} {x : Str} {ps : List Str} {g : FP} {e : Expr} {es : List Expr} {f : FA} {p pos : Pos} (G : FnD X.prog X.w X.K X.mg X.base k x ps g) (hr : Room k X.A) (hg : Gl X x) (t : Takes X W) (ha : PA X (e :: es) (rA X.K W f))
    (hdb : (x == ("__debug__" : Str)) = false := by decide) (he : starEach (e :: es) X.env = (false, eval e X.env) :: starEach es X.env := by rfl) (hpl : (backTo pos (starEach es X.env)).any (·.1) = false := by rfl) : PE X (.Call (.Name x p) (e :: es) [] pos) (rE X.K W (callE (dflP g) f)) := by
  obtain ⟨fa, fd, us, F, hm, hk, _, hd, hb⟩ := G.ex
  exact PE_mono (pe_callSD F hr hg hm hk hb hd (fun σ => passAt t σ) ha hdb he hpl) fun σ H Q q => rA_imp (fun vs H1 z => sp_dfl z) (r_call q)
theorem fn_mkD {P : Program} {w : World} {K : PySem.W.Frag} {mg : Str → Option Value} {base : Heap} {x qual : Str} {params : Arguments} {body : List Stmt} {scope : Scope} {f : Addr} {fd : FuncData} {N ps : List Str} {k np nl : Nat} {asg : List Nat} {fb : FS}
    (F : FunD K x qual params body scope [V.non] [] f fd) (S : FnScope N ps scope) (hN : N.length = np + nl) (hp : ps.length = np) (hp1 : 1 ≤ ps.length) (hm : mg x = some (.ref f))
    (hbd : ∀ (T : Addr) (kV doc pm : Value) (an : Option Addr) (cdv ct : Value) (us its : List Value), us.length = ps.length → its.length = [V.non].length →
      ∃ k, bindArgs (PySem.W.fnOf x qual params body scope (.ref T) kV doc pm an cdv ct) ⟨us, []⟩ = seqItems? (.ref T) >>= k ∧ k (some its.toArray) = pure (ps.zip (us ++ its.drop 1)))
    (hbd2 : ∀ (T : Addr) (kV doc pm : Value) (an : Option Addr) (cdv ct : Value) (us its : List Value), us.length = ps.length - 1 → its.length = [V.non].length →
      ∃ k, bindArgs (PySem.W.fnOf x qual params body scope (.ref T) kV doc pm an cdv ct) ⟨us, []⟩ = seqItems? (.ref T) >>= k ∧ k (some its.toArray) = pure (ps.zip (us ++ its.drop 0)))
    (hb : ∀ (cdv : Value) (A : Around) (outer : List Env) (s : Shared) (H : Hp) (Ex : XK), Room k (A.deeper (PyProof.Rows.envOfC qual scope s.heap.objs.size f cdv)) → PSs (cxOf (L2.CX P w) P w K mg base N qual scope f cdv A outer s H Ex) body (rS K (fun cls d _ H' => Ex cls d H') (pinsOf np asg) fb)) :
    FnD P w K mg base (k + 1) x ps (fnM np nl asg fb) := by
  obtain ⟨d0, v0, b0⟩ := F.binds1 (ps := ps) ps.length 1 (by simp) (by simp) hbd
  obtain ⟨d1, v1, b1⟩ := F.binds1 (ps := ps) (ps.length - 1) 0 (by simp) (by simp; omega) hbd2
  have e0 : d0 = [] := by cases v0; rfl
  subst e0
  exact ⟨f, fd, d1, F.ok S (fun vs H Q Ex h => by rw [(fn_body hN h).1, hp]) (fun cdv A outer s H vs Q Ex hr h => ⟨_, hb cdv A outer s H Ex hr, (fn_body hN h).2⟩), hm, F.kp, b0, v1, b1⟩
end Ink
set_option Elab.async false
set_option linter.all false
set_option maxRecDepth 100000
namespace Ink
open PySem L2
def pI (xs : List Int) : List PyData := xs.map .int
theorem toPDs_ints : ∀ xs : List Int, toPDs (xs.map D.int) = some (pI xs)
  | [] => rfl
  | x :: xs => by simp only [List.map_cons, toPDs, toPD, toPDs_ints xs]; rfl
end Ink
set_option Elab.async false
set_option linter.all false
set_option maxRecDepth 100000
namespace Ink
open PySem L2
end Ink
set_option Elab.async false
set_option linter.all false
set_option maxRecDepth 100000
set_option maxHeartbeats 1000000
set_option Elab.async false
set_option linter.all false
set_option maxRecDepth 100000
set_option maxHeartbeats 1000000
set_option Elab.async false
set_option linter.all false
set_option maxRecDepth 100000
namespace Ink
open PySem L2
def zipD (xs ys : List D) : List D := List.zipWith (fun a b => D.tup [a, b]) xs ys
def itemsZ (strict : Bool) : List Av → Option (List D)
  | [.tm (.fz (.lst xs)), .tm (.fz (.lst ys))] => if strict && !decide (xs.length = ys.length) then none else some (zipD xs ys)
  | _ => none
def overZ (strict : Bool) (fa : FA) : FI := fun env => bindO (fa env) fun as env1 => match itemsZ strict as with
  | some ds => some (.ok ds env1)
  | none => none
end Ink
namespace Ink
open PySem L2
def kZ1 (env1 : E) (o : Option (List D)) : Option (Out (List D)) := match o with
  | some ds => some (.ok ds env1)
  | none => none
@[simp] theorem kZ1_0 {env1 : E} {ds : List D} : kZ1 env1 (some ds) = some (.ok ds env1) := (rfl)
def kZ (strict : Bool) (o : Option (Out (List Av))) : Option (Out (List D)) := match o with
  | some (.ok as env1) => kZ1 env1 (itemsZ strict as)
  | some (.ex x env1) => some (.ex x env1)
  | none => none
@[simp] theorem kZ_0 {strict : Bool} {as : List Av} {env1 : E} : kZ strict (some (.ok as env1)) = kZ1 env1 (itemsZ strict as) := (rfl)
@[simp] theorem ev_overZ {strict : Bool} {env : E} {fa : FA} : overZ strict fa env = kZ strict (fa env) := by
  unfold overZ kZ bindO
  cases fa env with
  | none => rfl
  | some o => cases o <;> rfl
@[simp] theorem itemsZ_0 {xs ys : List D} : itemsZ false [.tm (.fz (.lst xs)), .tm (.fz (.lst ys))] = some (zipD xs ys) := (rfl)
end Ink
set_option Elab.async false
set_option linter.all false
set_option maxRecDepth 100000
namespace Ink
open PySem L2
def glue {α : Type} (us ws : List α) : List α := if us.length = 1 ∧ ws.length = 1 then us ++ ws else []
structure FnE (P : Program) (w : World) (K : PySem.W.Frag) (mg : Str → Option Value) (base : Heap) (k : Nat) (x : Str) (ps : List Str) (ky : Str) (g : FP) : Prop where
  toD : FnD P w K mg base k x ps g
  kx : ∃ f fd, FnOk P w K mg base (L2.CX P w) k f fd ps (spOf K g) ∧ mg x = some (.ref f) ∧ PySem.W.keepIn K (.ref f) = true ∧ KBinds K fd ps [ky] glue glue
section
variable {X : Cx} {CX : CXT} {k : Nat} {f : Addr} {fd : FuncData} {ps ks : List Str} {sp : Sp} {x : Str} {p pos kpos : Pos} {e e2 : Expr} {te te2 : TE} {g : List Value → List Value → List Value} {gV : List V → List V → List V}
theorem run_sk {pins : List (Addr × Obj)} {σ : L2.St} {H : Hp} {s : Shared} {Q : VK} {E : XK} {us ws : List Value} {vs zs : List V} (F : FnOk X.prog X.w X.K X.mg X.base CX k f fd ps sp) (hr : Room k X.A) (hb : KBinds X.K fd ps ks g gV) (hx : PassesAt CX X σ E)
    (I : Inv X pins σ H s) (r : Vals vs us) (rz : Vals zs ws) (h : sp (gV vs zs) H Q E) : wpAny (model X.prog X.w) X.A (call (.ref f) us (ks.zip ws)) (EP X pins σ Q) X.xe s := by
  have q2 := hb.rel r rz
  have ln : (g us ws).length = ps.length := q2.length.symm.trans (F.len _ _ _ _ h)
  refine wpAny_call (codeAny_mono (F.run X.A X.stack s H ⟨us, ks.zip ws⟩ (g us ws) (gV vs zs) Q E hr I.env0 (hb.to s us ws I.kIn ln) q2 h) fun o s2 hq => ?_)
  cases o with
  | error err => exact hx pins H s err s2 I hq
  | ok fl =>
    cases fl with
    | ret u => exact I.after hq
    | next => exact hq.elim
    | brk => exact hq.elim
    | cont => exact hq.elim
theorem pe_sk {E : L2.St → XK} {ky : Str} (F : FnOk X.prog X.w X.K X.mg X.base CX k f fd ps sp) (hr : Room k X.A) (hg : Gl X x) (hm : X.mg x = some (.ref f)) (hk : PySem.W.keepIn X.K (.ref f) = true) (hb : KBinds X.K fd ps [ky] g gV) (hx : ∀ σ, PassesAt CX X σ (E σ)) (ha : PE X e te) (ha2 : PE X e2 te2) (hdb : (x == ("__debug__" : Str)) = false) (hs : starEach [e] X.env = (false, eval e X.env) :: starEach [] X.env)
    (hpl : ((backTo pos (starEach [e] X.env)).any (·.1) || (backToKw pos (keywordEach [⟨some ky, e2, kpos⟩] X.env)).any (·.1.isNone)) = false) :
    PE X (.Call (.Name x p) [e] [⟨some ky, e2, kpos⟩] pos) (fun σ H Q => te σ H fun a H1 => te2 σ H1 fun b H2 => sp (gV [a] [b]) H2 Q (E σ)) := by
  refine ⟨fun pins s σ H Q I h => wpAny_Call_Name_kw (ld_glob I hg hm ?_ hdb)⟩
  refine PySem.W.callWith_KW (h₀ := X.base) I.ok.mod.kin hk rfl (thn ((pa_cons ha pa_nil hs).run pos pins s σ H (fun vs H1 => te2 σ H1 fun b H2 => sp (gV vs [b]) H2 Q (E σ)) I h) fun us s1 ⟨vs, H1, I1, r, q⟩ => ?_) hpl hs
  refine thn ((pk_cons (nm := some ky) (kpos := kpos) ha2 pk_nil).run pos pins s1 σ H1 (fun zs H2 => sp (gV vs zs) H2 Q (E σ)) I1 q) fun ws s2 ⟨zs, H2, I2, rz, q2⟩ => ⟨I2.kIn, ?_⟩
  exact run_sk F hr hb (hx σ) I2 r rz q2
theorem e_callE {X : Cx} {W : WX} {k : Nat} {x ky : Str} {ps : List Str} {g : FP} {e e2 : Expr} {f f2 : FE} {p pos kpos : Pos} (G : FnE X.prog X.w X.K X.mg X.base k x ps ky g) (hr : Room k X.A) (hg : Gl X x) (t : Takes X W) (ha : PE X e (rE X.K W f)) (ha2 : PE X e2 (rE X.K W f2)) (hdb : (x == ("__debug__" : Str)) = false := by decide) (hs : starEach [e] X.env = (false, eval e X.env) :: starEach [] X.env := by rfl)
    (hpl : ((backTo pos (starEach [e] X.env)).any (·.1) || (backToKw pos (keywordEach [⟨some ky, e2, kpos⟩] X.env)).any (·.1.isNone)) = false := by rfl) : PE X (.Call (.Name x p) [e] [⟨some ky, e2, kpos⟩] pos) (rE X.K W (callE g (consA f (consA f2 nilA)))) := by
  obtain ⟨fa, fd, F, hm, hk, hb⟩ := G.kx
  exact PE_mono (pe_sk F hr hg hm hk hb (fun σ => passAt t σ) ha ha2 hdb hs hpl) fun σ H Q q => rE_imp (fun a H1 p1 => rE_imp (fun b H2 p2 => ra_nil p2) (ra_cons p1)) (ra_cons (r_call q))
theorem fn_mkE {P : Program} {w : World} {K : PySem.W.Frag} {mg : Str → Option Value} {base : Heap} {x qual ky : Str} {params : Arguments} {body : List Stmt} {scope : Scope} {f : Addr} {fd : FuncData} {N ps : List Str} {k np nl : Nat} {asg : List Nat} {fb : FS}
    (F : FunD K x qual params body scope [V.non] [] f fd) (S : FnScope N ps scope) (hN : N.length = np + nl) (hp : ps.length = np) (hp1 : ps.length = 2) (hm : mg x = some (.ref f))
    (hbd : ∀ (T : Addr) (kV doc pm : Value) (an : Option Addr) (cdv ct : Value) (us its : List Value), us.length = ps.length → its.length = [V.non].length → ∃ k, bindArgs (PySem.W.fnOf x qual params body scope (.ref T) kV doc pm an cdv ct) ⟨us, []⟩ = seqItems? (.ref T) >>= k ∧ k (some its.toArray) = pure (ps.zip (us ++ its.drop 1)))
    (hbd2 : ∀ (T : Addr) (kV doc pm : Value) (an : Option Addr) (cdv ct : Value) (us its : List Value), us.length = ps.length - 1 → its.length = [V.non].length → ∃ k, bindArgs (PySem.W.fnOf x qual params body scope (.ref T) kV doc pm an cdv ct) ⟨us, []⟩ = seqItems? (.ref T) >>= k ∧ k (some its.toArray) = pure (ps.zip (us ++ its.drop 0)))
    (hbd3 : ∀ (T : Addr) (kV doc pm : Value) (an : Option Addr) (cdv ct : Value) (us its ws : List Value), us.length = 1 → its.length = [V.non].length → ws.length = [ky].length → ∃ k, bindArgs (PySem.W.fnOf x qual params body scope (.ref T) kV doc pm an cdv ct) ⟨us, [ky].zip ws⟩ = seqItems? (.ref T) >>= k ∧ k (some its.toArray) = pure (ps.zip (us ++ ws)))
    (hb : ∀ (cdv : Value) (A : Around) (outer : List Env) (s : Shared) (H : Hp) (Ex : XK), Room k (A.deeper (PyProof.Rows.envOfC qual scope s.heap.objs.size f cdv)) → PSs (cxOf (L2.CX P w) P w K mg base N qual scope f cdv A outer s H Ex) body (rS K (fun cls d _ H' => Ex cls d H') (pinsOf np asg) fb)) :
    FnE P w K mg base (k + 1) x ps ky (fnM np nl asg fb) := by
  refine ⟨fn_mkD F S hN hp (by omega) hm hbd hbd2 hb, f, fd, F.ok S (fun vs H Q Ex h => by rw [(fn_body hN h).1, hp]) (fun cdv A outer s H vs Q Ex hr h => ⟨_, hb cdv A outer s H Ex hr, (fn_body hN h).2⟩), hm, F.kp, ?_⟩
  obtain ⟨its, kb⟩ := F.kbindsD (ps := ps) 1 [ky] (fun vs ds zs => vs ++ zs) (by simp) (fun r1 _ r3 => r1.append r3) hbd3
  refine ⟨fun s us ws kin hl => ?_, fun {vs us zs ws} r1 r2 => ?_⟩
  · unfold glue at hl ⊢
    by_cases q : us.length = 1 ∧ ws.length = 1
    · rw [if_pos q]; exact kb.to s us ws kin q.1 q.2
    · rw [if_neg q, hp1] at hl; cases hl
  · unfold glue
    rw [r1.length, r2.length]
    by_cases q : us.length = 1 ∧ ws.length = 1
    · rw [if_pos q, if_pos q]; exact r1.append r2
    · rw [if_neg q, if_neg q]; exact .nil
end
end Ink
set_option Elab.async false
set_option linter.all false
set_option maxRecDepth 100000
namespace Ink
open PySem L2
def clrG : FP := fun ms => match ms with
  | [.lst xs] => match unfz xs with
    | some ds => some (.ok (.fz .non) [some (.lst [])])
    | none => none
  | _ => none
@[simp] theorem ev_clr {xs : List M} {ds : List D} (h : unfz xs = some ds) : clrG [.lst xs] = some (.ok (.fz .non) [some (.lst [])]) := by
  unfold clrG
  simp only [h]
end Ink
set_option Elab.async false
set_option linter.all false
set_option maxRecDepth 100000
namespace Ink
open PySem L2
section
variable {X : Cx} {W : WX} {o e e2 e3 : Expr} {fo fe f2 f3 : FE} {apos cpos : Pos}
def max3M : M → M → M → Option M
  | .fz (.int i), .fz (.int j), .fz (.int k) => some (.fz (.int (if (if i < j then j else i) < k then k else (if i < j then j else i))))
  | _, _, _ => none
@[simp] theorem ev_max3 {i j k : Int} : g3 max3M [.fz (.int i), .fz (.int j), .fz (.int k)] = some (.ok (.fz (.int (if (if i < j then j else i) < k then k else (if i < j then j else i)))) [some (.fz (.int i)), some (.fz (.int j)), some (.fz (.int k))]) := (rfl)
end
end Ink
set_option Elab.async false
set_option linter.all false
set_option maxRecDepth 100000
namespace Ink
open PySem L2 LamX
def raiseS (x : Str) : FS := fun env => some (.ex ⟨x, none⟩ env)
def ExcK (K : PySem.W.Frag) (x : Str) : Prop := PySem.W.excIn K (He.ga K x) He.veBase "ValueError.__new__" = true ∧ PySem.W.keepIn K (.ref (He.ga K x)) = true ∧ PySem.W.subIn K (.ref (He.ga K x)) (.type "BaseException") = some true ∧ PySem.W.typeIn K (.ref (He.ga K x)) = some (.type "type")
theorem s_raise {X : Cx} {W : WX} {P : List Nat} {x m : Str} {j : Nat} {p p2 pos rpos : Pos} (hc : X.calm = true) (tk : Takes X W) (hm : X.mg x = some (.ref (He.ga X.K x))) (hx : ExcK X.K x) (hg : Gl X x) (hdb : (x == ("__debug__" : Str)) = false := by decide) :
    PS X (.Raise (some (.Call (.Name x p) [.Constant (.str m) j p2] [] pos)) none rpos) (rS X.K W P (raiseS x)) :=
  PS_mono (ps_raise hc tk (pmk_own PySem.F.excBase_ValueError hx.1 hm hx.2.1 (raises_own hx.2.2.1 hx.2.2.2) hg hdb)) fun D σ H ⟨F, env, fps, R, p⟩ => p (.ref (He.ga X.K x)) none σ F H fps R ⟨rfl, trivial⟩ .refl (Ext.refl fun _ h => h)
theorem Takes.len {X : Cx} {W : WX} (t : Takes X W) : Takes X (fun c d σ H => σ.length = X.N.length → W c d σ H) := fun u s' ⟨a, B, sI, pins, σ, H, cls, d, e, I, nb, up, sky, na, os, ag, w⟩ =>
  t u s' ⟨a, B, sI, pins, σ, H, cls, d, e, I, nb, up, sky, na, os, ag, w I.len⟩
def wordW (K : PySem.W.Frag) (Q : VK) : List (Value × Str) → XK
  | [] => fun _ _ _ => False
  | (c, z) :: r => fun cls d H => ∃ b, PySem.W.exmOne K cls c = some b ∧ (b = true → Q (.str z) H) ∧ (b = false → wordW K Q r cls d H)
def TTword (K : PySem.W.Frag) (told : Str) (l : List (Value × Str)) : (XK → Hp → VK → Prop) → Hp → VK → Prop := fun tl H Q => ∀ Q' : VK, (∀ v H', Q (.str told) H' → Q' v H') → tl (wordW K Q l) H Q'
inductive WH (sg : Scope) (mg : Str → Option Value) (wn : Str) : List ExceptHandler → List (Value × Str) → Prop
  | nil : WH sg mg wn [] []
  | cons {y z : Str} {c : Value} {np p1 p2 p3 p4 : Pos} {j : Nat} {hds : List ExceptHandler} {l : List (Value × Str)} (hg : sg.names.lookup y = some .globalImplicit) (hm : mg y = some c) (hd : (y == ("__debug__" : Str)) = false) (r : WH sg mg wn hds l) :
      WH sg mg wn (.ExceptHandler (some (.Name y np)) none [.Assign [.Name wn p1] (.Constant (.str z) j p2) p3] p4 :: hds) ((c, z) :: l)
section
variable {X : Cx}
def tsW (i : Nat) (z : Str) : Addr → Value → Option Addr → TS := fun _ _ _ => tAsg (tC (.str z)) (gName i)
theorem word_hds {Ng : List Str} {x wn : Str} {sg : Scope} {g : Addr} {cdg : Value} {s : Shared} {H : Hp} (hN : Ng.Nodup) (hi : Ng[1]? = some wn) (hl : sg.names.lookup wn = some .local) : ∀ {hds : List ExceptHandler} {l : List (Value × Str)}, WH sg X.mg wn hds l →
    HdsOk (cxOf C8.CX0 X.prog X.w X.K X.mg X.base Ng x sg g cdg X.A X.stack s H C8.E0).nox hds (l.map fun p => (p.1, tsW 1 p.2))
  | _, _, .nil => .nil
  | _, _, .cons (z := z) (c := c) hg hm hd r => by
    refine HdsOk.cons ⟨hg, hd, .inl hm⟩ (fun a oe cls d pn _ _ => ?_) (word_hds hN hi hl r)
    exact pss_one (ps_set (i := 1) hN hi (.inl hl) pe_str (hf := .inr hl))
theorem word_gives {x a wn q told : Str} {sg : Scope} {g : Addr} {cdg : Value} {h0 : ExceptHandler} {hds : List ExceptHandler} {l : List (Value × Str)} {p1 p2 p3 p4 p5 p6 p7 p8 p9 : Pos} {j1 : Nat} (hW : WH sg X.mg wn (h0 :: hds) l) (hN : [a, wn].Nodup) (hl : sg.names.lookup wn = some .local) (hdw : (wn == ("__debug__" : Str)) = false := by decide) (hcw : (wn == ("__classdict__" : Str)) = false := by decide) :
    GivesTo X [a, wn] x sg g cdg [.Assign [.Name wn p1] (.Constant (.str told) j1 p2) p3, .Try [.Expr (.Call (.Name a p4) [] [] p5) p6] (h0 :: hds) [] [] p7, .Return (some (.Name wn p8)) p9] a q (TTword X.K told l) := by
  intro f c' s H Q tl act hc h
  have hi : [a, wn][1]? = some wn := rfl
  have st1 : PS (cxOf C8.CX0 X.prog X.w X.K X.mg X.base [a, wn] x sg g cdg X.A X.stack s H C8.E0).nox (.Assign [.Name wn p1] (.Constant (.str told) j1 p2) p3) (tAsg (tC (.str told)) (gName 1)) := ps_set (i := 1) hN hi (.inl hl) pe_str (hf := .inr hl)
  have st3 : PS (cxOf C8.CX0 X.prog X.w X.K X.mg X.base [a, wn] x sg g cdg X.A X.stack s H C8.E0).nox (.Return (some (.Name wn p8)) p9) (tRet (tVar 1)) := ps_ret (pe_var hi (.inl hl) hdw hcw)
  have st2 := ps_try_many (X := (cxOf C8.CX0 X.prog X.w X.K X.mg X.base [a, wn] x sg g cdg X.A X.stack s H C8.E0).nox) (body := [.Expr (.Call (.Name a p4) [] [] p5) p6]) (pos := p7)
    (tb := fun W D σ H => ∃ Ech : XK, (∀ cls d σ' H', Ech cls d H' → σ'.length = [a, wn].length → W cls d σ' H') ∧ σ[0]? = some (some (.ref f)) ∧ H c' = some (CodeO c' q) ∧ tl Ech H (fun _ H' => D.nx σ H'))
    rfl rfl L2.takes0 (fun W pn xe tk _ => ⟨fun pins s' σ H' D I h' => by
      obtain ⟨Ech, hE, h1, h2, h3⟩ := h'
      have hp := act (fun c d σ H => σ.length = [a, wn].length → W c d σ H) pn xe Ech p4 p5 (Takes.len tk) hE
      exact (pss_one (ps_expr (pos := p6) hp)).run pins s' σ H' D I ⟨h1, h2, h3⟩⟩) (word_hds hN hi hl hW)
  refine ⟨_, pss_cons st1 (pss_cons st2 (pss_one st3)), ?_⟩
  refine ⟨wordW X.K Q l, ?_, rfl, hc, ?_⟩
  · have key : ∀ (l : List (Value × Str)) cls d (σ' : L2.St) H', wordW X.K Q l cls d H' → σ'.length = [a, wn].length → wMany X.K (fun _ _ _ _ => False) { nx := fun σ H => tRet (tVar 1) { nx := fun _ H' => Q .non H', rt := Q } σ H, rt := Q } (l.map fun p => (p.1, tsW 1 p.2)) cls d σ' H' := by
      intro l
      induction l with
      | nil => intro cls d σ' H' hw _; exact hw
      | cons p r ih =>
        intro cls d σ' H' hw hlen
        obtain ⟨c, z⟩ := p
        obtain ⟨b, e, h1, h2⟩ := hw
        refine ⟨b, e, fun hb a' _ => ?_, fun hb => ih cls d σ' H' (h2 hb) hlen⟩
        exact ⟨.str z, List.getElem?_set_self (by rw [hlen]; simp), h1 hb⟩
    exact key l
  · exact h _ fun v H' hq => ⟨.str told, rfl, hq⟩
end
end Ink
set_option Elab.async false
set_option linter.all false
set_option maxRecDepth 100000
set_option maxHeartbeats 2000000
namespace Ink
open PySem PySem.Spec PyProof.Rows L2 LamX
/-- from H to H1 a lambda was made -/
structure Lamd (T : List (Addr × Str)) (H H1 : Hp) : Prop where
  keep : ExtN H H1
  tabs : Tabs T H1
  tbl : ∀ b ps, H b = some (.tbl ps) → ∃ ps', H1 b = some (.tbl ps')
  old : ∀ b ps, H1 b = some (.tbl ps) → ∃ ps', H b = some (.tbl ps')
  cod : ∀ p ∈ T, ∀ ps, H1 p.1 = some (.tbl ps) → ∀ (pos : Pos) (cv : Value), codeAmong pos ps.toList = some cv → (∃ ps', H p.1 = some (.tbl ps') ∧ codeAmong pos ps'.toList = some cv) ∨ ∃ c, cv = .ref c ∧ H c = none
section
variable {X : Cx} {pins : List (Addr × Obj)} {σ : L2.St} {H : Hp} {s : Shared}
abbrev lamO (X : Cx) (params : Arguments) (body : Expr) (scope : Scope) (pm : Value) (c' : Addr) (ctv : Value) : Obj := PySem.W.kla_obj "<lambda>" (X.env.qual ++ "<lambda>") params body scope (cloFrom X.env.cells scope.names []) pm c' ctv
end
end Ink
set_option Elab.async false
set_option linter.all false
set_option maxRecDepth 100000
namespace Ink
open PySem L2 LamX
def wordE (told : Str) (wf : Str → Option Str) (f : FE) : FE := fun env => match f env with
  | some (.ok _ env1) => some (.ok (.tm (.fz (.str told))) env1)
  | some (.ex x env1) => match wf x.cls with
    | some z => some (.ok (.tm (.fz (.str z))) env1)
    | none => none
  | none => none
open Classical in
/-- F with the new code objects -/
noncomputable def codF (F H H1 : Hp) : Hp := fun b => if H b = none ∧ ∃ q, H1 b = some (CodeO b q) then H1 b else F b
theorem codF_in {F H H1 : Hp} {b : Addr} {q : Str} (h : H b = none) (h1 : H1 b = some (CodeO b q)) : codF F H H1 b = H1 b := by unfold codF; rw [if_pos ⟨h, q, h1⟩]
theorem codF_some {F H H1 : Hp} {b : Addr} {o : HO} (h : codF F H H1 b = some o) : F b = some o ∨ (H b = none ∧ H1 b = some o ∧ ∃ q, o = CodeO b q) := by
  unfold codF at h
  split at h
  · rename_i q
    obtain ⟨h1, q, h2⟩ := q
    rw [h2] at h; cases h
    exact .inr ⟨h1, h2, q, rfl⟩
  · exact .inl h
theorem codF_sub {F H H1 : Hp} (s : Sub F H) : Sub F (codF F H H1) := fun b o h => by
  unfold codF
  rw [if_neg fun q => by rw [s b o h] at q; cases q.1]
  exact h
theorem codF_H {K : PySem.W.Frag} {F H H1 : Hp} (t : TOk K F H) (s : Sub F H) (d : Lamd (TL K) H H1) : Sub (codF F H H1) H1 := fun b o h => by
  rcases codF_some h with q | ⟨_, q, _⟩
  · exact d.keep b o (s b o q) fun ps z => t.nt b ps (by rw [← z]; exact q)
  · exact q
theorem lamd_ext {K : PySem.W.Frag} {F H H1 : Hp} (t : TOk K F H) (s : Sub F H) (d : Lamd (TL K) H H1) : Ext K F H (fun _ => False) (codF F H H1) H1 (fun _ => False) := by
  refine ⟨codF_sub s, fun b o h _ n => d.keep b o h n, fun _ h => h.elim, fun b o h => (codF_some h).imp id fun q => .inr q.1, ⟨d.tbl, fun t => ⟨fun b ps h => ?_, d.tabs, fun b ps e => let ⟨ps', e'⟩ := d.old b ps e; t.ot b ps' e', fun p hp ps h pos cv hc => ?_⟩⟩⟩
  · rcases codF_some h with q | ⟨_, _, q, z⟩
    · exact t.nt b ps q
    · exact codeO_ne ps z.symm
  · rcases d.cod p hp ps h pos cv hc with ⟨ps', h1, h2⟩ | ⟨c, e1, h1⟩
    · obtain ⟨c, e1, e2⟩ := t.cd p hp ps' h1 pos cv h2
      exact ⟨c, e1, codF_sub s _ _ e2⟩
    · obtain ⟨ps2, a1, _, a3⟩ := d.tabs p hp
      rw [h] at a1; cases a1
      obtain ⟨c2, e2, e3⟩ := a3 pos cv hc
      rw [e1] at e2; cases e2
      exact ⟨c, e1, by rw [codF_in h1 e3]; exact e3⟩
theorem lamd_env {K : PySem.W.Frag} {F H H1 : Hp} {σ : St} {env : E} {fps : Nat → List Addr} (R : REnv K F H σ env fps) (d : Lamd (TL K) H H1) : REnv K (codF F H H1) H1 σ env fps :=
  (R.frame (fun b _ h => h) (lamd_ext R.tt R.fr d) (codF_H R.tt R.fr d)).1
section
variable {X : Cx}
theorem takes_lam {A : Around} {outer : List Env} {s : Shared} {H : Hp} {E : XK} {scope : Scope} {f c' : Addr} : Takes (lamCx X A outer s H E scope f c') (fun cls d _ H' => E cls d H') := takes_of (X := lamCx X A outer s H E scope f c') (E := E) rfl rfl rfl rfl
theorem lam_one {K : PySem.W.Frag} : ∀ p ∈ TL K, p.1 = (He.cT K (lawN, none)).2 → p.2 = (lawN ++ ".<locals>.") ++ "<lambda>" := fun p hp _ => by
  have e : p = ((He.cT K (lawN, none)).2, (lawN ++ ".<locals>.") ++ "<lambda>") := by simpa [TL, LN] using hp
  rw [e]
theorem lam_in {K : PySem.W.Frag} : ((He.cT K (lawN, none)).2, (lawN ++ ".<locals>.") ++ "<lambda>") ∈ TL K := by simp [TL, LN]
end
def kWord (told : Str) (wf : Str → Option Str) (o : Option (Out Av)) : Option (Out Av) := match o with
  | some (.ok _ env1) => some (.ok (.tm (.fz (.str told))) env1)
  | some (.ex x env1) => match wf x.cls with
    | some z => some (.ok (.tm (.fz (.str z))) env1)
    | none => none
  | none => none
@[simp] theorem ev_wordE {told : Str} {wf : Str → Option Str} {f : FE} {env : E} : wordE told wf f env = kWord told wf (f env) := (rfl)
@[simp] theorem kWord_ok {told : Str} {wf : Str → Option Str} {a : Av} {env1 : E} : kWord told wf (some (.ok a env1)) = some (.ok (.tm (.fz (.str told))) env1) := (rfl)
@[simp] theorem kWord_ex {told : Str} {wf : Str → Option Str} {c : Str} {fs} {env1 : E} : kWord told wf (some (.ex ⟨c, fs⟩ env1)) = match wf c with
    | some z => some (.ok (.tm (.fz (.str z))) env1)
    | none => none := (rfl)
@[simp] theorem ev_raiseS {x : Str} {env : E} : raiseS x env = some (.ex ⟨x, none⟩ env) := (rfl)
end Ink
set_option Elab.async false
set_option linter.all false
set_option maxRecDepth 100000
namespace Ink
open PySem L2
end Ink
set_option Elab.async false
set_option linter.all false
set_option maxRecDepth 100000
namespace Ink
open PySem PySem.Spec PyProof.Rows L2
end Ink
set_option Elab.async false
set_option linter.all false
set_option maxRecDepth 100000
namespace Ink
open PySem PySem.Spec PyProof.Rows L2
end Ink
set_option Elab.async false
set_option linter.all false
set_option maxRecDepth 100000
namespace Ink
open PySem L2
end Ink
set_option Elab.async false
set_option linter.all false
set_option maxRecDepth 100000
namespace Ink
open PySem L2 PySem.Spec PyProof.Rows
end Ink
set_option Elab.async false
set_option linter.all false
set_option maxRecDepth 100000
set_option maxHeartbeats 4000000
namespace Ink
section
open PySem L2 PySem.Spec PyProof.Rows
variable {X : Cx} {W : WX} {e : Expr} {fe : FE} {pos : Pos}
def rev1M (m : M) : Option M := match m with
  | .fz (.tup (a :: b :: _)) => some (.fz (.tup [b, a]))
  | _ => none
@[simp] theorem ev_rev1 {a b : D} {ds : List D} : rev1M (.fz (.tup (a :: b :: ds))) = some (.fz (.tup [b, a])) := (rfl)
end
end Ink
set_option Elab.async false
set_option linter.all false
set_option maxRecDepth 100000
namespace Ink
open PySem L2
end Ink
set_option Elab.async false
set_option linter.all false
set_option maxRecDepth 100000
namespace Ink
open PySem L2
end Ink
set_option Elab.async false
set_option linter.all false
set_option maxRecDepth 100000
namespace Ink
open PySem L2
def loopM (g : FG) (fb : FS) : List M → E → Option Fl
  | [], env => some (.nx env)
  | m :: ms, env => match g m env with
    | none => none
    | some env1 => match fb env1 with
      | some (.nx env2) => loopM g fb ms env2
      | some (.ct env2) => loopM g fb ms env2
      | some (.bk env2) => some (.nx env2)
      | o => o
def lstA : Av → Option (List M)
  | .tm (.lst ms) => some ms
  | _ => none
def forM (f : FE) (g : FG) (fb : FS) : FS := fun env => bindS (tk f env) fun a env1 => match lstA a with
  | some ms => loopM g fb ms env1
  | none => none
def ixO : FP := fun ms => match ms with
  | [.lst xs, .fz (.int i)] => match atI xs i with
    | some m => some (.ok m [none, some (.fz (.int i))])
    | none => none
  | _ => none
@[simp] theorem ev_ixO {xs : List M} {i : Int} : ixO [.lst xs, .fz (.int i)] = match atI xs i with
    | some m => some (.ok m [none, some (.fz (.int i))])
    | none => none := (rfl)
def kForM (g : FG) (fb : FS) (o : Option (Out Av)) : Option Fl := match o with
  | some (.ok a env1) => match lstA a with
    | some ms => loopM g fb ms env1
    | none => none
  | some (.ex x env1) => some (.ex x env1)
  | none => none
@[simp] theorem ev_forM {f : FE} {g : FG} {fb : FS} {env : E} : forM f g fb env = kForM g fb (tk f env) := by
  unfold forM kForM bindS
  cases tk f env with
  | none => rfl
  | some o => cases o <;> rfl
@[simp] theorem kForM_0 {g : FG} {fb : FS} {ms : List M} {env : E} : kForM g fb (some (.ok (.tm (.lst ms)) env)) = loopM g fb ms env := (rfl)
end Ink
set_option Elab.async false
set_option linter.all false
set_option maxRecDepth 100000
set_option maxHeartbeats 4000000
namespace Ink
open PySem PySem.Spec PyProof.Rows L2
end Ink
set_option Elab.async false
set_option linter.all false
set_option maxRecDepth 100000
set_option maxHeartbeats 1000000
namespace Ink
open PySem L2
def itemsZM : List Av → Option (List D)
  | [.tm (.fz (.lst xs)), .tm (.fz (.tup ys))] => some (zipD xs ys)
  | _ => none
def overZM (fa : FA) : FI := fun env => bindO (fa env) fun as env1 => match itemsZM as with
  | some ds => some (.ok ds env1)
  | none => none
def kZM (o : Option (Out (List Av))) : Option (Out (List D)) := match o with
  | some (.ok as env1) => kZ1 env1 (itemsZM as)
  | some (.ex x env1) => some (.ex x env1)
  | none => none
@[simp] theorem kZM_0 {as : List Av} {env1 : E} : kZM (some (.ok as env1)) = kZ1 env1 (itemsZM as) := (rfl)
@[simp] theorem ev_overZM {env : E} {fa : FA} : overZM fa env = kZM (fa env) := by
  unfold overZM kZM bindO
  cases fa env with
  | none => rfl
  | some o => cases o <;> rfl
@[simp] theorem itemsZM_0 {xs ys : List D} : itemsZM [.tm (.fz (.lst xs)), .tm (.fz (.tup ys))] = some (zipD xs ys) := (rfl)
end Ink
set_option Elab.async false
set_option linter.all false
set_option maxRecDepth 100000
set_option maxHeartbeats 2000000
namespace Ink
open PySem PySem.Spec PyProof.Rows L2 LamX
def fzA : Av → Option D
  | .tm m => frz m
  | .sl _ => none
def raiseF (x f : Str) (fe : FE) : FS := fun env => bindS (tk fe env) fun a env1 => match fzA a with
  | some d => some (.ex ⟨x, some [(f, d)]⟩ env1)
  | none => none
def lkF : List (Str × D) → Str → Option D
  | [], _ => none
  | (k, d) :: r, f => if f = k then some d else lkF r f
def caughtE (x f : Str) (fe : FE) : FE := fun env => match fe env with
  | some (.ok _ env1) => some (.ok (.tm (.fz .non)) env1)
  | some (.ex y env1) => if y.cls = x then match y.fs with
    | some fs => match lkF fs f with
      | some d => some (.ok (.tm (.fz d)) env1)
      | none => none
    | none => none
    else none
  | none => none
def kRaF (x f : Str) (o : Option (Out Av)) : Option Fl := match o with
  | some (.ok a env1) => match fzA a with
    | some d => some (.ex ⟨x, some [(f, d)]⟩ env1)
    | none => none
  | some (.ex y env1) => some (.ex y env1)
  | none => none
@[simp] theorem ev_raiseF {x f : Str} {fe : FE} {env : E} : raiseF x f fe env = kRaF x f (tk fe env) := by
  unfold raiseF kRaF bindS
  cases tk fe env with
  | none => rfl
  | some o => cases o <;> rfl
@[simp] theorem kRaF_0 {x f : Str} {m : M} {env1 : E} : kRaF x f (some (.ok (.tm m) env1)) = match frz m with
    | some d => some (.ex ⟨x, some [(f, d)]⟩ env1)
    | none => none := (rfl)
def kCau (x f : Str) (o : Option (Out Av)) : Option (Out Av) := match o with
  | some (.ok _ env1) => some (.ok (.tm (.fz .non)) env1)
  | some (.ex y env1) => if y.cls = x then match y.fs with
    | some fs => match lkF fs f with
      | some d => some (.ok (.tm (.fz d)) env1)
      | none => none
    | none => none
    else none
  | none => none
@[simp] theorem ev_caughtE {x f : Str} {fe : FE} {env : E} : caughtE x f fe env = kCau x f (fe env) := (rfl)
@[simp] theorem kCau_ok {x f : Str} {a : Av} {env1 : E} : kCau x f (some (.ok a env1)) = some (.ok (.tm (.fz .non)) env1) := (rfl)
@[simp] theorem kCau_ex {x f : Str} {d : D} {env1 : E} : kCau x f (some (.ex ⟨x, some [(f, d)]⟩ env1)) = some (.ok (.tm (.fz d)) env1) := by
  unfold kCau lkF
  simp
end Ink
set_option Elab.async false
set_option linter.all false
set_option maxRecDepth 100000
namespace Ink
open PySem PySem.Spec PyProof.Rows L2
end Ink
set_option Elab.async false
set_option linter.all false
set_option maxRecDepth 100000
set_option maxHeartbeats 2000000
namespace Ink
open PySem PySem.Spec PyProof.Rows L2 LamX
theorem lamO_ne {p c : Addr} {l : LamD} : NT (LamO p c l) := fun ps z => by
  unfold LamO at z
  cases z
section
variable {X : Cx} {pins : List (Addr × Obj)} {σ : L2.St} {H : Hp} {s : Shared}
theorem lamO_ok {P : Program} {w : World} {H : Hp} {h : Heap} {p c : Addr} {l : LamD} {pm ctv : Value} (e : h.get? p = some (PySem.W.kla_obj "<lambda>" l.q l.ps l.bd l.sc l.cl pm c ctv)) : ObjOk P w H h p (LamO p c l) :=
  ⟨⟨pm, ctv, e⟩, ⟨_, e⟩, fun h1 h2 z k => by
    obtain ⟨a, b, q⟩ := z
    exact ⟨a, b, k _ q⟩⟩
theorem lamO_at {P : Program} {w : World} {H : Hp} {h : Heap} {p c : Addr} {l : LamD} (hok : HOk P w H h) (e : H p = some (LamO p c l)) : ∃ pm ctv : Value, h.get? p = some (PySem.W.kla_obj "<lambda>" l.q l.ps l.bd l.sc l.cl pm c ctv) := by
  have x : ObjOk P w H h p (.ext fun h => ∃ pm ctv : Value, h.get? p = some (PySem.W.kla_obj "<lambda>" l.q l.ps l.bd l.sc l.cl pm c ctv)) := hok p _ e
  exact x.1
/-- the lambda, its function object told of -/
theorem lam_mkT {T : List (Addr × Str)} {c P : Addr} {params : Arguments} {body : Expr} {scope : Scope} {pos : Pos} {ix : Nat} {E Q : Value → Shared → Prop} (I : Inv X pins σ H s) (TB : TabB X.base X.mg c P) (hcode : X.env.code = .ref c)
    (hin : (P, X.env.qual ++ "<lambda>") ∈ T) (one : ∀ p ∈ T, p.1 = P → p.2 = X.env.qual ++ "<lambda>") (hT : Tabs T H) (hdef : defaultsOf params X.env = ([], [])) (hfree : ∀ y ∈ scope.names, y.2 = .free → ∃ c, X.env.cells.lookup y.1 = some c)
    (fin : ∀ (f c' : Addr) (H1 : Hp) (s' : Shared), Inv X pins σ (upd H1 f (LamO f c' ⟨ix, X.env.qual ++ "<lambda>", params, body, scope, cloFrom X.env.cells scope.names []⟩)) s' → Lamd T H H1 → H1 f = none → H1 c' = some (CodeO c' (X.env.qual ++ "<lambda>")) → (H c' = none ∨ ∃ ps pos', H P = some (.tbl ps) ∧ codeAmong pos' ps.toList = some (.ref c')) → Q (.ref f) s') :
    wpAny (model X.prog X.w) X.A (eval (.Lambda params body scope pos) X.env) Q E s := by
  have bP : s.heap.BuiltinsAt X.mg P := TB.bm.keeps I.bk
  obtain ⟨ps, tP, tr, among⟩ := hT _ hin
  have oP : s.heap.get? P = some { cls := .none, data := .fields ps } := I.hok P _ tP
  refine PySem.W.kla_eval hdef ?_
  cases hit : codeAmong pos ps.toList with
  | some cv =>
    obtain ⟨c', rfl, hco⟩ := among pos cv hit
    refine PySem.W.kla_makeFunctionHit (mg := X.mg) (c := c) (P := P) (ps := ps) (closure_ok hfree) I.ok.glob (I.mod.glob.keeps I.bk) hcode (TB.code.keeps I.bk) oP tr hit bP ?_
    intro ctv h' tk hx hsz
    refine fin h'.objs.size c' H _ (I.laid (t' := tk) (a := h'.objs.size) (h' := h'.push (lamO X params body scope ((X.mg "__name__").getD .none) c' ctv)) (fun b o e => Heap.get?_push_of_some _ (hx b o e)) hsz (lamO_ok (Heap.get?_push_size _ rfl))) ⟨.refl H, hT, fun _ ps h => ⟨ps, h⟩, fun _ ps h => ⟨ps, h⟩, fun p _ ps h pos cv hc => .inl ⟨ps, h, hc⟩⟩ (I.hok.fresh hsz) hco (.inr ⟨ps, pos, tP, hit⟩)
  | none =>
    refine PySem.W.kla_makeFunction (mg := X.mg) (c := c) (P := P) (ps := ps) (closure_ok hfree) I.ok.glob (I.mod.glob.keeps I.bk) hcode (TB.code.keeps I.bk) oP tr hit TB.gP bP ?_
    intro c' ctv h' tk hx hge hlt hrec htb
    obtain ⟨c2, oc, us, t, e2, hoc, hd, hv⟩ := hrec
    cases e2
    have hsz : s.heap.objs.size ≤ h'.objs.size := by omega
    have nc : H c' = none := I.hok.fresh hge
    have nPc : P ≠ c' := ne_of_none tP nc
    obtain ⟨more, hmore⟩ : ∃ more : Array Value, more = #[rawInt pos.line, rawInt pos.col, .ref c'] := ⟨_, rfl⟩
    obtain ⟨H1, hH1⟩ : ∃ H1, H1 = upd (upd H P (.tbl (ps ++ more))) c' (CodeO c' (X.env.qual ++ "<lambda>")) := ⟨_, rfl⟩
    have J0 : Inv X pins σ H1 { s with heap := h', toks := tk } := by
      rw [hH1, hmore]
      exact inv_table (t' := tk) I tP (fun b o hb e => hx b o hb e) htb hge ⟨oc, us, t, hoc, hd, hv⟩
    have J := J0.laid (t' := tk) (a := h'.objs.size) (o := LamO h'.objs.size c' ⟨ix, X.env.qual ++ "<lambda>", params, body, scope, cloFrom X.env.cells scope.names []⟩) (h' := h'.push (lamO X params body scope ((X.mg "__name__").getD .none) c' ctv)) (fun b o e => Heap.get?_push_of_some _ e) (Nat.le_refl _) (lamO_ok (Heap.get?_push_size _ rfl))
    have atc : H1 c' = some (CodeO c' (X.env.qual ++ "<lambda>")) := by rw [hH1, upd_same]
    have atP : H1 P = some (.tbl (ps ++ more)) := by rw [hH1, upd_ne nPc, upd_same]
    have else_ : ∀ b, b ≠ P → b ≠ c' → H1 b = H b := fun b h1 h2 => by rw [hH1, upd_ne h2, upd_ne h1]
    have stay : ExtN H H1 := fun b o e n => by
      rw [else_ b (fun z => n ps (by rw [z, tP] at e; exact (Option.some.inj e).symm)) (ne_of_none e nc)]
      exact e
    have lst : (ps ++ more).toList = ps.toList ++ [rawInt pos.line, rawInt pos.col, .ref c'] := by rw [hmore]; simp
    refine fin h'.objs.size c' H1 _ J ⟨stay, fun p hp => ?_, fun b qs e => ?_, fun b qs e => ?_, fun p hp qs h pos' cv hcv => ?_⟩ (J0.hok.fresh (Nat.le_refl _)) atc (.inl nc)
    · by_cases hb : p.1 = P
      · rw [one p hp hb, hb]
        refine ⟨_, atP, by rw [lst]; exact PySem.TriplesOk_snoc _ _ _ _ tr, fun p' cv hcv => ?_⟩
        rw [lst] at hcv
        rcases among_app _ tr hcv with z | z
        · obtain ⟨c0, e1, e2⟩ := among p' cv z
          exact ⟨c0, e1, stay _ _ e2 codeO_ne⟩
        · exact ⟨c', z, atc⟩
      · obtain ⟨qs, a1, a2, a3⟩ := hT p hp
        refine ⟨qs, by rw [else_ _ hb (ne_of_none a1 nc)]; exact a1, a2, fun p' cv hcv => ?_⟩
        obtain ⟨c0, e1, e2⟩ := a3 p' cv hcv
        exact ⟨c0, e1, stay _ _ e2 codeO_ne⟩
    · by_cases hb : b = P
      · exact ⟨_, by rw [hb]; exact atP⟩
      · exact ⟨qs, by rw [else_ b hb (ne_of_none e nc)]; exact e⟩
    · by_cases hb : b = P
      · exact ⟨ps, by rw [hb]; exact tP⟩
      · by_cases hc : b = c'
        · rw [hc, atc] at e
          exact (codeO_ne qs (Option.some.inj e)).elim
        · rw [else_ b hb hc] at e
          exact ⟨qs, e⟩
    · by_cases hb : p.1 = P
      · rw [hb, atP] at h; cases h
        rw [lst] at hcv
        rcases among_app _ tr hcv with z | z
        · exact .inl ⟨ps, by rw [hb]; exact tP, z⟩
        · exact .inr ⟨c', z, nc⟩
      · obtain ⟨qs', a1, _, _⟩ := hT p hp
        rw [else_ _ hb (ne_of_none a1 nc)] at h
        exact .inl ⟨qs, h, hcv⟩
end
def lamE (l : LamD) : FE := fun env => some (.ok (.tm (.fz (.lam l))) env)
@[simp] theorem ev_lamE {l : LamD} {env : E} : lamE l env = some (.ok (.tm (.fz (.lam l))) env) := (rfl)
section
variable {X : Cx} {W : WX} {params : Arguments} {body : Expr} {scope : Scope} {pos : Pos} {ix : Nat}
theorem e_lam (TB : TabB X.base X.mg (He.cT X.K (lawN, none)).1 (He.cT X.K (lawN, none)).2) (hcode : X.env.code = .ref (He.codeOf X.K (lawN, none))) (hq : X.env.qual = lawN ++ ".<locals>.") (L : LamS X.env.scope scope) (hdef : defaultsOf params X.env = ([], [])) :
    PE X (.Lambda params body scope pos) (rE X.K W (lamE ⟨ix, X.env.qual ++ "<lambda>", params, body, scope, cloFrom X.env.cells scope.names []⟩)) := by
  refine ⟨fun pins s σ H Q I ⟨F, env, fps, R, po⟩ => ?_⟩
  refine lam_mkT (T := TL X.K) (ix := ix) I TB hcode (by rw [hq]; exact lam_in) (by rw [hq]; exact lam_one) R.tt.tb hdef (L.has I.ok) fun f c' H1 s' J d hf hc hold => ?_
  have e1 := (lamd_ext R.tt R.fr d).unit (A := Own fps)
  have R1 := lamd_env R d
  have hcF : codF F H H1 c' = some (CodeO c' (X.env.qual ++ "<lambda>")) := by
    rcases hold with z | ⟨ps, pos', h1, h2⟩
    · rw [codF_in z hc]; exact hc
    · obtain ⟨c, e1, e2⟩ := R.tt.cd _ lam_in ps h1 pos' _ h2
      cases e1
      rw [hq]
      exact codF_sub R.fr _ _ e2
  have en : Ext X.K (codF F H H1) H1 (Own fps) (upd (codF F H H1) f (LamO f c' ⟨ix, X.env.qual ++ "<lambda>", params, body, scope, cloFrom X.env.cells scope.names []⟩)) (upd H1 f (LamO f c' ⟨ix, X.env.qual ++ "<lambda>", params, body, scope, cloFrom X.env.cells scope.names []⟩)) (Own fps) := Ext.newF R1.fr hf lamO_ne
  obtain ⟨R2, _⟩ := R1.frame (fun b _ h => h) (Ext.newF (A := fun _ => False) R1.fr hf lamO_ne) (sub_upd R1.fr)
  refine ⟨.ref f, _, J, rfl, po (.ref f) _ _ fps [] R2 (.fz (.lam upd_same ?_)) Own.not_nil ?_⟩
  · have : c' ≠ f := fun z => by rw [z, hf] at hc; cases hc
    rw [upd_ne this]; exact hcF
  · exact (e1.trans en (fun _ h => h) (C := Own fps) fun _ h => .inl h).weak fun b h => h.elim id fun z => by cases z
end
section
variable {X : Cx} {pins : List (Addr × Obj)} {σ : L2.St} {H : Hp} {s : Shared}
abbrev lamOf (X : Cx) (ix : Nat) (params : Arguments) (body : Expr) (scope : Scope) : LamD := ⟨ix, X.env.qual ++ "<lambda>", params, body, scope, cloFrom X.env.cells scope.names []⟩
theorem pe_actT {CXg : CXT} {Eg : XK} {Ng : List Str} {qg : Str} {sg : Scope} {g f c' : Addr} {cdg : Value} {ix : Nat} {params : Arguments} {body : Expr} {scope : Scope} {k i : Nat} {a : Str} {pn : List (Addr × Obj)} {xe : Value → Shared → Prop} {W : WX} {E : XK} {tb : TE} {p1 p2 : Pos}
    (I : Inv X pins σ H s) (L : LamS X.env.scope scope) (hbind : ∀ pm cv ctv : Value, bindArgs (PySem.W.kla_fn "<lambda>" (X.env.qual ++ "<lambda>") params body scope (cloFrom X.env.cells scope.names []) pm cv ctv) ⟨[], []⟩ = pure [])
    (tk : Takes ((cxOf CXg X.prog X.w X.K X.mg X.base Ng qg sg g cdg X.A X.stack s H Eg).tr pn xe) W) (hW : ∀ cls d σ' H', E cls d H' → W cls d σ' H') (hr : Room (k + 1) (X.A.deeper (envOfC qg sg s.heap.objs.size g cdg)))
    (hbody : ∀ (A : Around) (outer : List Env) (s : Shared) (H : Hp), Room k (A.deeper (lamEnv X scope s.heap.objs.size f c')) → PE (lamCx X A outer s H E scope f c') body tb)
    (hN : Ng[i]? = some a) (hv : Vis sg a) (hd : (a == ("__debug__" : Str)) = false := by decide) (hcd : (a == ("__classdict__" : Str)) = false := by decide) :
    PE ((cxOf CXg X.prog X.w X.K X.mg X.base Ng qg sg g cdg X.A X.stack s H Eg).tr pn xe) (.Call (.Name a p1) [] [] p2)
      (fun σZ HZ Q => σZ[i]? = some (some (.ref f)) ∧ HZ c' = some (CodeO c' (X.env.qual ++ "<lambda>")) ∧ HZ f = some (LamO f c' (lamOf X ix params body scope)) ∧ tb σ HZ Q) := by
  refine ⟨fun pinsZ sZ σZ HZ Q IZ h => ?_⟩
  obtain ⟨hs, hc, hL, ht⟩ := h
  refine wpAny_Call_Name_kw (thn ((pe_var (pos := p1) (i := i) hN hv hd hcd).run pinsZ sZ σZ HZ (fun v H1 => v = .ref f ∧ H1 = HZ) IZ ⟨.ref f, hs, rfl, rfl⟩) fun u s1 ⟨v, H1, I1, r1, q1⟩ => ?_)
  obtain ⟨ev, eH⟩ := q1
  subst ev
  rw [eH] at I1
  obtain rfl : u = Value.ref f := r1
  obtain ⟨pm, ctv, of1⟩ := lamO_at I1.hok hL
  refine PySem.W.callWith_F0 ⟨_, _, _, _, of1⟩ ?_
  have un : Un (frs X.stack) [] H HZ s.heap s1.heap := I1.base
  obtain ⟨⟨oc, vs, t, hoc, hdc, hvc⟩, _, _⟩ := I1.hok c' _ hc
  have rc : codeAny (model X.prog X.w) (X.A.deeper (envOfC qg sg s.heap.objs.size g cdg)) (.call (.ref f) ⟨[], []⟩) (CR (L2.CX X.prog X.w) (envOfC qg sg s.heap.objs.size g cdg :: X.stack) X.prog X.w HZ s1 Q E) s1 := by
    refine PySem.W.kla_callFunE hr.depth of1 rfl L.co L.gen rfl ⟨c', oc, vs, t, rfl, hoc, hdc, hvc⟩ ?_
    rw [hbind]
    refine wpAny_pure (wpAny_newFunctionEnv (fun y hy => (L.own y hy).2) (fun y hy => absurd hy (by simp)) (fun h₁ hns hsb => ⟨I1.nolimit.fresh _ hsb, (?_ : codeAny _ _ (.expr body (lamEnv X scope s1.heap.objs.size f c')) _ _)⟩) L.kind)
    have kp : ∀ b o, s1.heap.get? b = some o → h₁.get? b = some o := fun b o e => hsb.extBut b o (Nat.ne_of_lt (Heap.lt_size e)) (Heap.get?_push_of_some _ e)
    have J : Inv (lamCx X (X.A.deeper (envOfC qg sg s.heap.objs.size g cdg)) (envOfC qg sg s.heap.objs.size g cdg :: X.stack) s1 HZ E scope f c') [] σ HZ { s1 with heap := h₁, toks := s1.toks + ([] : List (Str × Value)).length } := lam_start2 I L I1.env0 hr.hd un hns kp
    refine PySem.W.kla_codeExpr (wpAny_mono ((hbody _ _ s1 HZ (hr.deeper _)).run [] _ _ HZ Q J ht) (fun v s' hq => ?_) fun e s' hq => hq)
    obtain ⟨w', H', J', rv, q⟩ := hq
    exact ⟨w', H', J'.os, J'.bare, J'.base, J'.hok, rv, q⟩
  have hx : Passes (L2.CX X.prog X.w) ((cxOf CXg X.prog X.w X.K X.mg X.base Ng qg sg g cdg X.A X.stack s H Eg).tr pn xe) E := passes_call tk hW
  refine wpAny_call (codeAny_mono rc fun r s' hq => ?_)
  cases r with
  | error e => exact hx pinsZ σZ HZ s1 e s' I1 hq
  | ok fl =>
    cases fl with
    | ret u => exact I1.after hq
    | next => exact hq.elim
    | brk => exact hq.elim
    | cont => exact hq.elim
/-- what is known of the lambda l in this frame: t is its reading -/
structure OkL (X : Cx) (k : Nat) (l : LamD) (t : XK → TE) : Prop where
  q : l.q = X.env.qual ++ "<lambda>"
  cl : l.cl = cloFrom X.env.cells l.sc.names []
  L : LamS X.env.scope l.sc
  bind : ∀ (q : Str) (cl : List (Str × Addr)) (pm cv ctv : Value), bindArgs (PySem.W.kla_fn "<lambda>" q l.ps l.bd l.sc cl pm cv ctv) ⟨[], []⟩ = pure []
  body : ∀ (A : Around) (outer : List Env) (s : Shared) (H : Hp) (E : XK) (f' c' : Addr), Room k (A.deeper (lamEnv X l.sc s.heap.objs.size f' c')) → PE (lamCx X A outer s H E l.sc f' c') l.bd (t E)
def tLamV (X : Cx) (k : Nat) (TT : (XK → Hp → VK → Prop) → Hp → VK → Prop) (ta : TA) : TE := fun σ H Q => ta σ H fun vs H1 => ∃ f c' l t, vs = [.ref f] ∧ OkL X k l t ∧ H1 f = some (LamO f c' l) ∧ H1 c' = some (CodeO c' l.q) ∧ TT (fun E H' Q' => H' f = some (LamO f c' l) ∧ t E σ H' Q') H1 Q
/-- x(e), e's value a lambda of this frame, x a def that calls what it got -/
theorem pe_lamV {TT : (XK → Hp → VK → Prop) → Hp → VK → Prop} {x a : Str} {g : Addr} {k : Nat} {pg : Arguments} {bg : List Stmt} {sg : Scope} {dV kV doc pm cdv ct oc : Value} {an od : Option Addr} {osl : Array (Option Value)} {Ng : List Str} {e : Expr} {ta : TA} {p pos : Pos}
    (hg : Gl X x) (hm : X.mg x = some (.ref g)) (hk : PySem.W.keepIn X.K (.ref g) = true) (lk : X.K.lookup g = some ⟨oc, od, .func (PySem.W.fnOf x x pg bg sg dV kV doc pm an cdv ct), osl⟩) (hcg : PySem.W.codeIn X.K cdv x = true)
    (hb : L2.Binds X.K (PySem.W.fnOf x x pg bg sg dV kV doc pm an cdv ct) [a] []) (Sg : FnScope Ng [a] sg) (hNg : Ng[0]? = some a) (hva : Vis sg a) (hG : GivesTo X Ng x sg g cdv bg a (X.env.qual ++ "<lambda>") TT) (hr : Room (k + 2) X.A) (ha : PA X [e] ta)
    (hdb : (x == ("__debug__" : Str)) = false := by decide) (hd : (a == ("__debug__" : Str)) = false := by decide) (hcd : (a == ("__classdict__" : Str)) = false := by decide)
    (he : starEach [e] X.env = (false, eval e X.env) :: starEach [] X.env := by rfl) (hpl : (backTo pos (starEach [] X.env)).any (·.1) = false := by rfl) :
    PE X (.Call (.Name x p) [e] [] pos) (tLamV X k TT ta) := by
  refine ⟨fun pins s σ H Q I h => ?_⟩
  refine wpAny_Call_Name_kw (ld_glob I hg hm ?_ hdb)
  refine PySem.W.callWith_K (h₀ := X.base) I.ok.mod.kin hk (thn (ha.run pos pins s σ H _ I h) fun us s' ⟨vs, H1, J, r1, q1⟩ => ⟨J.kIn, ?_⟩) he hpl
  obtain ⟨f, c', l, t, ev, OK, hL, hco, hTT⟩ := q1
  subst ev
  obtain ⟨ix, lq, params, body, scope, cl⟩ := l
  obtain ⟨e1, e2, L, hbind, hbody⟩ := OK
  simp only at e1 e2 L hbind hbody hco
  subst e1 e2
  cases r1 with
  | @cons _ u0 _ ur ra rw' =>
  cases rw'
  obtain rfl : u0 = Value.ref f := ra
  have rc : codeAny (model X.prog X.w) X.A (.call (.ref g) ⟨[.ref f], []⟩) (CR C8.CX0 X.stack X.prog X.w H1 s' Q C8.E0) s' := by
    refine run_ofS (N := Ng) (ps := [a]) (us := [.ref f]) (vs := [.ref f]) lk hcg Sg hr J.env0 (hb s' [.ref f] J.kIn rfl) (.cons rfl .nil) rfl fun hr' => ?_
    have act := fun (W : WX) (pn : List (Addr × Obj)) (xe : Value → Shared → Prop) (E : XK) (p1 p2 : Pos) tk hW => pe_actT (CXg := C8.CX0) (Eg := C8.E0) (Ng := Ng) (qg := x) (sg := sg) (g := g) (cdg := cdv) (k := k) (pn := pn) (xe := xe) (W := W) (E := E) (tb := t E) (p1 := p1) (p2 := p2) (i := 0) (ix := ix) (f := f) (c' := c') J L (fun _ _ _ => hbind _ _ _ _ _) tk hW hr' (fun A outer s H hr2 => hbody A outer s H E f c' hr2) hNg hva hd hcd
    obtain ⟨t', ht', hq'⟩ := hG f c' s' H1 Q (fun E H' Q' => H' f = some (LamO f c' ⟨ix, _, params, body, scope, _⟩) ∧ t E σ H' Q') act hco hTT
    exact ⟨t', ht'.nox, hq'⟩
  refine (?_ : wpAny _ _ (call (.ref g) [.ref f]) _ _ _)
  refine wpAny_call (codeAny_mono rc fun r s2 hq => ?_)
  cases r with
  | error e => exact (show False from hq).elim
  | ok fl =>
    cases fl with
    | ret u => exact J.after hq
    | next => exact hq.elim
    | brk => exact hq.elim
    | cont => exact hq.elim
end
open Classical in
noncomputable def pickL : List (LamD × FE) → LamD → Option FE
  | [], _ => none
  | (l0, fe) :: r, l => if l = l0 then some fe else pickL r l
theorem pickL_mem {l : LamD} {fe : FE} : ∀ {Ls : List (LamD × FE)}, pickL Ls l = some fe → (l, fe) ∈ Ls
  | [], h => by rw [pickL] at h; cases h
  | (l0, f0) :: r, h => by
    rw [pickL] at h
    split at h
    · rename_i e; cases h; rw [e]; exact List.mem_cons_self
    · exact List.mem_cons_of_mem _ (pickL_mem h)
def lamA (env : E) (a : Av) : Option LamD := match resA env a with
  | some (.fz (.lam l)) => some l
  | _ => none
noncomputable def catchV (y f : Str) (fv : FE) (Ls : List (LamD × FE)) : FE := fun env => bindO (fv env) fun a env1 => match lamA env1 a with
  | some l => match pickL Ls l with
    | some fe => caughtE y f fe env1
    | none => none
  | none => none
theorem lamA_rep {K : PySem.W.Frag} {F H : Hp} {σ : L2.St} {env : E} {fps : Nat → List Addr} {a : Av} {v : V} {fp : List Addr} {l : LamD} (R : REnv K F H σ env fps) (r : RepA K F H σ a v fp) (h : lamA env a = some l) : ∃ f c', v = .ref f ∧ F f = some (LamO f c' l) ∧ F c' = some (CodeO c' l.q) := by
  unfold lamA at h
  split at h
  · rename_i l' e
    cases h
    obtain ⟨fq, rm⟩ := resA_rep R r e
    cases repm_fz rm with
    | lam a b => exact ⟨_, _, rfl, a, b⟩
  · cases h
open Classical in
noncomputable def anyM {α : Type} (m : α → FP) : FP := fun ms => if h : ∃ r, ∀ a, m a ms = some r then some (Classical.choose h) else none
theorem anyM_eq {α : Type} {m : α → FP} {ms : List M} {r : OutP} (a0 : α) (h : ∀ a, m a ms = some r) : anyM m ms = some r := by
  have hx : ∃ r, ∀ a, m a ms = some r := ⟨r, h⟩
  unfold anyM
  rw [dif_pos hx]
  have := Classical.choose_spec hx a0
  rw [h a0] at this
  exact this.symm
theorem anyM_at {α : Type} {m : α → FP} {ms : List M} {r : OutP} (h : anyM m ms = some r) (a : α) : m a ms = some r := by
  unfold anyM at h
  split at h
  · rename_i hx
    cases h
    exact Classical.choose_spec hx a
  · cases h
theorem spOf_any {α : Type} {K : PySem.W.Frag} {m : α → FP} {vs : List V} {H : Hp} {Q : VK} {Ex : XK} (h : spOf K (anyM m) vs H Q Ex) (a : α) : spOf K (m a) vs H Q Ex := by
  obtain ⟨F, ms, fps, R, po⟩ := h
  refine ⟨F, ms, fps, R, ?_⟩
  cases e : anyM m ms with
  | none => rw [e] at po; exact po.elim
  | some r => rw [e] at po; rw [anyM_at e a]; exact po
noncomputable def kCatV (y f : Str) (Ls : List (LamD × FE)) (o : Option (Out Av)) : Option (Out Av) := match o with
  | some (.ok a env1) => match lamA env1 a with
    | some l => match pickL Ls l with
      | some fe => kCau y f (fe env1)
      | none => none
    | none => none
  | some (.ex z env1) => some (.ex z env1)
  | none => none
@[simp] theorem ev_catchV {y f : Str} {fv : FE} {Ls : List (LamD × FE)} {env : E} : catchV y f fv Ls env = kCatV y f Ls (fv env) := by
  unfold catchV kCatV bindO
  cases fv env with
  | none => rfl
  | some o =>
    cases o with
    | ex z env1 => rfl
    | ok a env1 =>
      simp only
      cases lamA env1 a with
      | none => rfl
      | some l => simp only; cases pickL Ls l <;> rfl
def subE : Expr → List Expr
  | .BinOp l _ r _ => [l, r]
  | .Call f as _ _ => f :: as
  | .List es _ => es
  | .Tuple es _ _ => es
  | .IfExp t b o _ => [t, b, o]
  | .Subscript v i _ => [v, i]
  | .Lambda _ b _ _ => [b]
  | _ => []
def subS : Stmt → List Stmt
  | .FunctionDef (body := b) .. => b
  | .For (body := b) .. => b
  | .While (body := b) .. => b
  | .If (body := b) (orelse := o) .. => b ++ o
  | _ => []
def valS : Stmt → List Expr
  | .Assign _ v _ => [v]
  | .Return (some v) _ => [v]
  | .Expr v _ => [v]
  | .For _ i _ _ _ => [i]
  | .If t _ _ _ => [t]
  | _ => []
def noEx : Expr := .Constant .none 0 ⟨0, 0, 0, 0⟩
def noSt : Stmt := .Pass ⟨0, 0, 0, 0⟩
def lamD (q : Str) (e : Expr) (ix : Nat) (cl : List (Str × Addr)) : LamD := match e with
  | .Lambda ps bd sc _ => ⟨ix, q, ps, bd, sc, cloFrom cl sc.names []⟩
  | e => ⟨ix, q, default, e, default, []⟩
theorem lamD_ix {q : Str} {e : Expr} {ix : Nat} {cl : List (Str × Addr)} : (lamD q e ix cl).ix = ix := by
  unfold lamD
  split <;> rfl
theorem pickL_hit {l : LamD} {fe : FE} {r : List (LamD × FE)} : pickL ((l, fe) :: r) l = some fe := by
  rw [pickL, if_pos rfl]
theorem pickL_miss {l l0 : LamD} {fe : FE} {r : List (LamD × FE)} (h : ¬ l = l0) : pickL ((l0, fe) :: r) l = pickL r l := by
  rw [pickL, if_neg h]
theorem okL_nil {P : LamD × FE → Prop} : ∀ q ∈ ([] : List (LamD × FE)), P q := fun q h => by cases h
theorem okL_cons {P : LamD × FE → Prop} {q : LamD × FE} {r : List (LamD × FE)} (h : P q) (t : ∀ x ∈ r, P x) : ∀ x ∈ q :: r, P x := fun x hx => (List.mem_cons.mp hx).elim (fun e => by rw [e]; exact h) (t x)
end Ink
set_option Elab.async false
set_option linter.all false
set_option maxRecDepth 100000
set_option maxHeartbeats 4000000
namespace Ink
open PySem PySem.Spec PyProof.Rows L2 LamX
def rRepTL (K : PySem.W.Frag) : R2 := fun x y H Q => ∃ l k xs, x = .ref l ∧ y = .int k ∧ SqT K H l xs ∧ xs ≠ [] ∧ 2 ≤ k ∧ k ≤ 1000 ∧ xs.length * k.toNat ≤ 1000000 ∧ ∀ p, H p = none → Q (.ref p) (upd H p (.tup (List.replicate k.toNat xs).flatten))
section
variable {X : Cx}
theorem op_repTL : OpR X (binaryOp .Mult) (rRepTL X.K) := by
  intro pins s σ H x y v u Q I rx ry h
  obtain ⟨l, k, xs, rfl, rfl, hT, hne, h1, h2, hz, q⟩ := h
  cases rx
  obtain ⟨t, rfl⟩ := ry
  obtain ⟨its, r, ⟨⟨cls, dd, data, sl⟩, ho, hc, n, hd⟩, hs⟩ := I.tuple hT
  simp only at hc hd
  subst hc hd
  have hle : its.length = xs.length := r.length.symm
  have hn : its ≠ [] := fun e => hne (by
    rw [e] at hle
    exact List.eq_nil_of_length_eq_zero hle.symm)
  have hi : its.toArray.isEmpty = false := by
    cases its with
    | nil => exact absurd rfl hn
    | cons a b => rfl
  have hsz0 : its.toArray.size = xs.length := by rw [List.size_toArray, hle]
  have hm : ((its.toArray.size : Nat) : Int) * k ≤ 1000000 := by
    rw [hsz0]
    have e : k = ((k.toNat : Nat) : Int) := by omega
    rw [e, ← Int.natCast_mul]
    omega
  have flen : (List.replicate k.toNat its).flatten.length ≤ sizeLine := by
    rw [PyProof.Rows.lm_len_rep_flat, hle, sizeLine_eq]
    rw [Nat.mul_comm]
    omega
  have c0 : (decide (k < -(2 ^ 63)) || decide (k ≥ 2 ^ 63)) = false := by
    rw [decide_eq_false (by omega), decide_eq_false (by omega)] <;> rfl
  have c1 : (its.toArray.isEmpty || k == 1) = false := by
    rw [hi, Bool.false_or]
    exact beq_eq_false_iff_ne.mpr (by omega)
  have c2 : (decide (k ≤ 0) || its.toArray.isEmpty) = false := by
    rw [hi, Bool.or_false]
    exact decide_eq_false (by omega)
  have c4 : Builtin.Tuple.tupleTooMany (((its.toArray.size : Nat) : Int) * k) = false := by
    unfold Builtin.Tuple.tupleTooMany
    rw [sizeLine_eq]
    exact decide_eq_false (by omega)
  refine wpAny_binaryOp_repeat_ref (T := "tuple") (U := "int") (by decide) ⟨_, ho, rfl⟩ (fun s' => typeIs_int s' k t) noFill_tuple_mul F.fills_int_mul F.slot_int_rmul repeat_tuple F.slot_int_index.lookup
    (call_meets F.slot_int_rmul (typeIs_int s k t) F.entry_int_rmul (F.args_int_rmul_2 _ _) (int_rmul_tuple k t l its.toArray n dd sl)
      ⟨ho, rfl, ⟨_, ho, rfl⟩, call_meets F.slot_tuple_mul ⟨_, ho, rfl⟩ F.entry_tuple_mul (F.args_tuple_mul_2 _ _) (tuple_mulW l its.toArray n dd sl k t c0 c1 c2 (by omega) c4 (by rw [size_rep, List.size_toArray]; exact flen)) ⟨ho, ?_⟩⟩)
  rw [size_rep]
  refine ⟨.ref s.heap.objs.size, _, I.laid (t' := s.toks) (o := .tup (List.replicate k.toNat xs).flatten) (fun b ob q => Heap.get?_push_of_some _ q) (Nat.le_refl _) ?_, rfl, q _ (I.hok.fresh (Nat.le_refl _))⟩
  exact ⟨by rw [PyProof.Rows.lm_len_rep_flat, sizeLine_eq]; rw [Nat.mul_comm]; omega, _, r.rep k.toNat, IsTup.new _ _⟩
end
def bigT : M → M → Option (List D × Int)
  | .fz (.tup ds), .fz (.int k) => if ds ≠ [] ∧ 2 ≤ k ∧ k ≤ 1000 ∧ ds.length * k.toNat ≤ 1000000 then some (ds, k) else none
  | _, _ => none
def mulLM (a b : M) : Option M := match bigT a b with
  | some (ds, k) => some (.fz (.tup (repL k.toNat ds)))
  | none => mulM a b
theorem op2_mulL {K : PySem.W.Frag} : Op2 K (g2 mulLM) (fun x y H Q => rRepTL K x y H Q ∨ (L2.rI CMul (fun i j => .int (i * j)) x y H Q ∨ ((∃ z n, x = .str z ∧ y = .int n ∧ 0 ≤ n ∧ n ≤ 1000 ∧ z.length ≤ 1000 ∧ Q (.str (repS z n.toNat)) H) ∨
    ((∃ l k xs, x = .ref l ∧ y = .int k ∧ SqT K H l xs ∧ (xs = [] ∨ k = 1) ∧ -1000 ≤ k ∧ k ≤ 1000 ∧ Q (.ref l) H) ∨ (rRepT K x y H Q ∨ rRep x y H Q))))) := fun x y H Q Ex p => by
  obtain ⟨F, a, b, m, fps, R, r1, r2, e, p⟩ := g2_at p
  unfold mulLM at e
  cases eb : bigT a b with
  | some q =>
    obtain ⟨ds, k⟩ := q
    rw [eb] at e
    cases e
    unfold bigT at eb
    split at eb
    · rename_i ds' k'
      split at eb
      · rename_i hs
        cases eb
        obtain ⟨q, vs, rfl, hq, rs⟩ := tup_rep R.fr (repm_fz r1)
        obtain rfl := rep_int (repm_fz r2)
        exact .inl ⟨q, k, vs, rfl, rfl, hq, fun z => hs.1 (by
          subst z
          exact List.eq_nil_of_length_eq_zero (by rw [← rs.length]; rfl)), hs.2.1, hs.2.2.1, by rw [rs.length]; exact hs.2.2.2, sp_tup R (repL_reps rs _) p⟩
      · cases eb
    · cases eb
  | none =>
    rw [eb] at e
    have e : mulM a b = some m := e
    exact .inr (op2_mul x y H Q Ex ⟨F, [a, b], fps, R, by rw [show mulG [a, b] = some (.ok m [some a, some b]) by simp only [mulG, g2]; rw [e]]; exact p⟩)
theorem e_mulL {X : Cx} {W : WX} {a b : Expr} {fa fb : FE} {pos : Pos} (ha : PE X a (rE X.K W fa)) (hb : PE X b (rE X.K W fb)) : PE X (.BinOp a .Mult b pos) (rE X.K W (callE (g2 mulLM) (arg2 fa fb))) := e_op (op_repTL.or (op_mul.or (op_mulstr.or (op_tupsame.or (op_repT.or op_rep))))) op2_mulL ha hb
theorem s_noneL {X : Cx} {W : WX} {P : List Nat} {st : List Stmt} : PSs X st (rS X.K W P noneS) := ⟨fun pins s σ H D I ⟨F, env, fps, R, p⟩ => p.elim⟩
theorem fn_alias {P : Program} {w : World} {K : PySem.W.Frag} {mg : Str → Option Value} {base : Heap} {k : Nat} {x y : Str} {ps : List Str} {g : FP} (G : Fn P w K mg base k x ps g) (h1 : mg x = some (.ref (He.ga K x))) (h2 : mg y = some (.ref (He.ga K y))) (e : He.ga K y = He.ga K x) : Fn P w K mg base k y ps g := by
  obtain ⟨f, fd, a, b, c, d⟩ := G
  exact ⟨f, fd, a, by rw [h2, e, ← h1]; exact b, c, d⟩
/-- a def that makes lambdas and is not the law's own -/
theorem fn_mkN {P : Program} {w : World} {K : PySem.W.Frag} {mg : Str → Option Value} {base : Heap} {x qual : Str} {params : Arguments} {body : List Stmt} {scope : Scope} {f : Addr} {fd : FuncData} {N ps : List Str} {k np nl : Nat} {asg : List Nat} {fb : List (Str × Addr) → FS}
    (F : FunD K x qual params body scope [] [] f fd) (hf : f = He.ga K x) (S : FnScope N ps scope) (hN : N.length = np + nl) (hp : ps.length = np) (hm : mg x = some (.ref f))
    (hbd : ∀ (kV doc pm : Value) (an : Option Addr) (cdv ct : Value) (us : List Value), us.length = ps.length → bindArgs (PySem.W.fnOf x qual params body scope .none kV doc pm an cdv ct) ⟨us, []⟩ = pure (ps.zip us))
    (hb : ∀ (cdv : Value) (A : Around) (outer : List Env) (s : Shared) (H : Hp) (Ex : XK), cdv = .ref (He.codeOf K (x, none)) → Room k (A.deeper (envOfC qual scope s.heap.objs.size f cdv)) → PSs (cxOf (L2.CX P w) P w K mg base N qual scope f cdv A outer s H Ex) body (rS K (fun cls d _ H' => Ex cls d H') (pinsOf np asg) (fb (envOfC qual scope s.heap.objs.size f cdv).cells))) :
    Fn P w K mg base (k + 1) x ps (anyM fun cl => fnM np nl asg (fb cl)) := by
  have F0 := F
  obtain ⟨oc, od, dV, kV, doc, pm, an, cdv, ct, osl, e1, lk, hc, _, _⟩ := F.ex
  subst e1
  obtain ⟨c, hc1⟩ := He.codeIn_ref hc
  have hco : cdv = .ref (He.codeOf K (x, none)) := by
    rw [hc1]
    subst hf
    rw [He.codeOf_eq (p := (x, none)) lk hc1]
  have hl0 : ∀ vs H Q E, spOf K (anyM fun cl => fnM np nl asg (fb cl)) vs H Q E → vs.length = ps.length := fun vs H Q E h => by rw [(fn_body hN (spOf_any h [])).1, hp]
  refine ⟨f, _, ⟨hl0, ?_⟩, hm, F0.kp, F0.bindsN hbd⟩
  intro A outer s H args us vs Q E hr e0 hbd rv h
  exact LamX.run_ofS lk hc S hr e0 hbd rv (hl0 _ _ _ _ h) fun hr' => ⟨_, hb cdv A outer s H E hco hr', (fn_body hN (spOf_any h (envOfC qual scope s.heap.objs.size f cdv).cells)).2⟩
noncomputable def wordV (told : Str) (wf : Str → Option Str) (fv : FE) (Ls : List (LamD × FE)) : FE := fun env => bindO (fv env) fun a env1 => match lamA env1 a with
  | some l => match pickL Ls l with
    | some fe => wordE told wf fe env1
    | none => none
  | none => none
section
variable {X : Cx}
theorem e_wordV {W : WX} {x a wn told : Str} {g : Addr} {k : Nat} {pg : Arguments} {bg : List Stmt} {sg : Scope} {fd : FuncData} {l : List (Value × Str)} {h0 : ExceptHandler} {hds : List ExceptHandler} {p1 p2 p3 p4 p5 p6 p7 p8 p9 : Pos} {j1 : Nat} {e : Expr} {fv : FE} {Ls : List (LamD × FE)} {wf : Str → Option Str} {p pos : Pos}
    (F : FunD X.K x x pg bg sg [] [] g fd) (hm : X.mg x = some (.ref g)) (hg : Gl X x) (hbg : bg = [.Assign [.Name wn p1] (.Constant (.str told) j1 p2) p3, .Try [.Expr (.Call (.Name a p4) [] [] p5) p6] (h0 :: hds) [] [] p7, .Return (some (.Name wn p8)) p9])
    (hbd : ∀ (kV doc pm : Value) (an : Option Addr) (cdv ct : Value) (us : List Value), us.length = [a].length → bindArgs (PySem.W.fnOf x x pg bg sg .none kV doc pm an cdv ct) ⟨us, []⟩ = pure ([a].zip us))
    (Sg : FnScope [a, wn] [a] sg) (hW : WH sg X.mg wn (h0 :: hds) l) (hl : sg.names.lookup wn = some .local) (hva : Vis sg a) (hwf : ∀ y z, wf y = some z → ∀ (Q : VK) d H, Q (.str z) H → wordW X.K Q l (.ref (He.ga X.K y)) d H)
    (hr : Room (k + 2) X.A) (he : PE X e (rE X.K W fv)) (hL : ∀ q ∈ Ls, OkL X k q.1 (fun E => rE X.K (fun cls d _ H' => E cls d H') q.2))
    (hs : starEach [e] X.env = (false, eval e X.env) :: starEach [] X.env := by rfl) (hpl : (backTo pos (starEach [] X.env)).any (·.1) = false := by rfl)
    (hdw : (wn == ("__debug__" : Str)) = false := by decide) (hcw : (wn == ("__classdict__" : Str)) = false := by decide) (hdb : (x == ("__debug__" : Str)) = false := by decide) (hd : (a == ("__debug__" : Str)) = false := by decide) (hcd : (a == ("__classdict__" : Str)) = false := by decide) :
    PE X (.Call (.Name x p) [e] [] pos) (rE X.K W (wordV told wf fv Ls)) := by
  obtain ⟨oc, od, dV, kV, doc, pm, an, cdv, ct, osl, e1, lk, hc, _, _⟩ := F.ex
  have hB := F.bindsN hbd
  subst e1 hbg
  refine PE_mono (pe_lamV (k := k) (TT := TTword X.K told l) hg hm F.kp lk hc hB Sg rfl hva (word_gives hW Sg.nd hl hdw hcw) hr (pa_cons he pa_nil hs) hdb hd hcd hs hpl) ?_
  intro σ H Q ⟨F0, env0, fps0, R0, po⟩
  refine ⟨F0, env0, fps0, R0, ?_⟩
  unfold wordV at po
  cases ev : fv env0 with
  | none => rw [ev] at po; exact po
  | some o =>
    rw [ev] at po
    cases o with
    | ex z env1 => exact po
    | ok av env =>
      simp only [bindO_ok] at po
      cases el : lamA env av with
      | none => rw [el] at po; exact po.elim
      | some l =>
        rw [el] at po
        simp only at po
        cases ep : pickL Ls l with
        | none => rw [ep] at po; exact po.elim
        | some fe =>
          rw [ep] at po
          simp only at po
          intro v F1 H1 fps fp R r dj e0
          obtain ⟨fa, c', rfl, h1, h2⟩ := lamA_rep R r el
          refine ⟨fa, c', l, _, rfl, hL _ (pickL_mem ep), R.fr _ _ h1, R.fr _ _ h2, fun Q' hQ' => ⟨R.fr _ _ h1, F1, env, fps, R, ?_⟩⟩
          have e0 : Ext X.K F0 H (Own fps0) F1 H1 (Own fps) := e0.weak fun b h => .inl h
          show poE _ _ _ _ _ _ (fe env) _
          unfold wordE at po
          cases ef : fe env with
          | none => rw [ef] at po; exact po.elim
          | some o =>
            rw [ef] at po
            cases o with
            | ok av env1 =>
              intro v F2 H2 fps2 fp R2 r dj e2
              refine hQ' v H2 (po (.str told) F2 H2 fps2 [] R2 (RepM.fz (.str told)) Own.not_nil ?_)
              exact (e0.trans e2 (fun _ h => h) (C := fun b => Own fps2 b ∨ b ∈ fp) fun _ h => .inl h).weak fun b h => h.elim .inl fun z => by cases z
            | ex y env1 =>
              simp only at po
              cases ew : wf y.cls with
              | none => rw [ew] at po; exact po.elim
              | some z =>
                rw [ew] at po
                intro cls dd F2 H2 fps2 R2 rx e2
                obtain ⟨rfl, _⟩ := rx
                refine hwf _ _ ew Q dd H2 (po (.str z) F2 H2 fps2 [] R2 (RepM.fz (.str z)) Own.not_nil ?_)
                exact (e0.trans e2 (fun _ h => h) (C := Own fps2) fun _ h => .inl h).weak fun b h => h.elim id fun z => by cases z
end
noncomputable def kWordV (told : Str) (wf : Str → Option Str) (Ls : List (LamD × FE)) (o : Option (Out Av)) : Option (Out Av) := match o with
  | some (.ok a env1) => match lamA env1 a with
    | some l => match pickL Ls l with
      | some fe => kWord told wf (fe env1)
      | none => none
    | none => none
  | some (.ex z env1) => some (.ex z env1)
  | none => none
@[simp] theorem ev_wordV {told : Str} {wf : Str → Option Str} {fv : FE} {Ls : List (LamD × FE)} {env : E} : wordV told wf fv Ls env = kWordV told wf Ls (fv env) := by
  unfold wordV kWordV bindO
  cases fv env with
  | none => rfl
  | some o =>
    cases o with
    | ex z env1 => rfl
    | ok a env1 =>
      simp only
      cases lamA env1 a with
      | none => rfl
      | some l => simp only; cases pickL Ls l <;> rfl
@[simp] theorem ev_mulLt {ds : List D} {k : Int} : mulLM (.fz (.tup ds)) (.fz (.int k)) = if ds ≠ [] ∧ 2 ≤ k ∧ k ≤ 1000 ∧ ds.length * k.toNat ≤ 1000000 then some (.fz (.tup (repL k.toNat ds))) else mulM (.fz (.tup ds)) (.fz (.int k)) := by
  have e : bigT (.fz (.tup ds)) (.fz (.int k)) = if ds ≠ [] ∧ 2 ≤ k ∧ k ≤ 1000 ∧ ds.length * k.toNat ≤ 1000000 then some (ds, k) else none := rfl
  unfold mulLM
  rw [e]
  by_cases h : ds ≠ [] ∧ 2 ≤ k ∧ k ≤ 1000 ∧ ds.length * k.toNat ≤ 1000000
  · rw [if_pos h, if_pos h]
  · rw [if_neg h, if_neg h]
@[simp] theorem ev_mulLi {i j : Int} : mulLM (.fz (.int i)) (.fz (.int j)) = mulM (.fz (.int i)) (.fz (.int j)) := (rfl)
end Ink
set_option Elab.async false
set_option linter.all false
set_option maxRecDepth 100000
set_option maxHeartbeats 0
namespace Lw
section
open PySem L2 Ink
def b_is_name : FS := (retS (andE (chainE (fun i j => decide (i ≤ j)) (fun i j => decide (i ≤ j)) (cE (.int 1)) (callE lenG (arg1 (vE 0))) (cE (.int 6))) (callE (g1 (allM true)) (arg1 (compE (overE itemsA (vE 0)) (nmG 1) yesT (callE (g2 (inF false)) (arg2 (vE 1) (cE (.str "abcdefghijklmnopqrstuvwxyz")))) [1])))))
def m_is_name : FP := fnM 1 1 [] b_is_name
def b_is_least : FS := (retS (chainE (fun i j => decide (i ≤ j)) (fun i j => decide (i ≤ j)) (cE (.int 1)) (vE 0) (cE (.int 3))))
def m_is_least : FP := fnM 1 0 [] b_is_least
def b_is_weight : FS := (retS (chainE (fun i j => decide (i ≤ j)) (fun i j => decide (i ≤ j)) (cE (.int 1)) (vE 0) (cE (.int 9))))
def m_is_weight : FP := fnM 1 0 [] b_is_weight
def b_is_far : FS := (retS (callE leG (arg2 (callE (g1 absM) (arg1 (vE 0))) (cE (.int 9)))))
def m_is_far : FP := fnM 1 0 [] b_is_far
def b_law_bag : FS := (seqS (asgS (compE (overE itemsA (callE sl01 (arg2 (vE 0) (cE (.int 63))))) (nmG 1) yesT (callE (g1 absM) (arg1 (vE 1))) [1]) (nmG 2))
  (seqS (asgS (callE addG (arg2 (cE (.int 1)) (callE lenG (arg1 (vE 2))))) (nmG 3))
  (seqS (forS (overE itemsA (callE sl01 (arg2 (vE 0) (cE (.int 63))))) (nmG 1) (asgS (callE modG (arg2 (callE addG (arg2 (callE addG (arg2 (callE mulG (arg2 (vE 3) (cE (.int 40503)))) (callE (g1 absM) (arg1 (vE 1))))) (callE mulG (arg2 (cE (.int 2)) (callE (g1 intM1) (arg1 (callE ltG (arg2 (vE 1) (cE (.int 0)))))))))) (cE (.int 2147483629)))) (nmG 3)))
  (retS (lstE (consA (tk (vE 2)) (consA (cE (.int 0)) (consA (cE (.int 0)) (consA (tk (vE 3)) nilA)))))))))
def m_law_bag : FP := fnM 1 3 [] b_law_bag
def b_law_pull : FS := (seqS (ifS (tst (callE ltG (arg2 (callE ixF (arg2 (vE 0) (cE (.int 2)))) (cE (.int 2))))) (seqS (augIx (fun i j => i + j) (vE 0) (cE (.int 1)) (cE (.int 1)))
  (seqS (asgS (callE ixF (arg2 (vE 0) (cE (.int 1)))) (nmG 2))
  (seqS (ifS (tst (callE leG (arg2 (callE ixF (arg2 (vE 0) (cE (.int 1)))) (callE lenG (arg1 (callE ixF (arg2 (vE 0) (cE (.int 0))))))))) (seqS (asgS (callE ixF (arg2 (callE ixF (arg2 (vE 0) (cE (.int 0)))) (callE subG (arg2 (callE ixF (arg2 (vE 0) (cE (.int 1)))) (cE (.int 1)))))) (nmG 2))
  (ifS (tst (callE geG (arg2 (vE 2) (callE powG (arg2 (cE (.int 10)) (cE (.int 18))))))) (seqS (setSA (tk (callE fdivG (arg2 (vE 2) (vE 1)))) (vE 0) (cE (.int 2)))
  (retS (callE modG (arg2 (vE 2) (vE 1))))) skipS)) skipS)
  (seqS (asgS (callE modG (arg2 (callE addG (arg2 (callE addG (arg2 (vE 2) (callE mulG (arg2 (callE ixF (arg2 (vE 0) (cE (.int 3)))) (cE (.int 31)))))) (callE mulG (arg2 (callE ixF (arg2 (vE 0) (cE (.int 1)))) (cE (.int 69061)))))) (cE (.int 2147483629)))) (nmG 3))
  (seqS (asgS (callE modG (arg2 (callE addG (arg2 (callE mulG (arg2 (vE 3) (vE 3))) (cE (.int 40961)))) (cE (.int 2147483587)))) (nmG 3))
  (retS (callE modG (arg2 (callE fdivG (arg2 (callE modG (arg2 (callE addG (arg2 (callE mulG (arg2 (vE 3) (vE 3))) (callE ixF (arg2 (vE 0) (cE (.int 1)))))) (cE (.int 1073741789)))) (cE (.int 19)))) (vE 1))))))))) skipS)
  (seqS (asgS (callE modG (arg2 (callE ixF (arg2 (vE 0) (cE (.int 2)))) (vE 1))) (nmG 4))
  (seqS (setSA (tk (callE fdivG (arg2 (callE ixF (arg2 (vE 0) (cE (.int 2)))) (vE 1)))) (vE 0) (cE (.int 2)))
  (retV 4))))
def m_law_pull : FP := fnM 2 3 [] b_law_pull
def b_is_arrow : FS := (seqS (ifS (tst (callE (g2 neM) (arg2 (callE lenG (arg1 (vE 0))) (cE (.int 4))))) (retS (cE (.bl false))) skipS)
  (seqS (asgS (tk (vE 0)) (tupG [(nmG 2), (nmG 3), (nmG 4), (nmG 5)]))
  (retS (andE (chainE (fun i j => decide (i ≤ j)) (fun i j => decide (i < j)) (cE (.int 0)) (vE 2) (vE 1)) (andE (chainE (fun i j => decide (i ≤ j)) (fun i j => decide (i < j)) (cE (.int 0)) (vE 3) (vE 1)) (andE (callE m_is_least (consA (vE 4) nilA)) (callE m_is_weight (consA (vE 5) nilA))))))))
def m_is_arrow : FP := fnM 2 4 [] b_is_arrow
def b_is_saying : FS := (seqS (ifS (tst (callE (g2 neM) (arg2 (callE lenG (arg1 (vE 0))) (cE (.int 3))))) (retS (cE (.bl false))) skipS)
  (seqS (asgS (tk (vE 0)) (tupG [(nmG 2), (nmG 3), (nmG 4)]))
  (retS (andE (chainE (fun i j => decide (i ≤ j)) (fun i j => decide (i < j)) (cE (.int 0)) (vE 2) (vE 1)) (andE (chainE (fun i j => decide (i ≤ j)) (fun i j => decide (i < j)) (cE (.int 0)) (vE 3) (vE 1)) (andE (callE (g2 neM) (arg2 (vE 2) (vE 3))) (callE m_is_far (consA (vE 4) nilA))))))))
def m_is_saying : FP := fnM 2 3 [] b_is_saying
def b_law_names : FS := (seqS (asgS (lstE nilA) (nmG 2))
  (seqS (asgS (lstE (consA (cE (.str "")) (consA (cE (.str "")) (consA (cE (.str "x")) (consA (cE (.str "box")) (consA (cE (.str "zzzzz")) (consA (cE (.str "a")) nilA))))))) (nmG 3))
  (seqS (forS (rng1 (vE 1)) (nmG 4) (seqS (asgS (callE addG (arg2 (callE ixF (arg2 (cE (.str "abcdefghijklmnopqrstuvwxyz")) (callE modG (arg2 (vE 4) (cE (.int 26)))))) (callE mulG (arg2 (cE (.str "q")) (callE fdivG (arg2 (vE 4) (cE (.int 26)))))))) (nmG 5))
  (exprS (bmE .lst appG (vE 2) (arg1 (tk (callE sl01 (arg2 (callE addG (arg2 (vE 5) (callE ixF (arg2 (vE 3) (callE m_law_pull (consA (vE 0) (consA (cE (.int 6)) nilA))))))) (cE (.int 6))))))))))
  (seqS (asgS (callE m_law_pull (consA (vE 0) (consA (callE (g2 maxM) (arg2 (cE (.int 1)) (vE 1))) nilA))) (nmG 6))
  (retS (callE (g1 tupleM) (arg1 (callE addG (arg2 (callE sl10 (arg2 (vE 2) (vE 6))) (callE sl01 (arg2 (vE 2) (vE 6))))))))))))
def m_law_names : FP := fnM 2 5 [] b_law_names
def b_is_web : FS := (seqS (asgS (tk (vE 0)) (tupG [(nmG 1), (nmG 2), (nmG 3)]))
  (seqS (asgS (callE lenG (arg1 (vE 1))) (nmG 4))
  (seqS (ifS (orT (tst (callE gtG (arg2 (vE 4) (cE (.int 40))))) (orT (tst (callE gtG (arg2 (callE lenG (arg1 (vE 2))) (cE (.int 80))))) (tst (callE gtG (arg2 (callE lenG (arg1 (vE 3))) (cE (.int 20))))))) (retS (cE (.bl false))) skipS)
  (seqS (ifS (orT (notT (tst (callE (g1 (allM true)) (arg1 (compE (overE itemsA (vE 1)) (nmG 5) yesT (callE m_is_name (consA (vE 5) nilA)) [5]))))) (tst (callE (g2 neM) (arg2 (lenSetE (vE 1)) (vE 4))))) (retS (cE (.bl false))) skipS)
  (retS (andE (callE (g1 (allM true)) (arg1 (compE (overE itemsA (vE 2)) (nmG 6) yesT (callE m_is_arrow (consA (vE 6) (consA (vE 4) nilA))) [6]))) (callE (g1 (allM true)) (arg1 (compE (overE itemsA (vE 3)) (nmG 6) yesT (callE m_is_saying (consA (vE 6) (consA (vE 4) nilA))) [6])))))))))
def m_is_web : FP := fnM 1 6 [] b_is_web
def b_law_drawn_web : FS := (seqS (asgS (callE ixF (arg2 (lstE (consA (callE addG (arg2 (cE (.int 1)) (callE m_law_pull (consA (vE 0) (consA (vE 1) nilA))))) (consA (cE (.int 0)) nilA))) (callE (g1 intM1) (arg1 (callE (g2 eqM) (arg2 (callE m_law_pull (consA (vE 0) (consA (cE (.int 20)) nilA))) (cE (.int 0)))))))) (nmG 4))
  (seqS (asgS (lstE nilA) (nmG 5))
  (seqS (forS (rng1 (callE mulG (arg2 (callE m_law_pull (consA (vE 0) (consA (callE addG (arg2 (vE 2) (cE (.int 1)))) nilA))) (callE (g1 intM1) (arg1 (callE gtG (arg2 (vE 4) (cE (.int 0))))))))) (nmG 6) (seqS (asgS (callE m_law_pull (consA (vE 0) (consA (vE 4) nilA))) (nmG 7))
  (seqS (asgS (callE m_law_pull (consA (vE 0) (consA (vE 4) nilA))) (nmG 8))
  (seqS (ifS (tst (callE gtG (arg2 (callE m_law_pull (consA (vE 0) (consA (cE (.int 3)) nilA))) (cE (.int 0))))) (parS 7 8 (consA (callE (g2 minM) (arg2 (vE 7) (vE 8))) (consA (callE (g2 maxM) (arg2 (vE 7) (vE 8))) nilA))) skipS)
  (exprS (bmE .lst appG (vE 5) (arg1 (tk (tupE (consA (tk (vE 7)) (consA (tk (vE 8)) (consA (callE addG (arg2 (cE (.int 1)) (callE m_law_pull (consA (vE 0) (consA (callE ixF (arg2 (lstE (consA (cE (.int 1)) (consA (cE (.int 3)) nilA))) (callE m_law_pull (consA (vE 0) (consA (cE (.int 2)) nilA))))) nilA))))) (consA (callE addG (arg2 (cE (.int 1)) (callE m_law_pull (consA (vE 0) (consA (cE (.int 9)) nilA))))) nilA)))))))))))))
  (seqS (asgS (lstE nilA) (nmG 9))
  (seqS (forS (rng1 (callE mulG (arg2 (callE m_law_pull (consA (vE 0) (consA (callE addG (arg2 (vE 3) (cE (.int 1)))) nilA))) (callE (g1 intM1) (arg1 (callE gtG (arg2 (vE 4) (cE (.int 1))))))))) (nmG 6) (seqS (asgS (callE m_law_pull (consA (vE 0) (consA (vE 4) nilA))) (nmG 7))
  (seqS (asgS (callE modG (arg2 (callE addG (arg2 (callE addG (arg2 (vE 7) (cE (.int 1)))) (callE m_law_pull (consA (vE 0) (consA (callE subG (arg2 (vE 4) (cE (.int 1)))) nilA))))) (vE 4))) (nmG 8))
  (exprS (bmE .lst appG (vE 9) (arg1 (tk (tupE (consA (tk (vE 7)) (consA (tk (vE 8)) (consA (callE ixF (arg2 (lstE (consA (callE subG (arg2 (cE (.int 0)) (cE (.int 9)))) (consA (callE subG (arg2 (cE (.int 0)) (cE (.int 2)))) (consA (callE subG (arg2 (cE (.int 0)) (cE (.int 1)))) (consA (cE (.int 0)) (consA (cE (.int 0)) (consA (cE (.int 1)) (consA (cE (.int 2)) (consA (callE subG (arg2 (callE m_law_pull (consA (vE 0) (consA (cE (.int 19)) nilA))) (cE (.int 9)))) nilA))))))))) (callE m_law_pull (consA (vE 0) (consA (cE (.int 8)) nilA))))) nilA)))))))))))
  (retS (tupE (consA (callE m_law_names (consA (vE 0) (consA (vE 4) nilA))) (consA (callE (g1 tupleM) (arg1 (vE 5))) (consA (callE (g1 tupleM) (arg1 (vE 9))) nilA))))))))))
def m_law_drawn_web : FP := fnM 4 6 [] b_law_drawn_web
def b_need_web : FS := (ifS (notT (tst (callE m_is_web (consA (vE 0) nilA)))) (raiseS "BadWeb") skipS)
def m_need_web : FP := fnM 1 0 [] b_need_web
end
end Lw
set_option Elab.async false
set_option linter.all false
set_option maxRecDepth 100000
set_option maxHeartbeats 0
set_option Elab.async false
set_option linter.all false
set_option maxRecDepth 100000
set_option maxHeartbeats 0
set_option Elab.async false
set_option linter.all false
set_option maxRecDepth 100000
set_option maxHeartbeats 0
set_option Elab.async false
set_option linter.all false
set_option maxRecDepth 100000
set_option maxHeartbeats 0
set_option Elab.async false
set_option linter.all false
set_option maxRecDepth 100000
set_option maxHeartbeats 0
set_option Elab.async false
set_option linter.all false
set_option maxRecDepth 100000
set_option maxHeartbeats 0
set_option Elab.async false
set_option linter.all false
set_option maxRecDepth 100000
set_option maxHeartbeats 0
set_option Elab.async false
set_option linter.all false
set_option maxRecDepth 100000
set_option maxHeartbeats 0
set_option Elab.async false
set_option linter.all false
set_option maxRecDepth 100000
set_option maxHeartbeats 0
set_option Elab.async false
set_option linter.all false
set_option maxRecDepth 100000
set_option maxHeartbeats 0
set_option Elab.async false
set_option linter.all false
set_option maxRecDepth 100000
set_option maxHeartbeats 0
set_option Elab.async false
set_option linter.all false
set_option maxRecDepth 100000
set_option maxHeartbeats 0
set_option Elab.async false
set_option linter.all false
set_option maxRecDepth 100000
set_option maxHeartbeats 0
set_option Elab.async false
set_option linter.all false
set_option maxRecDepth 100000
set_option maxHeartbeats 0
set_option Elab.async false
set_option linter.all false
set_option maxRecDepth 100000
set_option maxHeartbeats 0
set_option Elab.async false
set_option linter.all false
set_option maxRecDepth 100000
set_option maxHeartbeats 0
namespace Lw
section
open PySem L2 Ink
def bc_segments_by : FS := noneS
def mc_segments_by : FP := fnM 1 5 [] bc_segments_by
def L_law_good_web_1 : FS := (seqS (ifS (orT (tst (callE (g2 neM) (arg2 (callE lenG (arg1 (vE 7))) (cE (.int 3))))) (orT (notT (andT (tst (chainE (fun i j => decide (i ≤ j)) (fun i j => decide (i < j)) (cE (.int 0)) (callE ixF (arg2 (vE 7) (cE (.int 0)))) (vE 4))) (tst (chainE (fun i j => decide (i ≤ j)) (fun i j => decide (i < j)) (cE (.int 0)) (callE ixF (arg2 (vE 7) (cE (.int 1)))) (vE 4))))) (tst (callE (g2 eqM) (arg2 (callE ixF (arg2 (vE 7) (cE (.int 0)))) (callE ixF (arg2 (vE 7) (cE (.int 1))))))))) (retS (cE (.bl false))) skipS)
  (ifS (notT (tst (chainE (fun i j => decide (i ≤ j)) (fun i j => decide (i ≤ j)) (callE subG (arg2 (cE (.int 0)) (cE (.int 9)))) (callE ixF (arg2 (vE 7) (cE (.int 2)))) (cE (.int 9))))) (retS (cE (.bl false))) skipS))
def L_law_good_web_2 : FS := (seqS (ifS (orT (tst (callE (g2 neM) (arg2 (callE lenG (arg1 (vE 7))) (cE (.int 4))))) (notT (andT (tst (chainE (fun i j => decide (i ≤ j)) (fun i j => decide (i < j)) (cE (.int 0)) (callE ixF (arg2 (vE 7) (cE (.int 0)))) (vE 4))) (tst (chainE (fun i j => decide (i ≤ j)) (fun i j => decide (i < j)) (cE (.int 0)) (callE ixF (arg2 (vE 7) (cE (.int 1)))) (vE 4)))))) (retS (cE (.bl false))) skipS)
  (ifS (orT (notT (tst (chainE (fun i j => decide (i ≤ j)) (fun i j => decide (i ≤ j)) (cE (.int 1)) (callE ixF (arg2 (vE 7) (cE (.int 2)))) (cE (.int 3))))) (notT (tst (chainE (fun i j => decide (i ≤ j)) (fun i j => decide (i ≤ j)) (cE (.int 1)) (callE ixF (arg2 (vE 7) (cE (.int 3)))) (cE (.int 9)))))) (retS (cE (.bl false))) skipS))
def K_law_good_web_1 : FE := (callE (g2 (inF false)) (arg2 (vE 8) (cE (.str "abcdefghijklmnopqrstuvwxyz"))))
def L_law_good_web_3 : FS := (seqS (ifS (orT (notT (tst (chainE (fun i j => decide (i ≤ j)) (fun i j => decide (i ≤ j)) (cE (.int 1)) (callE lenG (arg1 (vE 6))) (cE (.int 6))))) (tst (callE (g2 (inF false)) (arg2 (vE 6) (callE sl01 (arg2 (vE 1) (vE 5))))))) (retS (cE (.bl false))) skipS)
  (ifS (notT (tst (callE (g1 (allM true)) (arg1 (compE (overE itemsA (vE 6)) (nmG 8) yesT K_law_good_web_1 [8]))))) (retS (cE (.bl false))) skipS))
def b_law_good_web : FS := (seqS (asgS (tk (vE 0)) (tupG [(nmG 1), (nmG 2), (nmG 3)]))
  (seqS (asgS (callE lenG (arg1 (vE 1))) (nmG 4))
  (seqS (ifS (orT (tst (callE gtG (arg2 (vE 4) (cE (.int 40))))) (orT (tst (callE gtG (arg2 (callE lenG (arg1 (vE 2))) (cE (.int 80))))) (tst (callE gtG (arg2 (callE lenG (arg1 (vE 3))) (cE (.int 20))))))) (retS (cE (.bl false))) skipS)
  (seqS (forS (overE (itemsE 0) (vE 1)) (tupG [(nmG 5), (nmG 6)]) L_law_good_web_3)
  (seqS (forS (overE itemsA (vE 2)) (nmG 7) L_law_good_web_2)
  (seqS (forS (overE itemsA (vE 3)) (nmG 7) L_law_good_web_1)
  (retS (cE (.bl true)))))))))
def m_law_good_web : FP := fnM 1 8 [] b_law_good_web
def b_law_odd : FS := (retS (callE ixF (arg2 (lstE (consA (callE subG (arg2 (cE (.int 0)) (cE (.int 1)))) (consA (cE (.int 0)) (consA (tk (vE 1)) (consA (callE addG (arg2 (vE 1) (cE (.int 1)))) (consA (cE (.int 10)) (consA (cE (.int 4)) (consA (callE powG (arg2 (cE (.int 10)) (cE (.int 30)))) (consA (callE subG (arg2 (cE (.int 0)) (callE powG (arg2 (cE (.int 10)) (cE (.int 30)))))) (consA (callE addG (arg2 (cE (.int 1)) (callE m_law_pull (consA (vE 0) (consA (cE (.int 12)) nilA))))) nilA)))))))))) (callE m_law_pull (consA (vE 0) (consA (cE (.int 9)) nilA))))))
def m_law_odd : FP := fnM 2 0 [] b_law_odd
def b_law_bent_web : FS := (seqS (asgS (tk (vE 1)) (tupG [(nmG 2), (nmG 3), (nmG 4)]))
  (seqS (asgS (callE m_law_pull (consA (vE 0) (consA (cE (.int 9)) nilA))) (nmG 5))
  (seqS (ifS (tst (callE (g2 eqM) (arg2 (vE 5) (cE (.int 0))))) (seqS (asgS (callE addG (arg2 (lstE (consA (cE (.str "")) (consA (cE (.str "A")) (consA (cE (.str "abcdefg")) (consA (cE (.str "a1")) (consA (cE (.str "ok")) nilA)))))) (callE (g1 listDM) (arg1 (callE sl01 (arg2 (vE 2) (cE (.int 1)))))))) (nmG 6))
  (retS (tupE (consA (callE addG (arg2 (vE 2) (tupE (consA (callE ixF (arg2 (vE 6) (callE m_law_pull (consA (vE 0) (consA (callE lenG (arg1 (vE 6))) nilA))))) nilA)))) (consA (mvE 3) (consA (mvE 4) nilA)))))) skipS)
  (seqS (ifS (tst (callE (g2 eqM) (arg2 (vE 5) (cE (.int 1))))) (retS (tupE (consA (callE sl01 (arg2 (vE 2) (callE (g1 negM) (arg1 (cE (.int 1)))))) (consA (mvE 3) (consA (mvE 4) nilA))))) skipS)
  (seqS (ifS (tst (callE (g2 eqM) (arg2 (vE 5) (cE (.int 2))))) (retS (tupE (consA (mvE 2) (consA (callE (g2 mulLM) (arg2 (vE 3) (callE ixF (arg2 (lstE (consA (cE (.int 2)) (consA (cE (.int 9)) nilA))) (callE m_law_pull (consA (vE 0) (consA (cE (.int 2)) nilA))))))) (consA (callE (g2 mulLM) (arg2 (vE 4) (callE ixF (arg2 (lstE (consA (cE (.int 3)) (consA (cE (.int 21)) nilA))) (callE m_law_pull (consA (vE 0) (consA (cE (.int 2)) nilA))))))) nilA))))) skipS)
  (seqS (ifS (andT (tst (callE ltG (arg2 (vE 5) (cE (.int 6))))) (tst (callE (g2 neM) (arg2 (vE 3) (tupE nilA))))) (seqS (asgS (callE m_law_pull (consA (vE 0) (consA (callE lenG (arg1 (vE 3))) nilA))) (nmG 7))
  (seqS (asgS (callE (g1 listDM) (arg1 (callE ixF (arg2 (vE 3) (vE 7))))) (nmG 8))
  (seqS (setSA (tk (callE m_law_odd (consA (vE 0) (consA (callE lenG (arg1 (vE 2))) nilA)))) (vE 8) (callE m_law_pull (consA (vE 0) (consA (callE lenG (arg1 (vE 8))) nilA))))
  (seqS (asgS (callE ixF (arg2 (lstE (consA (callE (g1 tupleM) (arg1 (vE 8))) (consA (callE (g1 tupleM) (arg1 (callE sl01 (arg2 (vE 8) (cE (.int 3)))))) (consA (callE (g1 tupleM) (arg1 (callE addG (arg2 (vE 8) (lstE (consA (cE (.int 1)) nilA)))))) nilA)))) (callE (g2 mulLM) (arg2 (callE modG (arg2 (callE m_law_pull (consA (vE 0) (consA (cE (.int 5)) nilA))) (cE (.int 3)))) (callE (g1 intM1) (arg1 (callE (g2 eqM) (arg2 (callE m_law_pull (consA (vE 0) (consA (cE (.int 3)) nilA))) (cE (.int 0)))))))))) (nmG 8))
  (retS (tupE (consA (mvE 2) (consA (callE addG (arg2 (callE addG (arg2 (callE sl01 (arg2 (vE 3) (vE 7))) (tupE (consA (tk (vE 8)) nilA)))) (callE sl10 (arg2 (vE 3) (callE addG (arg2 (vE 7) (cE (.int 1)))))))) (consA (mvE 4) nilA))))))))) skipS)
  (seqS (ifS (tst (callE (g2 neM) (arg2 (vE 4) (tupE nilA)))) (seqS (asgS (callE m_law_pull (consA (vE 0) (consA (callE lenG (arg1 (vE 4))) nilA))) (nmG 7))
  (seqS (asgS (callE (g1 listDM) (arg1 (callE ixF (arg2 (vE 4) (vE 7))))) (nmG 8))
  (seqS (setSA (tk (callE m_law_odd (consA (vE 0) (consA (callE lenG (arg1 (vE 2))) nilA)))) (vE 8) (callE m_law_pull (consA (vE 0) (consA (callE lenG (arg1 (vE 8))) nilA))))
  (seqS (asgS (callE ixF (arg2 (lstE (consA (callE (g1 tupleM) (arg1 (vE 8))) (consA (callE (g1 tupleM) (arg1 (callE sl01 (arg2 (vE 8) (cE (.int 2)))))) (consA (callE (g1 tupleM) (arg1 (callE addG (arg2 (vE 8) (lstE (consA (cE (.int 0)) nilA)))))) nilA)))) (callE (g2 mulLM) (arg2 (callE modG (arg2 (callE m_law_pull (consA (vE 0) (consA (cE (.int 5)) nilA))) (cE (.int 3)))) (callE (g1 intM1) (arg1 (callE (g2 eqM) (arg2 (callE m_law_pull (consA (vE 0) (consA (cE (.int 3)) nilA))) (cE (.int 0)))))))))) (nmG 8))
  (retS (tupE (consA (mvE 2) (consA (mvE 3) (consA (callE addG (arg2 (callE addG (arg2 (callE sl01 (arg2 (vE 4) (vE 7))) (tupE (consA (tk (vE 8)) nilA)))) (callE sl10 (arg2 (vE 4) (callE addG (arg2 (vE 7) (cE (.int 1)))))))) nilA))))))))) skipS)
  (retS (tupE (consA (callE addG (arg2 (vE 2) (tupE (consA (cE (.str "abcdefg")) nilA)))) (consA (mvE 3) (consA (mvE 4) nilA))))))))))))
def m_law_bent_web : FP := fnM 2 7 [] b_law_bent_web
def bc_boxes_of : FS := (seqS (exprS (callE m_need_web (consA (vE 0) nilA)))
  noneS)
def mc_boxes_of : FP := fnM 2 0 [] bc_boxes_of
def bc_without : FS := (seqS (exprS (callE m_need_web (consA (vE 0) nilA)))
  noneS)
def mc_without : FP := fnM 2 3 [] bc_without
def bc_chains : FS := (seqS (exprS (callE m_need_web (consA (vE 0) nilA)))
  noneS)
def mc_chains : FP := fnM 2 2 [] bc_chains
def bc_rows : FS := (seqS (exprS (callE m_need_web (consA (vE 0) nilA)))
  noneS)
def mc_rows : FP := fnM 2 5 [] bc_rows
def bc_web_text : FS := (seqS (exprS (callE m_need_web (consA (vE 0) nilA)))
  noneS)
def mc_web_text : FP := fnM 1 8 [] bc_web_text
def bc_turned : FS := (seqS (exprS (callE m_need_web (consA (vE 0) nilA)))
  noneS)
def mc_turned : FP := fnM 1 0 [] bc_turned
def bc_ring : FS := (seqS (exprS (callE m_need_web (consA (vE 0) nilA)))
  noneS)
def mc_ring : FP := fnM 2 4 [] bc_ring
def bc_knots : FS := (seqS (exprS (callE m_need_web (consA (vE 0) nilA)))
  noneS)
def mc_knots : FP := fnM 1 9 [] bc_knots
def bc_ties : FS := (seqS (exprS (callE m_need_web (consA (vE 0) nilA)))
  noneS)
def mc_ties : FP := fnM 1 0 [] bc_ties
def bc_solved : FS := (seqS (exprS (callE m_need_web (consA (vE 0) nilA)))
  noneS)
def mc_solved : FP := fnM 1 3 [] bc_solved
def bc_clash : FS := (seqS (exprS (callE m_need_web (consA (vE 0) nilA)))
  noneS)
def mc_clash : FP := fnM 1 0 [] bc_clash
def bc_picture : FS := (seqS (exprS (callE m_need_web (consA (vE 0) nilA)))
  noneS)
def mc_picture : FP := fnM 3 13 [] bc_picture
def bc_board_of : FS := (seqS (exprS (callE m_need_web (consA (vE 0) nilA)))
  noneS)
def mc_board_of : FP := fnM 1 11 [] bc_board_of
def bc_layers : FS := (seqS (asgS (callE mc_solved (consA (vE 0) nilA)) (tupG [(nmG 1), (nmG 2)]))
  noneS)
def mc_layers : FP := fnM 1 6 [] bc_layers
def bc_flow : FS := (retS (callE ixF (arg2 (callE mc_solved (consA (vE 0) nilA)) (cE (.int 1)))))
def mc_flow : FP := fnM 1 0 [] bc_flow
def bc_worth : FS := (seqS (asgS (callE mc_ties (consA (vE 0) nilA)) (nmG 2))
  noneS)
def mc_worth : FP := fnM 2 3 [] bc_worth
def bc_widths : FS := (seqS (asgS (newE (.dT [])) (nmG 2))
  (seqS (asgS (newE (.dT [])) (nmG 3))
  (seqS (forS (overE itemsA (callE mc_segments_by (consA (callE mc_chains (consA (vE 0) (consA (vE 1) nilA))) nilA))) (tupG [(nmG 4), (nmG 5), (nmG 6)]) noneS)
  noneS)))
def mc_widths : FP := fnM 2 11 [] bc_widths
def bc_length : FS := (seqS (asgS (ifE (tst (callE (g2 isNM) (arg2 (vE 1) (cE .non)))) (callE mc_layers (consA (vE 0) nilA)) (tk (vE 1))) (nmG 2))
  (seqS (exprS (callE mc_solved (consA (vE 0) nilA)))
  noneS))
def mc_length : FP := fnM 2 2 [] bc_length
end
end Lw
set_option Elab.async false
set_option linter.all false
set_option maxRecDepth 100000
set_option maxHeartbeats 0
namespace Lw
section
open PySem L2 Ink PyProof.Rows
def top (i : Nat) : Stmt := PySem.Challenge.pw_layerink_k02_webs_refused_at_every_door.main.body.getD i (.Pass ⟨0, 0, 0, 0⟩)
structure Txt (K : PySem.W.Frag) (mg : Str → Option Value) : Prop where
  b_abs : mg "abs" = none
  b_all : mg "all" = none
  b_enumerate : mg "enumerate" = none
  b_int : mg "int" = none
  b_len : mg "len" = none
  b_list : mg "list" = none
  b_max : mg "max" = none
  b_min : mg "min" = none
  b_range : mg "range" = none
  b_set : mg "set" = none
  b_tuple : mg "tuple" = none
  c_LETTERS : ∃ t, mg "LETTERS" = some (.str "abcdefghijklmnopqrstuvwxyz" t)
  c_LONGEST : ∃ t, mg "LONGEST" = some (.int 6 t)
  c_MOST_BOXES : ∃ t, mg "MOST_BOXES" = some (.int 40 t)
  c_MOST_ARROWS : ∃ t, mg "MOST_ARROWS" = some (.int 80 t)
  c_MOST_SAYINGS : ∃ t, mg "MOST_SAYINGS" = some (.int 20 t)
  c_MOST_LEAST : ∃ t, mg "MOST_LEAST" = some (.int 3 t)
  c_MOST_WEIGHT : ∃ t, mg "MOST_WEIGHT" = some (.int 9 t)
  c_MOST_FAR : ∃ t, mg "MOST_FAR" = some (.int 9 t)
  g_BadArrow : mg "BadArrow" = some (.ref (He.ga K "BadArrow"))
  g_BadWay : mg "BadWay" = some (.ref (He.ga K "BadWay"))
  g_BadWeb : mg "BadWeb" = some (.ref (He.ga K "BadWeb"))
  g_Clash : mg "Clash" = some (.ref (He.ga K "Clash"))
  g_InkError : mg "InkError" = some (.ref (He.ga K "InkError"))
  x_BadWeb : ExcK K "BadWeb"
  m_BadWeb_BadArrow : PySem.W.exmOne K (.ref (He.ga K "BadWeb")) (.ref (He.ga K "BadArrow")) = some false
  m_BadWeb_BadWay : PySem.W.exmOne K (.ref (He.ga K "BadWeb")) (.ref (He.ga K "BadWay")) = some false
  m_BadWeb_BadWeb : PySem.W.exmOne K (.ref (He.ga K "BadWeb")) (.ref (He.ga K "BadWeb")) = some true
  m_BadWeb_Clash : PySem.W.exmOne K (.ref (He.ga K "BadWeb")) (.ref (He.ga K "Clash")) = some false
  m_BadWeb_InkError : PySem.W.exmOne K (.ref (He.ga K "BadWeb")) (.ref (He.ga K "InkError")) = some true
section
variable {K : PySem.W.Frag} {mg : Str → Option Value}
theorem sc_law_word : FnScope ["_law_ask", "_law_word_here"] ["_law_ask"] (defScope (top 135)) := ⟨rfl, rfl, rfl, by decide +kernel, rfl, by decide +kernel, by decide +kernel⟩
def wf_law_word : Str → Option Str := fun y => if y = "BadWeb" then some "BadWeb" else none
theorem wf_law_word_ok (T : Txt K mg) : ∀ y z, wf_law_word y = some z → ∀ (Q : VK) d H, Q (.str z) H → wordW K Q [(.ref (He.ga K "BadWeb"), "BadWeb"), (.ref (He.ga K "BadArrow"), "BadArrow"), (.ref (He.ga K "BadWay"), "BadWay"), (.ref (He.ga K "Clash"), "Clash"), (.ref (He.ga K "InkError"), "other")] (.ref (He.ga K y)) d H := by
  intro y z h Q d H hq
  unfold wf_law_word at h
  split at h
  · rename_i e; subst e; cases h; exact ⟨true, T.m_BadWeb_BadWeb, fun _ => hq, fun e => by cases e⟩
  · cases h
end
def le_law_web_door_0 : Expr := ((subE ((valS ((subS (top 134)).getD 0 noSt)).getD 0 noEx)).getD 0 noEx)
def ld_law_web_door_0 (cl : List (Str × PySem.Addr)) : LamD := lamD ((("_law_web_door" : Str) ++ ".<locals>.") ++ "<lambda>") le_law_web_door_0 0 cl
def le_law_web_door_1 : Expr := ((subE ((valS ((subS (top 134)).getD 0 noSt)).getD 0 noEx)).getD 1 noEx)
def ld_law_web_door_1 (cl : List (Str × PySem.Addr)) : LamD := lamD ((("_law_web_door" : Str) ++ ".<locals>.") ++ "<lambda>") le_law_web_door_1 1 cl
def le_law_web_door_2 : Expr := ((subE ((valS ((subS (top 134)).getD 0 noSt)).getD 0 noEx)).getD 2 noEx)
def ld_law_web_door_2 (cl : List (Str × PySem.Addr)) : LamD := lamD ((("_law_web_door" : Str) ++ ".<locals>.") ++ "<lambda>") le_law_web_door_2 2 cl
def le_law_web_door_3 : Expr := ((subE ((valS ((subS (top 134)).getD 0 noSt)).getD 0 noEx)).getD 3 noEx)
def ld_law_web_door_3 (cl : List (Str × PySem.Addr)) : LamD := lamD ((("_law_web_door" : Str) ++ ".<locals>.") ++ "<lambda>") le_law_web_door_3 3 cl
def le_law_web_door_4 : Expr := ((subE ((valS ((subS (top 134)).getD 0 noSt)).getD 0 noEx)).getD 4 noEx)
def ld_law_web_door_4 (cl : List (Str × PySem.Addr)) : LamD := lamD ((("_law_web_door" : Str) ++ ".<locals>.") ++ "<lambda>") le_law_web_door_4 4 cl
def le_law_web_door_5 : Expr := ((subE ((valS ((subS (top 134)).getD 0 noSt)).getD 0 noEx)).getD 5 noEx)
def ld_law_web_door_5 (cl : List (Str × PySem.Addr)) : LamD := lamD ((("_law_web_door" : Str) ++ ".<locals>.") ++ "<lambda>") le_law_web_door_5 5 cl
def le_law_web_door_6 : Expr := ((subE ((valS ((subS (top 134)).getD 0 noSt)).getD 0 noEx)).getD 6 noEx)
def ld_law_web_door_6 (cl : List (Str × PySem.Addr)) : LamD := lamD ((("_law_web_door" : Str) ++ ".<locals>.") ++ "<lambda>") le_law_web_door_6 6 cl
def le_law_web_door_7 : Expr := ((subE ((valS ((subS (top 134)).getD 0 noSt)).getD 0 noEx)).getD 7 noEx)
def ld_law_web_door_7 (cl : List (Str × PySem.Addr)) : LamD := lamD ((("_law_web_door" : Str) ++ ".<locals>.") ++ "<lambda>") le_law_web_door_7 7 cl
def le_law_web_door_8 : Expr := ((subE ((valS ((subS (top 134)).getD 0 noSt)).getD 0 noEx)).getD 8 noEx)
def ld_law_web_door_8 (cl : List (Str × PySem.Addr)) : LamD := lamD ((("_law_web_door" : Str) ++ ".<locals>.") ++ "<lambda>") le_law_web_door_8 8 cl
def le_law_web_door_9 : Expr := ((subE ((valS ((subS (top 134)).getD 0 noSt)).getD 0 noEx)).getD 9 noEx)
def ld_law_web_door_9 (cl : List (Str × PySem.Addr)) : LamD := lamD ((("_law_web_door" : Str) ++ ".<locals>.") ++ "<lambda>") le_law_web_door_9 9 cl
def le_law_web_door_10 : Expr := ((subE ((valS ((subS (top 134)).getD 0 noSt)).getD 0 noEx)).getD 10 noEx)
def ld_law_web_door_10 (cl : List (Str × PySem.Addr)) : LamD := lamD ((("_law_web_door" : Str) ++ ".<locals>.") ++ "<lambda>") le_law_web_door_10 10 cl
def le_law_web_door_11 : Expr := ((subE ((valS ((subS (top 134)).getD 0 noSt)).getD 0 noEx)).getD 11 noEx)
def ld_law_web_door_11 (cl : List (Str × PySem.Addr)) : LamD := lamD ((("_law_web_door" : Str) ++ ".<locals>.") ++ "<lambda>") le_law_web_door_11 11 cl
def le_law_web_door_12 : Expr := ((subE ((valS ((subS (top 134)).getD 0 noSt)).getD 0 noEx)).getD 12 noEx)
def ld_law_web_door_12 (cl : List (Str × PySem.Addr)) : LamD := lamD ((("_law_web_door" : Str) ++ ".<locals>.") ++ "<lambda>") le_law_web_door_12 12 cl
def le_law_web_door_13 : Expr := ((subE ((valS ((subS (top 134)).getD 0 noSt)).getD 0 noEx)).getD 13 noEx)
def ld_law_web_door_13 (cl : List (Str × PySem.Addr)) : LamD := lamD ((("_law_web_door" : Str) ++ ".<locals>.") ++ "<lambda>") le_law_web_door_13 13 cl
def le_law_web_door_14 : Expr := ((subE ((valS ((subS (top 134)).getD 0 noSt)).getD 0 noEx)).getD 14 noEx)
def ld_law_web_door_14 (cl : List (Str × PySem.Addr)) : LamD := lamD ((("_law_web_door" : Str) ++ ".<locals>.") ++ "<lambda>") le_law_web_door_14 14 cl
def le_law_web_door_15 : Expr := ((subE ((valS ((subS (top 134)).getD 0 noSt)).getD 0 noEx)).getD 15 noEx)
def ld_law_web_door_15 (cl : List (Str × PySem.Addr)) : LamD := lamD ((("_law_web_door" : Str) ++ ".<locals>.") ++ "<lambda>") le_law_web_door_15 15 cl
def le_law_web_door_16 : Expr := ((subE ((valS ((subS (top 134)).getD 0 noSt)).getD 0 noEx)).getD 16 noEx)
def ld_law_web_door_16 (cl : List (Str × PySem.Addr)) : LamD := lamD ((("_law_web_door" : Str) ++ ".<locals>.") ++ "<lambda>") le_law_web_door_16 16 cl
def le_law_web_door_17 : Expr := ((subE ((valS ((subS (top 134)).getD 0 noSt)).getD 0 noEx)).getD 17 noEx)
def ld_law_web_door_17 (cl : List (Str × PySem.Addr)) : LamD := lamD ((("_law_web_door" : Str) ++ ".<locals>.") ++ "<lambda>") le_law_web_door_17 17 cl
noncomputable def lt_law_web_door (cl : List (Str × PySem.Addr)) : List (LamD × FE) := [(ld_law_web_door_0 cl, (callE mc_boxes_of (consA (vE 1) (consA (cE (.int 99)) nilA)))),
  (ld_law_web_door_1 cl, (callE mc_without (consA (vE 1) (consA (lstE (consA (cE (.int 0)) nilA)) nilA)))),
  (ld_law_web_door_2 cl, (callE mc_turned (consA (vE 1) nilA))),
  (ld_law_web_door_3 cl, (callE mc_ring (consA (vE 1) (consA (cE (.int 99)) nilA)))),
  (ld_law_web_door_4 cl, (callE mc_knots (consA (vE 1) nilA))),
  (ld_law_web_door_5 cl, (callE mc_ties (consA (vE 1) nilA))),
  (ld_law_web_door_6 cl, (callE mc_clash (consA (vE 1) nilA))),
  (ld_law_web_door_7 cl, (callE mc_layers (consA (vE 1) nilA))),
  (ld_law_web_door_8 cl, (callE mc_flow (consA (vE 1) nilA))),
  (ld_law_web_door_9 cl, (callE (dflP mc_length) (consA (vE 1) nilA))),
  (ld_law_web_door_10 cl, (callE mc_length (consA (vE 1) (consA (lstE nilA) nilA)))),
  (ld_law_web_door_11 cl, (callE mc_worth (consA (vE 1) (consA (lstE nilA) nilA)))),
  (ld_law_web_door_12 cl, (callE mc_chains (consA (vE 1) (consA (lstE nilA) nilA)))),
  (ld_law_web_door_13 cl, (callE mc_rows (consA (vE 1) (consA (lstE nilA) nilA)))),
  (ld_law_web_door_14 cl, (callE mc_widths (consA (vE 1) (consA (lstE nilA) nilA)))),
  (ld_law_web_door_15 cl, (callE mc_picture (consA (vE 1) (consA (lstE nilA) (consA (lstE nilA) nilA))))),
  (ld_law_web_door_16 cl, (callE mc_web_text (consA (vE 1) nilA))),
  (ld_law_web_door_17 cl, (callE mc_board_of (consA (vE 1) nilA)))]
noncomputable def b_law_web_door (cl : List (Str × PySem.Addr)) : FS := (seqS (asgS (lstE (consA (lamE (ld_law_web_door_0 cl)) (consA (lamE (ld_law_web_door_1 cl)) (consA (lamE (ld_law_web_door_2 cl)) (consA (lamE (ld_law_web_door_3 cl)) (consA (lamE (ld_law_web_door_4 cl)) (consA (lamE (ld_law_web_door_5 cl)) (consA (lamE (ld_law_web_door_6 cl)) (consA (lamE (ld_law_web_door_7 cl)) (consA (lamE (ld_law_web_door_8 cl)) (consA (lamE (ld_law_web_door_9 cl)) (consA (lamE (ld_law_web_door_10 cl)) (consA (lamE (ld_law_web_door_11 cl)) (consA (lamE (ld_law_web_door_12 cl)) (consA (lamE (ld_law_web_door_13 cl)) (consA (lamE (ld_law_web_door_14 cl)) (consA (lamE (ld_law_web_door_15 cl)) (consA (lamE (ld_law_web_door_16 cl)) (consA (lamE (ld_law_web_door_17 cl)) nilA))))))))))))))))))) (nmG 2))
  (seqS (asgS (callE ixF (arg2 (vE 2) (vE 0))) (nmG 3))
  (retS (wordV "told" wf_law_word (vE 3) (lt_law_web_door cl)))))
noncomputable def m_law_web_door : FP := anyM fun cl => fnM 2 2 [] (b_law_web_door cl)
noncomputable def K_law_1 : FE := (callE (g2 eqM) (arg2 (callE m_law_web_door (consA (vE 4) (consA (vE 2) nilA))) (cE (.str "BadWeb"))))
def L_law_1 : FS := (asgS (callE m_law_bent_web (consA (vE 1) (consA (vE 2) nilA))) (nmG 2))
noncomputable def b_law : FS := (seqS (asgS (callE m_law_bag (consA (vE 0) nilA)) (nmG 1))
  (seqS (asgS (callE m_law_drawn_web (consA (vE 1) (consA (cE (.int 6)) (consA (cE (.int 6)) (consA (cE (.int 3)) nilA))))) (nmG 2))
  (seqS (forS (rng1 (callE addG (arg2 (cE (.int 1)) (callE m_law_pull (consA (vE 1) (consA (cE (.int 3)) nilA)))))) (nmG 3) L_law_1)
  (seqS (ifS (tst (callE m_law_good_web (consA (vE 2) nilA))) (asgS (tupE (consA (callE addG (arg2 (callE ixF (arg2 (vE 2) (cE (.int 0)))) (tupE (consA (cE (.str "abcdefg")) nilA)))) (consA (callE ixF (arg2 (vE 2) (cE (.int 1)))) (consA (callE ixF (arg2 (vE 2) (cE (.int 2)))) nilA)))) (nmG 2)) skipS)
  (retS (callE (g1 (allM true)) (arg1 (compE (rng1 (cE (.int 18))) (nmG 4) yesT K_law_1 [4]))))))))
noncomputable def m_law : FP := fnM 1 4 [] b_law
variable {P : Program} {w : World} {K : PySem.W.Frag} {mg : Str → Option Value} {base : Heap}
abbrev N_is_name : List Str := ["name", "sign"]
theorem sc_is_name : FnScope ["name", "sign"] ["name"] (defScope (top 23)) := ⟨rfl, rfl, rfl, by decide +kernel, rfl, by decide +kernel, by decide +kernel⟩
theorem G_is_name (T : Txt K mg) {f : Addr} {fd : FuncData} (F : FunD K "is_name" "is_name" (defArgs (top 23)) (defBody (top 23)) (defScope (top 23)) [] [] f fd) (hm : mg "is_name" = some (.ref f)) : Fn P w K mg base 1 "is_name" ["name"] m_is_name := by
  refine fn_mk (N := ["name", "sign"]) (asg := []) F sc_is_name rfl rfl hm (fun _ _ _ _ _ _ us hl => match us, hl with | [_], _ => rfl) (fun cdv A outer s H Ex hr => ?_)
  have sc := sc_is_name
  have po := passes_of (X := cxOf (L2.CX P w) P w K mg base ["name", "sign"] "is_name" (defScope (top 23)) f cdv A outer s H Ex) rfl
  have tk := takes_of (X := cxOf (L2.CX P w) P w K mg base ["name", "sign"] "is_name" (defScope (top 23)) f cdv A outer s H Ex) (E := Ex) rfl rfl rfl rfl
  exact (s_one (s_ret (e_and (e_chain op_le op_le e_int (e_len rfl T.b_len (e_v 0)) (e_globI rfl T.c_LONGEST)) (e_one (e_all rfl rfl T.b_all (e_lc (own := [("sign", 1)]) (S := [1]) rfl sc.nd (i_seq (e_v 0)) (blkOk_by (N := N_is_name) (sc := defScope (top 23)) (own := [("sign", 1)]) (by decide +kernel)) (fun _ _ _ _ _ => (g_name (i := 1) sc.nd rfl (by first | exact Or.inl rfl | exact Or.inr rfl))) (fun _ _ _ _ _ => (ts_nil rfl)) (fun _ _ _ _ _ => (e_inF hr.units (e_v 1) (e_globS rfl T.c_LETTERS)))))))))
theorem sc_is_least : FnScope ["least"] ["least"] (defScope (top 24)) := ⟨rfl, rfl, rfl, by decide +kernel, rfl, by decide +kernel, by decide +kernel⟩
theorem G_is_least (T : Txt K mg) {f : Addr} {fd : FuncData} (F : FunD K "is_least" "is_least" (defArgs (top 24)) (defBody (top 24)) (defScope (top 24)) [] [] f fd) (hm : mg "is_least" = some (.ref f)) : Fn P w K mg base 1 "is_least" ["least"] m_is_least := by
  refine fn_mk (N := ["least"]) (asg := []) F sc_is_least rfl rfl hm (fun _ _ _ _ _ _ us hl => match us, hl with | [_], _ => rfl) (fun cdv A outer s H Ex hr => ?_)
  have sc := sc_is_least
  have po := passes_of (X := cxOf (L2.CX P w) P w K mg base ["least"] "is_least" (defScope (top 24)) f cdv A outer s H Ex) rfl
  have tk := takes_of (X := cxOf (L2.CX P w) P w K mg base ["least"] "is_least" (defScope (top 24)) f cdv A outer s H Ex) (E := Ex) rfl rfl rfl rfl
  exact (s_one (s_ret (e_chain op_le op_le e_int (e_v 0) (e_globI rfl T.c_MOST_LEAST))))
theorem sc_is_weight : FnScope ["weight"] ["weight"] (defScope (top 25)) := ⟨rfl, rfl, rfl, by decide +kernel, rfl, by decide +kernel, by decide +kernel⟩
theorem G_is_weight (T : Txt K mg) {f : Addr} {fd : FuncData} (F : FunD K "is_weight" "is_weight" (defArgs (top 25)) (defBody (top 25)) (defScope (top 25)) [] [] f fd) (hm : mg "is_weight" = some (.ref f)) : Fn P w K mg base 1 "is_weight" ["weight"] m_is_weight := by
  refine fn_mk (N := ["weight"]) (asg := []) F sc_is_weight rfl rfl hm (fun _ _ _ _ _ _ us hl => match us, hl with | [_], _ => rfl) (fun cdv A outer s H Ex hr => ?_)
  have sc := sc_is_weight
  have po := passes_of (X := cxOf (L2.CX P w) P w K mg base ["weight"] "is_weight" (defScope (top 25)) f cdv A outer s H Ex) rfl
  have tk := takes_of (X := cxOf (L2.CX P w) P w K mg base ["weight"] "is_weight" (defScope (top 25)) f cdv A outer s H Ex) (E := Ex) rfl rfl rfl rfl
  exact (s_one (s_ret (e_chain op_le op_le e_int (e_v 0) (e_globI rfl T.c_MOST_WEIGHT))))
theorem sc_is_far : FnScope ["least"] ["least"] (defScope (top 26)) := ⟨rfl, rfl, rfl, by decide +kernel, rfl, by decide +kernel, by decide +kernel⟩
theorem G_is_far (T : Txt K mg) {f : Addr} {fd : FuncData} (F : FunD K "is_far" "is_far" (defArgs (top 26)) (defBody (top 26)) (defScope (top 26)) [] [] f fd) (hm : mg "is_far" = some (.ref f)) : Fn P w K mg base 1 "is_far" ["least"] m_is_far := by
  refine fn_mk (N := ["least"]) (asg := []) F sc_is_far rfl rfl hm (fun _ _ _ _ _ _ us hl => match us, hl with | [_], _ => rfl) (fun cdv A outer s H Ex hr => ?_)
  have sc := sc_is_far
  have po := passes_of (X := cxOf (L2.CX P w) P w K mg base ["least"] "is_far" (defScope (top 26)) f cdv A outer s H Ex) rfl
  have tk := takes_of (X := cxOf (L2.CX P w) P w K mg base ["least"] "is_far" (defScope (top 26)) f cdv A outer s H Ex) (E := Ex) rfl rfl rfl rfl
  exact (s_one (s_ret (e_le (e_abs rfl T.b_abs (e_v 0)) (e_globI rfl T.c_MOST_FAR))))
theorem sc_segments_by : FnScope ["chains", "found", "arrow", "chain", "upper", "lower"] ["chains"] (defScope (top 40)) := ⟨rfl, rfl, rfl, by decide +kernel, rfl, by decide +kernel, by decide +kernel⟩
theorem G_segments_by (T : Txt K mg) {f : Addr} {fd : FuncData} (F : FunD K "segments_by" "segments_by" (defArgs (top 40)) (defBody (top 40)) (defScope (top 40)) [] [] f fd) (hm : mg "segments_by" = some (.ref f)) : Fn P w K mg base 1 "segments_by" ["chains"] mc_segments_by := by
  refine fn_mk (N := ["chains", "found", "arrow", "chain", "upper", "lower"]) (asg := []) F sc_segments_by rfl rfl hm (fun _ _ _ _ _ _ us hl => match us, hl with | [_], _ => rfl) (fun cdv A outer s H Ex hr => ?_)
  have sc := sc_segments_by
  have po := passes_of (X := cxOf (L2.CX P w) P w K mg base ["chains", "found", "arrow", "chain", "upper", "lower"] "segments_by" (defScope (top 40)) f cdv A outer s H Ex) rfl
  have tk := takes_of (X := cxOf (L2.CX P w) P w K mg base ["chains", "found", "arrow", "chain", "upper", "lower"] "segments_by" (defScope (top 40)) f cdv A outer s H Ex) (E := Ex) rfl rfl rfl rfl
  exact s_noneL
abbrev N_law_bag : List Str := ["_law_script", "_law_one", "_law_cells", "_law_salt"]
theorem sc_law_bag : FnScope ["_law_script", "_law_one", "_law_cells", "_law_salt"] ["_law_script"] (defScope (top 127)) := ⟨rfl, rfl, rfl, by decide +kernel, rfl, by decide +kernel, by decide +kernel⟩
theorem G_law_bag (T : Txt K mg) {f : Addr} {fd : FuncData} (F : FunD K "_law_bag" "_law_bag" (defArgs (top 127)) (defBody (top 127)) (defScope (top 127)) [] [] f fd) (hm : mg "_law_bag" = some (.ref f)) : Fn P w K mg base 1 "_law_bag" ["_law_script"] m_law_bag := by
  refine fn_mk (N := ["_law_script", "_law_one", "_law_cells", "_law_salt"]) (asg := []) F sc_law_bag rfl rfl hm (fun _ _ _ _ _ _ us hl => match us, hl with | [_], _ => rfl) (fun cdv A outer s H Ex hr => ?_)
  have sc := sc_law_bag
  have po := passes_of (X := cxOf (L2.CX P w) P w K mg base ["_law_script", "_law_one", "_law_cells", "_law_salt"] "_law_bag" (defScope (top 127)) f cdv A outer s H Ex) rfl
  have tk := takes_of (X := cxOf (L2.CX P w) P w K mg base ["_law_script", "_law_one", "_law_cells", "_law_salt"] "_law_bag" (defScope (top 127)) f cdv A outer s H Ex) (E := Ex) rfl rfl rfl rfl
  exact (s_cons (s_setLc (own := [("_law_one", 1)]) (i := 2) (S := [1]) rfl sc.nd rfl rfl (sw_true rfl rfl rfl (by decide +kernel)) (i_seq (e_slice01 (e_v 0) e_int)) (blkOk_by (N := N_law_bag) (sc := defScope (top 127)) (own := [("_law_one", 1)]) (by decide +kernel)) (fun _ _ _ _ _ => (g_name (i := 1) sc.nd rfl (by first | exact Or.inl rfl | exact Or.inr rfl))) (fun _ _ _ _ _ => (ts_nil rfl)) (fun _ _ _ _ _ => (e_abs rfl T.b_abs (e_v 1))))
  (s_cons (s_set (i := 3) sc.nd rfl (by first | exact Or.inl rfl | exact Or.inr rfl) (e_add e_int (e_len rfl T.b_len (e_v 2))))
  (s_cons (s_for (S := [1]) po rfl (i_seq (e_slice01 (e_v 0) e_int)) (g_name (i := 1) sc.nd rfl (by first | exact Or.inl rfl | exact Or.inr rfl)) (s_one (s_set (i := 3) sc.nd rfl (by first | exact Or.inl rfl | exact Or.inr rfl) (e_mod (e_add (e_add (e_mul (e_v 3) e_int) (e_abs rfl T.b_abs (e_v 1))) (e_mul e_int (e_int1 rfl T.b_int (e_lt (e_v 1) e_int)))) e_int))))
  (s_one (s_ret (e_lst (a_cons (e_tk (e_v 2)) (a_cons e_int (a_cons e_int (a_cons (e_tk (e_v 3)) a_nil))))))))))
abbrev N_law_good_web : List Str := ["_law_web", "_law_names_here", "_law_arrows", "_law_told_now", "_law_many", "_law_at", "_law_name", "_law_row", "_law_sign"]
theorem sc_law_good_web : FnScope ["_law_web", "_law_names_here", "_law_arrows", "_law_told_now", "_law_many", "_law_at", "_law_name", "_law_row", "_law_sign"] ["_law_web"] (defScope (top 130)) := ⟨rfl, rfl, rfl, by decide +kernel, rfl, by decide +kernel, by decide +kernel⟩
theorem G_law_good_web (T : Txt K mg) {f : Addr} {fd : FuncData} (F : FunD K "_law_good_web" "_law_good_web" (defArgs (top 130)) (defBody (top 130)) (defScope (top 130)) [] [] f fd) (hm : mg "_law_good_web" = some (.ref f)) : Fn P w K mg base 1 "_law_good_web" ["_law_web"] m_law_good_web := by
  refine fn_mk (N := ["_law_web", "_law_names_here", "_law_arrows", "_law_told_now", "_law_many", "_law_at", "_law_name", "_law_row", "_law_sign"]) (asg := []) F sc_law_good_web rfl rfl hm (fun _ _ _ _ _ _ us hl => match us, hl with | [_], _ => rfl) (fun cdv A outer s H Ex hr => ?_)
  have sc := sc_law_good_web
  have po := passes_of (X := cxOf (L2.CX P w) P w K mg base ["_law_web", "_law_names_here", "_law_arrows", "_law_told_now", "_law_many", "_law_at", "_law_name", "_law_row", "_law_sign"] "_law_good_web" (defScope (top 130)) f cdv A outer s H Ex) rfl
  have tk := takes_of (X := cxOf (L2.CX P w) P w K mg base ["_law_web", "_law_names_here", "_law_arrows", "_law_told_now", "_law_many", "_law_at", "_law_name", "_law_row", "_law_sign"] "_law_good_web" (defScope (top 130)) f cdv A outer s H Ex) (E := Ex) rfl rfl rfl rfl
  exact (s_cons (s_asg (S := [1, 2, 3]) (e_tk (e_v 0)) (g_tup rfl (gs_cons (g_name (i := 1) sc.nd rfl (by first | exact Or.inl rfl | exact Or.inr rfl)) (gs_cons (g_name (i := 2) sc.nd rfl (by first | exact Or.inl rfl | exact Or.inr rfl)) (gs_cons (g_name (i := 3) sc.nd rfl (by first | exact Or.inl rfl | exact Or.inr rfl)) gs_nil)))))
  (s_cons (s_set (i := 4) sc.nd rfl (by first | exact Or.inl rfl | exact Or.inr rfl) (e_len rfl T.b_len (e_v 1)))
  (s_cons (s_if (PW.pt (t_or (t_gt (e_v 4) e_int) (t_or (t_gt (e_len rfl T.b_len (e_v 2)) e_int) (t_or1 (t_gt (e_len rfl T.b_len (e_v 3)) e_int))))) (s_one (s_ret e_bl)) s_nil)
  (s_cons (s_for (S := [5, 6]) po rfl (i_enum rfl T.b_enumerate (e_v 1)) (g_tup rfl (gs_cons (g_name (i := 5) sc.nd rfl (by first | exact Or.inl rfl | exact Or.inr rfl)) (gs_cons (g_name (i := 6) sc.nd rfl (by first | exact Or.inl rfl | exact Or.inr rfl)) gs_nil))) (s_cons (s_if (PW.pt (t_or (t_not (t_chain op_le op_le e_int (e_len rfl T.b_len (e_v 6)) e_int)) (t_or1 (t_inF hr.units (e_v 6) (e_slice01 (e_v 1) (e_v 5)))))) (s_one (s_ret e_bl)) s_nil)
  (s_one (s_if (t_not (t_val (e_all rfl rfl T.b_all (e_lc (own := [("_law_sign", 8)]) (S := [8]) rfl sc.nd (i_seq (e_v 6)) (blkOk_by (N := N_law_good_web) (sc := defScope (top 130)) (own := [("_law_sign", 8)]) (by decide +kernel)) (fun _ _ _ _ _ => (g_name (i := 8) sc.nd rfl (by first | exact Or.inl rfl | exact Or.inr rfl))) (fun _ _ _ _ _ => (ts_nil rfl)) (fun _ _ _ _ _ => (e_inF hr.units (e_v 8) e_str)))))) (s_one (s_ret e_bl)) s_nil))))
  (s_cons (s_for (S := [7]) po rfl (i_seq (e_v 2)) (g_name (i := 7) sc.nd rfl (by first | exact Or.inl rfl | exact Or.inr rfl)) (s_cons (s_if (PW.pt (t_or (t_ne hr.units (e_len rfl T.b_len (e_v 7)) e_int) (t_or1 (t_not (PW.pt (t_and (t_chain op_le op_lt e_int (e_itemF hr.units (e_v 7) e_int) (e_v 4)) (t_and1 (t_chain op_le op_lt e_int (e_itemF hr.units (e_v 7) e_int) (e_v 4))))))))) (s_one (s_ret e_bl)) s_nil)
  (s_one (s_if (PW.pt (t_or (t_not (t_chain op_le op_le e_int (e_itemF hr.units (e_v 7) e_int) e_int)) (t_or1 (t_not (t_chain op_le op_le e_int (e_itemF hr.units (e_v 7) e_int) e_int))))) (s_one (s_ret e_bl)) s_nil))))
  (s_cons (s_for (S := [7]) po rfl (i_seq (e_v 3)) (g_name (i := 7) sc.nd rfl (by first | exact Or.inl rfl | exact Or.inr rfl)) (s_cons (s_if (PW.pt (t_or (t_ne hr.units (e_len rfl T.b_len (e_v 7)) e_int) (t_or (t_not (PW.pt (t_and (t_chain op_le op_lt e_int (e_itemF hr.units (e_v 7) e_int) (e_v 4)) (t_and1 (t_chain op_le op_lt e_int (e_itemF hr.units (e_v 7) e_int) (e_v 4)))))) (t_or1 (t_eq hr.units (e_itemF hr.units (e_v 7) e_int) (e_itemF hr.units (e_v 7) e_int)))))) (s_one (s_ret e_bl)) s_nil)
  (s_one (s_if (t_not (t_chain op_le op_le (e_sub e_int e_int) (e_itemF hr.units (e_v 7) e_int) e_int)) (s_one (s_ret e_bl)) s_nil))))
  (s_one (s_ret e_bl))))))))
theorem sc_law_pull : FnScope ["_law_bag_here", "_law_many", "_law_seed", "_law_blend", "_law_drawn"] ["_law_bag_here", "_law_many"] (defScope (top 133)) := ⟨rfl, rfl, rfl, by decide +kernel, rfl, by decide +kernel, by decide +kernel⟩
theorem G_law_pull (T : Txt K mg) {f : Addr} {fd : FuncData} (F : FunD K "_law_pull" "_law_pull" (defArgs (top 133)) (defBody (top 133)) (defScope (top 133)) [] [] f fd) (hm : mg "_law_pull" = some (.ref f)) : Fn P w K mg base 1 "_law_pull" ["_law_bag_here", "_law_many"] m_law_pull := by
  refine fn_mk (N := ["_law_bag_here", "_law_many", "_law_seed", "_law_blend", "_law_drawn"]) (asg := []) F sc_law_pull rfl rfl hm (fun _ _ _ _ _ _ us hl => match us, hl with | [_, _], _ => rfl) (fun cdv A outer s H Ex hr => ?_)
  have sc := sc_law_pull
  have po := passes_of (X := cxOf (L2.CX P w) P w K mg base ["_law_bag_here", "_law_many", "_law_seed", "_law_blend", "_law_drawn"] "_law_pull" (defScope (top 133)) f cdv A outer s H Ex) rfl
  have tk := takes_of (X := cxOf (L2.CX P w) P w K mg base ["_law_bag_here", "_law_many", "_law_seed", "_law_blend", "_law_drawn"] "_law_pull" (defScope (top 133)) f cdv A outer s H Ex) (E := Ex) rfl rfl rfl rfl
  exact (s_cons (s_if (t_lt (e_itemF hr.units (e_v 0) e_int) e_int) (s_cons (s_augix iop_add (e_v 0) e_int e_int)
  (s_cons (s_set (i := 2) sc.nd rfl (by first | exact Or.inl rfl | exact Or.inr rfl) (e_itemF hr.units (e_v 0) e_int))
  (s_cons (s_if (t_le (e_itemF hr.units (e_v 0) e_int) (e_len rfl T.b_len (e_itemF hr.units (e_v 0) e_int))) (s_cons (s_set (i := 2) sc.nd rfl (by first | exact Or.inl rfl | exact Or.inr rfl) (e_itemF hr.units (e_itemF hr.units (e_v 0) e_int) (e_sub (e_itemF hr.units (e_v 0) e_int) e_int)))
  (s_one (s_if (t_ge (e_v 2) (e_pow e_int e_int)) (s_cons (s_setitemA hr.units (e_fdiv (e_v 2) (e_v 1)) (e_v 0) e_int)
  (s_one (s_ret (e_mod (e_v 2) (e_v 1))))) s_nil))) s_nil)
  (s_cons (s_set (i := 3) sc.nd rfl (by first | exact Or.inl rfl | exact Or.inr rfl) (e_mod (e_add (e_add (e_v 2) (e_mul (e_itemF hr.units (e_v 0) e_int) e_int)) (e_mul (e_itemF hr.units (e_v 0) e_int) e_int)) e_int))
  (s_cons (s_set (i := 3) sc.nd rfl (by first | exact Or.inl rfl | exact Or.inr rfl) (e_mod (e_add (e_mul (e_v 3) (e_v 3)) e_int) e_int))
  (s_one (s_ret (e_mod (e_fdiv (e_mod (e_add (e_mul (e_v 3) (e_v 3)) (e_itemF hr.units (e_v 0) e_int)) e_int) e_int) (e_v 1))))))))) s_nil)
  (s_cons (s_set (i := 4) sc.nd rfl (by first | exact Or.inl rfl | exact Or.inr rfl) (e_mod (e_itemF hr.units (e_v 0) e_int) (e_v 1)))
  (s_cons (s_setitemA hr.units (e_fdiv (e_itemF hr.units (e_v 0) e_int) (e_v 1)) (e_v 0) e_int)
  (s_one (s_retv (L2.pv 4))))))
theorem sc_is_arrow : FnScope ["arrow", "many", "one", "other", "least", "weight"] ["arrow", "many"] (defScope (top 27)) := ⟨rfl, rfl, rfl, by decide +kernel, rfl, by decide +kernel, by decide +kernel⟩
theorem G_is_arrow (T : Txt K mg) {f : Addr} {fd : FuncData} (F : FunD K "is_arrow" "is_arrow" (defArgs (top 27)) (defBody (top 27)) (defScope (top 27)) [] [] f fd) (hm : mg "is_arrow" = some (.ref f)) (G_is_least : Fn P w K mg base 1 "is_least" ["least"] m_is_least) (G_is_weight : Fn P w K mg base 1 "is_weight" ["weight"] m_is_weight) : Fn P w K mg base 2 "is_arrow" ["arrow", "many"] m_is_arrow := by
  refine fn_mk (N := ["arrow", "many", "one", "other", "least", "weight"]) (asg := []) F sc_is_arrow rfl rfl hm (fun _ _ _ _ _ _ us hl => match us, hl with | [_, _], _ => rfl) (fun cdv A outer s H Ex hr => ?_)
  have sc := sc_is_arrow
  have po := passes_of (X := cxOf (L2.CX P w) P w K mg base ["arrow", "many", "one", "other", "least", "weight"] "is_arrow" (defScope (top 27)) f cdv A outer s H Ex) rfl
  have tk := takes_of (X := cxOf (L2.CX P w) P w K mg base ["arrow", "many", "one", "other", "least", "weight"] "is_arrow" (defScope (top 27)) f cdv A outer s H Ex) (E := Ex) rfl rfl rfl rfl
  exact (s_cons (s_if (t_ne hr.units (e_len rfl T.b_len (e_v 0)) e_int) (s_one (s_ret e_bl)) s_nil)
  (s_cons (s_asg (S := [2, 3, 4, 5]) (e_tk (e_v 0)) (g_tup rfl (gs_cons (g_name (i := 2) sc.nd rfl (by first | exact Or.inl rfl | exact Or.inr rfl)) (gs_cons (g_name (i := 3) sc.nd rfl (by first | exact Or.inl rfl | exact Or.inr rfl)) (gs_cons (g_name (i := 4) sc.nd rfl (by first | exact Or.inl rfl | exact Or.inr rfl)) (gs_cons (g_name (i := 5) sc.nd rfl (by first | exact Or.inl rfl | exact Or.inr rfl)) gs_nil))))))
  (s_one (s_ret (e_and (e_chain op_le op_lt e_int (e_v 2) (e_v 1)) (e_and (e_chain op_le op_lt e_int (e_v 3) (e_v 1)) (e_and (e_call G_is_least (hr.mono (by omega)) rfl tk (a_cons (e_v 4) a_nil)) (e_one (e_call G_is_weight (hr.mono (by omega)) rfl tk (a_cons (e_v 5) a_nil))))))))))
theorem sc_is_saying : FnScope ["saying", "many", "one", "other", "least"] ["saying", "many"] (defScope (top 28)) := ⟨rfl, rfl, rfl, by decide +kernel, rfl, by decide +kernel, by decide +kernel⟩
theorem G_is_saying (T : Txt K mg) {f : Addr} {fd : FuncData} (F : FunD K "is_saying" "is_saying" (defArgs (top 28)) (defBody (top 28)) (defScope (top 28)) [] [] f fd) (hm : mg "is_saying" = some (.ref f)) (G_is_far : Fn P w K mg base 1 "is_far" ["least"] m_is_far) : Fn P w K mg base 2 "is_saying" ["saying", "many"] m_is_saying := by
  refine fn_mk (N := ["saying", "many", "one", "other", "least"]) (asg := []) F sc_is_saying rfl rfl hm (fun _ _ _ _ _ _ us hl => match us, hl with | [_, _], _ => rfl) (fun cdv A outer s H Ex hr => ?_)
  have sc := sc_is_saying
  have po := passes_of (X := cxOf (L2.CX P w) P w K mg base ["saying", "many", "one", "other", "least"] "is_saying" (defScope (top 28)) f cdv A outer s H Ex) rfl
  have tk := takes_of (X := cxOf (L2.CX P w) P w K mg base ["saying", "many", "one", "other", "least"] "is_saying" (defScope (top 28)) f cdv A outer s H Ex) (E := Ex) rfl rfl rfl rfl
  exact (s_cons (s_if (t_ne hr.units (e_len rfl T.b_len (e_v 0)) e_int) (s_one (s_ret e_bl)) s_nil)
  (s_cons (s_asg (S := [2, 3, 4]) (e_tk (e_v 0)) (g_tup rfl (gs_cons (g_name (i := 2) sc.nd rfl (by first | exact Or.inl rfl | exact Or.inr rfl)) (gs_cons (g_name (i := 3) sc.nd rfl (by first | exact Or.inl rfl | exact Or.inr rfl)) (gs_cons (g_name (i := 4) sc.nd rfl (by first | exact Or.inl rfl | exact Or.inr rfl)) gs_nil)))))
  (s_one (s_ret (e_and (e_chain op_le op_lt e_int (e_v 2) (e_v 1)) (e_and (e_chain op_le op_lt e_int (e_v 3) (e_v 1)) (e_and (e_ne hr.units (e_v 2) (e_v 3)) (e_one (e_call G_is_far (hr.mono (by omega)) rfl tk (a_cons (e_v 4) a_nil))))))))))
theorem sc_law_names : FnScope ["_law_bag_here", "_law_many", "_law_found", "_law_tail", "_law_k", "_law_first", "_law_at"] ["_law_bag_here", "_law_many"] (defScope (top 131)) := ⟨rfl, rfl, rfl, by decide +kernel, rfl, by decide +kernel, by decide +kernel⟩
theorem G_law_names (T : Txt K mg) {f : Addr} {fd : FuncData} (F : FunD K "_law_names" "_law_names" (defArgs (top 131)) (defBody (top 131)) (defScope (top 131)) [] [] f fd) (hm : mg "_law_names" = some (.ref f)) (G_law_pull : Fn P w K mg base 1 "_law_pull" ["_law_bag_here", "_law_many"] m_law_pull) : Fn P w K mg base 2 "_law_names" ["_law_bag_here", "_law_many"] m_law_names := by
  refine fn_mk (N := ["_law_bag_here", "_law_many", "_law_found", "_law_tail", "_law_k", "_law_first", "_law_at"]) (asg := []) F sc_law_names rfl rfl hm (fun _ _ _ _ _ _ us hl => match us, hl with | [_, _], _ => rfl) (fun cdv A outer s H Ex hr => ?_)
  have sc := sc_law_names
  have po := passes_of (X := cxOf (L2.CX P w) P w K mg base ["_law_bag_here", "_law_many", "_law_found", "_law_tail", "_law_k", "_law_first", "_law_at"] "_law_names" (defScope (top 131)) f cdv A outer s H Ex) rfl
  have tk := takes_of (X := cxOf (L2.CX P w) P w K mg base ["_law_bag_here", "_law_many", "_law_found", "_law_tail", "_law_k", "_law_first", "_law_at"] "_law_names" (defScope (top 131)) f cdv A outer s H Ex) (E := Ex) rfl rfl rfl rfl
  exact (s_cons (s_set (i := 2) sc.nd rfl (by first | exact Or.inl rfl | exact Or.inr rfl) (e_lst a_nil))
  (s_cons (s_set (i := 3) sc.nd rfl (by first | exact Or.inl rfl | exact Or.inr rfl) (e_lst (a_cons e_str (a_cons e_str (a_cons e_str (a_cons e_str (a_cons e_str (a_cons e_str a_nil))))))))
  (s_cons (s_for (S := [4]) po rfl (i_range1 rfl T.b_range (e_v 1)) (g_name (i := 4) sc.nd rfl (by first | exact Or.inl rfl | exact Or.inr rfl)) (s_cons (s_set (i := 5) sc.nd rfl (by first | exact Or.inl rfl | exact Or.inr rfl) (e_add (e_itemF hr.units e_str (e_mod (e_v 4) e_int)) (e_mul e_str (e_fdiv (e_v 4) e_int))))
  (s_one (s_expr (e_append (e_v 2) (e_slice01 (e_add (e_v 5) (e_itemF hr.units (e_v 3) (e_call G_law_pull (hr.mono (by omega)) rfl tk (a_cons (e_v 0) (a_cons e_int a_nil))))) e_int))))))
  (s_cons (s_set (i := 6) sc.nd rfl (by first | exact Or.inl rfl | exact Or.inr rfl) (e_call G_law_pull (hr.mono (by omega)) rfl tk (a_cons (e_v 0) (a_cons (e_max2 rfl rfl T.b_max e_int (e_v 1)) a_nil))))
  (s_one (s_ret (e_tuple rfl T.b_tuple (e_add (e_slice10 (e_v 2) (e_v 6)) (e_slice01 (e_v 2) (e_v 6))))))))))
theorem sc_law_odd : FnScope ["_law_bag_here", "_law_many"] ["_law_bag_here", "_law_many"] (defScope (top 132)) := ⟨rfl, rfl, rfl, by decide +kernel, rfl, by decide +kernel, by decide +kernel⟩
theorem G_law_odd (T : Txt K mg) {f : Addr} {fd : FuncData} (F : FunD K "_law_odd" "_law_odd" (defArgs (top 132)) (defBody (top 132)) (defScope (top 132)) [] [] f fd) (hm : mg "_law_odd" = some (.ref f)) (G_law_pull : Fn P w K mg base 1 "_law_pull" ["_law_bag_here", "_law_many"] m_law_pull) : Fn P w K mg base 2 "_law_odd" ["_law_bag_here", "_law_many"] m_law_odd := by
  refine fn_mk (N := ["_law_bag_here", "_law_many"]) (asg := []) F sc_law_odd rfl rfl hm (fun _ _ _ _ _ _ us hl => match us, hl with | [_, _], _ => rfl) (fun cdv A outer s H Ex hr => ?_)
  have sc := sc_law_odd
  have po := passes_of (X := cxOf (L2.CX P w) P w K mg base ["_law_bag_here", "_law_many"] "_law_odd" (defScope (top 132)) f cdv A outer s H Ex) rfl
  have tk := takes_of (X := cxOf (L2.CX P w) P w K mg base ["_law_bag_here", "_law_many"] "_law_odd" (defScope (top 132)) f cdv A outer s H Ex) (E := Ex) rfl rfl rfl rfl
  exact (s_one (s_ret (e_itemF hr.units (e_lst (a_cons (e_sub e_int e_int) (a_cons e_int (a_cons (e_tk (e_v 1)) (a_cons (e_add (e_v 1) e_int) (a_cons e_int (a_cons e_int (a_cons (e_pow e_int e_int) (a_cons (e_sub e_int (e_pow e_int e_int)) (a_cons (e_add e_int (e_call G_law_pull (hr.mono (by omega)) rfl tk (a_cons (e_v 0) (a_cons e_int a_nil)))) a_nil)))))))))) (e_call G_law_pull (hr.mono (by omega)) rfl tk (a_cons (e_v 0) (a_cons e_int a_nil))))))
abbrev N_is_web : List Str := ["web", "names", "arrows", "sayings", "many", "name", "row"]
theorem sc_is_web : FnScope ["web", "names", "arrows", "sayings", "many", "name", "row"] ["web"] (defScope (top 29)) := ⟨rfl, rfl, rfl, by decide +kernel, rfl, by decide +kernel, by decide +kernel⟩
theorem G_is_web (T : Txt K mg) {f : Addr} {fd : FuncData} (F : FunD K "is_web" "is_web" (defArgs (top 29)) (defBody (top 29)) (defScope (top 29)) [] [] f fd) (hm : mg "is_web" = some (.ref f)) (G_is_arrow : Fn P w K mg base 2 "is_arrow" ["arrow", "many"] m_is_arrow) (G_is_name : Fn P w K mg base 1 "is_name" ["name"] m_is_name) (G_is_saying : Fn P w K mg base 2 "is_saying" ["saying", "many"] m_is_saying) : Fn P w K mg base 3 "is_web" ["web"] m_is_web := by
  refine fn_mk (N := ["web", "names", "arrows", "sayings", "many", "name", "row"]) (asg := []) F sc_is_web rfl rfl hm (fun _ _ _ _ _ _ us hl => match us, hl with | [_], _ => rfl) (fun cdv A outer s H Ex hr => ?_)
  have sc := sc_is_web
  have po := passes_of (X := cxOf (L2.CX P w) P w K mg base ["web", "names", "arrows", "sayings", "many", "name", "row"] "is_web" (defScope (top 29)) f cdv A outer s H Ex) rfl
  have tk := takes_of (X := cxOf (L2.CX P w) P w K mg base ["web", "names", "arrows", "sayings", "many", "name", "row"] "is_web" (defScope (top 29)) f cdv A outer s H Ex) (E := Ex) rfl rfl rfl rfl
  exact (s_cons (s_asg (S := [1, 2, 3]) (e_tk (e_v 0)) (g_tup rfl (gs_cons (g_name (i := 1) sc.nd rfl (by first | exact Or.inl rfl | exact Or.inr rfl)) (gs_cons (g_name (i := 2) sc.nd rfl (by first | exact Or.inl rfl | exact Or.inr rfl)) (gs_cons (g_name (i := 3) sc.nd rfl (by first | exact Or.inl rfl | exact Or.inr rfl)) gs_nil)))))
  (s_cons (s_set (i := 4) sc.nd rfl (by first | exact Or.inl rfl | exact Or.inr rfl) (e_len rfl T.b_len (e_v 1)))
  (s_cons (s_if (PW.pt (t_or (t_gt (e_v 4) (e_globI rfl T.c_MOST_BOXES)) (t_or (t_gt (e_len rfl T.b_len (e_v 2)) (e_globI rfl T.c_MOST_ARROWS)) (t_or1 (t_gt (e_len rfl T.b_len (e_v 3)) (e_globI rfl T.c_MOST_SAYINGS)))))) (s_one (s_ret e_bl)) s_nil)
  (s_cons (s_if (PW.pt (t_or (t_not (t_val (e_all rfl rfl T.b_all (e_lc (own := [("name", 5)]) (S := [5]) rfl sc.nd (i_seq (e_v 1)) (blkOk_by (N := N_is_web) (sc := defScope (top 29)) (own := [("name", 5)]) (by decide +kernel)) (fun _ _ _ _ _ => (g_name (i := 5) sc.nd rfl (by first | exact Or.inl rfl | exact Or.inr rfl))) (fun _ _ _ _ _ => (ts_nil rfl)) (fun _ _ _ _ _ => (e_call G_is_name (hr.mono (by omega)) rfl takes0 (a_cons (e_v 5) a_nil))))))) (t_or1 (t_ne hr.units (e_lenset rfl rfl T.b_len rfl T.b_set (e_v 1)) (e_v 4))))) (s_one (s_ret e_bl)) s_nil)
  (s_one (s_ret (e_and (e_all rfl rfl T.b_all (e_lc (own := [("row", 6)]) (S := [6]) rfl sc.nd (i_seq (e_v 2)) (blkOk_by (N := N_is_web) (sc := defScope (top 29)) (own := [("row", 6)]) (by decide +kernel)) (fun _ _ _ _ _ => (g_name (i := 6) sc.nd rfl (by first | exact Or.inl rfl | exact Or.inr rfl))) (fun _ _ _ _ _ => (ts_nil rfl)) (fun _ _ _ _ _ => (e_call G_is_arrow (hr.mono (by omega)) rfl takes0 (a_cons (e_v 6) (a_cons (e_v 4) a_nil)))))) (e_one (e_all rfl rfl T.b_all (e_lc (own := [("row", 6)]) (S := [6]) rfl sc.nd (i_seq (e_v 3)) (blkOk_by (N := N_is_web) (sc := defScope (top 29)) (own := [("row", 6)]) (by decide +kernel)) (fun _ _ _ _ _ => (g_name (i := 6) sc.nd rfl (by first | exact Or.inl rfl | exact Or.inr rfl))) (fun _ _ _ _ _ => (ts_nil rfl)) (fun _ _ _ _ _ => (e_call G_is_saying (hr.mono (by omega)) rfl takes0 (a_cons (e_v 6) (a_cons (e_v 4) a_nil))))))))))))))
theorem sc_law_bent_web : FnScope ["_law_bag_here", "_law_web", "_law_names_here", "_law_arrows", "_law_told_now", "_law_side_way", "_law_some", "_law_at", "_law_row"] ["_law_bag_here", "_law_web"] (defScope (top 128)) := ⟨rfl, rfl, rfl, by decide +kernel, rfl, by decide +kernel, by decide +kernel⟩
theorem G_law_bent_web (T : Txt K mg) {f : Addr} {fd : FuncData} (F : FunD K "_law_bent_web" "_law_bent_web" (defArgs (top 128)) (defBody (top 128)) (defScope (top 128)) [] [] f fd) (hm : mg "_law_bent_web" = some (.ref f)) (G_law_odd : Fn P w K mg base 2 "_law_odd" ["_law_bag_here", "_law_many"] m_law_odd) (G_law_pull : Fn P w K mg base 1 "_law_pull" ["_law_bag_here", "_law_many"] m_law_pull) : Fn P w K mg base 3 "_law_bent_web" ["_law_bag_here", "_law_web"] m_law_bent_web := by
  refine fn_mk (N := ["_law_bag_here", "_law_web", "_law_names_here", "_law_arrows", "_law_told_now", "_law_side_way", "_law_some", "_law_at", "_law_row"]) (asg := []) F sc_law_bent_web rfl rfl hm (fun _ _ _ _ _ _ us hl => match us, hl with | [_, _], _ => rfl) (fun cdv A outer s H Ex hr => ?_)
  have sc := sc_law_bent_web
  have po := passes_of (X := cxOf (L2.CX P w) P w K mg base ["_law_bag_here", "_law_web", "_law_names_here", "_law_arrows", "_law_told_now", "_law_side_way", "_law_some", "_law_at", "_law_row"] "_law_bent_web" (defScope (top 128)) f cdv A outer s H Ex) rfl
  have tk := takes_of (X := cxOf (L2.CX P w) P w K mg base ["_law_bag_here", "_law_web", "_law_names_here", "_law_arrows", "_law_told_now", "_law_side_way", "_law_some", "_law_at", "_law_row"] "_law_bent_web" (defScope (top 128)) f cdv A outer s H Ex) (E := Ex) rfl rfl rfl rfl
  exact (s_cons (s_asg (S := [2, 3, 4]) (e_tk (e_v 1)) (g_tup rfl (gs_cons (g_name (i := 2) sc.nd rfl (by first | exact Or.inl rfl | exact Or.inr rfl)) (gs_cons (g_name (i := 3) sc.nd rfl (by first | exact Or.inl rfl | exact Or.inr rfl)) (gs_cons (g_name (i := 4) sc.nd rfl (by first | exact Or.inl rfl | exact Or.inr rfl)) gs_nil)))))
  (s_cons (s_set (i := 5) sc.nd rfl (by first | exact Or.inl rfl | exact Or.inr rfl) (e_call G_law_pull (hr.mono (by omega)) rfl tk (a_cons (e_v 0) (a_cons e_int a_nil))))
  (s_cons (s_if (t_eq hr.units (e_v 5) e_int) (s_cons (s_set (i := 6) sc.nd rfl (by first | exact Or.inl rfl | exact Or.inr rfl) (e_add (e_lst (a_cons e_str (a_cons e_str (a_cons e_str (a_cons e_str (a_cons e_str a_nil)))))) (e_listD rfl rfl T.b_list (e_slice01 (e_v 2) e_int))))
  (s_one (s_ret (e_tup (a_cons (e_add (e_v 2) (e_tup (a_cons (e_itemF hr.units (e_v 6) (e_call G_law_pull (hr.mono (by omega)) rfl tk (a_cons (e_v 0) (a_cons (e_len rfl T.b_len (e_v 6)) a_nil)))) a_nil))) (a_cons (e_mv 3) (a_cons (e_mv 4) a_nil))))))) s_nil)
  (s_cons (s_if (t_eq hr.units (e_v 5) e_int) (s_one (s_ret (e_tup (a_cons (e_slice01 (e_v 2) (e_neg e_int)) (a_cons (e_mv 3) (a_cons (e_mv 4) a_nil)))))) s_nil)
  (s_cons (s_if (t_eq hr.units (e_v 5) e_int) (s_one (s_ret (e_tup (a_cons (e_mv 2) (a_cons (e_mulL (e_v 3) (e_itemF hr.units (e_lst (a_cons e_int (a_cons e_int a_nil))) (e_call G_law_pull (hr.mono (by omega)) rfl tk (a_cons (e_v 0) (a_cons e_int a_nil))))) (a_cons (e_mulL (e_v 4) (e_itemF hr.units (e_lst (a_cons e_int (a_cons e_int a_nil))) (e_call G_law_pull (hr.mono (by omega)) rfl tk (a_cons (e_v 0) (a_cons e_int a_nil))))) a_nil)))))) s_nil)
  (s_cons (s_if (PW.pt (t_and (t_lt (e_v 5) e_int) (t_and1 (t_ne hr.units (e_v 3) (e_tup a_nil))))) (s_cons (s_set (i := 7) sc.nd rfl (by first | exact Or.inl rfl | exact Or.inr rfl) (e_call G_law_pull (hr.mono (by omega)) rfl tk (a_cons (e_v 0) (a_cons (e_len rfl T.b_len (e_v 3)) a_nil))))
  (s_cons (s_set (i := 8) sc.nd rfl (by first | exact Or.inl rfl | exact Or.inr rfl) (e_listD rfl rfl T.b_list (e_itemF hr.units (e_v 3) (e_v 7))))
  (s_cons (s_setitemA hr.units (e_call G_law_odd (hr.mono (by omega)) rfl tk (a_cons (e_v 0) (a_cons (e_len rfl T.b_len (e_v 2)) a_nil))) (e_v 8) (e_call G_law_pull (hr.mono (by omega)) rfl tk (a_cons (e_v 0) (a_cons (e_len rfl T.b_len (e_v 8)) a_nil))))
  (s_cons (s_set (i := 8) sc.nd rfl (by first | exact Or.inl rfl | exact Or.inr rfl) (e_itemF hr.units (e_lst (a_cons (e_tuple rfl T.b_tuple (e_v 8)) (a_cons (e_tuple rfl T.b_tuple (e_slice01 (e_v 8) e_int)) (a_cons (e_tuple rfl T.b_tuple (e_add (e_v 8) (e_lst (a_cons e_int a_nil)))) a_nil)))) (e_mulL (e_mod (e_call G_law_pull (hr.mono (by omega)) rfl tk (a_cons (e_v 0) (a_cons e_int a_nil))) e_int) (e_int1 rfl T.b_int (e_eq hr.units (e_call G_law_pull (hr.mono (by omega)) rfl tk (a_cons (e_v 0) (a_cons e_int a_nil))) e_int)))))
  (s_one (s_ret (e_tup (a_cons (e_mv 2) (a_cons (e_add (e_add (e_slice01 (e_v 3) (e_v 7)) (e_tup (a_cons (e_tk (e_v 8)) a_nil))) (e_slice10 (e_v 3) (e_add (e_v 7) e_int))) (a_cons (e_mv 4) a_nil)))))))))) s_nil)
  (s_cons (s_if (t_ne hr.units (e_v 4) (e_tup a_nil)) (s_cons (s_set (i := 7) sc.nd rfl (by first | exact Or.inl rfl | exact Or.inr rfl) (e_call G_law_pull (hr.mono (by omega)) rfl tk (a_cons (e_v 0) (a_cons (e_len rfl T.b_len (e_v 4)) a_nil))))
  (s_cons (s_set (i := 8) sc.nd rfl (by first | exact Or.inl rfl | exact Or.inr rfl) (e_listD rfl rfl T.b_list (e_itemF hr.units (e_v 4) (e_v 7))))
  (s_cons (s_setitemA hr.units (e_call G_law_odd (hr.mono (by omega)) rfl tk (a_cons (e_v 0) (a_cons (e_len rfl T.b_len (e_v 2)) a_nil))) (e_v 8) (e_call G_law_pull (hr.mono (by omega)) rfl tk (a_cons (e_v 0) (a_cons (e_len rfl T.b_len (e_v 8)) a_nil))))
  (s_cons (s_set (i := 8) sc.nd rfl (by first | exact Or.inl rfl | exact Or.inr rfl) (e_itemF hr.units (e_lst (a_cons (e_tuple rfl T.b_tuple (e_v 8)) (a_cons (e_tuple rfl T.b_tuple (e_slice01 (e_v 8) e_int)) (a_cons (e_tuple rfl T.b_tuple (e_add (e_v 8) (e_lst (a_cons e_int a_nil)))) a_nil)))) (e_mulL (e_mod (e_call G_law_pull (hr.mono (by omega)) rfl tk (a_cons (e_v 0) (a_cons e_int a_nil))) e_int) (e_int1 rfl T.b_int (e_eq hr.units (e_call G_law_pull (hr.mono (by omega)) rfl tk (a_cons (e_v 0) (a_cons e_int a_nil))) e_int)))))
  (s_one (s_ret (e_tup (a_cons (e_mv 2) (a_cons (e_mv 3) (a_cons (e_add (e_add (e_slice01 (e_v 4) (e_v 7)) (e_tup (a_cons (e_tk (e_v 8)) a_nil))) (e_slice10 (e_v 4) (e_add (e_v 7) e_int))) a_nil)))))))))) s_nil)
  (s_one (s_ret (e_tup (a_cons (e_add (e_v 2) (e_tup (a_cons e_str a_nil))) (a_cons (e_mv 3) (a_cons (e_mv 4) a_nil)))))))))))))
theorem sc_law_drawn_web : FnScope ["_law_bag_here", "_law_most", "_law_most_arrows", "_law_most_told", "_law_many", "_law_rows_now", "_law_k", "_law_one", "_law_other", "_law_told_now"] ["_law_bag_here", "_law_most", "_law_most_arrows", "_law_most_told"] (defScope (top 129)) := ⟨rfl, rfl, rfl, by decide +kernel, rfl, by decide +kernel, by decide +kernel⟩
theorem G_law_drawn_web (T : Txt K mg) {f : Addr} {fd : FuncData} (F : FunD K "_law_drawn_web" "_law_drawn_web" (defArgs (top 129)) (defBody (top 129)) (defScope (top 129)) [] [] f fd) (hm : mg "_law_drawn_web" = some (.ref f)) (G_law_names : Fn P w K mg base 2 "_law_names" ["_law_bag_here", "_law_many"] m_law_names) (G_law_pull : Fn P w K mg base 1 "_law_pull" ["_law_bag_here", "_law_many"] m_law_pull) : Fn P w K mg base 3 "_law_drawn_web" ["_law_bag_here", "_law_most", "_law_most_arrows", "_law_most_told"] m_law_drawn_web := by
  refine fn_mk (N := ["_law_bag_here", "_law_most", "_law_most_arrows", "_law_most_told", "_law_many", "_law_rows_now", "_law_k", "_law_one", "_law_other", "_law_told_now"]) (asg := []) F sc_law_drawn_web rfl rfl hm (fun _ _ _ _ _ _ us hl => match us, hl with | [_, _, _, _], _ => rfl) (fun cdv A outer s H Ex hr => ?_)
  have sc := sc_law_drawn_web
  have po := passes_of (X := cxOf (L2.CX P w) P w K mg base ["_law_bag_here", "_law_most", "_law_most_arrows", "_law_most_told", "_law_many", "_law_rows_now", "_law_k", "_law_one", "_law_other", "_law_told_now"] "_law_drawn_web" (defScope (top 129)) f cdv A outer s H Ex) rfl
  have tk := takes_of (X := cxOf (L2.CX P w) P w K mg base ["_law_bag_here", "_law_most", "_law_most_arrows", "_law_most_told", "_law_many", "_law_rows_now", "_law_k", "_law_one", "_law_other", "_law_told_now"] "_law_drawn_web" (defScope (top 129)) f cdv A outer s H Ex) (E := Ex) rfl rfl rfl rfl
  exact (s_cons (s_set (i := 4) sc.nd rfl (by first | exact Or.inl rfl | exact Or.inr rfl) (e_itemF hr.units (e_lst (a_cons (e_add e_int (e_call G_law_pull (hr.mono (by omega)) rfl tk (a_cons (e_v 0) (a_cons (e_v 1) a_nil)))) (a_cons e_int a_nil))) (e_int1 rfl T.b_int (e_eq hr.units (e_call G_law_pull (hr.mono (by omega)) rfl tk (a_cons (e_v 0) (a_cons e_int a_nil))) e_int))))
  (s_cons (s_set (i := 5) sc.nd rfl (by first | exact Or.inl rfl | exact Or.inr rfl) (e_lst a_nil))
  (s_cons (s_for (S := [6]) po rfl (i_range1 rfl T.b_range (e_mul (e_call G_law_pull (hr.mono (by omega)) rfl tk (a_cons (e_v 0) (a_cons (e_add (e_v 2) e_int) a_nil))) (e_int1 rfl T.b_int (e_gt (e_v 4) e_int)))) (g_name (i := 6) sc.nd rfl (by first | exact Or.inl rfl | exact Or.inr rfl)) (s_cons (s_set (i := 7) sc.nd rfl (by first | exact Or.inl rfl | exact Or.inr rfl) (e_call G_law_pull (hr.mono (by omega)) rfl tk (a_cons (e_v 0) (a_cons (e_v 4) a_nil))))
  (s_cons (s_set (i := 8) sc.nd rfl (by first | exact Or.inl rfl | exact Or.inr rfl) (e_call G_law_pull (hr.mono (by omega)) rfl tk (a_cons (e_v 0) (a_cons (e_v 4) a_nil))))
  (s_cons (s_if (t_gt (e_call G_law_pull (hr.mono (by omega)) rfl tk (a_cons (e_v 0) (a_cons e_int a_nil))) e_int) (s_one (s_par rfl sc.nd rfl rfl (by decide) rfl rfl (a_cons (e_min2 rfl rfl T.b_min (e_v 7) (e_v 8)) (a_cons (e_max2 rfl rfl T.b_max (e_v 7) (e_v 8)) a_nil)))) s_nil)
  (s_one (s_expr (e_append (e_v 5) (e_tup (a_cons (e_tk (e_v 7)) (a_cons (e_tk (e_v 8)) (a_cons (e_add e_int (e_call G_law_pull (hr.mono (by omega)) rfl tk (a_cons (e_v 0) (a_cons (e_itemF hr.units (e_lst (a_cons e_int (a_cons e_int a_nil))) (e_call G_law_pull (hr.mono (by omega)) rfl tk (a_cons (e_v 0) (a_cons e_int a_nil)))) a_nil)))) (a_cons (e_add e_int (e_call G_law_pull (hr.mono (by omega)) rfl tk (a_cons (e_v 0) (a_cons e_int a_nil)))) a_nil))))))))))))
  (s_cons (s_set (i := 9) sc.nd rfl (by first | exact Or.inl rfl | exact Or.inr rfl) (e_lst a_nil))
  (s_cons (s_for (S := [6]) po rfl (i_range1 rfl T.b_range (e_mul (e_call G_law_pull (hr.mono (by omega)) rfl tk (a_cons (e_v 0) (a_cons (e_add (e_v 3) e_int) a_nil))) (e_int1 rfl T.b_int (e_gt (e_v 4) e_int)))) (g_name (i := 6) sc.nd rfl (by first | exact Or.inl rfl | exact Or.inr rfl)) (s_cons (s_set (i := 7) sc.nd rfl (by first | exact Or.inl rfl | exact Or.inr rfl) (e_call G_law_pull (hr.mono (by omega)) rfl tk (a_cons (e_v 0) (a_cons (e_v 4) a_nil))))
  (s_cons (s_set (i := 8) sc.nd rfl (by first | exact Or.inl rfl | exact Or.inr rfl) (e_mod (e_add (e_add (e_v 7) e_int) (e_call G_law_pull (hr.mono (by omega)) rfl tk (a_cons (e_v 0) (a_cons (e_sub (e_v 4) e_int) a_nil)))) (e_v 4)))
  (s_one (s_expr (e_append (e_v 9) (e_tup (a_cons (e_tk (e_v 7)) (a_cons (e_tk (e_v 8)) (a_cons (e_itemF hr.units (e_lst (a_cons (e_sub e_int e_int) (a_cons (e_sub e_int e_int) (a_cons (e_sub e_int e_int) (a_cons e_int (a_cons e_int (a_cons e_int (a_cons e_int (a_cons (e_sub (e_call G_law_pull (hr.mono (by omega)) rfl tk (a_cons (e_v 0) (a_cons e_int a_nil))) e_int) a_nil))))))))) (e_call G_law_pull (hr.mono (by omega)) rfl tk (a_cons (e_v 0) (a_cons e_int a_nil)))) a_nil))))))))))
  (s_one (s_ret (e_tup (a_cons (e_call G_law_names (hr.mono (by omega)) rfl tk (a_cons (e_v 0) (a_cons (e_v 4) a_nil))) (a_cons (e_tuple rfl T.b_tuple (e_v 5)) (a_cons (e_tuple rfl T.b_tuple (e_v 9)) a_nil)))))))))))
theorem sc_need_web : FnScope ["web"] ["web"] (defScope (top 30)) := ⟨rfl, rfl, rfl, by decide +kernel, rfl, by decide +kernel, by decide +kernel⟩
theorem G_need_web (T : Txt K mg) {f : Addr} {fd : FuncData} (F : FunD K "need_web" "need_web" (defArgs (top 30)) (defBody (top 30)) (defScope (top 30)) [] [] f fd) (hm : mg "need_web" = some (.ref f)) (G_is_web : Fn P w K mg base 3 "is_web" ["web"] m_is_web) : Fn P w K mg base 4 "need_web" ["web"] m_need_web := by
  refine fn_mk (N := ["web"]) (asg := []) F sc_need_web rfl rfl hm (fun _ _ _ _ _ _ us hl => match us, hl with | [_], _ => rfl) (fun cdv A outer s H Ex hr => ?_)
  have sc := sc_need_web
  have po := passes_of (X := cxOf (L2.CX P w) P w K mg base ["web"] "need_web" (defScope (top 30)) f cdv A outer s H Ex) rfl
  have tk := takes_of (X := cxOf (L2.CX P w) P w K mg base ["web"] "need_web" (defScope (top 30)) f cdv A outer s H Ex) (E := Ex) rfl rfl rfl rfl
  exact (s_one (s_if (t_not (t_val (e_call G_is_web (hr.mono (by omega)) rfl tk (a_cons (e_v 0) a_nil)))) (s_one (s_raise rfl tk T.g_BadWeb T.x_BadWeb rfl)) s_nil))
theorem sc_boxes_of : FnScope ["web", "arrow"] ["web", "arrow"] (defScope (top 31)) := ⟨rfl, rfl, rfl, by decide +kernel, rfl, by decide +kernel, by decide +kernel⟩
theorem G_boxes_of (T : Txt K mg) {f : Addr} {fd : FuncData} (F : FunD K "boxes_of" "boxes_of" (defArgs (top 31)) (defBody (top 31)) (defScope (top 31)) [] [] f fd) (hm : mg "boxes_of" = some (.ref f)) (G_need_web : Fn P w K mg base 4 "need_web" ["web"] m_need_web) : Fn P w K mg base 5 "boxes_of" ["web", "arrow"] mc_boxes_of := by
  refine fn_mk (N := ["web", "arrow"]) (asg := []) F sc_boxes_of rfl rfl hm (fun _ _ _ _ _ _ us hl => match us, hl with | [_, _], _ => rfl) (fun cdv A outer s H Ex hr => ?_)
  have sc := sc_boxes_of
  have po := passes_of (X := cxOf (L2.CX P w) P w K mg base ["web", "arrow"] "boxes_of" (defScope (top 31)) f cdv A outer s H Ex) rfl
  have tk := takes_of (X := cxOf (L2.CX P w) P w K mg base ["web", "arrow"] "boxes_of" (defScope (top 31)) f cdv A outer s H Ex) (E := Ex) rfl rfl rfl rfl
  exact (s_cons (s_expr (e_call G_need_web (hr.mono (by omega)) rfl tk (a_cons (e_v 0) a_nil)))
  s_noneL)
theorem sc_without : FnScope ["web", "arrows", "kept", "place", "row"] ["web", "arrows"] (defScope (top 32)) := ⟨rfl, rfl, rfl, by decide +kernel, rfl, by decide +kernel, by decide +kernel⟩
theorem G_without (T : Txt K mg) {f : Addr} {fd : FuncData} (F : FunD K "without" "without" (defArgs (top 32)) (defBody (top 32)) (defScope (top 32)) [] [] f fd) (hm : mg "without" = some (.ref f)) (G_need_web : Fn P w K mg base 4 "need_web" ["web"] m_need_web) : Fn P w K mg base 5 "without" ["web", "arrows"] mc_without := by
  refine fn_mk (N := ["web", "arrows", "kept", "place", "row"]) (asg := []) F sc_without rfl rfl hm (fun _ _ _ _ _ _ us hl => match us, hl with | [_, _], _ => rfl) (fun cdv A outer s H Ex hr => ?_)
  have sc := sc_without
  have po := passes_of (X := cxOf (L2.CX P w) P w K mg base ["web", "arrows", "kept", "place", "row"] "without" (defScope (top 32)) f cdv A outer s H Ex) rfl
  have tk := takes_of (X := cxOf (L2.CX P w) P w K mg base ["web", "arrows", "kept", "place", "row"] "without" (defScope (top 32)) f cdv A outer s H Ex) (E := Ex) rfl rfl rfl rfl
  exact (s_cons (s_expr (e_call G_need_web (hr.mono (by omega)) rfl tk (a_cons (e_v 0) a_nil)))
  s_noneL)
theorem sc_chains : FnScope ["web", "layering", "arrow", "row"] ["web", "layering"] (defScope (top 36)) := ⟨rfl, rfl, rfl, by decide +kernel, rfl, by decide +kernel, by decide +kernel⟩
theorem G_chains (T : Txt K mg) {f : Addr} {fd : FuncData} (F : FunD K "chains" "chains" (defArgs (top 36)) (defBody (top 36)) (defScope (top 36)) [] [] f fd) (hm : mg "chains" = some (.ref f)) (G_need_web : Fn P w K mg base 4 "need_web" ["web"] m_need_web) : Fn P w K mg base 5 "chains" ["web", "layering"] mc_chains := by
  refine fn_mk (N := ["web", "layering", "arrow", "row"]) (asg := []) F sc_chains rfl rfl hm (fun _ _ _ _ _ _ us hl => match us, hl with | [_, _], _ => rfl) (fun cdv A outer s H Ex hr => ?_)
  have sc := sc_chains
  have po := passes_of (X := cxOf (L2.CX P w) P w K mg base ["web", "layering", "arrow", "row"] "chains" (defScope (top 36)) f cdv A outer s H Ex) rfl
  have tk := takes_of (X := cxOf (L2.CX P w) P w K mg base ["web", "layering", "arrow", "row"] "chains" (defScope (top 36)) f cdv A outer s H Ex) (E := Ex) rfl rfl rfl rfl
  exact (s_cons (s_expr (e_call G_need_web (hr.mono (by omega)) rfl tk (a_cons (e_v 0) a_nil)))
  s_noneL)
theorem sc_rows : FnScope ["web", "layering", "layer", "found", "box", "chain", "item"] ["web", "layering"] (defScope (top 38)) := ⟨rfl, rfl, rfl, by decide +kernel, rfl, by decide +kernel, by decide +kernel⟩
theorem G_rows (T : Txt K mg) {f : Addr} {fd : FuncData} (F : FunD K "rows" "rows" (defArgs (top 38)) (defBody (top 38)) (defScope (top 38)) [] [] f fd) (hm : mg "rows" = some (.ref f)) (G_need_web : Fn P w K mg base 4 "need_web" ["web"] m_need_web) : Fn P w K mg base 5 "rows" ["web", "layering"] mc_rows := by
  refine fn_mk (N := ["web", "layering", "layer", "found", "box", "chain", "item"]) (asg := []) F sc_rows rfl rfl hm (fun _ _ _ _ _ _ us hl => match us, hl with | [_, _], _ => rfl) (fun cdv A outer s H Ex hr => ?_)
  have sc := sc_rows
  have po := passes_of (X := cxOf (L2.CX P w) P w K mg base ["web", "layering", "layer", "found", "box", "chain", "item"] "rows" (defScope (top 38)) f cdv A outer s H Ex) rfl
  have tk := takes_of (X := cxOf (L2.CX P w) P w K mg base ["web", "layering", "layer", "found", "box", "chain", "item"] "rows" (defScope (top 38)) f cdv A outer s H Ex) (E := Ex) rfl rfl rfl rfl
  exact (s_cons (s_expr (e_call G_need_web (hr.mono (by omega)) rfl tk (a_cons (e_v 0) a_nil)))
  s_noneL)
theorem sc_web_text : FnScope ["web", "names", "arrows", "sayings", "found", "arrow", "one", "other", "least"] ["web"] (defScope (top 51)) := ⟨rfl, rfl, rfl, by decide +kernel, rfl, by decide +kernel, by decide +kernel⟩
theorem G_web_text (T : Txt K mg) {f : Addr} {fd : FuncData} (F : FunD K "web_text" "web_text" (defArgs (top 51)) (defBody (top 51)) (defScope (top 51)) [] [] f fd) (hm : mg "web_text" = some (.ref f)) (G_need_web : Fn P w K mg base 4 "need_web" ["web"] m_need_web) : Fn P w K mg base 5 "web_text" ["web"] mc_web_text := by
  refine fn_mk (N := ["web", "names", "arrows", "sayings", "found", "arrow", "one", "other", "least"]) (asg := []) F sc_web_text rfl rfl hm (fun _ _ _ _ _ _ us hl => match us, hl with | [_], _ => rfl) (fun cdv A outer s H Ex hr => ?_)
  have sc := sc_web_text
  have po := passes_of (X := cxOf (L2.CX P w) P w K mg base ["web", "names", "arrows", "sayings", "found", "arrow", "one", "other", "least"] "web_text" (defScope (top 51)) f cdv A outer s H Ex) rfl
  have tk := takes_of (X := cxOf (L2.CX P w) P w K mg base ["web", "names", "arrows", "sayings", "found", "arrow", "one", "other", "least"] "web_text" (defScope (top 51)) f cdv A outer s H Ex) (E := Ex) rfl rfl rfl rfl
  exact (s_cons (s_expr (e_call G_need_web (hr.mono (by omega)) rfl tk (a_cons (e_v 0) a_nil)))
  s_noneL)
theorem sc_turned : FnScope ["web"] ["web"] (defScope (top 63)) := ⟨rfl, rfl, rfl, by decide +kernel, rfl, by decide +kernel, by decide +kernel⟩
theorem G_turned (T : Txt K mg) {f : Addr} {fd : FuncData} (F : FunD K "turned" "turned" (defArgs (top 63)) (defBody (top 63)) (defScope (top 63)) [] [] f fd) (hm : mg "turned" = some (.ref f)) (G_need_web : Fn P w K mg base 4 "need_web" ["web"] m_need_web) : Fn P w K mg base 5 "turned" ["web"] mc_turned := by
  refine fn_mk (N := ["web"]) (asg := []) F sc_turned rfl rfl hm (fun _ _ _ _ _ _ us hl => match us, hl with | [_], _ => rfl) (fun cdv A outer s H Ex hr => ?_)
  have sc := sc_turned
  have po := passes_of (X := cxOf (L2.CX P w) P w K mg base ["web"] "turned" (defScope (top 63)) f cdv A outer s H Ex) rfl
  have tk := takes_of (X := cxOf (L2.CX P w) P w K mg base ["web"] "turned" (defScope (top 63)) f cdv A outer s H Ex) (E := Ex) rfl rfl rfl rfl
  exact (s_cons (s_expr (e_call G_need_web (hr.mono (by omega)) rfl tk (a_cons (e_v 0) a_nil)))
  s_noneL)
theorem sc_ring : FnScope ["web", "arrow", "found", "ahead", "one", "other"] ["web", "arrow"] (defScope (top 65)) := ⟨rfl, rfl, rfl, by decide +kernel, rfl, by decide +kernel, by decide +kernel⟩
theorem G_ring (T : Txt K mg) {f : Addr} {fd : FuncData} (F : FunD K "ring" "ring" (defArgs (top 65)) (defBody (top 65)) (defScope (top 65)) [] [] f fd) (hm : mg "ring" = some (.ref f)) (G_need_web : Fn P w K mg base 4 "need_web" ["web"] m_need_web) : Fn P w K mg base 5 "ring" ["web", "arrow"] mc_ring := by
  refine fn_mk (N := ["web", "arrow", "found", "ahead", "one", "other"]) (asg := []) F sc_ring rfl rfl hm (fun _ _ _ _ _ _ us hl => match us, hl with | [_, _], _ => rfl) (fun cdv A outer s H Ex hr => ?_)
  have sc := sc_ring
  have po := passes_of (X := cxOf (L2.CX P w) P w K mg base ["web", "arrow", "found", "ahead", "one", "other"] "ring" (defScope (top 65)) f cdv A outer s H Ex) rfl
  have tk := takes_of (X := cxOf (L2.CX P w) P w K mg base ["web", "arrow", "found", "ahead", "one", "other"] "ring" (defScope (top 65)) f cdv A outer s H Ex) (E := Ex) rfl rfl rfl rfl
  exact (s_cons (s_expr (e_call G_need_web (hr.mono (by omega)) rfl tk (a_cons (e_v 0) a_nil)))
  s_noneL)
theorem sc_knots : FnScope ["web", "ahead", "one", "other", "least", "weight", "box", "far", "seen", "found"] ["web"] (defScope (top 67)) := ⟨rfl, rfl, rfl, by decide +kernel, rfl, by decide +kernel, by decide +kernel⟩
theorem G_knots (T : Txt K mg) {f : Addr} {fd : FuncData} (F : FunD K "knots" "knots" (defArgs (top 67)) (defBody (top 67)) (defScope (top 67)) [] [] f fd) (hm : mg "knots" = some (.ref f)) (G_need_web : Fn P w K mg base 4 "need_web" ["web"] m_need_web) : Fn P w K mg base 5 "knots" ["web"] mc_knots := by
  refine fn_mk (N := ["web", "ahead", "one", "other", "least", "weight", "box", "far", "seen", "found"]) (asg := []) F sc_knots rfl rfl hm (fun _ _ _ _ _ _ us hl => match us, hl with | [_], _ => rfl) (fun cdv A outer s H Ex hr => ?_)
  have sc := sc_knots
  have po := passes_of (X := cxOf (L2.CX P w) P w K mg base ["web", "ahead", "one", "other", "least", "weight", "box", "far", "seen", "found"] "knots" (defScope (top 67)) f cdv A outer s H Ex) rfl
  have tk := takes_of (X := cxOf (L2.CX P w) P w K mg base ["web", "ahead", "one", "other", "least", "weight", "box", "far", "seen", "found"] "knots" (defScope (top 67)) f cdv A outer s H Ex) (E := Ex) rfl rfl rfl rfl
  exact (s_cons (s_expr (e_call G_need_web (hr.mono (by omega)) rfl tk (a_cons (e_v 0) a_nil)))
  s_noneL)
theorem sc_ties : FnScope ["web"] ["web"] (defScope (top 70)) := ⟨rfl, rfl, rfl, by decide +kernel, rfl, by decide +kernel, by decide +kernel⟩
theorem G_ties (T : Txt K mg) {f : Addr} {fd : FuncData} (F : FunD K "ties" "ties" (defArgs (top 70)) (defBody (top 70)) (defScope (top 70)) [] [] f fd) (hm : mg "ties" = some (.ref f)) (G_need_web : Fn P w K mg base 4 "need_web" ["web"] m_need_web) : Fn P w K mg base 5 "ties" ["web"] mc_ties := by
  refine fn_mk (N := ["web"]) (asg := []) F sc_ties rfl rfl hm (fun _ _ _ _ _ _ us hl => match us, hl with | [_], _ => rfl) (fun cdv A outer s H Ex hr => ?_)
  have sc := sc_ties
  have po := passes_of (X := cxOf (L2.CX P w) P w K mg base ["web"] "ties" (defScope (top 70)) f cdv A outer s H Ex) rfl
  have tk := takes_of (X := cxOf (L2.CX P w) P w K mg base ["web"] "ties" (defScope (top 70)) f cdv A outer s H Ex) (E := Ex) rfl rfl rfl rfl
  exact (s_cons (s_expr (e_call G_need_web (hr.mono (by omega)) rfl tk (a_cons (e_v 0) a_nil)))
  s_noneL)
theorem sc_solved : FnScope ["web", "heights", "flow", "found"] ["web"] (defScope (top 71)) := ⟨rfl, rfl, rfl, by decide +kernel, rfl, by decide +kernel, by decide +kernel⟩
theorem G_solved (T : Txt K mg) {f : Addr} {fd : FuncData} (F : FunD K "solved" "solved" (defArgs (top 71)) (defBody (top 71)) (defScope (top 71)) [] [] f fd) (hm : mg "solved" = some (.ref f)) (G_need_web : Fn P w K mg base 4 "need_web" ["web"] m_need_web) : Fn P w K mg base 5 "solved" ["web"] mc_solved := by
  refine fn_mk (N := ["web", "heights", "flow", "found"]) (asg := []) F sc_solved rfl rfl hm (fun _ _ _ _ _ _ us hl => match us, hl with | [_], _ => rfl) (fun cdv A outer s H Ex hr => ?_)
  have sc := sc_solved
  have po := passes_of (X := cxOf (L2.CX P w) P w K mg base ["web", "heights", "flow", "found"] "solved" (defScope (top 71)) f cdv A outer s H Ex) rfl
  have tk := takes_of (X := cxOf (L2.CX P w) P w K mg base ["web", "heights", "flow", "found"] "solved" (defScope (top 71)) f cdv A outer s H Ex) (E := Ex) rfl rfl rfl rfl
  exact (s_cons (s_expr (e_call G_need_web (hr.mono (by omega)) rfl tk (a_cons (e_v 0) a_nil)))
  s_noneL)
theorem sc_clash : FnScope ["web"] ["web"] (defScope (top 72)) := ⟨rfl, rfl, rfl, by decide +kernel, rfl, by decide +kernel, by decide +kernel⟩
theorem G_clash (T : Txt K mg) {f : Addr} {fd : FuncData} (F : FunD K "clash" "clash" (defArgs (top 72)) (defBody (top 72)) (defScope (top 72)) [] [] f fd) (hm : mg "clash" = some (.ref f)) (G_need_web : Fn P w K mg base 4 "need_web" ["web"] m_need_web) : Fn P w K mg base 5 "clash" ["web"] mc_clash := by
  refine fn_mk (N := ["web"]) (asg := []) F sc_clash rfl rfl hm (fun _ _ _ _ _ _ us hl => match us, hl with | [_], _ => rfl) (fun cdv A outer s H Ex hr => ?_)
  have sc := sc_clash
  have po := passes_of (X := cxOf (L2.CX P w) P w K mg base ["web"] "clash" (defScope (top 72)) f cdv A outer s H Ex) rfl
  have tk := takes_of (X := cxOf (L2.CX P w) P w K mg base ["web"] "clash" (defScope (top 72)) f cdv A outer s H Ex) (E := Ex) rfl rfl rfl rfl
  exact (s_cons (s_expr (e_call G_need_web (hr.mono (by omega)) rfl tk (a_cons (e_v 0) a_nil)))
  s_noneL)
theorem sc_picture : FnScope ["web", "layering", "rows", "chains", "wides", "spots", "whole", "row", "line", "back", "between", "found", "layer", "item", "column", "signs"] ["web", "layering", "rows"] (defScope (top 117)) := ⟨rfl, rfl, rfl, by decide +kernel, rfl, by decide +kernel, by decide +kernel⟩
theorem G_picture (T : Txt K mg) {f : Addr} {fd : FuncData} (F : FunD K "picture" "picture" (defArgs (top 117)) (defBody (top 117)) (defScope (top 117)) [] [] f fd) (hm : mg "picture" = some (.ref f)) (G_need_web : Fn P w K mg base 4 "need_web" ["web"] m_need_web) : Fn P w K mg base 5 "picture" ["web", "layering", "rows"] mc_picture := by
  refine fn_mk (N := ["web", "layering", "rows", "chains", "wides", "spots", "whole", "row", "line", "back", "between", "found", "layer", "item", "column", "signs"]) (asg := []) F sc_picture rfl rfl hm (fun _ _ _ _ _ _ us hl => match us, hl with | [_, _, _], _ => rfl) (fun cdv A outer s H Ex hr => ?_)
  have sc := sc_picture
  have po := passes_of (X := cxOf (L2.CX P w) P w K mg base ["web", "layering", "rows", "chains", "wides", "spots", "whole", "row", "line", "back", "between", "found", "layer", "item", "column", "signs"] "picture" (defScope (top 117)) f cdv A outer s H Ex) rfl
  have tk := takes_of (X := cxOf (L2.CX P w) P w K mg base ["web", "layering", "rows", "chains", "wides", "spots", "whole", "row", "line", "back", "between", "found", "layer", "item", "column", "signs"] "picture" (defScope (top 117)) f cdv A outer s H Ex) (E := Ex) rfl rfl rfl rfl
  exact (s_cons (s_expr (e_call G_need_web (hr.mono (by omega)) rfl tk (a_cons (e_v 0) a_nil)))
  s_noneL)
theorem sc_board_of : FnScope ["web", "names", "arrows", "sayings", "lines", "told", "found", "at", "one", "other", "least", "weight"] ["web"] (defScope (top 125)) := ⟨rfl, rfl, rfl, by decide +kernel, rfl, by decide +kernel, by decide +kernel⟩
theorem G_board_of (T : Txt K mg) {f : Addr} {fd : FuncData} (F : FunD K "board_of" "board_of" (defArgs (top 125)) (defBody (top 125)) (defScope (top 125)) [] [] f fd) (hm : mg "board_of" = some (.ref f)) (G_need_web : Fn P w K mg base 4 "need_web" ["web"] m_need_web) : Fn P w K mg base 5 "board_of" ["web"] mc_board_of := by
  refine fn_mk (N := ["web", "names", "arrows", "sayings", "lines", "told", "found", "at", "one", "other", "least", "weight"]) (asg := []) F sc_board_of rfl rfl hm (fun _ _ _ _ _ _ us hl => match us, hl with | [_], _ => rfl) (fun cdv A outer s H Ex hr => ?_)
  have sc := sc_board_of
  have po := passes_of (X := cxOf (L2.CX P w) P w K mg base ["web", "names", "arrows", "sayings", "lines", "told", "found", "at", "one", "other", "least", "weight"] "board_of" (defScope (top 125)) f cdv A outer s H Ex) rfl
  have tk := takes_of (X := cxOf (L2.CX P w) P w K mg base ["web", "names", "arrows", "sayings", "lines", "told", "found", "at", "one", "other", "least", "weight"] "board_of" (defScope (top 125)) f cdv A outer s H Ex) (E := Ex) rfl rfl rfl rfl
  exact (s_cons (s_expr (e_call G_need_web (hr.mono (by omega)) rfl tk (a_cons (e_v 0) a_nil)))
  s_noneL)
theorem sc_layers : FnScope ["web", "heights", "flow", "lot", "least", "box", "height"] ["web"] (defScope (top 74)) := ⟨rfl, rfl, rfl, by decide +kernel, rfl, by decide +kernel, by decide +kernel⟩
theorem G_layers (T : Txt K mg) {f : Addr} {fd : FuncData} (F : FunD K "layers" "layers" (defArgs (top 74)) (defBody (top 74)) (defScope (top 74)) [] [] f fd) (hm : mg "layers" = some (.ref f)) (G_solved : Fn P w K mg base 5 "solved" ["web"] mc_solved) : Fn P w K mg base 6 "layers" ["web"] mc_layers := by
  refine fn_mk (N := ["web", "heights", "flow", "lot", "least", "box", "height"]) (asg := []) F sc_layers rfl rfl hm (fun _ _ _ _ _ _ us hl => match us, hl with | [_], _ => rfl) (fun cdv A outer s H Ex hr => ?_)
  have sc := sc_layers
  have po := passes_of (X := cxOf (L2.CX P w) P w K mg base ["web", "heights", "flow", "lot", "least", "box", "height"] "layers" (defScope (top 74)) f cdv A outer s H Ex) rfl
  have tk := takes_of (X := cxOf (L2.CX P w) P w K mg base ["web", "heights", "flow", "lot", "least", "box", "height"] "layers" (defScope (top 74)) f cdv A outer s H Ex) (E := Ex) rfl rfl rfl rfl
  exact (s_cons (s_asg (S := [1, 2]) (e_call G_solved (hr.mono (by omega)) rfl tk (a_cons (e_v 0) a_nil)) (g_tup rfl (gs_cons (g_name (i := 1) sc.nd rfl (by first | exact Or.inl rfl | exact Or.inr rfl)) (gs_cons (g_name (i := 2) sc.nd rfl (by first | exact Or.inl rfl | exact Or.inr rfl)) gs_nil))))
  s_noneL)
theorem sc_flow : FnScope ["web"] ["web"] (defScope (top 76)) := ⟨rfl, rfl, rfl, by decide +kernel, rfl, by decide +kernel, by decide +kernel⟩
theorem G_flow (T : Txt K mg) {f : Addr} {fd : FuncData} (F : FunD K "flow" "flow" (defArgs (top 76)) (defBody (top 76)) (defScope (top 76)) [] [] f fd) (hm : mg "flow" = some (.ref f)) (G_solved : Fn P w K mg base 5 "solved" ["web"] mc_solved) : Fn P w K mg base 6 "flow" ["web"] mc_flow := by
  refine fn_mk (N := ["web"]) (asg := []) F sc_flow rfl rfl hm (fun _ _ _ _ _ _ us hl => match us, hl with | [_], _ => rfl) (fun cdv A outer s H Ex hr => ?_)
  have sc := sc_flow
  have po := passes_of (X := cxOf (L2.CX P w) P w K mg base ["web"] "flow" (defScope (top 76)) f cdv A outer s H Ex) rfl
  have tk := takes_of (X := cxOf (L2.CX P w) P w K mg base ["web"] "flow" (defScope (top 76)) f cdv A outer s H Ex) (E := Ex) rfl rfl rfl rfl
  exact (s_one (s_ret (e_itemF hr.units (e_call G_solved (hr.mono (by omega)) rfl tk (a_cons (e_v 0) a_nil)) e_int)))
theorem sc_worth : FnScope ["web", "flow", "rows", "many", "row"] ["web", "flow"] (defScope (top 78)) := ⟨rfl, rfl, rfl, by decide +kernel, rfl, by decide +kernel, by decide +kernel⟩
theorem G_worth (T : Txt K mg) {f : Addr} {fd : FuncData} (F : FunD K "worth" "worth" (defArgs (top 78)) (defBody (top 78)) (defScope (top 78)) [] [] f fd) (hm : mg "worth" = some (.ref f)) (G_ties : Fn P w K mg base 5 "ties" ["web"] mc_ties) : Fn P w K mg base 6 "worth" ["web", "flow"] mc_worth := by
  refine fn_mk (N := ["web", "flow", "rows", "many", "row"]) (asg := []) F sc_worth rfl rfl hm (fun _ _ _ _ _ _ us hl => match us, hl with | [_, _], _ => rfl) (fun cdv A outer s H Ex hr => ?_)
  have sc := sc_worth
  have po := passes_of (X := cxOf (L2.CX P w) P w K mg base ["web", "flow", "rows", "many", "row"] "worth" (defScope (top 78)) f cdv A outer s H Ex) rfl
  have tk := takes_of (X := cxOf (L2.CX P w) P w K mg base ["web", "flow", "rows", "many", "row"] "worth" (defScope (top 78)) f cdv A outer s H Ex) (E := Ex) rfl rfl rfl rfl
  exact (s_cons (s_set (i := 2) sc.nd rfl (by first | exact Or.inl rfl | exact Or.inr rfl) (e_call G_ties (hr.mono (by omega)) rfl tk (a_cons (e_v 0) a_nil)))
  s_noneL)
theorem sc_widths : FnScope ["web", "layering", "above", "below", "upper", "lower", "arrow", "found", "box", "name", "loops", "item", "row"] ["web", "layering"] (defScope (top 94)) := ⟨rfl, rfl, rfl, by decide +kernel, rfl, by decide +kernel, by decide +kernel⟩
theorem G_widths (T : Txt K mg) {f : Addr} {fd : FuncData} (F : FunD K "widths" "widths" (defArgs (top 94)) (defBody (top 94)) (defScope (top 94)) [] [] f fd) (hm : mg "widths" = some (.ref f)) (G_chains_chains : Fn P w K mg base 5 "chains_chains" ["web", "layering"] mc_chains) (G_segments_by : Fn P w K mg base 1 "segments_by" ["chains"] mc_segments_by) : Fn P w K mg base 6 "widths" ["web", "layering"] mc_widths := by
  refine fn_mk (N := ["web", "layering", "above", "below", "upper", "lower", "arrow", "found", "box", "name", "loops", "item", "row"]) (asg := []) F sc_widths rfl rfl hm (fun _ _ _ _ _ _ us hl => match us, hl with | [_, _], _ => rfl) (fun cdv A outer s H Ex hr => ?_)
  have sc := sc_widths
  have po := passes_of (X := cxOf (L2.CX P w) P w K mg base ["web", "layering", "above", "below", "upper", "lower", "arrow", "found", "box", "name", "loops", "item", "row"] "widths" (defScope (top 94)) f cdv A outer s H Ex) rfl
  have tk := takes_of (X := cxOf (L2.CX P w) P w K mg base ["web", "layering", "above", "below", "upper", "lower", "arrow", "found", "box", "name", "loops", "item", "row"] "widths" (defScope (top 94)) f cdv A outer s H Ex) (E := Ex) rfl rfl rfl rfl
  exact (s_cons (s_set (i := 2) sc.nd rfl (by first | exact Or.inl rfl | exact Or.inr rfl) e_dnewT)
  (s_cons (s_set (i := 3) sc.nd rfl (by first | exact Or.inl rfl | exact Or.inr rfl) e_dnewT)
  (s_cons (s_for (S := [4, 5, 6]) po rfl (i_seq (e_call G_segments_by (hr.mono (by omega)) rfl tk (a_cons (e_call G_chains_chains (hr.mono (by omega)) rfl tk (a_cons (e_v 0) (a_cons (e_v 1) a_nil))) a_nil))) (g_tup rfl (gs_cons (g_name (i := 4) sc.nd rfl (by first | exact Or.inl rfl | exact Or.inr rfl)) (gs_cons (g_name (i := 5) sc.nd rfl (by first | exact Or.inl rfl | exact Or.inr rfl)) (gs_cons (g_name (i := 6) sc.nd rfl (by first | exact Or.inl rfl | exact Or.inr rfl)) gs_nil)))) s_noneL)
  s_noneL)))
theorem sc_length : FnScope ["web", "layering", "here", "row"] ["web", "layering"] (defScope (top 77)) := ⟨rfl, rfl, rfl, by decide +kernel, rfl, by decide +kernel, by decide +kernel⟩
theorem G_length (T : Txt K mg) {f : Addr} {fd : FuncData} (F : FunD K "length" "length" (defArgs (top 77)) (defBody (top 77)) (defScope (top 77)) [V.non] [] f fd) (hm : mg "length" = some (.ref f)) (G_layers_layers : Fn P w K mg base 6 "layers_layers" ["web"] mc_layers) (G_solved : Fn P w K mg base 5 "solved" ["web"] mc_solved) : FnE P w K mg base 7 "length" ["web", "layering"] "layering" mc_length := by
  refine fn_mkE (ky := "layering") (N := ["web", "layering", "here", "row"]) (asg := []) F sc_length rfl rfl rfl hm (fun _ _ _ _ _ _ _ us its hl h2 => match us, hl, its, h2 with | [_, _], _, [_], _ => ⟨_, rfl, rfl⟩) (fun _ _ _ _ _ _ _ us its hl h2 => match us, hl, its, h2 with | [_], _, [_], _ => ⟨_, rfl, rfl⟩) (fun _ _ _ _ _ _ _ us its ws hl h2 h3 => match us, hl, its, h2, ws, h3 with | [_], _, [_], _, [_], _ => ⟨_, rfl, rfl⟩) (fun cdv A outer s H Ex hr => ?_)
  have sc := sc_length
  have po := passes_of (X := cxOf (L2.CX P w) P w K mg base ["web", "layering", "here", "row"] "length" (defScope (top 77)) f cdv A outer s H Ex) rfl
  have tk := takes_of (X := cxOf (L2.CX P w) P w K mg base ["web", "layering", "here", "row"] "length" (defScope (top 77)) f cdv A outer s H Ex) (E := Ex) rfl rfl rfl rfl
  exact (s_cons (s_set (i := 2) sc.nd rfl (by first | exact Or.inl rfl | exact Or.inr rfl) (e_if (t_isN (e_v 1) e_non) (e_call G_layers_layers (hr.mono (by omega)) rfl tk (a_cons (e_v 0) a_nil)) (e_tk (e_v 1))))
  (s_cons (s_expr (e_call G_solved (hr.mono (by omega)) rfl tk (a_cons (e_v 0) a_nil)))
  s_noneL))
theorem sc_law_web_door : FnScope ["_law_which", "_law_web", "_law_asks", "_law_ask"] ["_law_which", "_law_web"] (defScope (top 134)) := ⟨rfl, rfl, rfl, by decide +kernel, rfl, by decide +kernel, by decide +kernel⟩
theorem G_law_web_door (T : Txt K mg) {f : Addr} {fd : FuncData} (F : FunD K "_law_web_door" "_law_web_door" (defArgs (top 134)) (defBody (top 134)) (defScope (top 134)) [] [] f fd) (hm : mg "_law_web_door" = some (.ref f)) (hf : f = He.ga K "_law_web_door") (TB : LamX.TabB base mg (He.cT K ("_law_web_door", none)).1 (He.cT K ("_law_web_door", none)).2) {g_law_word : Addr} {fd_law_word : FuncData} (F_law_word : FunD K "_law_word" "_law_word" (defArgs (top 135)) (defBody (top 135)) (defScope (top 135)) [] [] g_law_word fd_law_word) (hm_law_word : mg "_law_word" = some (.ref g_law_word)) (G_board_of : Fn P w K mg base 5 "board_of" ["web"] mc_board_of) (G_boxes_of : Fn P w K mg base 5 "boxes_of" ["web", "arrow"] mc_boxes_of) (G_chains_chains : Fn P w K mg base 5 "chains_chains" ["web", "layering"] mc_chains) (G_clash : Fn P w K mg base 5 "clash" ["web"] mc_clash) (G_flow : Fn P w K mg base 6 "flow" ["web"] mc_flow) (G_knots : Fn P w K mg base 5 "knots" ["web"] mc_knots) (G_layers_layers : Fn P w K mg base 6 "layers_layers" ["web"] mc_layers) (G_length : FnE P w K mg base 7 "length" ["web", "layering"] "layering" mc_length) (G_picture : Fn P w K mg base 5 "picture" ["web", "layering", "rows"] mc_picture) (G_ring : Fn P w K mg base 5 "ring" ["web", "arrow"] mc_ring) (G_rows_chains : Fn P w K mg base 5 "rows_chains" ["web", "layering"] mc_rows) (G_ties : Fn P w K mg base 5 "ties" ["web"] mc_ties) (G_turned_rings : Fn P w K mg base 5 "turned_rings" ["web"] mc_turned) (G_web_text : Fn P w K mg base 5 "web_text" ["web"] mc_web_text) (G_widths : Fn P w K mg base 6 "widths" ["web", "layering"] mc_widths) (G_without : Fn P w K mg base 5 "without" ["web", "arrows"] mc_without) (G_worth : Fn P w K mg base 6 "worth" ["web", "flow"] mc_worth) : Fn P w K mg base 10 "_law_web_door" ["_law_which", "_law_web"] m_law_web_door := by
  refine fn_mkN (fb := b_law_web_door) (N := ["_law_which", "_law_web", "_law_asks", "_law_ask"]) (asg := []) F hf sc_law_web_door rfl rfl hm (fun _ _ _ _ _ _ us hl => match us, hl with | [_, _], _ => rfl) (fun cdv A outer s H Ex hco hr => ?_)
  have sc := sc_law_web_door
  have po := passes_of (X := cxOf (L2.CX P w) P w K mg base ["_law_which", "_law_web", "_law_asks", "_law_ask"] "_law_web_door" (defScope (top 134)) f cdv A outer s H Ex) rfl
  have tk := takes_of (X := cxOf (L2.CX P w) P w K mg base ["_law_which", "_law_web", "_law_asks", "_law_ask"] "_law_web_door" (defScope (top 134)) f cdv A outer s H Ex) (E := Ex) rfl rfl rfl rfl
  exact (s_cons (s_set (i := 2) sc.nd rfl (by first | exact Or.inl rfl | exact Or.inr rfl) (e_lst (a_cons (e_lam (ix := 0) TB hco rfl (LamX.lamS_by (sc := defScope (top 134)) (by decide +kernel)) rfl) (a_cons (e_lam (ix := 1) TB hco rfl (LamX.lamS_by (sc := defScope (top 134)) (by decide +kernel)) rfl) (a_cons (e_lam (ix := 2) TB hco rfl (LamX.lamS_by (sc := defScope (top 134)) (by decide +kernel)) rfl) (a_cons (e_lam (ix := 3) TB hco rfl (LamX.lamS_by (sc := defScope (top 134)) (by decide +kernel)) rfl) (a_cons (e_lam (ix := 4) TB hco rfl (LamX.lamS_by (sc := defScope (top 134)) (by decide +kernel)) rfl) (a_cons (e_lam (ix := 5) TB hco rfl (LamX.lamS_by (sc := defScope (top 134)) (by decide +kernel)) rfl) (a_cons (e_lam (ix := 6) TB hco rfl (LamX.lamS_by (sc := defScope (top 134)) (by decide +kernel)) rfl) (a_cons (e_lam (ix := 7) TB hco rfl (LamX.lamS_by (sc := defScope (top 134)) (by decide +kernel)) rfl) (a_cons (e_lam (ix := 8) TB hco rfl (LamX.lamS_by (sc := defScope (top 134)) (by decide +kernel)) rfl) (a_cons (e_lam (ix := 9) TB hco rfl (LamX.lamS_by (sc := defScope (top 134)) (by decide +kernel)) rfl) (a_cons (e_lam (ix := 10) TB hco rfl (LamX.lamS_by (sc := defScope (top 134)) (by decide +kernel)) rfl) (a_cons (e_lam (ix := 11) TB hco rfl (LamX.lamS_by (sc := defScope (top 134)) (by decide +kernel)) rfl) (a_cons (e_lam (ix := 12) TB hco rfl (LamX.lamS_by (sc := defScope (top 134)) (by decide +kernel)) rfl) (a_cons (e_lam (ix := 13) TB hco rfl (LamX.lamS_by (sc := defScope (top 134)) (by decide +kernel)) rfl) (a_cons (e_lam (ix := 14) TB hco rfl (LamX.lamS_by (sc := defScope (top 134)) (by decide +kernel)) rfl) (a_cons (e_lam (ix := 15) TB hco rfl (LamX.lamS_by (sc := defScope (top 134)) (by decide +kernel)) rfl) (a_cons (e_lam (ix := 16) TB hco rfl (LamX.lamS_by (sc := defScope (top 134)) (by decide +kernel)) rfl) (a_cons (e_lam (ix := 17) TB hco rfl (LamX.lamS_by (sc := defScope (top 134)) (by decide +kernel)) rfl) a_nil))))))))))))))))))))
  (s_cons (s_set (i := 3) sc.nd rfl (by first | exact Or.inl rfl | exact Or.inr rfl) (e_itemF hr.units (e_v 2) (e_v 0)))
  (s_one (s_ret (e_wordV (k := 7) F_law_word hm_law_word rfl rfl (fun _ _ _ _ _ _ us hl => match us, hl with | [_], _ => rfl) sc_law_word (.cons rfl T.g_BadWeb (by decide) (.cons rfl T.g_BadArrow (by decide) (.cons rfl T.g_BadWay (by decide) (.cons rfl T.g_Clash (by decide) (.cons rfl T.g_InkError (by decide) .nil))))) rfl (Or.inl rfl) (wf_law_word_ok T) (hr.mono (by omega)) (e_v 3) (okL_cons (OkL.mk (k := 7) rfl rfl (LamX.lamS_by (sc := defScope (top 134)) (by kernel_rfl)) (fun _ _ _ _ _ => rfl) (fun A outer s H E f c hr => (e_call G_boxes_of (hr.mono (by omega)) rfl takes_lam (a_cons (e_v 1) (a_cons e_int a_nil))))) (okL_cons (OkL.mk (k := 7) rfl rfl (LamX.lamS_by (sc := defScope (top 134)) (by kernel_rfl)) (fun _ _ _ _ _ => rfl) (fun A outer s H E f c hr => (e_call G_without (hr.mono (by omega)) rfl takes_lam (a_cons (e_v 1) (a_cons (e_lst (a_cons e_int a_nil)) a_nil))))) (okL_cons (OkL.mk (k := 7) rfl rfl (LamX.lamS_by (sc := defScope (top 134)) (by kernel_rfl)) (fun _ _ _ _ _ => rfl) (fun A outer s H E f c hr => (e_call G_turned_rings (hr.mono (by omega)) rfl takes_lam (a_cons (e_v 1) a_nil)))) (okL_cons (OkL.mk (k := 7) rfl rfl (LamX.lamS_by (sc := defScope (top 134)) (by kernel_rfl)) (fun _ _ _ _ _ => rfl) (fun A outer s H E f c hr => (e_call G_ring (hr.mono (by omega)) rfl takes_lam (a_cons (e_v 1) (a_cons e_int a_nil))))) (okL_cons (OkL.mk (k := 7) rfl rfl (LamX.lamS_by (sc := defScope (top 134)) (by kernel_rfl)) (fun _ _ _ _ _ => rfl) (fun A outer s H E f c hr => (e_call G_knots (hr.mono (by omega)) rfl takes_lam (a_cons (e_v 1) a_nil)))) (okL_cons (OkL.mk (k := 7) rfl rfl (LamX.lamS_by (sc := defScope (top 134)) (by kernel_rfl)) (fun _ _ _ _ _ => rfl) (fun A outer s H E f c hr => (e_call G_ties (hr.mono (by omega)) rfl takes_lam (a_cons (e_v 1) a_nil)))) (okL_cons (OkL.mk (k := 7) rfl rfl (LamX.lamS_by (sc := defScope (top 134)) (by kernel_rfl)) (fun _ _ _ _ _ => rfl) (fun A outer s H E f c hr => (e_call G_clash (hr.mono (by omega)) rfl takes_lam (a_cons (e_v 1) a_nil)))) (okL_cons (OkL.mk (k := 7) rfl rfl (LamX.lamS_by (sc := defScope (top 134)) (by kernel_rfl)) (fun _ _ _ _ _ => rfl) (fun A outer s H E f c hr => (e_call G_layers_layers (hr.mono (by omega)) rfl takes_lam (a_cons (e_v 1) a_nil)))) (okL_cons (OkL.mk (k := 7) rfl rfl (LamX.lamS_by (sc := defScope (top 134)) (by kernel_rfl)) (fun _ _ _ _ _ => rfl) (fun A outer s H E f c hr => (e_call G_flow (hr.mono (by omega)) rfl takes_lam (a_cons (e_v 1) a_nil)))) (okL_cons (OkL.mk (k := 7) rfl rfl (LamX.lamS_by (sc := defScope (top 134)) (by kernel_rfl)) (fun _ _ _ _ _ => rfl) (fun A outer s H E f c hr => (e_callD G_length.toD (hr.mono (by omega)) rfl takes_lam (a_cons (e_v 1) a_nil)))) (okL_cons (OkL.mk (k := 7) rfl rfl (LamX.lamS_by (sc := defScope (top 134)) (by kernel_rfl)) (fun _ _ _ _ _ => rfl) (fun A outer s H E f c hr => (e_callE G_length (hr.mono (by omega)) rfl takes_lam (e_v 1) (e_lst a_nil)))) (okL_cons (OkL.mk (k := 7) rfl rfl (LamX.lamS_by (sc := defScope (top 134)) (by kernel_rfl)) (fun _ _ _ _ _ => rfl) (fun A outer s H E f c hr => (e_call G_worth (hr.mono (by omega)) rfl takes_lam (a_cons (e_v 1) (a_cons (e_lst a_nil) a_nil))))) (okL_cons (OkL.mk (k := 7) rfl rfl (LamX.lamS_by (sc := defScope (top 134)) (by kernel_rfl)) (fun _ _ _ _ _ => rfl) (fun A outer s H E f c hr => (e_call G_chains_chains (hr.mono (by omega)) rfl takes_lam (a_cons (e_v 1) (a_cons (e_lst a_nil) a_nil))))) (okL_cons (OkL.mk (k := 7) rfl rfl (LamX.lamS_by (sc := defScope (top 134)) (by kernel_rfl)) (fun _ _ _ _ _ => rfl) (fun A outer s H E f c hr => (e_call G_rows_chains (hr.mono (by omega)) rfl takes_lam (a_cons (e_v 1) (a_cons (e_lst a_nil) a_nil))))) (okL_cons (OkL.mk (k := 7) rfl rfl (LamX.lamS_by (sc := defScope (top 134)) (by kernel_rfl)) (fun _ _ _ _ _ => rfl) (fun A outer s H E f c hr => (e_call G_widths (hr.mono (by omega)) rfl takes_lam (a_cons (e_v 1) (a_cons (e_lst a_nil) a_nil))))) (okL_cons (OkL.mk (k := 7) rfl rfl (LamX.lamS_by (sc := defScope (top 134)) (by kernel_rfl)) (fun _ _ _ _ _ => rfl) (fun A outer s H E f c hr => (e_call G_picture (hr.mono (by omega)) rfl takes_lam (a_cons (e_v 1) (a_cons (e_lst a_nil) (a_cons (e_lst a_nil) a_nil)))))) (okL_cons (OkL.mk (k := 7) rfl rfl (LamX.lamS_by (sc := defScope (top 134)) (by kernel_rfl)) (fun _ _ _ _ _ => rfl) (fun A outer s H E f c hr => (e_call G_web_text (hr.mono (by omega)) rfl takes_lam (a_cons (e_v 1) a_nil)))) (okL_cons (OkL.mk (k := 7) rfl rfl (LamX.lamS_by (sc := defScope (top 134)) (by kernel_rfl)) (fun _ _ _ _ _ => rfl) (fun A outer s H E f c hr => (e_call G_board_of (hr.mono (by omega)) rfl takes_lam (a_cons (e_v 1) a_nil)))) okL_nil)))))))))))))))))))))))
abbrev N_law : List Str := ["_law_script", "_law_bag_here", "_law_web", "_law_bend", "_law_which"]
theorem sc_law : FnScope ["_law_script", "_law_bag_here", "_law_web", "_law_bend", "_law_which"] ["_law_script"] (defScope (top 136)) := ⟨rfl, rfl, rfl, by decide +kernel, rfl, by decide +kernel, by decide +kernel⟩
theorem G_law (T : Txt K mg) {f : Addr} {fd : FuncData} (F : FunD K "law" "law" (defArgs (top 136)) (defBody (top 136)) (defScope (top 136)) [] [] f fd) (hf : f = He.ga K "law") (TB : LamX.TabB base mg (He.cT K ("_law_web_door", none)).1 (He.cT K ("_law_web_door", none)).2) (G_law_bag : Fn P w K mg base 1 "_law_bag" ["_law_script"] m_law_bag) (G_law_bent_web : Fn P w K mg base 3 "_law_bent_web" ["_law_bag_here", "_law_web"] m_law_bent_web) (G_law_drawn_web : Fn P w K mg base 3 "_law_drawn_web" ["_law_bag_here", "_law_most", "_law_most_arrows", "_law_most_told"] m_law_drawn_web) (G_law_good_web : Fn P w K mg base 1 "_law_good_web" ["_law_web"] m_law_good_web) (G_law_pull : Fn P w K mg base 1 "_law_pull" ["_law_bag_here", "_law_many"] m_law_pull) (G_law_web_door : Fn P w K mg base 10 "_law_web_door" ["_law_which", "_law_web"] m_law_web_door) : FnG P w K mg base (L2.CX P w) 11 f fd ["_law_script"] (spOf K m_law) := by
  refine fn_mkO (N := ["_law_script", "_law_bag_here", "_law_web", "_law_bend", "_law_which"]) (asg := []) F hf sc_law rfl rfl (fun cdv A outer s H Ex hco hgd hr => ?_)
  have sc := sc_law
  have po := passes_of (X := cxOf (L2.CX P w) P w K mg base ["_law_script", "_law_bag_here", "_law_web", "_law_bend", "_law_which"] "law" (defScope (top 136)) f cdv A outer s H Ex) rfl
  have tk := takes_of (X := cxOf (L2.CX P w) P w K mg base ["_law_script", "_law_bag_here", "_law_web", "_law_bend", "_law_which"] "law" (defScope (top 136)) f cdv A outer s H Ex) (E := Ex) rfl rfl rfl rfl
  exact (s_cons (s_set (i := 1) sc.nd rfl (by first | exact Or.inl rfl | exact Or.inr rfl) (e_call G_law_bag (hr.mono (by omega)) rfl tk (a_cons (e_v 0) a_nil)))
  (s_cons (s_set (i := 2) sc.nd rfl (by first | exact Or.inl rfl | exact Or.inr rfl) (e_call G_law_drawn_web (hr.mono (by omega)) rfl tk (a_cons (e_v 1) (a_cons e_int (a_cons e_int (a_cons e_int a_nil))))))
  (s_cons (s_for (S := [3]) po rfl (i_range1 rfl T.b_range (e_add e_int (e_call G_law_pull (hr.mono (by omega)) rfl tk (a_cons (e_v 1) (a_cons e_int a_nil))))) (g_name (i := 3) sc.nd rfl (by first | exact Or.inl rfl | exact Or.inr rfl)) (s_one (s_set (i := 2) sc.nd rfl (by first | exact Or.inl rfl | exact Or.inr rfl) (e_call G_law_bent_web (hr.mono (by omega)) rfl tk (a_cons (e_v 1) (a_cons (e_v 2) a_nil))))))
  (s_cons (s_if (t_val (e_call G_law_good_web (hr.mono (by omega)) rfl tk (a_cons (e_v 2) a_nil))) (s_one (s_set (i := 2) sc.nd rfl (by first | exact Or.inl rfl | exact Or.inr rfl) (e_tup (a_cons (e_add (e_itemF hr.units (e_v 2) e_int) (e_tup (a_cons e_str a_nil))) (a_cons (e_itemF hr.units (e_v 2) e_int) (a_cons (e_itemF hr.units (e_v 2) e_int) a_nil)))))) s_nil)
  (s_one (s_ret (e_all rfl rfl T.b_all (e_lc (own := [("_law_which", 4)]) (S := [4]) rfl sc.nd (i_range1 rfl T.b_range e_int) (blkOk_by (N := N_law) (sc := defScope (top 136)) (own := [("_law_which", 4)]) (by decide +kernel)) (fun _ _ _ _ _ => (g_name (i := 4) sc.nd rfl (by first | exact Or.inl rfl | exact Or.inr rfl))) (fun _ _ _ _ _ => (ts_nil rfl)) (fun _ _ _ _ _ => (e_eq hr.units (e_call G_law_web_door (hr.mono (by omega)) rfl takes0 (a_cons (e_v 4) (a_cons (e_v 2) a_nil))) e_str))))))))))
end
end Lw
set_option Elab.async false
set_option linter.all false
set_option maxRecDepth 100000
set_option maxHeartbeats 0
namespace Lw
open PySem L2 Ink
structure Bag where
  c : List Int
  i : Nat
  s : Int
  z : Int
def Bag.m (b : Bag) : M := .lst [.fz (.lst (b.c.map D.int)), .fz (.int (b.i : Nat)), .fz (.int b.s), .fz (.int b.z)]
@[simp] theorem isFz_bag {b : Bag} : isFz b.m = false := rfl
theorem small_emod (a n : Int) (h : 0 < n) (h2 : n < 2 ^ 64) : mulC (a % n) (a % n) = true := by
  have h0 := Int.emod_nonneg a (show n ≠ 0 by omega)
  have h1 := Int.emod_lt_of_pos a h
  simp only [mulC, Bool.or_eq_true, Bool.and_eq_true, decide_eq_true_eq]
  omega
theorem mulC_r {i j : Int} (h : -(2 ^ 64) < j) (h2 : j < 2 ^ 64) : mulC i j = true := by
  simp only [mulC, Bool.or_eq_true, Bool.and_eq_true, decide_eq_true_eq]
  exact .inr ⟨h, h2⟩
def blend0 (x z i : Int) : Int := (x + z * 31 + i * 69061) % 2147483629
def blend1 (b : Int) : Int := (b * b + 40961) % 2147483587
def blend (x z i n : Int) : Int := ((blend1 (blend0 x z i) * blend1 (blend0 x z i) + i) % 1073741789) / 19 % n
theorem pull_ok (b : Bag) (n : Int) (hn : 0 < n) (hn2 : n < 1208925819614629174706176) : ∃ (r : Int) (b' : Bag), 0 ≤ r ∧ r < n ∧ m_law_pull [b.m, .fz (.int n)] = some (.ok (.fz (.int r)) [some b'.m, some (.fz (.int n))]) := by
  obtain ⟨c, i, s, z⟩ := b
  by_cases hs : s < 2
  · by_cases hl : (i : Int) + 1 ≤ c.length
    · obtain ⟨x, hx1, hx⟩ := atI_at (xs := c.map D.int) (i := (i : Int)) (by omega) (by simp; omega)
      obtain ⟨y, rfl⟩ : ∃ y, x = D.int y := by
        have := List.mem_of_getElem? hx1
        simp only [List.mem_map] at this
        obtain ⟨y, _, e⟩ := this
        exact ⟨y, e.symm⟩
      by_cases hb : (10 : Int) ^ 18 ≤ y
      · refine ⟨y % n, ⟨c, i + 1, y / n, z⟩, Int.emod_nonneg _ (by omega), Int.emod_lt_of_pos _ hn, ?_⟩
        have hb' : (1000000000000000000 : Int) ≤ y := by simpa using hb
        simp [m_law_pull, b_law_pull, Bag.m, hs, hl, hn, hn2]
        simp at hx
        simp [hx, hl, hb', hn, hn2]
      · refine ⟨blend y z (i + 1) n, ⟨c, i + 1, s, z⟩, Int.emod_nonneg _ (by omega), Int.emod_lt_of_pos _ hn, ?_⟩
        have hb' : ¬ (1000000000000000000 : Int) ≤ y := by simpa using hb
        simp [m_law_pull, b_law_pull, Bag.m, hs, hl, hn, hn2]
        simp at hx
        simp [hx, hl, hb', hn, hn2, mulC_r, small_emod, blend, blend0, blend1]
    · refine ⟨blend (i + 1) z (i + 1) n, ⟨c, i + 1, s, z⟩, Int.emod_nonneg _ (by omega), Int.emod_lt_of_pos _ hn, ?_⟩
      simp [m_law_pull, b_law_pull, Bag.m, hs, hl, hn, hn2, mulC_r, small_emod, blend, blend0, blend1]
  · refine ⟨s % n, ⟨c, i, s / n, z⟩, Int.emod_nonneg _ (by omega), Int.emod_lt_of_pos _ hn, ?_⟩
    simp [m_law_pull, b_law_pull, Bag.m, hs, hn, hn2]
open Classical in
/-- what is pulled, and the bag behind -/
noncomputable def pv (b : Bag) (n : Int) : Int := if h : 0 < n ∧ n < 1208925819614629174706176 then (pull_ok b n h.1 h.2).choose else 0
open Classical in
noncomputable def pb (b : Bag) (n : Int) : Bag := if h : 0 < n ∧ n < 1208925819614629174706176 then (pull_ok b n h.1 h.2).choose_spec.choose else b
theorem pull_all {b : Bag} {n : Int} (h : 0 < n) (h2 : n < 1208925819614629174706176) : 0 ≤ pv b n ∧ pv b n < n ∧ m_law_pull [b.m, .fz (.int n)] = some (.ok (.fz (.int (pv b n))) [some (pb b n).m, some (.fz (.int n))]) := by
  unfold pv pb
  rw [dif_pos ⟨h, h2⟩, dif_pos ⟨h, h2⟩]
  exact (pull_ok b n h h2).choose_spec.choose_spec
theorem pv_0 {b : Bag} {n : Int} (h : 0 < n) (h2 : n < 1208925819614629174706176) : 0 ≤ pv b n := (pull_all h h2).1
theorem pv_lt {b : Bag} {n : Int} (h : 0 < n) (h2 : n < 1208925819614629174706176) : pv b n < n := (pull_all h h2).2.1
@[simp] theorem pull_eq {b : Bag} {n : Int} (h : 0 < n) (h2 : n < 1208925819614629174706176) : m_law_pull [b.m, .fz (.int n)] = some (.ok (.fz (.int (pv b n))) [some (pb b n).m, some (.fz (.int n))]) := (pull_all h h2).2.2
end Lw
set_option Elab.async false
set_option linter.all false
set_option maxRecDepth 100000
set_option maxHeartbeats 0
namespace Lw
open PySem L2 Ink
structure Web where
  names : List Str
  arrows : List (List Int)
  told : List (List Int)
def rowD (r : List Int) : D := .tup (r.map D.int)
def Web.d (w : Web) : D := .tup [.tup (w.names.map D.str), .tup (w.arrows.map rowD), .tup (w.told.map rowD)]
abbrev letters : Str := "abcdefghijklmnopqrstuvwxyz"
def isNameB (x : Str) : Bool := (decide ((1 : Int) ≤ x.length) && decide ((x.length : Int) ≤ 6)) && (x.cps.toList.all fun c => decide (c ∈ letters.cps.toList))
def isArrowB (n : Int) (r : List Int) : Bool := match r with
  | [a, b, l, w] => (decide (0 ≤ a) && decide (a < n)) && ((decide (0 ≤ b) && decide (b < n)) && ((decide (1 ≤ l) && decide (l ≤ 3)) && (decide (1 ≤ w) && decide (w ≤ 9))))
  | _ => false
def isSayingB (n : Int) (r : List Int) : Bool := match r with
  | [a, b, l] => (decide (0 ≤ a) && decide (a < n)) && ((decide (0 ≤ b) && decide (b < n)) && (!decide (a = b) && decide ((if l < 0 then -l else l) ≤ 9)))
  | _ => false
theorem inSign {c : Nat} {t : Str} : inM false (.fz (.str ⟨#[c]⟩)) (.fz (.str t)) = some (.fz (.bl (decide (c ∈ t.cps.toList)))) := rfl
theorem signs_all (x : Str) (p : Nat → Bool) : allM true (.lst (x.cps.toList.map fun c => M.fz (.bl (p c)))) = some (.fz (.bl (x.cps.toList.all p))) := by
  have h := all_map (fun d => match d with | .int i => p i.toNat | _ => false) (x.cps.toList.map fun c => D.int (c : Nat))
  simp only [List.map_map, List.all_map] at h
  exact h
theorem comp_signs {fe : FE} {i : Nat} (x : Str) (p : Nat → Bool) (env : E) (hw : env.set i none = env) (h : ∀ c : Nat, ∃ env2, fe (env.set i (some (.fz (.str ⟨#[c]⟩)))) = some (.ok (.tm (.fz (.bl (p c)))) env2) ∧ env2.set i none = env) :
    compD (nmG i) yesT fe [i] (x.cps.toList.map fun c => D.str ⟨#[c]⟩) env = some (x.cps.toList.map fun c => M.fz (.bl (p c)), env) := by
  generalize x.cps.toList = l
  induction l with
  | nil => rfl
  | cons c l ih =>
    obtain ⟨env2, e, e2⟩ := h c
    simp only [List.map_cons, compD, nmG, yesT, e, wipeE, e2, ih]
theorem cps_len (x : Str) : x.cps.toList.length = x.length := rfl
theorem is_name_eq {x : Str} (h : x.length ≤ 16777216) : m_is_name [.fz (.str x)] = some (.ok (.fz (.bl (isNameB x))) [some (.fz (.str x))]) := by
  have hl : x.cps.toList.length ≤ 16777216 := by rw [cps_len]; exact h
  have h2 : x.cps.size ≤ 16777216 := h
  simp [m_is_name, b_is_name, h]
  rw [if_pos h2, comp_signs x (fun c => decide (c ∈ letters.cps.toList)) [some (.fz (.str x)), none] rfl (fun c => ⟨_, by simp [inSign]; rfl, rfl⟩)]
  simp [signs_all, isNameB]
@[simp] theorem is_least_eq {i : Int} : m_is_least [.fz (.int i)] = some (.ok (.fz (.bl (decide (1 ≤ i) && decide (i ≤ 3)))) [some (.fz (.int i))]) := by
  simp [m_is_least, b_is_least]
@[simp] theorem is_weight_eq {i : Int} : m_is_weight [.fz (.int i)] = some (.ok (.fz (.bl (decide (1 ≤ i) && decide (i ≤ 9)))) [some (.fz (.int i))]) := by
  simp [m_is_weight, b_is_weight]
@[simp] theorem is_far_eq {i : Int} : m_is_far [.fz (.int i)] = some (.ok (.fz (.bl (decide ((if i < 0 then -i else i) ≤ 9)))) [some (.fz (.int i))]) := by
  simp [m_is_far, b_is_far]
theorem is_arrow_eq {r : List Int} {n : Int} : m_is_arrow [.fz (rowD r), .fz (.int n)] = some (.ok (.fz (.bl (isArrowB n r))) [some (.fz (rowD r)), some (.fz (.int n))]) := by
  by_cases hl : r.length = 4
  · match r, hl with
    | [a, b, l, w], _ => simp [m_is_arrow, b_is_arrow, rowD, isArrowB]
  · have hz : isArrowB n r = false := by
      unfold isArrowB
      split
      · simp at hl
      · rfl
    have h4 : ((r.length : Nat) : Int) ≠ 4 := by omega
    simp [m_is_arrow, b_is_arrow, rowD, h4, hz]
theorem is_saying_eq {r : List Int} {n : Int} : m_is_saying [.fz (rowD r), .fz (.int n)] = some (.ok (.fz (.bl (isSayingB n r))) [some (.fz (rowD r)), some (.fz (.int n))]) := by
  by_cases hl : r.length = 3
  · match r, hl with
    | [a, b, l], _ => simp [m_is_saying, b_is_saying, rowD, isSayingB]
  · have hz : isSayingB n r = false := by
      unfold isSayingB
      split
      · simp at hl
      · rfl
    have h4 : ((r.length : Nat) : Int) ≠ 3 := by omega
    simp [m_is_saying, b_is_saying, rowD, h4, hz]
def isWebB (w : Web) : Bool := (decide (w.names.length ≤ 40) && (decide (w.arrows.length ≤ 80) && decide (w.told.length ≤ 20))) && ((w.names.all isNameB && decide ((ddS w.names).length = w.names.length)) && ((w.arrows.all (isArrowB w.names.length)) && (w.told.all (isSayingB w.names.length))))
theorem is_web_eq {w : Web} (hn : ∀ x ∈ w.names, x.length ≤ 16777216) : m_is_web [.fz w.d] = some (.ok (.fz (.bl (isWebB w))) [some (.fz w.d)]) := by
  obtain ⟨ns, as, ts⟩ := w
  by_cases h1 : ns.length ≤ 40
  case neg =>
    have h1' : (40 : Int) < ns.length := by omega
    have hz : isWebB ⟨ns, as, ts⟩ = false := by simp [isWebB, h1]
    simp [m_is_web, b_is_web, Web.d, h1', hz]
  by_cases h2 : as.length ≤ 80
  case neg =>
    have h1' : ¬ (40 : Int) < ns.length := by omega
    have h2' : (80 : Int) < as.length := by omega
    have hz : isWebB ⟨ns, as, ts⟩ = false := by simp [isWebB, h2]
    simp [m_is_web, b_is_web, Web.d, h1', h2', hz]
  by_cases h3 : ts.length ≤ 20
  case neg =>
    have h1' : ¬ (40 : Int) < ns.length := by omega
    have h2' : ¬ (80 : Int) < as.length := by omega
    have h3' : (20 : Int) < ts.length := by omega
    have hz : isWebB ⟨ns, as, ts⟩ = false := by simp [isWebB, h3]
    simp [m_is_web, b_is_web, Web.d, h1', h2', h3', hz]
  have h1' : ¬ (40 : Int) < ns.length := by omega
  have h2' : ¬ (80 : Int) < as.length := by omega
  have h3' : ¬ (20 : Int) < ts.length := by omega
  have l1 : ns.length ≤ 16777216 := by omega
  have l2 : as.length ≤ 16777216 := by omega
  have l3 : ts.length ≤ 16777216 := by omega
  have l4 : ns.length ≤ 4000 := by omega
  simp [m_is_web, b_is_web, Web.d, h1', h2', h3', l1]
  rw [comp_list D.str (fun x => M.fz (.bl (isNameB x)))]
  case a => exact fun x hx => ⟨_, _, rfl, rfl, by simp [is_name_eq (hn x hx)]; rfl, rfl⟩
  simp [l4, strsD_map]
  cases hA : ns.all isNameB with
  | false => 
    have hz : isWebB ⟨ns, as, ts⟩ = false := by simp [isWebB, hA]
    simp [hz]
  | true =>
    by_cases hd : (ddS ns).length = ns.length
    case neg =>
      have hz : isWebB ⟨ns, as, ts⟩ = false := by simp [isWebB, hd]
      have hd' : ¬ ((ddS ns).length : Int) = ns.length := by omega
      simp [hz, hd']
    simp [hd, l2]
    rw [comp_list rowD (fun x => M.fz (.bl (isArrowB ns.length x)))]
    case a => exact fun x hx => ⟨_, _, rfl, rfl, by simp [is_arrow_eq]; rfl, rfl⟩
    simp [l3]
    rw [comp_list rowD (fun x => M.fz (.bl (isSayingB ns.length x)))]
    case a => exact fun x hx => ⟨_, _, rfl, rfl, by simp [is_saying_eq]; rfl, rfl⟩
    simp [isWebB, hA, hd, h1, h2, h3]
end Lw
set_option Elab.async false
set_option linter.all false
set_option maxRecDepth 100000
set_option maxHeartbeats 0
namespace Lw
open PySem L2 Ink
theorem enumD_zip {α : Type} (enc : α → D) : ∀ (xs : List α) (n : Nat), enumD (n : Int) (xs.map enc) = (xs.zipIdx n).map fun p => D.tup [.int (p.2 : Nat), enc p.1]
  | [], _ => rfl
  | x :: xs, n => by
    have ih := enumD_zip enc xs (n + 1)
    simp only [List.map_cons, enumD, List.zipIdx_cons]
    rw [← ih]
    rfl
theorem inTup {x : Str} {xs : List Str} : inM false (.fz (.str x)) (.fz (.tup (xs.map D.str))) = some (.fz (.bl (decide (x ∈ xs)))) := by
  have e : inB (.fz (.str x)) (.fz (.tup (xs.map D.str))) = some (decide (x ∈ xs)) := by
    unfold inB
    have h1 : (xs.map D.str).all flatD = true := by simp [flatD]
    have h2 : ((xs.map D.str).any fun e => eqD e (.str x)) = decide (x ∈ xs) := by
      induction xs with
      | nil => rfl
      | cons y ys ih =>
        have e0 : ∀ z : Str, eqD (.str z) (.str x) = (z == x) := fun _ => rfl
        simp only [List.map_cons, List.any_cons, e0]
        rw [ih (by simp [flatD])]
        by_cases h : y = x
        · simp [h]
        · have h' : ¬ x = y := fun e => h e.symm
          simp [h, h']
    split
    · rename_i e1 e2
      cases e2
    · rename_i d e1 e2
      cases e1
      simp only [seqD, h1, h2, flatD, if_true]
    · rename_i h4 h3
      exact (h4 _ rfl).elim
  simp only [inM, e]
  rfl
theorem ddS_len : ∀ (xs acc : List Str), acc.Nodup → (xs.foldl stepS acc).length ≤ acc.length + xs.length ∧ ((xs.foldl stepS acc).length = acc.length + xs.length ↔ (acc ++ xs).Nodup)
  | [], acc, h => by simp [h]
  | x :: xs, acc, h => by
    rw [List.foldl_cons]
    by_cases hx : x ∈ acc
    · have e : stepS acc x = acc := by
        unfold stepS
        rw [if_pos]
        simp only [List.any_eq_true, beq_iff_eq]
        exact ⟨x, hx, rfl⟩
      rw [e]
      obtain ⟨h1, h2⟩ := ddS_len xs acc h
      refine ⟨by simp only [List.length_cons]; omega, ⟨fun q => by simp only [List.length_cons] at q; omega, fun q => ?_⟩⟩
      rw [List.nodup_append] at q
      exact absurd rfl (q.2.2 x hx x (List.mem_cons_self ..))
    · have e : stepS acc x = acc ++ [x] := by
        unfold stepS
        rw [if_neg]
        simp only [List.any_eq_true, beq_iff_eq]
        rintro ⟨y, hy, rfl⟩
        exact hx hy
      rw [e]
      obtain ⟨h1, h2⟩ := ddS_len xs (acc ++ [x]) (by
        rw [List.nodup_append]
        exact ⟨h, by simp, fun a ha b hb => by simp at hb; subst hb; exact fun e => hx (e ▸ ha)⟩)
      simp only [List.length_append, List.length_cons, List.length_nil, List.append_assoc, List.cons_append, List.nil_append] at h1 h2 ⊢
      refine ⟨by omega, ?_⟩
      rw [← h2]
      omega
theorem ddS_nodup (xs : List Str) : (ddS xs).length = xs.length ↔ xs.Nodup := by
  have h := (ddS_len xs [] List.nodup_nil).2
  simpa [ddS] using h
theorem zip_nodup (xs : List Str) : (∀ p ∈ xs.zipIdx, p.1 ∉ xs.take p.2) ↔ xs.Nodup := by
  rw [List.nodup_iff_pairwise_ne, List.pairwise_iff_getElem]
  constructor
  · intro h i j hi hj hij e
    have hm : (xs[j], j) ∈ xs.zipIdx := by
      rw [List.mem_zipIdx_iff_getElem?]
      simp [hj]
    apply h _ hm
    simp only
    rw [← e, List.mem_iff_getElem]
    exact ⟨i, by simp; omega, by simp⟩
  · rintro h ⟨x, j⟩ hm hx
    rw [List.mem_zipIdx_iff_getElem?] at hm
    simp only at hm hx
    rw [List.mem_iff_getElem] at hx
    obtain ⟨i, hi, e⟩ := hx
    simp at hi e
    obtain ⟨hj, ej⟩ := List.getElem?_eq_some_iff.mp hm
    exact h i j (by omega) hj (by omega) (by rw [e, ej])
end Lw
set_option Elab.async false
set_option linter.all false
set_option maxRecDepth 100000
set_option maxHeartbeats 0
namespace Lw
open PySem L2 Ink
theorem bag_ok (ns : List Int) : ∃ b : Bag, m_law_bag [.fz (.scr ns)] = some (.ok b.m [some (.fz (.scr ns))]) := by
  have hl : (cutL ns none (some 63)).length ≤ 16777216 := by
    rw [cutL_to (by omega)]
    simp
    omega
  generalize hx : cutL ns none (some 63) = xs at hl
  simp [m_law_bag, b_law_bag, hx, hl]
  rw [comp_list D.int (fun n => M.fz (.int (if n < 0 then -n else n)))]
  case a => exact fun x hx => ⟨_, _, rfl, rfl, by simp; rfl, rfl⟩
  simp [hx]
  generalize hL : loopD _ _ _ _ = o
  have key : ∃ env', o = some (.nx env') ∧ ∃ o1 z, env' = [some (.fz (.scr ns)), o1, some (.lst (xs.map fun n => M.fz (.int (if n < 0 then -n else n)))), some (.fz (.int z))] := by
    rw [← hL]
    refine loop_list D.int (fun _ env => ∃ o1 z, env = [some (.fz (.scr ns)), o1, some (.lst (xs.map fun n => M.fz (.int (if n < 0 then -n else n)))), some (.fz (.int z))]) xs 0 _ ?_ ⟨_, _, rfl⟩
    rintro j y env hd ⟨o1, z, rfl⟩
    by_cases hy : y < 0
    · simp [hy, mulC_r]
    · simp [hy, mulC_r]
  obtain ⟨env1, e1, o1, z, rfl⟩ := key
  rw [e1]
  simp
  exact ⟨⟨xs.map fun n => if n < 0 then -n else n, 0, 0, z⟩, by simp [Bag.m]⟩
def tails : List Str := ["", "", "x", "box", "zzzzz", "a"]
def firstS (k : Nat) : Str := ⟨#[letters.cps.toList.getD (k % 26) 0]⟩ ++ repS "q" (k / 26)
def nameOf (k : Nat) (t : Str) : Str := cutS (firstS k ++ t) none (some 6)
def keyOf (x : Str) : Nat × Nat := (x.cps.toList.getD 0 0 - 97, if x.cps.toList.getD 1 0 = 113 then 1 else 0)
theorem names_all : ∀ k ∈ List.range 40, ∀ t ∈ tails, isNameB (nameOf k t) = true ∧ keyOf (nameOf k t) = (k % 26, k / 26) ∧ (firstS k).length + t.length ≤ 100 ∧ (firstS k ++ t).length ≤ 100 ∧ (repS "q" (k / 26)).length ≤ 100 := by decide +kernel
def NamesTo (k : Nat) (xs : List Str) : Prop := xs.length = k ∧ ∀ j x, xs[j]? = some x → ∃ t ∈ tails, x = nameOf j t
theorem NamesTo.nodup {k : Nat} {xs : List Str} (hk : k ≤ 40) (h : NamesTo k xs) : xs.Nodup := by
  rw [List.nodup_iff_pairwise_ne, List.pairwise_iff_getElem]
  intro i j hi hj hij e
  obtain ⟨t, ht, e1⟩ := h.2 i _ (List.getElem?_eq_getElem hi)
  obtain ⟨u, hu, e2⟩ := h.2 j _ (List.getElem?_eq_getElem hj)
  have hl := h.1
  have a1 := (names_all i (by simp; omega) t ht).2.1
  have a2 := (names_all j (by simp; omega) u hu).2.1
  rw [← e1, e, e2, a2] at a1
  injection a1 with p q
  omega
theorem NamesTo.names {k : Nat} {xs : List Str} (hk : k ≤ 40) (h : NamesTo k xs) : ∀ x ∈ xs, isNameB x = true := by
  intro x hx
  obtain ⟨i, hi, e⟩ := List.mem_iff_getElem.mp hx
  obtain ⟨t, ht, e1⟩ := h.2 i x (by rw [← e]; exact List.getElem?_eq_getElem hi)
  rw [e1]
  have hl := h.1
  exact (names_all i (by simp; omega) t ht).1
theorem NamesTo.next {k : Nat} {xs : List Str} {t : Str} (h : NamesTo k xs) (ht : t ∈ tails) : NamesTo (k + 1) (xs ++ [nameOf k t]) := by
  refine ⟨by simp [h.1], fun j x hx => ?_⟩
  by_cases hj : j < xs.length
  · rw [List.getElem?_append_left hj] at hx
    exact h.2 j x hx
  · rw [List.getElem?_append_right (by omega)] at hx
    obtain ⟨hl, e⟩ := List.getElem?_eq_some_iff.mp hx
    simp at hl e
    have : j = k := by have := h.1; omega
    subst this
    exact ⟨t, ht, e.symm⟩
def tailsM : M := .lst [.fz (.str ""), .fz (.str ""), .fz (.str "x"), .fz (.str "box"), .fz (.str "zzzzz"), .fz (.str "a")]
def NamesP (n : Nat) (xs : List Str) : Prop := ∃ ys, NamesTo n ys ∧ xs.Perm ys
theorem names_okP (b : Bag) (n : Nat) (hn : n ≤ 40) : ∃ (b' : Bag) (xs : List Str), (xs.length = n ∧ NamesP n xs) ∧ xs.Nodup ∧ (∀ x ∈ xs, isNameB x = true) ∧ m_law_names [b.m, .fz (.int (n : Nat))] = some (.ok (.fz (.tup (xs.map D.str))) [some b'.m, some (.fz (.int (n : Nat)))]) := by
  have hf : -4611686018427387904 ≤ (n : Int) ∧ (n : Int) < 4611686018427387904 := by omega
  simp [m_law_names, b_law_names, hf]
  generalize hL : loopD _ _ _ _ = o
  have key : ∃ env', o = some (.nx env') ∧ ∃ (b' : Bag) (xs : List Str) (o4 o5 : Option M), NamesTo n xs ∧ env' = [some b'.m, some (.fz (.int (n : Nat))), some (.lst (xs.map fun x => M.fz (.str x))), some tailsM, o4, o5, none] := by
    rw [← hL]
    refine loop_range (fun k env => ∃ (b' : Bag) (xs : List Str) (o4 o5 : Option M), NamesTo k xs ∧ env = [some b'.m, some (.fz (.int (n : Nat))), some (.lst (xs.map fun x => M.fz (.str x))), some tailsM, o4, o5, none]) n _ ?_ ⟨b, [], none, none, ⟨rfl, fun j x h => by simp at h⟩, rfl⟩
    rintro j env hj ⟨b', xs, o4, o5, hx, rfl⟩
    obtain ⟨y, hy, ey⟩ := atI_mem (xs := tails.map D.str) (i := pv b' 6) (pv_0 (by omega) (by omega)) (by have := pv_lt (b := b') (n := 6) (by omega) (by omega); simpa [tails] using this)
    simp only [List.mem_map] at hy
    obtain ⟨t, ht, rfl⟩ := hy
    obtain ⟨n1, n2, n3, n4, n5⟩ := names_all j (by simp; omega) t ht
    have hlt : j % 26 < letters.cps.toList.length := by
      have : letters.cps.toList.length = 26 := by decide +kernel
      omega
    obtain ⟨c0, hc0⟩ : ∃ c, letters.cps.toList[j % 26]? = some c := ⟨_, List.getElem?_eq_getElem hlt⟩
    have e1 : atI letters.cps.toList ((j : Int) % 26) = some c0 := by
      rw [show (j : Int) % 26 = ((j % 26 : Nat) : Int) by omega, Ink.atI_nat, hc0]
    have q1 : (Str.ofString "abcdefghijklmnopqrstuvwxyz").length = 26 := by decide +kernel
    have q2 : (Str.ofString "q").length = 1 := by decide +kernel
    have q3 : (0 : Int) ≤ (j : Int) / 26 := by omega
    have q4 : (j : Int) / 26 ≤ 1000 := by omega
    have q5 : ((j : Int) / 26).toNat = j / 26 := by omega
    have q6 : (⟨#[c0]⟩ : Str).length = 1 := rfl
    have q7 : 1 + (repS (Str.ofString "q") (j / 26)).length ≤ 16777216 := by
      have : (repS (Str.ofString "q") (j / 26)).length ≤ 100 := n5
      omega
    have q8 : (firstS j).length + t.length ≤ 16777216 := by omega
    have q9 : (firstS j ++ t).length ≤ 16777216 := by omega
    have q10 : (⟨#[c0]⟩ ++ repS (Str.ofString "q") (j / 26) : Str) = firstS j := by
      unfold firstS
      rw [List.getD_eq_getElem?_getD, hc0]
      rfl
    have q11 : xs.length < 16777216 := by have := hx.1; omega
    have ey' : atI [D.str (Str.ofString ""), D.str (Str.ofString ""), D.str (Str.ofString "x"), D.str (Str.ofString "box"), D.str (Str.ofString "zzzzz"), D.str (Str.ofString "a")] (pv b' 6) = some (D.str t) := ey
    simp [q1, e1, q2, q3, q4, q5, q6, q7, q10, tailsM, ey', q8, q9, q11]
    exact ⟨pb b' 6, xs ++ [nameOf j t], hx.next ht, rfl, by simp; rfl⟩
  obtain ⟨env1, e1, b1, xs, o4, o5, hx, rfl⟩ := key
  rw [e1]
  have fin : ∀ z : Int, 0 ≤ z → ((xs.drop z.toNat ++ xs.take z.toNat).length = n ∧ NamesP n (xs.drop z.toNat ++ xs.take z.toNat)) ∧ (xs.drop z.toNat ++ xs.take z.toNat).Nodup ∧ ∀ x ∈ xs.drop z.toNat ++ xs.take z.toNat, isNameB x = true := fun z hz => by
    have hp : (xs.drop z.toNat ++ xs.take z.toNat).Perm xs := by
      have := List.perm_append_comm (l₁ := xs.drop z.toNat) (l₂ := xs.take z.toNat)
      rwa [List.take_append_drop] at this
    exact ⟨⟨by rw [hp.length_eq]; exact hx.1, xs, hx, hp⟩, hp.nodup_iff.mpr (hx.nodup hn), fun x h => hx.names hn x (hp.mem_iff.mp h)⟩
  have hl : xs.length ≤ 40 := by rw [hx.1]; exact hn
  have mx : ∃ k : Int, 0 < k ∧ k < 1208925819614629174706176 ∧ maxM (.fz (.int 1)) (.fz (.int (n : Nat))) = some (.fz (.int k)) := by
    exact ⟨if (1 : Int) < n then n else 1, by split <;> omega, by split <;> omega, ev_max⟩
  obtain ⟨k, hk, hk2, ek⟩ := mx
  rw [ev_max] at ek
  injection ek with ek
  injection ek with ek
  injection ek with ek
  have h0 := pv_0 (b := b1) hk hk2
  have hs : (cutL (xs.map D.str) (some (pv b1 k)) none).length + (cutL (xs.map D.str) none (some (pv b1 k))).length ≤ 16777216 := by
    rw [cutL_from h0, cutL_to h0]
    simp
    omega
  simp [ek, hk, hk2, hs]
  refine ⟨pb b1 k, _, (fin _ h0).1, (fin _ h0).2.1, (fin _ h0).2.2, ?_, rfl⟩
  rw [cutL_from h0, cutL_to h0]
  simp
end Lw
set_option Elab.async false
set_option linter.all false
set_option maxRecDepth 100000
set_option maxHeartbeats 0
namespace Lw
open PySem L2 Ink
theorem arrow_made {m a b l w : Int} (h1 : 0 ≤ a) (h2 : a < m) (h3 : 0 ≤ b) (h4 : b < m) (h5 : 1 ≤ l) (h6 : l ≤ 3) (h7 : 1 ≤ w) (h8 : w ≤ 9) : isArrowB m [a, b, l, w] = true := by
  simp [isArrowB, *]
theorem saying_made {m a b l : Int} (h1 : 0 ≤ a) (h2 : a < m) (h3 : 0 ≤ b) (h4 : b < m) (h5 : a ≠ b) (h6 : -9 ≤ l) (h7 : l ≤ 9) : isSayingB m [a, b, l] = true := by
  have q : (if l < 0 then -l else l) ≤ 9 := by split <;> omega
  simp [isSayingB, *]
def dwE (b : Bag) (x1 x2 x3 m : Int) (rows : List (List Int)) (o6 o7 o8 o9 : Option M) : E := [some b.m, some (.fz (.int x1)), some (.fz (.int x2)), some (.fz (.int x3)), some (.fz (.int m)), some (.lst (rows.map fun r => M.fz (rowD r))), o6, o7, o8, o9]
theorem drawn_okP (b : Bag) (x1 x2 x3 : Nat) (h1 : 1 ≤ x1) (h1' : x1 ≤ 40) (h2 : x2 ≤ 80) (h3 : x3 ≤ 20) : ∃ (b' : Bag) (w : Web), (isWebB w = true ∧ NamesP w.names.length w.names) ∧ w.names.length ≤ x1 ∧ w.arrows.length ≤ x2 ∧ w.told.length ≤ x3 ∧
    m_law_drawn_web [b.m, .fz (.int (x1 : Nat)), .fz (.int (x2 : Nat)), .fz (.int (x3 : Nat))] = some (.ok (.fz w.d) [some b'.m, some (.fz (.int (x1 : Nat))), some (.fz (.int (x2 : Nat))), some (.fz (.int (x3 : Nat)))]) := by
  simp only [m_law_drawn_web, b_law_drawn_web, ev_fnM, ev_seqS]
  generalize hS : asgS _ (nmG 4) _ = o
  have key : ∃ (b' : Bag) (m : Nat), m ≤ x1 ∧ o = some (.nx [some b'.m, some (.fz (.int (x1 : Nat))), some (.fz (.int (x2 : Nat))), some (.fz (.int (x3 : Nat))), some (.fz (.int (m : Nat))), none, none, none, none, none]) := by
    have p1 : (0 : Int) < (x1 : Nat) := by omega
    have p2 : ((x1 : Nat) : Int) < 1208925819614629174706176 := by omega
    have p3 : 0 < x1 := h1
    have p4 : x1 < 1208925819614629174706176 := by omega
    have q0 := pv_0 (b := b) p1 p2
    have q1 := pv_lt (b := b) p1 p2
    rw [← hS]
    by_cases h20 : pv (pb b (x1 : Nat)) 20 = 0
    · refine ⟨pb (pb b (x1 : Nat)) 20, 0, by omega, ?_⟩
      simp [p1, p2, p3, p4, h20]
    · refine ⟨pb (pb b (x1 : Nat)) 20, (1 + pv b (x1 : Nat)).toNat, by omega, ?_⟩
      have e : (((1 + pv b (x1 : Nat)).toNat : Nat) : Int) = 1 + pv b (x1 : Nat) := by omega
      rw [e]
      simp [p1, p2, p3, p4, h20]
  obtain ⟨b1, m, hm, rfl⟩ := key
  clear hS
  simp [-ev_rng1]
  generalize hR : rng1 _ _ = r
  have key : ∃ (b' : Bag) (c : Nat), c ≤ x2 ∧ (0 < c → 0 < m) ∧ r = some (.ok (rangeD 0 (c : Nat)) (dwE b' x1 x2 x3 m [] none none none none)) := by
    have p1 : (0 : Int) < (x2 : Nat) + 1 := by omega
    have p2 : ((x2 : Nat) : Int) + 1 < 1208925819614629174706176 := by omega
    have q0 := pv_0 (b := b1) p1 p2
    have q1 := pv_lt (b := b1) p1 p2
    rw [← hR]
    by_cases hm0 : 0 < m
    · have hm0' : 0 < (m : Int) := by omega
      have f1 : -4611686018427387904 ≤ pv b1 ((x2 : Nat) + 1) ∧ pv b1 ((x2 : Nat) + 1) < 4611686018427387904 := by omega
      refine ⟨pb b1 ((x2 : Nat) + 1), (pv b1 ((x2 : Nat) + 1)).toNat, by omega, fun _ => hm0, ?_⟩
      have e : (((pv b1 ((x2 : Nat) + 1)).toNat : Nat) : Int) = pv b1 ((x2 : Nat) + 1) := by omega
      rw [e]
      simp [p1, p2, hm0', hm0, mulC_r, f1, dwE]
    · have hm1 : m = 0 := by omega
      subst hm1
      refine ⟨pb b1 ((x2 : Nat) + 1), 0, by omega, fun h => by omega, ?_⟩
      simp [p1, p2, mulC_r, dwE]
  obtain ⟨b2, c, hc, hcm, rfl⟩ := key
  clear hR
  simp [-ev_rng1]
  generalize hL : loopD _ _ _ _ = o
  have key : ∃ env', o = some (.nx env') ∧ ∃ (b' : Bag) (rows : List (List Int)) (o6 o7 o8 : Option M), rows.length = c ∧ (∀ r ∈ rows, isArrowB (m : Nat) r = true) ∧ env' = dwE b' x1 x2 x3 m rows o6 o7 o8 none := by
    rw [← hL]
    refine loop_range (fun k env => ∃ (b' : Bag) (rows : List (List Int)) (o6 o7 o8 : Option M), rows.length = k ∧ (∀ r ∈ rows, isArrowB (m : Nat) r = true) ∧ env = dwE b' x1 x2 x3 m rows o6 o7 o8 none) c _ ?_ ⟨b2, [], none, none, none, rfl, fun r h => by simp at h, rfl⟩
    rintro j env hj ⟨b3, rows, o6, o7, o8, hl, hr, rfl⟩
    have m0 : 0 < m := hcm (by omega)
    have m1 : 0 < (m : Int) := by omega
    have m2 : (m : Int) < 1208925819614629174706176 := by omega
    have m3 : m < 1208925819614629174706176 := by omega
    have hl2 : rows.length < 16777216 := by omega
    have a0 := pv_0 (b := b3) m1 m2
    have a1 := pv_lt (b := b3) m1 m2
    have c0 := pv_0 (b := pb b3 m) m1 m2
    have c1 := pv_lt (b := pb b3 m) m1 m2
    generalize e1 : pv b3 m = one at a0 a1
    generalize e2 : pv (pb b3 m) m = other at c0 c1
    generalize eB : pb (pb (pb b3 m) m) 3 = b4
    have t0 := pv_0 (b := b4) (n := 2) (by omega) (by omega)
    have t1 := pv_lt (b := b4) (n := 2) (by omega) (by omega)
    have done : ∀ (k a b : Int), 0 < k → k ≤ 3 → 0 ≤ a → a < m → 0 ≤ b → b < m → ∃ (b' : Bag) (rows' : List (List Int)), rows'.length = j + 1 ∧ (∀ r ∈ rows', isArrowB (m : Nat) r = true) ∧ (pb (pb (pb b4 2) k) 9).m = b'.m ∧
        (rows.map fun r => M.fz (rowD r)) ++ [M.fz (.tup [.int a, .int b, .int (1 + pv (pb b4 2) k), .int (1 + pv (pb (pb b4 2) k) 9)])] = rows'.map fun r => M.fz (rowD r) := fun k a b k0 k3 ha ha2 hb hb2 => by
      have u0 := pv_0 (b := pb b4 2) k0 (by omega)
      have u1 := pv_lt (b := pb b4 2) k0 (by omega)
      have v0 := pv_0 (b := pb (pb b4 2) k) (n := 9) (by omega) (by omega)
      have v1 := pv_lt (b := pb (pb b4 2) k) (n := 9) (by omega) (by omega)
      refine ⟨_, rows ++ [[a, b, 1 + pv (pb b4 2) k, 1 + pv (pb (pb b4 2) k) 9]], by simp [hl], fun r hm => ?_, rfl, by simp [rowD]⟩
      rcases List.mem_append.mp hm with h | h
      · exact hr r h
      · simp at h
        subst h
        exact arrow_made ha ha2 hb hb2 (by omega) (by omega) (by omega) (by omega)
    have mn0 : 0 ≤ (if other < one then other else one) ∧ (if other < one then other else one) < m := by split <;> omega
    have mx0 : 0 ≤ (if one < other then other else one) ∧ (if one < other then other else one) < m := by split <;> omega
    by_cases h3 : 0 < pv (pb (pb b3 m) m) 3
    · rcases (show pv b4 2 = 0 ∨ pv b4 2 = 1 by omega) with h | h
      · simp [dwE, m0, m1, m2, m3, e1, e2, eB, h3, h, hl2]
        exact done 1 _ _ (by omega) (by omega) mn0.1 mn0.2 mx0.1 mx0.2
      · simp [dwE, m0, m1, m2, m3, e1, e2, eB, h3, h, hl2]
        exact done 3 _ _ (by omega) (by omega) mn0.1 mn0.2 mx0.1 mx0.2
    · rcases (show pv b4 2 = 0 ∨ pv b4 2 = 1 by omega) with h | h
      · simp [dwE, m0, m1, m2, m3, e1, e2, eB, h3, h, hl2]
        exact done 1 _ _ (by omega) (by omega) a0 a1 c0 c1
      · simp [dwE, m0, m1, m2, m3, e1, e2, eB, h3, h, hl2]
        exact done 3 _ _ (by omega) (by omega) a0 a1 c0 c1
  obtain ⟨env1, e1, b3, rows, o6, o7, o8, hl, hr, rfl⟩ := key
  subst e1
  clear hL
  simp [-ev_rng1, dwE]
  generalize hR : rng1 _ _ = r
  have key : ∃ (b' : Bag) (d : Nat), d ≤ x3 ∧ (0 < d → 1 < m) ∧ r = some (.ok (rangeD 0 (d : Nat)) (dwE b' x1 x2 x3 m rows o6 o7 o8 (some (.lst [])))) := by
    have p1 : (0 : Int) < (x3 : Nat) + 1 := by omega
    have p2 : ((x3 : Nat) : Int) + 1 < 1208925819614629174706176 := by omega
    have q0 := pv_0 (b := b3) p1 p2
    have q1 := pv_lt (b := b3) p1 p2
    rw [← hR]
    by_cases hm0 : 1 < m
    · have hm0' : 1 < (m : Int) := by omega
      have f1 : -4611686018427387904 ≤ pv b3 ((x3 : Nat) + 1) ∧ pv b3 ((x3 : Nat) + 1) < 4611686018427387904 := by omega
      refine ⟨pb b3 ((x3 : Nat) + 1), (pv b3 ((x3 : Nat) + 1)).toNat, by omega, fun _ => hm0, ?_⟩
      have e : (((pv b3 ((x3 : Nat) + 1)).toNat : Nat) : Int) = pv b3 ((x3 : Nat) + 1) := by omega
      rw [e]
      simp [p1, p2, hm0', hm0, mulC_r, f1, dwE]
    · have hm1 : ¬ 1 < (m : Int) := by omega
      refine ⟨pb b3 ((x3 : Nat) + 1), 0, by omega, fun h => by omega, ?_⟩
      simp [p1, p2, mulC_r, dwE, hm0, hm1]
  obtain ⟨b4, d, hd, hdm, rfl⟩ := key
  clear hR
  simp
  generalize hL : loopD _ _ _ _ = o
  have key : ∃ env', o = some (.nx env') ∧ ∃ (b' : Bag) (told : List (List Int)) (o6 o7 o8 : Option M), told.length = d ∧ (∀ r ∈ told, isSayingB (m : Nat) r = true) ∧ env' = dwE b' x1 x2 x3 m rows o6 o7 o8 (some (.lst (told.map fun r => M.fz (rowD r)))) := by
    rw [← hL]
    refine loop_range (fun k env => ∃ (b' : Bag) (told : List (List Int)) (o6 o7 o8 : Option M), told.length = k ∧ (∀ r ∈ told, isSayingB (m : Nat) r = true) ∧ env = dwE b' x1 x2 x3 m rows o6 o7 o8 (some (.lst (told.map fun r => M.fz (rowD r))))) d _ ?_ ⟨b4, [], _, _, _, rfl, fun r h => by simp at h, rfl⟩
    rintro j env hj ⟨b5, told, o6, o7, o8, hl, hr, rfl⟩
    have m0 : 1 < m := hdm (by omega)
    have m1 : 0 < (m : Int) := by omega
    have m1' : 0 < m := by omega
    have m2 : (m : Int) < 1208925819614629174706176 := by omega
    have m3 : m < 1208925819614629174706176 := by omega
    have m4 : 0 < (m : Int) - 1 := by omega
    have m5 : (m : Int) - 1 < 1208925819614629174706176 := by omega
    have hl2 : told.length < 16777216 := by omega
    have a0 := pv_0 (b := b5) m1 m2
    have a1 := pv_lt (b := b5) m1 m2
    have c0 := pv_0 (b := pb b5 m) m4 m5
    have c1 := pv_lt (b := pb b5 m) m4 m5
    have pm := pull_eq (b := pb b5 m) m4 m5
    generalize e1 : pv b5 m = one at a0 a1
    generalize e2 : pv (pb b5 m) (m - 1) = p at c0 c1 pm
    generalize eB : pb (pb b5 m) (m - 1) = b6 at pm
    have u0 := pv_0 (b := b6) (n := 19) (by omega) (by omega)
    have u1 := pv_lt (b := b6) (n := 19) (by omega) (by omega)
    have t0 := pv_0 (b := pb b6 19) (n := 8) (by omega) (by omega)
    have t1 := pv_lt (b := pb b6 19) (n := 8) (by omega) (by omega)
    obtain ⟨x, hx, ex⟩ := atI_mem (xs := [D.int (-9), D.int (-2), D.int (-1), D.int 0, D.int 0, D.int 1, D.int 2, D.int (pv b6 19 - 9)]) (i := pv (pb b6 19) 8) t0 (by simpa using t1)
    obtain ⟨y, rfl, y1, y2⟩ : ∃ y, x = D.int y ∧ -9 ≤ y ∧ y ≤ 9 := by
      simp at hx
      rcases hx with h | h | h | h | h | h | h <;> exact ⟨_, h, by omega, by omega⟩
    have o0 := Int.emod_nonneg (one + 1 + p) (show (m : Int) ≠ 0 by omega)
    have o1 := Int.emod_lt_of_pos (one + 1 + p) m1
    have o2 : one ≠ (one + 1 + p) % m := by
      by_cases h : one + 1 + p < m
      · rw [Int.emod_eq_of_lt (by omega) h]
        omega
      · have e : (one + 1 + p) % m = one + 1 + p - m := by
          rw [← Int.sub_emod_right, Int.emod_eq_of_lt (by omega) (by omega)]
        omega
    simp [dwE, m0, m1, m1', m2, m3, pm, e1, ex, hl2]
    refine ⟨pb (pb b6 19) 8, told ++ [[one, (one + 1 + p) % m, y]], by simp [hl], fun r hm => ?_, rfl, by simp [rowD]⟩
    rcases List.mem_append.mp hm with h | h
    · exact hr r h
    · simp at h
      subst h
      exact saying_made a0 a1 o0 o1 o2 y1 y2
  obtain ⟨env1, e1, b5, told, o6, o7, o8, hl3, hr3, rfl⟩ := key
  subst e1
  clear hL
  obtain ⟨b6, xs, ⟨n1, nP⟩, n2, n3, en⟩ := names_okP b5 m (by omega)
  simp [dwE, en]
  refine ⟨b6, ⟨xs, rows, told⟩, ⟨?_, by simpa [n1] using nP⟩, by simpa [n1] using hm, by simpa [hl] using hc, by simpa [hl3] using hd, rfl, rfl⟩
  have z := (ddS_nodup xs).mpr n2
  simp only [isWebB, z, n1, hl, hl3, Bool.and_eq_true, decide_eq_true_eq, List.all_eq_true]
  exact ⟨⟨by omega, by omega, by omega⟩, ⟨n3, trivial⟩, hr, hr3⟩
theorem drawn_ok (b : Bag) (x1 x2 x3 : Nat) (h1 : 1 ≤ x1) (h1' : x1 ≤ 40) (h2 : x2 ≤ 80) (h3 : x3 ≤ 20) : ∃ (b' : Bag) (w : Web), isWebB w = true ∧ w.names.length ≤ x1 ∧ w.arrows.length ≤ x2 ∧ w.told.length ≤ x3 ∧
    m_law_drawn_web [b.m, .fz (.int (x1 : Nat)), .fz (.int (x2 : Nat)), .fz (.int (x3 : Nat))] = some (.ok (.fz w.d) [some b'.m, some (.fz (.int (x1 : Nat))), some (.fz (.int (x2 : Nat))), some (.fz (.int (x3 : Nat)))]) := by
  obtain ⟨b', w, ⟨hw, _⟩, h⟩ := drawn_okP b x1 x2 x3 h1 h1' h2 h3
  exact ⟨b', w, hw, h⟩
end Lw
set_option Elab.async false
set_option linter.all false
set_option maxRecDepth 100000
set_option maxHeartbeats 0
namespace Lw
open PySem L2 Ink
def nmOk (ns : List Str) (p : Str × Nat) : Bool := (isNameB p.1) && !decide (p.1 ∈ ns.take p.2)
theorem inTake {x : Str} {xs : List Str} {i : Nat} : inM false (.fz (.str x)) (.fz (.tup ((xs.map D.str).take i))) = some (.fz (.bl (decide (x ∈ xs.take i)))) := by
  rw [← List.map_take]
  exact inTup
def gwE (ns : List Str) (as ts : List (List Int)) (o5 o6 o7 : Option M) : E := [some (.fz (D.tup [D.tup (List.map D.str ns), D.tup (List.map rowD as), D.tup (List.map rowD ts)])), some (.fz (.tup (ns.map D.str))), some (.fz (.tup (as.map rowD))), some (.fz (.tup (ts.map rowD))), some (.fz (.int (ns.length : Nat))), o5, o6, o7, none]
theorem zip_all (ns : List Str) : ns.zipIdx.all (nmOk ns) = (ns.all isNameB && decide ((ddS ns).length = ns.length)) := by
  rw [Bool.eq_iff_iff]
  simp only [List.all_eq_true, Bool.and_eq_true, decide_eq_true_eq, ddS_nodup, ← zip_nodup, nmOk, Bool.not_eq_true', decide_eq_false_iff_not]
  constructor
  · intro h
    refine ⟨fun x hx => ?_, fun p hp => (h p hp).2⟩
    obtain ⟨i, hi, e⟩ := List.mem_iff_getElem.mp hx
    exact (h (x, i) (by rw [List.mem_zipIdx_iff_getElem?]; simp [hi, e])).1
  · rintro ⟨h1, h2⟩ p hp
    refine ⟨h1 _ ?_, h2 p hp⟩
    rw [List.mem_zipIdx_iff_getElem?] at hp
    exact List.mem_of_getElem? hp
theorem good_web_eq {w : Web} (hn : ∀ x ∈ w.names, x.length ≤ 16777216) (hl : w.names.length ≤ 16777216) : m_law_good_web [.fz w.d] = some (.ok (.fz (.bl (isWebB w))) [some (.fz w.d)]) := by
  obtain ⟨ns, as, ts⟩ := w
  by_cases h1 : ns.length ≤ 40
  case neg =>
    have h1' : (40 : Int) < ns.length := by omega
    have hz : isWebB ⟨ns, as, ts⟩ = false := by simp [L_law_good_web_1, L_law_good_web_2, L_law_good_web_3, K_law_good_web_1, isWebB, h1]
    simp [L_law_good_web_1, L_law_good_web_2, L_law_good_web_3, K_law_good_web_1, m_law_good_web, b_law_good_web, Web.d, h1', hz]
  by_cases h2 : as.length ≤ 80
  case neg =>
    have h1' : ¬ (40 : Int) < ns.length := by omega
    have h2' : (80 : Int) < as.length := by omega
    have hz : isWebB ⟨ns, as, ts⟩ = false := by simp [L_law_good_web_1, L_law_good_web_2, L_law_good_web_3, K_law_good_web_1, isWebB, h2]
    simp [L_law_good_web_1, L_law_good_web_2, L_law_good_web_3, K_law_good_web_1, m_law_good_web, b_law_good_web, Web.d, h1', h2', hz]
  by_cases h3 : ts.length ≤ 20
  case neg =>
    have h1' : ¬ (40 : Int) < ns.length := by omega
    have h2' : ¬ (80 : Int) < as.length := by omega
    have h3' : (20 : Int) < ts.length := by omega
    have hz : isWebB ⟨ns, as, ts⟩ = false := by simp [L_law_good_web_1, L_law_good_web_2, L_law_good_web_3, K_law_good_web_1, isWebB, h3]
    simp [L_law_good_web_1, L_law_good_web_2, L_law_good_web_3, K_law_good_web_1, m_law_good_web, b_law_good_web, Web.d, h1', h2', h3', hz]
  have h1' : ¬ (40 : Int) < ns.length := by omega
  have h2' : ¬ (80 : Int) < as.length := by omega
  have h3' : ¬ (20 : Int) < ts.length := by omega
  simp [L_law_good_web_1, L_law_good_web_2, L_law_good_web_3, K_law_good_web_1, m_law_good_web, b_law_good_web, Web.d, h1', h2', h3']
  have ez : enumD 0 (ns.map D.str) = _ := enumD_zip D.str ns 0
  rw [ez]
  generalize hL : loopD _ _ _ _ = o
  have key : ∃ env', o = sel (ns.zipIdx.all (nmOk ns)) (some (.nx env')) (some (.rt (.fz (.bl false)) env')) ∧ ∃ o5 o6, env' = gwE ns as ts o5 o6 none := by
    rw [← hL]
    refine loop_listAll (fun p : Str × Nat => D.tup [.int (p.2 : Nat), .str p.1]) _ (nmOk ns) _ _ _ ?_ ⟨none, none, rfl⟩
    rintro ⟨x, i⟩ env hx ⟨o5, o6, rfl⟩
    have hx1 : x ∈ ns := by
      rw [List.mem_zipIdx_iff_getElem?] at hx
      exact List.mem_of_getElem? hx
    have hxl := hn x hx1
    have h2 : x.cps.size ≤ 16777216 := hxl
    refine ⟨gwE ns as ts (some (.fz (.int (i : Nat)))) (some (.fz (.str x))) none, gwE ns as ts (some (.fz (.int (i : Nat)))) (some (.fz (.str x))) none, by simp [L_law_good_web_1, L_law_good_web_2, L_law_good_web_3, K_law_good_web_1, gwE], ?_, _, _, rfl⟩
    simp [L_law_good_web_1, L_law_good_web_2, L_law_good_web_3, K_law_good_web_1, hxl, cutL_to, inTake, gwE]
    by_cases b1 : (1 : Int) ≤ x.length
    case neg => simp [L_law_good_web_1, L_law_good_web_2, L_law_good_web_3, K_law_good_web_1, b1, nmOk, isNameB]
    by_cases b2 : (x.length : Int) ≤ 6
    case neg => simp [L_law_good_web_1, L_law_good_web_2, L_law_good_web_3, K_law_good_web_1, b1, b2, nmOk, isNameB]
    by_cases b3 : x ∈ ns.take i
    case pos => simp [L_law_good_web_1, L_law_good_web_2, L_law_good_web_3, K_law_good_web_1, b1, b2, b3, nmOk]
    simp [L_law_good_web_1, L_law_good_web_2, L_law_good_web_3, K_law_good_web_1, b1, b2, b3, h2]
    rw [comp_signs x (fun c => decide (c ∈ letters.cps.toList))]
    case hw => rfl
    case h => exact fun c => ⟨_, by simp [L_law_good_web_1, L_law_good_web_2, L_law_good_web_3, K_law_good_web_1, inSign]; rfl, rfl⟩
    simp [L_law_good_web_1, L_law_good_web_2, L_law_good_web_3, K_law_good_web_1, signs_all, kIf_b, nmOk, isNameB, b1, b2, b3]
    generalize (x.cps.all fun c => decide (c ∈ (Str.ofString "abcdefghijklmnopqrstuvwxyz").cps)) = z
    cases z <;> rfl
  obtain ⟨env1, e1, o5, o6, rfl⟩ := key
  rw [e1]
  rw [zip_all]
  cases hA : (ns.all isNameB && decide ((ddS ns).length = ns.length)) with
  | false => 
    have hz : isWebB ⟨ns, as, ts⟩ = false := by simp only [isWebB, hA]; simp
    simp [L_law_good_web_1, L_law_good_web_2, L_law_good_web_3, K_law_good_web_1, gwE, hz]
  | true =>
  simp [L_law_good_web_1, L_law_good_web_2, L_law_good_web_3, K_law_good_web_1, gwE]
  generalize hL : loopD _ _ _ _ = o
  have key : ∃ env', o = sel (as.all (isArrowB ns.length)) (some (.nx env')) (some (.rt (.fz (.bl false)) env')) ∧ ∃ o7, env' = gwE ns as ts o5 o6 o7 := by
    rw [← hL]
    refine loop_listAll rowD _ (isArrowB ns.length) _ _ _ ?_ ⟨none, rfl⟩
    rintro r env hx ⟨o7, rfl⟩
    refine ⟨gwE ns as ts o5 o6 (some (.fz (rowD r))), gwE ns as ts o5 o6 (some (.fz (rowD r))), by simp [L_law_good_web_1, L_law_good_web_2, L_law_good_web_3, K_law_good_web_1, gwE], ?_, _, rfl⟩
    by_cases hl : r.length = 4
    · match r, hl with
      | [a, b, l, w], _ =>
        by_cases b1 : 0 ≤ a
        case neg => simp [L_law_good_web_1, L_law_good_web_2, L_law_good_web_3, K_law_good_web_1, gwE, rowD, b1, isArrowB]
        by_cases b2 : a < (ns.length : Int)
        case neg => simp [L_law_good_web_1, L_law_good_web_2, L_law_good_web_3, K_law_good_web_1, gwE, rowD, b1, b2, isArrowB]
        by_cases b3 : 0 ≤ b
        case neg => simp [L_law_good_web_1, L_law_good_web_2, L_law_good_web_3, K_law_good_web_1, gwE, rowD, b1, b2, b3, isArrowB]
        by_cases b4 : b < (ns.length : Int)
        case neg => simp [L_law_good_web_1, L_law_good_web_2, L_law_good_web_3, K_law_good_web_1, gwE, rowD, b1, b2, b3, b4, isArrowB]
        by_cases b5 : 1 ≤ l
        case neg => simp [L_law_good_web_1, L_law_good_web_2, L_law_good_web_3, K_law_good_web_1, gwE, rowD, b1, b2, b3, b4, b5, isArrowB]
        by_cases b6 : l ≤ 3
        case neg => simp [L_law_good_web_1, L_law_good_web_2, L_law_good_web_3, K_law_good_web_1, gwE, rowD, b1, b2, b3, b4, b5, b6, isArrowB]
        by_cases b7 : 1 ≤ w
        case neg => simp [L_law_good_web_1, L_law_good_web_2, L_law_good_web_3, K_law_good_web_1, gwE, rowD, b1, b2, b3, b4, b5, b6, b7, isArrowB]
        by_cases b8 : w ≤ 9
        case neg => simp [L_law_good_web_1, L_law_good_web_2, L_law_good_web_3, K_law_good_web_1, gwE, rowD, b1, b2, b3, b4, b5, b6, b7, b8, isArrowB]
        simp [L_law_good_web_1, L_law_good_web_2, L_law_good_web_3, K_law_good_web_1, gwE, rowD, b1, b2, b3, b4, b5, b6, b7, b8, isArrowB]
    · have hz : isArrowB ns.length r = false := by
        unfold isArrowB
        split
        · simp at hl
        · rfl
      have h4 : ((r.length : Nat) : Int) ≠ 4 := by omega
      simp [L_law_good_web_1, L_law_good_web_2, L_law_good_web_3, K_law_good_web_1, gwE, rowD, h4, hz]
  obtain ⟨env1, e1, o7, rfl⟩ := key
  rw [e1]
  cases hB : as.all (isArrowB ns.length) with
  | false => 
    have hz : isWebB ⟨ns, as, ts⟩ = false := by simp only [isWebB, hB]; simp
    simp [L_law_good_web_1, L_law_good_web_2, L_law_good_web_3, K_law_good_web_1, gwE, hz]
  | true =>
  simp [L_law_good_web_1, L_law_good_web_2, L_law_good_web_3, K_law_good_web_1, gwE]
  generalize hL : loopD _ _ _ _ = o
  have key : ∃ env', o = sel (ts.all (isSayingB ns.length)) (some (.nx env')) (some (.rt (.fz (.bl false)) env')) ∧ ∃ o7, env' = gwE ns as ts o5 o6 o7 := by
    rw [← hL]
    refine loop_listAll rowD _ (isSayingB ns.length) _ _ _ ?_ ⟨o7, rfl⟩
    rintro r env hx ⟨o7, rfl⟩
    refine ⟨gwE ns as ts o5 o6 (some (.fz (rowD r))), gwE ns as ts o5 o6 (some (.fz (rowD r))), by simp [L_law_good_web_1, L_law_good_web_2, L_law_good_web_3, K_law_good_web_1, gwE], ?_, _, rfl⟩
    by_cases hl : r.length = 3
    · match r, hl with
      | [a, b, l], _ =>
        by_cases b1 : 0 ≤ a
        case neg => simp [L_law_good_web_1, L_law_good_web_2, L_law_good_web_3, K_law_good_web_1, gwE, rowD, b1, isSayingB]
        by_cases b2 : a < (ns.length : Int)
        case neg => simp [L_law_good_web_1, L_law_good_web_2, L_law_good_web_3, K_law_good_web_1, gwE, rowD, b1, b2, isSayingB]
        by_cases b3 : 0 ≤ b
        case neg => simp [L_law_good_web_1, L_law_good_web_2, L_law_good_web_3, K_law_good_web_1, gwE, rowD, b1, b2, b3, isSayingB]
        by_cases b4 : b < (ns.length : Int)
        case neg => simp [L_law_good_web_1, L_law_good_web_2, L_law_good_web_3, K_law_good_web_1, gwE, rowD, b1, b2, b3, b4, isSayingB]
        by_cases b5 : a = b
        case pos => simp [L_law_good_web_1, L_law_good_web_2, L_law_good_web_3, K_law_good_web_1, gwE, rowD, b1, b2, b3, b4, b5, isSayingB]
        by_cases b6 : -9 ≤ l
        case neg =>
          have q : ¬ (if l < 0 then -l else l) ≤ 9 := by split <;> omega
          simp [L_law_good_web_1, L_law_good_web_2, L_law_good_web_3, K_law_good_web_1, gwE, rowD, b1, b2, b3, b4, b5, b6, q, isSayingB]
        by_cases b7 : l ≤ 9
        case neg =>
          have q : ¬ (if l < 0 then -l else l) ≤ 9 := by split <;> omega
          simp [L_law_good_web_1, L_law_good_web_2, L_law_good_web_3, K_law_good_web_1, gwE, rowD, b1, b2, b3, b4, b5, b6, b7, q, isSayingB]
        have q : (if l < 0 then -l else l) ≤ 9 := by split <;> omega
        simp [L_law_good_web_1, L_law_good_web_2, L_law_good_web_3, K_law_good_web_1, gwE, rowD, b1, b2, b3, b4, b5, b6, b7, q, isSayingB]
    · have hz : isSayingB ns.length r = false := by
        unfold isSayingB
        split
        · simp at hl
        · rfl
      have h4 : ((r.length : Nat) : Int) ≠ 3 := by omega
      simp [L_law_good_web_1, L_law_good_web_2, L_law_good_web_3, K_law_good_web_1, gwE, rowD, h4, hz]
  obtain ⟨env1, e1, o7', rfl⟩ := key
  rw [e1]
  cases hC : ts.all (isSayingB ns.length) with
  | false => 
    have hz : isWebB ⟨ns, as, ts⟩ = false := by simp only [isWebB, hC]; simp
    simp [L_law_good_web_1, L_law_good_web_2, L_law_good_web_3, K_law_good_web_1, gwE, hz]
  | true =>
    have hz : isWebB ⟨ns, as, ts⟩ = true := by simp only [isWebB, hA, hB, hC, h1, h2, h3]; simp
    simp [L_law_good_web_1, L_law_good_web_2, L_law_good_web_3, K_law_good_web_1, gwE, hz]
theorem odd_ok (b : Bag) (n : Int) : ∃ (b' : Bag) (r : Int), m_law_odd [b.m, .fz (.int n)] = some (.ok (.fz (.int r)) [some b'.m, some (.fz (.int n))]) := by
  simp [m_law_odd, b_law_odd]
  have h0 := pv_0 (b := pb b 12) (n := 9) (by omega) (by omega)
  have h1 := pv_lt (b := pb b 12) (n := 9) (by omega) (by omega)
  generalize he : atI _ _ = o
  obtain ⟨d, hd, e⟩ := atI_mem (xs := [D.int (-1), D.int 0, D.int n, D.int (n + 1), D.int 10, D.int 4, D.int 1000000000000000000000000000000, D.int (-1000000000000000000000000000000), D.int (1 + pv b 12)]) (i := pv (pb b 12) 9) h0 (by simpa using h1)
  rw [e] at he
  subst he
  have hr : ∃ r, d = D.int r := by
    simp at hd
    rcases hd with h | h | h | h | h | h | h | h | h <;> exact ⟨_, h⟩
  obtain ⟨r, rfl⟩ := hr
  simp
  exact ⟨_, rfl⟩
end Lw
set_option Elab.async false
set_option linter.all false
set_option maxRecDepth 100000
set_option maxHeartbeats 0
namespace Lw
open PySem L2 Ink
theorem toPDs_ints (r : List Int) : toPDs (r.map D.int) = some (r.map PyData.int) := by
  induction r with
  | nil => simp [toPDs]
  | cons x r ih => simp [toPDs, toPD, ih]
theorem toPD_row (r : List Int) : toPD (rowD r) = some (.tuple (r.map PyData.int)) := by
  simp [rowD, toPD, toPDs_ints]
theorem toPDs_rows (as : List (List Int)) : toPDs (as.map rowD) = some (as.map fun r => PyData.tuple (r.map PyData.int)) := by
  induction as with
  | nil => simp [toPDs]
  | cons x r ih => simp [toPDs, toPD_row, ih]
theorem lay_ints (r : List Int) : PyData.canLayAll0 (r.map PyData.int) = true ∧ PyData.depthAll (r.map PyData.int) = 0 := by
  induction r with
  | nil => simp [PyData.canLayAll0, PyData.depthAll]
  | cons x r ih => simp [PyData.canLayAll0, PyData.depthAll, PyData.canLay0, PyData.depth, ih.1, ih.2]
theorem lay_rows (as : List (List Int)) : PyData.canLayAll0 (as.map fun r => PyData.tuple (r.map PyData.int)) = true ∧ PyData.depthAll (as.map fun r => PyData.tuple (r.map PyData.int)) ≤ 1 := by
  induction as with
  | nil => simp [PyData.canLayAll0, PyData.depthAll]
  | cons x r ih =>
    have q := lay_ints x
    simp [PyData.canLayAll0, PyData.depthAll, PyData.canLay0, PyData.depth, ih.1, q.1, q.2]
    exact Nat.max_le.mpr ⟨Nat.le_refl _, ih.2⟩
theorem ne_nil (as : List (List Int)) : neM (.fz (.tup (as.map rowD))) (.fz (.tup [])) = some (.fz (.bl (!as.isEmpty))) := by
  have e : eqB (.fz (.tup (as.map rowD))) (.fz (.tup [])) = some as.isEmpty := by
    have q := lay_rows as
    have s1 : SeqAt.shaped (.tuple (as.map fun r => PyData.tuple (r.map PyData.int))) = true := by
      have q2 := q.2
      simp [SeqAt.shaped, PyData.canLay0, PyData.depth, q.1]
      omega
    have s2 : SeqAt.shaped (.tuple []) = true := by decide +kernel
    simp only [eqB, toPM, toPD, toPDs_rows, toPDs, s1, s2, Bool.and_self, if_true]
    cases as <;> simp [PyData.eqv, PyData.eqvAll]
  simp only [neM, e]
structure Sh (N A T R : Nat) (w : Web) : Prop where
  n : w.names.length ≤ N
  a : w.arrows.length ≤ A
  t : w.told.length ≤ T
  s : ∀ x ∈ w.names, x.length ≤ 16777216
  ra : ∀ r ∈ w.arrows, 2 ≤ r.length ∧ r.length ≤ R
  rt : ∀ r ∈ w.told, 2 ≤ r.length ∧ r.length ≤ R
theorem repL_map {α β : Type} (f : α → β) (n : Nat) (xs : List α) : repL n (xs.map f) = (repL n xs).map f := by
  unfold repL
  rw [← List.map_replicate]
  simp [List.map_flatten]
theorem repL_len {α : Type} (n : Nat) (xs : List α) : (repL n xs).length = n * xs.length := by
  simp [repL]
theorem repL_mem {α : Type} {n : Nat} {xs : List α} {x : α} (h : x ∈ repL n xs) : x ∈ xs := by
  simp [repL, List.mem_flatten, List.mem_replicate] at h
  obtain ⟨l, ⟨_, rfl⟩, h⟩ := h
  exact h
theorem mul_rows (as : List (List Int)) (k : Nat) (hk : 2 ≤ k) (hk2 : k ≤ 1000) (h : as.length * k ≤ 1000000) : ∃ bs : List (List Int), bs.length ≤ k * as.length ∧ (∀ r ∈ bs, r ∈ as) ∧ mulLM (.fz (.tup (as.map rowD))) (.fz (.int (k : Nat))) = some (.fz (.tup (bs.map rowD))) := by
  by_cases h0 : as = []
  · subst h0
    refine ⟨[], by simp, (fun r h => h), ?_⟩
    have c1 : -1000 ≤ (k : Int) := by omega
    have c2 : (k : Int) ≤ 1000 := by omega
    rw [ev_mulLt, ev_mul3]
    simp [c1, c2, hk2]
  · refine ⟨repL k as, by rw [repL_len]; exact Nat.le_refl _, fun r => repL_mem, ?_⟩
    rw [ev_mulLt, if_pos ⟨by simpa using h0, by omega, by omega, by simpa using h⟩]
    rw [repL_map]
    simp
theorem bend_row (as : List (List Int)) (z : Nat) (r' : List Int) (hz : z < as.length) : ∃ bs : List (List Int), bs.length = as.length ∧ (∀ r ∈ bs, r ∈ as ∨ r = r') ∧ (cutL (as.map rowD) none (some ((z : Nat) : Int)) ++ [rowD r']) ++ cutL (as.map rowD) (some (((z : Nat) : Int) + 1)) none = bs.map rowD := by
  refine ⟨as.take z ++ [r'] ++ as.drop (z + 1), by simp; omega, fun r h => ?_, ?_⟩
  · simp at h
    rcases h with h | h | h
    · exact .inl (List.mem_of_mem_take h)
    · exact .inr h
    · exact .inl (List.mem_of_mem_drop h)
  · rw [cutL_to (by omega), cutL_from (by omega)]
    rw [show ((z : Nat) : Int).toNat = z by omega, show (((z : Nat) : Int) + 1).toNat = z + 1 by omega]
    simp [List.map_take, List.map_drop]
theorem cutL_len {α : Type} (xs : List α) (lo hi : Option Int) : (cutL xs lo hi).length ≤ xs.length := by
  unfold cutL
  simp
  omega
/-- one of the three rows -/
theorem three (b : Bag) (r : List Int) (k : Nat) (e : Int) (R : Nat) (hk : 2 ≤ k) (h2 : 2 ≤ r.length) (hR : r.length ≤ R) : ∃ r' : List Int, 2 ≤ r'.length ∧ r'.length ≤ R + 1 ∧
    atI [D.tup (r.map D.int), D.tup (cutL (r.map D.int) none (some (k : Int))), D.tup (r.map D.int ++ [D.int e])] (pv b 5 % 3 * (if pv (pb b 5) 3 = 0 then 1 else 0)) = some (rowD r') := by
  have m0 := Int.emod_nonneg (pv b 5) (show (3 : Int) ≠ 0 by omega)
  have m1 := Int.emod_lt_of_pos (pv b 5) (show (0 : Int) < 3 by omega)
  generalize pv b 5 % 3 = x at m0 m1
  have i0 : x * (if pv (pb b 5) 3 = 0 then 1 else 0) = 0 ∨ x * (if pv (pb b 5) 3 = 0 then 1 else 0) = 1 ∨ x * (if pv (pb b 5) 3 = 0 then 1 else 0) = 2 := by
    split <;> omega
  rcases i0 with h | h | h
  · exact ⟨r, h2, by omega, by rw [h]; rfl⟩
  · refine ⟨r.take k, by simp; omega, by simp; omega, ?_⟩
    rw [h, cutL_to (by omega)]
    simp [rowD, List.map_take]
  · exact ⟨r ++ [e], by simp; omega, by simp; omega, by rw [h]; simp [rowD]⟩
theorem bent_ok (b : Bag) (w : Web) {N A T R : Nat} (h : Sh N A T R w) (hN : N ≤ 1000) (hA : 9 * A ≤ 1000000) (hT : 21 * T ≤ 1000000) (hR : R ≤ 1000) : ∃ (b' : Bag) (w' : Web), Sh (N + 1) (9 * A) (21 * T) (R + 1) w' ∧
    m_law_bent_web [b.m, .fz w.d] = some (.ok (.fz w'.d) [some b'.m, some (.fz w.d)]) := by
  obtain ⟨ns, as, ts⟩ := w
  obtain ⟨hn, ha, ht, hs, hra, hrt⟩ := h
  simp only at hn ha ht hs hra hrt
  have v0 := pv_0 (b := b) (n := 9) (by omega) (by omega)
  have v1 := pv_lt (b := b) (n := 9) (by omega) (by omega)
  by_cases s0 : pv b 9 = 0
  · have hc : cutL (ns.map D.str) none (some 1) = (ns.take 1).map D.str := by rw [cutL_to (by omega)]; simp
    have tk1 : (ns.take 1).length ≤ 1 := by simp; omega
    have tk2 : ∀ x ∈ ns.take 1, x.length ≤ 16777216 := fun x hx => hs x (List.mem_of_mem_take hx)
    generalize ns.take 1 = ys at hc tk1 tk2
    have fin : ∀ x : Str, x.length ≤ 16777216 → Sh (N + 1) (9 * A) (21 * T) (R + 1) ⟨ns ++ [x], as, ts⟩ := fun x hx => by
      refine ⟨by simp; omega, by simp; omega, by simp; omega, fun y hy => ?_, fun r hr => ⟨(hra r hr).1, by have := (hra r hr).2; omega⟩, fun r hr => ⟨(hrt r hr).1, by have := (hrt r hr).2; omega⟩⟩
      rcases List.mem_append.mp hy with h | h
      · exact hs y h
      · simp at h
        subst h
        exact hx
    have hl : ns.length + 1 ≤ 16777216 := by omega
    match ys, tk1, tk2, hc with
    | [], _, _, hc =>
      have t0 := pv_0 (b := pb b 9) (n := 5) (by omega) (by omega)
      have t1 := pv_lt (b := pb b 9) (n := 5) (by omega) (by omega)
      obtain ⟨d, hd, ed⟩ := atI_mem (xs := [D.str (Str.ofString ""), D.str (Str.ofString "A"), D.str (Str.ofString "abcdefg"), D.str (Str.ofString "a1"), D.str (Str.ofString "ok")]) (i := pv (pb b 9) 5) t0 (by simpa using t1)
      obtain ⟨x, rfl, hx⟩ : ∃ x, d = D.str x ∧ x.length ≤ 16777216 := by
        simp at hd
        rcases hd with h | h | h | h | h <;> exact ⟨_, h, by decide +kernel⟩
      refine ⟨pb (pb b 9) 5, ⟨ns ++ [x], as, ts⟩, fin x hx, ?_⟩
      simp [m_law_bent_web, b_law_bent_web, Web.d, s0, hc, ed, hl]
    | [y], _, tk2, hc =>
      have t0 := pv_0 (b := pb b 9) (n := 6) (by omega) (by omega)
      have t1 := pv_lt (b := pb b 9) (n := 6) (by omega) (by omega)
      obtain ⟨d, hd, ed⟩ := atI_mem (xs := [D.str (Str.ofString ""), D.str (Str.ofString "A"), D.str (Str.ofString "abcdefg"), D.str (Str.ofString "a1"), D.str (Str.ofString "ok"), D.str y]) (i := pv (pb b 9) 6) t0 (by simpa using t1)
      obtain ⟨x, rfl, hx⟩ : ∃ x, d = D.str x ∧ x.length ≤ 16777216 := by
        simp at hd
        rcases hd with h | h | h | h | h | h
        iterate 5 exact ⟨_, h, by decide +kernel⟩
        exact ⟨_, h, tk2 y (by simp)⟩
      refine ⟨pb (pb b 9) 6, ⟨ns ++ [x], as, ts⟩, fin x hx, ?_⟩
      simp [m_law_bent_web, b_law_bent_web, Web.d, s0, hc, ed, hl]
  by_cases s1 : pv b 9 = 1
  · refine ⟨pb b 9, ⟨ns.dropLast, as, ts⟩, ⟨by simp; omega, by simp; omega, by simp; omega, fun x hx => hs x (List.dropLast_subset _ hx), fun r hr => ⟨(hra r hr).1, by have := (hra r hr).2; omega⟩, fun r hr => ⟨(hrt r hr).1, by have := (hrt r hr).2; omega⟩⟩, ?_⟩
    simp [m_law_bent_web, b_law_bent_web, Web.d, s0, s1, cutL_last]
  by_cases s2 : pv b 9 = 2
  · have t0 := pv_0 (b := pb b 9) (n := 2) (by omega) (by omega)
    have t1 := pv_lt (b := pb b 9) (n := 2) (by omega) (by omega)
    have u0 := pv_0 (b := pb (pb b 9) 2) (n := 2) (by omega) (by omega)
    have u1 := pv_lt (b := pb (pb b 9) 2) (n := 2) (by omega) (by omega)
    obtain ⟨k, k1, k2, ek⟩ : ∃ k : Nat, 2 ≤ k ∧ k ≤ 9 ∧ atI [D.int 2, D.int 9] (pv (pb b 9) 2) = some (.int (k : Nat)) := by
      rcases (show pv (pb b 9) 2 = 0 ∨ pv (pb b 9) 2 = 1 by omega) with h | h
      · exact ⟨2, by omega, by omega, by rw [h]; rfl⟩
      · exact ⟨9, by omega, by omega, by rw [h]; rfl⟩
    obtain ⟨l, l1, l2, el⟩ : ∃ k : Nat, 2 ≤ k ∧ k ≤ 21 ∧ atI [D.int 3, D.int 21] (pv (pb (pb b 9) 2) 2) = some (.int (k : Nat)) := by
      rcases (show pv (pb (pb b 9) 2) 2 = 0 ∨ pv (pb (pb b 9) 2) 2 = 1 by omega) with h | h
      · exact ⟨3, by omega, by omega, by rw [h]; rfl⟩
      · exact ⟨21, by omega, by omega, by rw [h]; rfl⟩
    have w1 : k * as.length ≤ 9 * A := Nat.mul_le_mul k2 ha
    have w2 : l * ts.length ≤ 21 * T := Nat.mul_le_mul l2 ht
    obtain ⟨as', p1, p2, p3⟩ := mul_rows as k k1 (by omega) (by rw [Nat.mul_comm]; omega)
    obtain ⟨ts', q1, q2, q3⟩ := mul_rows ts l l1 (by omega) (by rw [Nat.mul_comm]; omega)
    refine ⟨pb (pb (pb b 9) 2) 2, ⟨ns, as', ts'⟩, ⟨by simp; omega, by simp; omega, by simp; omega, hs, fun r hr => ⟨(hra r (p2 r hr)).1, by have := (hra r (p2 r hr)).2; omega⟩, fun r hr => ⟨(hrt r (q2 r hr)).1, by have := (hrt r (q2 r hr)).2; omega⟩⟩, ?_⟩
    simp [-ev_mul3, -ev_mulLt, m_law_bent_web, b_law_bent_web, Web.d, s0, s1, s2, ek, el, p3, q3]
  have s9 : ∀ r : List Int, 2 ≤ r.length ∧ r.length ≤ R → 2 ≤ r.length ∧ r.length ≤ R + 1 := fun r h => ⟨h.1, by omega⟩
  by_cases s6 : pv b 9 < 6 ∧ as ≠ []
  · obtain ⟨s6, hne⟩ := s6
    have hemp : as.isEmpty = false := by cases as <;> simp at hne ⊢
    have l0 : 0 < as.length := by cases as <;> simp at hne ⊢
    have l1 : (0 : Int) < (as.length : Nat) := by omega
    have l2 : ((as.length : Nat) : Int) < 1208925819614629174706176 := by omega
    have l3 : as.length < 1208925819614629174706176 := by omega
    have z0 := pv_0 (b := pb b 9) l1 l2
    have z1 := pv_lt (b := pb b 9) l1 l2
    generalize hz : pv (pb b 9) (as.length : Nat) = z at z0 z1
    obtain ⟨zn, rfl⟩ := Int.eq_ofNat_of_zero_le z0
    have z2 : zn < as.length := by omega
    have er : (as.map rowD)[zn]? = some (rowD as[zn]) := by simp [z2]
    have hr := hra as[zn] (List.getElem_mem z2)
    generalize as[zn] = r at er hr
    generalize hb2 : pb (pb b 9) (as.length : Nat) = b2
    obtain ⟨b3, v, ev⟩ := odd_ok b2 (ns.length : Nat)
    have p0 : 0 < r.length := by omega
    have p1 : (0 : Int) < (r.length : Nat) := by omega
    have p2 : ((r.length : Nat) : Int) < 1208925819614629174706176 := by omega
    have p3 : r.length < 1208925819614629174706176 := by omega
    have k0 := pv_0 (b := b3) p1 p2
    have k1 := pv_lt (b := b3) p1 p2
    generalize hk : pv b3 (r.length : Nat) = k at k0 k1
    obtain ⟨kn, rfl⟩ := Int.eq_ofNat_of_zero_le k0
    have k2 : kn < r.length := by omega
    have hset : (List.map (M.fz ∘ D.int) r).set kn (M.fz (D.int v)) = List.map (M.fz ∘ D.int) (r.set kn v) := by simp [List.map_set]
    generalize hb4 : pb b3 (r.length : Nat) = b4
    obtain ⟨r', r1, r2, er'⟩ := three b4 (r.set kn v) 3 1 R (by omega) (by simpa using hr.1) (by simpa using hr.2)
    generalize hr2 : r.set kn v = rr at hset er'
    have hrl : rr.length ≤ R := by rw [← hr2]; simpa using hr.2
    have g1 : rr.length + 1 ≤ 16777216 := by omega
    have i5 : -(2 ^ 64) < (if pv (pb b4 5) 3 = 0 then (1 : Int) else 0) := by split <;> omega
    have i6 : (if pv (pb b4 5) 3 = 0 then (1 : Int) else 0) < 2 ^ 64 := by split <;> omega
    have mm := mulC_r (i := pv b4 5 % 3) i5 i6
    obtain ⟨bs, c1, c2, c3⟩ := bend_row as zn r' z2
    have cl1 := cutL_len (as.map rowD) none (some ((zn : Nat) : Int))
    have cl2 := cutL_len (as.map rowD) (some (((zn : Nat) : Int) + 1)) none
    simp at cl1 cl2
    have g2 : (cutL (as.map rowD) none (some ((zn : Nat) : Int))).length + 1 ≤ 16777216 := by omega
    have g3 : (cutL (as.map rowD) none (some ((zn : Nat) : Int))).length + 1 + (cutL (as.map rowD) (some (((zn : Nat) : Int) + 1)) none).length ≤ 16777216 := by omega
    refine ⟨pb (pb b4 5) 3, ⟨ns, bs, ts⟩, ⟨by simp; omega, by simp [c1]; omega, by simp; omega, hs, fun q hq => ?_, fun q hq => s9 q (hrt q hq)⟩, ?_⟩
    · rcases c2 q hq with h | h
      · exact s9 q (hra q h)
      · subst h
        exact ⟨r1, r2⟩
    simp [m_law_bent_web, b_law_bent_web, Web.d, s0, s1, s2, s6, ne_nil, hemp, l0, l1, l2, l3, hz, er, hb2, rowD, ev, p0, p1, p2, p3, hk, k2, hset, hb4, hr2, g1]
    have er2 : atI [D.tup (rr.map D.int), D.tup (cutL (rr.map D.int) none (some 3)), D.tup (rr.map D.int ++ [D.int 1])] (pv b4 5 % 3 * (if pv (pb b4 5) 3 = 0 then 1 else 0)) = some (rowD r') := er'
    simp only [List.append_assoc, List.cons_append, List.nil_append] at c3
    simp [mm, er2, g2, g3, c3]
  have s6' : (if pv b 9 < 6 then !as.isEmpty else false) = false := by
    split
    · rename_i h
      have : as = [] := Classical.byContradiction fun q => s6 ⟨h, q⟩
      simp [this]
    · rfl
  have s7 : sel (decide (pv b 9 < 6)) (!as.isEmpty) false = false := by rw [sel_ite]; simpa using s6'
  have s8 : (decide (pv b 9 < 6) && !as.isEmpty) = false := by
    cases h : decide (pv b 9 < 6) with
    | false => rfl
    | true =>
      rw [h] at s7
      simpa using s7
  by_cases hne : ts ≠ []
  · have hempt : ts.isEmpty = false := by cases ts <;> simp at hne ⊢
    have l0 : 0 < ts.length := by cases ts <;> simp at hne ⊢
    have l1 : (0 : Int) < (ts.length : Nat) := by omega
    have l2 : ((ts.length : Nat) : Int) < 1208925819614629174706176 := by omega
    have l3 : ts.length < 1208925819614629174706176 := by omega
    have z0 := pv_0 (b := pb b 9) l1 l2
    have z1 := pv_lt (b := pb b 9) l1 l2
    generalize hz : pv (pb b 9) (ts.length : Nat) = z at z0 z1
    obtain ⟨zn, rfl⟩ := Int.eq_ofNat_of_zero_le z0
    have z2 : zn < ts.length := by omega
    have er : (ts.map rowD)[zn]? = some (rowD ts[zn]) := by simp [z2]
    have hr := hrt ts[zn] (List.getElem_mem z2)
    generalize ts[zn] = r at er hr
    generalize hb2 : pb (pb b 9) (ts.length : Nat) = b2
    obtain ⟨b3, v, ev⟩ := odd_ok b2 (ns.length : Nat)
    have p0 : 0 < r.length := by omega
    have p1 : (0 : Int) < (r.length : Nat) := by omega
    have p2 : ((r.length : Nat) : Int) < 1208925819614629174706176 := by omega
    have p3 : r.length < 1208925819614629174706176 := by omega
    have k0 := pv_0 (b := b3) p1 p2
    have k1 := pv_lt (b := b3) p1 p2
    generalize hk : pv b3 (r.length : Nat) = k at k0 k1
    obtain ⟨kn, rfl⟩ := Int.eq_ofNat_of_zero_le k0
    have k2 : kn < r.length := by omega
    have hset : (List.map (M.fz ∘ D.int) r).set kn (M.fz (D.int v)) = List.map (M.fz ∘ D.int) (r.set kn v) := by simp [List.map_set]
    generalize hb4 : pb b3 (r.length : Nat) = b4
    obtain ⟨r', r1, r2, er'⟩ := three b4 (r.set kn v) 2 0 R (by omega) (by simpa using hr.1) (by simpa using hr.2)
    generalize hr2 : r.set kn v = rr at hset er'
    have hrl : rr.length ≤ R := by rw [← hr2]; simpa using hr.2
    have g1 : rr.length + 1 ≤ 16777216 := by omega
    have i5 : -(2 ^ 64) < (if pv (pb b4 5) 3 = 0 then (1 : Int) else 0) := by split <;> omega
    have i6 : (if pv (pb b4 5) 3 = 0 then (1 : Int) else 0) < 2 ^ 64 := by split <;> omega
    have mm := mulC_r (i := pv b4 5 % 3) i5 i6
    obtain ⟨bs, c1, c2, c3⟩ := bend_row ts zn r' z2
    have cl1 := cutL_len (ts.map rowD) none (some ((zn : Nat) : Int))
    have cl2 := cutL_len (ts.map rowD) (some (((zn : Nat) : Int) + 1)) none
    simp at cl1 cl2
    have g2 : (cutL (ts.map rowD) none (some ((zn : Nat) : Int))).length + 1 ≤ 16777216 := by omega
    have g3 : (cutL (ts.map rowD) none (some ((zn : Nat) : Int))).length + 1 + (cutL (ts.map rowD) (some (((zn : Nat) : Int) + 1)) none).length ≤ 16777216 := by omega
    refine ⟨pb (pb b4 5) 3, ⟨ns, as, bs⟩, ⟨by simp; omega, by simp; omega, by simp [c1]; omega, hs, fun q hq => s9 q (hra q hq), fun q hq => ?_⟩, ?_⟩
    · rcases c2 q hq with h | h
      · exact s9 q (hrt q h)
      · subst h
        exact ⟨r1, r2⟩
    simp [m_law_bent_web, b_law_bent_web, Web.d, s0, s1, s2, s8, ne_nil, hempt, l0, l1, l2, l3, hz, er, hb2, rowD, ev, p0, p1, p2, p3, hk, k2, hset, hb4, hr2, g1]
    have er2 : atI [D.tup (rr.map D.int), D.tup (cutL (rr.map D.int) none (some 2)), D.tup (rr.map D.int ++ [D.int 0])] (pv b4 5 % 3 * (if pv (pb b4 5) 3 = 0 then 1 else 0)) = some (rowD r') := er'
    simp only [List.append_assoc, List.cons_append, List.nil_append] at c3
    simp [mm, er2, g2, g3, c3]
  have ht0 : ts = [] := Classical.byContradiction hne
  subst ht0
  refine ⟨pb b 9, ⟨ns ++ [Str.ofString "abcdefg"], as, []⟩, ⟨by simp; omega, by simp; omega, by simp, fun y hy => ?_, fun q hq => s9 q (hra q hq), fun q hq => by cases hq⟩, ?_⟩
  · rcases List.mem_append.mp hy with h | h
    · exact hs y h
    · simp at h
      subst h
      decide +kernel
  have hl : ns.length + 1 ≤ 16777216 := by omega
  have hq := ne_nil []
  simp only [List.map_nil] at hq
  simp [m_law_bent_web, b_law_bent_web, Web.d, s0, s1, s2, ne_nil, s8, hq, hl]
end Lw
set_option Elab.async false
set_option linter.all false
set_option maxRecDepth 100000
set_option maxHeartbeats 0
namespace Lw
open PySem L2 Ink
theorem all_tr {α : Type} (xs : List α) : allM true (.lst (xs.map fun _ => .fz (.bl true))) = some (.fz (.bl true)) := by
  have e : (xs.map fun _ => M.fz (.bl true)) = (xs.map fun x => D.bl true).map M.fz := by rw [List.map_map]; rfl
  rw [e]
  simp only [allM, lstD, unfz_map, bools_list]
  simp
theorem range_map (n : Nat) : rangeD 0 (n : Int) = (List.range n).map fun k => D.int (k : Nat) := by
  unfold rangeD
  simp
theorem range_len (n : Nat) : (rangeD 0 (n : Int)).length = n := by rw [range_map]; simp
theorem pickL_at {l : LamD} {fe : FE} : ∀ {Ls : List (LamD × FE)} {n j : Nat}, (∀ (i : Nat) (q : LamD × FE), Ls[i]? = some q → q.1.ix = n + i) → Ls[j]? = some (l, fe) → pickL Ls l = some fe
  | [], n, j, h, e => by simp at e
  | (l0, f0) :: r, n, 0, h, e => by
    simp at e
    obtain ⟨rfl, rfl⟩ := e
    exact pickL_hit
  | (l0, f0) :: r, n, j + 1, h, e => by
    have h0 : l0.ix = n := h 0 (l0, f0) rfl
    have h1 : l.ix = n + (j + 1) := h (j + 1) (l, fe) e
    have ne : ¬ l = l0 := fun z => by rw [z, h0] at h1; omega
    rw [pickL_miss ne]
    exact pickL_at (n := n + 1) (fun i q hi => by
      have := h (i + 1) q hi
      omega) (by simpa using e)
theorem ixs_of {Ls : List (LamD × FE)} (h : Ls.map (fun q => q.1.ix) = List.range Ls.length) : ∀ (i : Nat) (q : LamD × FE), Ls[i]? = some q → q.1.ix = 0 + i := fun i q hi => by
  have hl := (List.getElem?_eq_some_iff.mp hi).1
  have : (Ls.map (fun q => q.1.ix))[i]? = some q.1.ix := by rw [List.getElem?_map, hi]; rfl
  rw [h, List.getElem?_range hl] at this
  have := Option.some.inj this
  omega
theorem dfl_ex {g : FP} {m : M} {x : Xc} {o : Option M} (h : g [m, .fz .non] = some (.ex x [o, some (.fz .non)])) : dflP g [m] = some (.ex x [o]) := by
  unfold dflP
  rw [show [m] ++ [M.fz .non] = [m, .fz .non] by rfl, h]
  rfl
theorem doors_ix (cl : List (Str × PySem.Addr)) : (lt_law_web_door cl).map (fun q => q.1.ix) = List.range (lt_law_web_door cl).length := by
  unfold lt_law_web_door ld_law_web_door_0 ld_law_web_door_1 ld_law_web_door_2 ld_law_web_door_3 ld_law_web_door_4 ld_law_web_door_5 ld_law_web_door_6 ld_law_web_door_7 ld_law_web_door_8 ld_law_web_door_9 ld_law_web_door_10 ld_law_web_door_11 ld_law_web_door_12 ld_law_web_door_13 ld_law_web_door_14 ld_law_web_door_15 ld_law_web_door_16 ld_law_web_door_17
  simp only [List.map_cons, List.map_nil, lamD_ix, List.length_cons, List.length_nil]
  rfl
theorem need_no {w : Web} (hs : ∀ x ∈ w.names, x.length ≤ 16777216) (h : isWebB w = false) : m_need_web [.fz w.d] = some (.ex ⟨"BadWeb", none⟩ [some (.fz w.d)]) := by
  have i := is_web_eq hs
  rw [h] at i
  simp [m_need_web, b_need_web, i]
theorem doors_no (cl : List (Str × PySem.Addr)) {d : D} (nw : m_need_web [.fz d] = some (.ex ⟨"BadWeb", none⟩ [some (.fz d)])) :
    ∀ q ∈ lt_law_web_door cl, ∀ o0 o2 o3, q.2 [o0, some (.fz d), o2, o3] = some (.ex ⟨"BadWeb", none⟩ [o0, some (.fz d), o2, o3]) := by
  have nn : Ink.isNon (.fz .non) = true := rfl
  have nl : Ink.isNon (.lst []) = false := rfl
  have s1 : mc_solved [.fz d] = some (.ex ⟨"BadWeb", none⟩ [some (.fz d)]) := by simp [mc_solved, bc_solved, nw]
  have s2 : mc_layers [.fz d] = some (.ex ⟨"BadWeb", none⟩ [some (.fz d)]) := by simp [mc_layers, bc_layers, s1]
  have s3 : mc_ties [.fz d] = some (.ex ⟨"BadWeb", none⟩ [some (.fz d)]) := by simp [mc_ties, bc_ties, nw]
  have s4 : dflP mc_length [.fz d] = some (.ex ⟨"BadWeb", none⟩ [some (.fz d)]) := dfl_ex (by simp [mc_length, bc_length, nn, s2])
  intro q hq o0 o2 o3
  simp only [lt_law_web_door, List.mem_cons, List.not_mem_nil, or_false] at hq
  rcases hq with rfl | rfl | rfl | rfl | rfl | rfl | rfl | rfl | rfl | rfl | rfl | rfl | rfl | rfl | rfl | rfl | rfl | rfl
  · simp [mc_boxes_of, bc_boxes_of, nw]
  · simp [mc_without, bc_without, nw]
  · simp [mc_turned, bc_turned, nw]
  · simp [mc_ring, bc_ring, nw]
  · simp [mc_knots, bc_knots, nw]
  · simp [s3]
  · simp [mc_clash, bc_clash, nw]
  · simp [s2]
  · simp [mc_flow, bc_flow, s1]
  · simp [s4]
  · simp [mc_length, bc_length, nl, s1]
  · simp [mc_worth, bc_worth, s3]
  · simp [mc_chains, bc_chains, nw]
  · simp [mc_rows, bc_rows, nw]
  · simp [mc_widths, bc_widths, mc_chains, bc_chains, nw]
  · simp [mc_picture, bc_picture, nw]
  · simp [mc_web_text, bc_web_text, nw]
  · simp [mc_board_of, bc_board_of, nw]
theorem doors_len (cl : List (Str × PySem.Addr)) : (lt_law_web_door cl).length = 18 := rfl
theorem door_ok {d : D} (nw : m_need_web [.fz d] = some (.ex ⟨"BadWeb", none⟩ [some (.fz d)])) {j : Nat} (hj : j < 18) :
    m_law_web_door [.fz (.int (j : Nat)), .fz d] = some (.ok (.fz (.str "BadWeb")) [some (.fz (.int (j : Nat))), some (.fz d)]) := by
  refine anyM_eq [] fun cl => ?_
  obtain ⟨q, hq⟩ : ∃ q, (lt_law_web_door cl)[j]? = some q := ⟨_, List.getElem?_eq_getElem (by rw [doors_len]; exact hj)⟩
  have dn := doors_no cl nw q (List.mem_of_getElem? hq)
  have pk := pickL_at (l := q.1) (fe := q.2) (ixs_of (doors_ix cl)) hq
  have st : asgS (lstE (consA (lamE (ld_law_web_door_0 cl)) (consA (lamE (ld_law_web_door_1 cl)) (consA (lamE (ld_law_web_door_2 cl)) (consA (lamE (ld_law_web_door_3 cl)) (consA (lamE (ld_law_web_door_4 cl)) (consA (lamE (ld_law_web_door_5 cl)) (consA (lamE (ld_law_web_door_6 cl)) (consA (lamE (ld_law_web_door_7 cl)) (consA (lamE (ld_law_web_door_8 cl)) (consA (lamE (ld_law_web_door_9 cl)) (consA (lamE (ld_law_web_door_10 cl)) (consA (lamE (ld_law_web_door_11 cl)) (consA (lamE (ld_law_web_door_12 cl)) (consA (lamE (ld_law_web_door_13 cl)) (consA (lamE (ld_law_web_door_14 cl)) (consA (lamE (ld_law_web_door_15 cl)) (consA (lamE (ld_law_web_door_16 cl)) (consA (lamE (ld_law_web_door_17 cl)) nilA))))))))))))))))))) (nmG 2) [some (.fz (.int (j : Nat))), some (.fz d), none, none] =
      some (.nx [some (.fz (.int (j : Nat))), some (.fz d), some (.lst (((lt_law_web_door cl).map fun q => D.lam q.1).map M.fz)), none]) := by
    simp [lt_law_web_door]
  have ix : ixF [.lst (((lt_law_web_door cl).map fun q => D.lam q.1).map M.fz), .fz (.int (j : Nat))] = some (.ok (.fz (.lam q.1)) [some (.lst (((lt_law_web_door cl).map fun q => D.lam q.1).map M.fz)), some (.fz (.int (j : Nat)))]) := by
    simp [hq]
  have la : ∀ o2, lamA [some (.fz (.int (j : Nat))), some (.fz d), o2, some (.fz (.lam q.1))] (.sl 3) = some q.1 := fun _ => rfl
  have wf : wf_law_word "BadWeb" = some "BadWeb" := rfl
  unfold b_law_web_door
  obtain ⟨T, hT⟩ : ∃ T, T = asgS (lstE (consA (lamE (ld_law_web_door_0 cl)) (consA (lamE (ld_law_web_door_1 cl)) (consA (lamE (ld_law_web_door_2 cl)) (consA (lamE (ld_law_web_door_3 cl)) (consA (lamE (ld_law_web_door_4 cl)) (consA (lamE (ld_law_web_door_5 cl)) (consA (lamE (ld_law_web_door_6 cl)) (consA (lamE (ld_law_web_door_7 cl)) (consA (lamE (ld_law_web_door_8 cl)) (consA (lamE (ld_law_web_door_9 cl)) (consA (lamE (ld_law_web_door_10 cl)) (consA (lamE (ld_law_web_door_11 cl)) (consA (lamE (ld_law_web_door_12 cl)) (consA (lamE (ld_law_web_door_13 cl)) (consA (lamE (ld_law_web_door_14 cl)) (consA (lamE (ld_law_web_door_15 cl)) (consA (lamE (ld_law_web_door_16 cl)) (consA (lamE (ld_law_web_door_17 cl)) nilA))))))))))))))))))) (nmG 2) := ⟨_, rfl⟩
  rw [← hT] at st ⊢
  generalize ((lt_law_web_door cl).map fun q => D.lam q.1).map M.fz = ms at *
  generalize lt_law_web_door cl = lt at *
  simp [st, -ev_ixF, ix, kWordV, la, pk, dn, wf]
theorem bad_name {w : Web} : isWebB ⟨w.names ++ [Str.ofString "abcdefg"], w.arrows, w.told⟩ = false := by
  have : isNameB (Str.ofString "abcdefg") = false := by decide +kernel
  simp [isWebB, this]
theorem pull3 (b : Bag) : ∃ (b' : Bag) (n : Nat), n ≤ 2 ∧ m_law_pull [b.m, .fz (.int 3)] = some (.ok (.fz (.int (n : Nat))) [some b'.m, some (.fz (.int 3))]) := by
  obtain ⟨r, b1, p1, q1, e1⟩ := pull_ok b 3 (by omega) (by omega)
  obtain ⟨n, rfl⟩ := Int.eq_ofNat_of_zero_le p1
  exact ⟨b1, n, by omega, e1⟩
theorem sh_of {w : Web} (h : isWebB w = true) {N A T : Nat} (l1 : w.names.length ≤ N) (l2 : w.arrows.length ≤ A) (l3 : w.told.length ≤ T) : Sh N A T 4 w := by
  simp only [isWebB, Bool.and_eq_true, List.all_eq_true] at h
  refine ⟨l1, l2, l3, fun x hx => ?_, fun r hr => ?_, fun r hr => ?_⟩
  · have := h.2.1.1 x hx
    simp only [isNameB, Bool.and_eq_true, decide_eq_true_eq] at this
    have := this.1.2
    omega
  · have := h.2.2.1 r hr
    unfold isArrowB at this
    split at this
    · simp
    · cases this
  · have := h.2.2.2 r hr
    unfold isSayingB at this
    split at this
    · simp
    · cases this
theorem law_ok (ns : List Int) : m_law [.fz (.scr ns)] = some (.ok (.fz (.bl true)) [some (.fz (.scr ns))]) := by
  obtain ⟨b0, e0⟩ := bag_ok ns
  obtain ⟨b1, w, hw, l1, l2, l3, ew⟩ := drawn_ok b0 6 6 3 (by omega) (by omega) (by omega) (by omega)
  have ew' : m_law_drawn_web [b0.m, .fz (.int 6), .fz (.int 6), .fz (.int 3)] = some (.ok (.fz w.d) [some b1.m, some (.fz (.int 6)), some (.fz (.int 6)), some (.fz (.int 3))]) := ew
  obtain ⟨b2, n, hn, ep⟩ := pull3 b1
  have s0 := sh_of hw l1 l2 l3
  have lp := loop_range (g := nmG 3) (fb := L_law_1) (fun k env => ∃ (b : Bag) (w : Web) (o3 : Option M), Sh (6 + k) (6 * 9 ^ k) (3 * 21 ^ k) (4 + k) w ∧ env = [some (.fz (.scr ns)), some b.m, some (.fz w.d), o3, none]) (n + 1) [some (.fz (.scr ns)), some b2.m, some (.fz w.d), none, none] (by
    rintro i env hi ⟨b, w', o3, hs, rfl⟩
    have bd : 6 + i ≤ 1000 ∧ 9 * (6 * 9 ^ i) ≤ 1000000 ∧ 21 * (3 * 21 ^ i) ≤ 1000000 ∧ 4 + i ≤ 1000 := by
      rcases (show i = 0 ∨ i = 1 ∨ i = 2 by omega) with h | h | h <;> subst h <;> decide
    obtain ⟨b3, w'', hs', e⟩ := bent_ok b w' hs bd.1 bd.2.1 bd.2.2.1 bd.2.2.2
    simp [L_law_1, e]
    refine ⟨b3, w'', ⟨hs'.n, ?_, ?_, hs'.s, hs'.ra, hs'.rt⟩, rfl, rfl⟩
    · have := hs'.a
      rw [Nat.pow_succ]
      omega
    · have := hs'.t
      rw [Nat.pow_succ]
      omega) ⟨b2, w, none, by simpa using s0, rfl⟩
  obtain ⟨env', e4, b3, w3, o3, hs, rfl⟩ := lp
  have fit : -4611686018427387904 ≤ 1 + (n : Int) ∧ 1 + (n : Int) < 4611686018427387904 := by omega
  have rg : rangeD 0 (1 + (n : Int)) = rangeD 0 ((n : Int) + 1) := by rw [show 1 + (n : Int) = (n : Int) + 1 by omega]
  rw [show (((n + 1 : Nat)) : Int) = (n : Int) + 1 by omega] at e4
  have nl : w3.names.length ≤ 1000 := by have := hs.n; omega
  have gw := good_web_eq hs.s (by omega)
  have fin : ∀ v : Web, (∀ x ∈ v.names, x.length ≤ 16777216) → isWebB v = false → compD (nmG 4) yesT K_law_1 [4] (rangeD 0 18) [some (.fz (.scr ns)), some b3.m, some (.fz v.d), o3, none] = some ((List.range 18).map (fun _ => M.fz (.bl true)), [some (.fz (.scr ns)), some b3.m, some (.fz v.d), o3, none]) := fun v hv hb => by
    have nw := need_no hv hb
    have cm := comp_list (g := nmG 4) (ft := yesT) (fe := K_law_1) (own := [4]) (fun j : Nat => D.int (j : Nat)) (fun _ => M.fz (.bl true)) [some (.fz (.scr ns)), some b3.m, some (.fz v.d), o3, none] (List.range 18) (fun j hj => by
      have dk := door_ok nw (List.mem_range.mp hj)
      exact ⟨_, _, rfl, rfl, by simp [K_law_1, dk]; rfl, by simp [wipeE]⟩)
    rw [← range_map] at cm
    exact cm
  have rl : (rangeD 0 18).length ≤ 16777216 := by rw [show (18 : Int) = ((18 : Nat) : Int) by rfl, range_len]; omega
  have al := all_tr (List.range 18)
  cases hb : isWebB w3 with
  | false =>
    have f := fin w3 hs.s hb
    rw [hb] at gw
    generalize (List.range 18).map (fun _ => M.fz (.bl true)) = ts at *
    simp [m_law, b_law, e0, ew', ep, fit, rg, e4, gw, f, rl, al, wipeE]
  | true =>
    have f := fin ⟨w3.names ++ [Str.ofString "abcdefg"], w3.arrows, w3.told⟩ (fun x h => by
      rcases List.mem_append.mp h with h | h
      · exact hs.s x h
      · simp at h
        subst h
        decide +kernel) bad_name
    rw [hb] at gw
    have ix0 : ixF [.fz w3.d, .fz (.int 0)] = some (.ok (.fz (.tup (w3.names.map D.str))) [some (.fz w3.d), some (.fz (.int 0))]) := by simp [Web.d]
    have ix1 : ixF [.fz w3.d, .fz (.int 1)] = some (.ok (.fz (.tup (w3.arrows.map rowD))) [some (.fz w3.d), some (.fz (.int 1))]) := by simp [Web.d]
    have ix2 : ixF [.fz w3.d, .fz (.int 2)] = some (.ok (.fz (.tup (w3.told.map rowD))) [some (.fz w3.d), some (.fz (.int 2))]) := by simp [Web.d]
    have hl : w3.names.length + 1 ≤ 16777216 := by omega
    have dd : D.tup [.tup (w3.names.map D.str ++ [.str "abcdefg"]), .tup (w3.arrows.map rowD), .tup (w3.told.map rowD)] = (⟨w3.names ++ [Str.ofString "abcdefg"], w3.arrows, w3.told⟩ : Web).d := by
      unfold Web.d
      simp
    generalize (⟨w3.names ++ [Str.ofString "abcdefg"], w3.arrows, w3.told⟩ : Web).d = vd at *
    generalize (List.range 18).map (fun _ => M.fz (.bl true)) = ts at *
    simp [m_law, b_law, e0, ew', ep, fit, rg, e4, gw, -ev_ixF, ix0, ix1, ix2, hl, dd, f, rl, al, wipeE]
end Lw
set_option Elab.async false
set_option linter.all false
set_option maxRecDepth 100000
namespace Ink
open PySem PySem.Spec PyProof.Rows L2
def kL (g : Addr → Option Obj) (as : List Addr) : PySem.W.Frag := He.frT g as
section
variable (as : List Addr) (fa : List He.Fa) (fn : List He.DefD) (ts : List He.Tab) (tf : List He.Defn) (ex : PySem.W.Frag → Bool)
def obsL (g : Addr → Option Obj) : He.AlX := (He.obsT fa fn ts (kL g as), ex (kL g as) && He.tabsB g tf (kL g as))
variable {as fa fn ts tf ex}
theorem saysL_of {w : World} {h : Heap} (e : obsL as fa fn ts tf ex h.get? = He.valX fn ts w) : He.SaysX fa fn ts tf ex w h (kL h.get? as) := by
  have e1 : He.obsT fa fn ts (kL h.get? as) = He.valT fn ts w := congrArg (fun z : He.AlX => z.1) e
  have e2 : (ex (kL h.get? as) && He.tabsB h.get? tf (kL h.get? as)) = true := congrArg (fun z : He.AlX => z.2) e
  obtain ⟨m, tb⟩ := Bool.and_eq_true_iff.mp e2
  have each : ∀ p ∈ tf, PySem.W.codeHdIn (kL h.get? as) (He.cT (kL h.get? as) p).1 (He.cT (kL h.get? as) p).2 = true ∧ ∃ o, h.get? (He.cT (kL h.get? as) p).2 = some o ∧ He.emptyTab o = true := fun p hp => by
    obtain ⟨c1, c2⟩ := Bool.and_eq_true_iff.mp (List.all_eq_true.mp tb p hp)
    cases q : h.get? (He.cT (kL h.get? as) p).2 with
    | none => rw [q] at c2; cases c2
    | some o => rw [q] at c2; exact ⟨c1, o, rfl, c2⟩
  refine ⟨e1, m, fun p hp => (each p hp).1, fun p hp => ?_, fun p hp => ?_⟩
  · obtain ⟨_, o, q, z⟩ := each p hp
    exact He.frT_none q z
  · obtain ⟨_, o, q, z⟩ := each p hp
    rw [q, He.emptyTab_eq z]
variable (as fa fn ts tf ex)
def hookL : PySem.W.Hook where
  α := He.AlX
  obs := fun s => obsL as fa fn ts tf ex s.heap.get?
  val := fun w => He.valX fn ts w
  says := fun w h => ∃ K : PySem.W.Frag, K.In h ∧ He.SaysX fa fn ts tf ex w h K
  of := fun _ _ e => ⟨_, He.frT_in, saysL_of e⟩
  keeps := fun _ _ _ ⟨K, hK, c⟩ k => ⟨K, PySem.W.Frag.In.keeps hK k, ⟨c.t, c.more, c.hd, c.out, fun p hp => k _ _ (c.empty p hp)⟩⟩
variable {as fa fn ts tf ex}
theorem obsL_eq {g : Addr → Option Obj} {s : Shared} (h : ∀ a, g a = s.heap.get? a) : obsL as fa fn ts tf ex g = (hookL as fa fn ts tf ex).obs s := by
  have e : g = s.heap.get? := funext h
  rw [e] <;> rfl
end
/-- a run's equation, its three looks apart -/
theorem map3 {α β γ δ : Type} {o : Option α} {f : α → β} {g : α → γ} {h : α → δ} {b : β} {c : γ} {d : δ} (e1 : o.map f = some b) (e2 : o.map g = some c) (e3 : o.map h = some d) : o.map (fun s => (f s, g s, h s)) = some (b, c, d) := by
  cases o with
  | none => cases e1
  | some s =>
    have h1 : f s = b := Option.some.inj e1
    have h2 : g s = c := Option.some.inj e2
    have h3 : h s = d := Option.some.inj e3
    show some (f s, g s, h s) = _
    rw [h1, h2, h3]
end Ink
set_option Elab.async false
set_option linter.all false
set_option maxRecDepth 100000
set_option maxHeartbeats 0
namespace Lw
section
open PySem PySem.Spec PyProof.Rows L2 Ink
def d_is_name : He.DefD := ⟨("is_name", none), "is_name", "is_name", defArgs (top 23), defBody (top 23), defScope (top 23), [], []⟩
def d_is_least : He.DefD := ⟨("is_least", none), "is_least", "is_least", defArgs (top 24), defBody (top 24), defScope (top 24), [], []⟩
def d_is_weight : He.DefD := ⟨("is_weight", none), "is_weight", "is_weight", defArgs (top 25), defBody (top 25), defScope (top 25), [], []⟩
def d_is_far : He.DefD := ⟨("is_far", none), "is_far", "is_far", defArgs (top 26), defBody (top 26), defScope (top 26), [], []⟩
def d_is_arrow : He.DefD := ⟨("is_arrow", none), "is_arrow", "is_arrow", defArgs (top 27), defBody (top 27), defScope (top 27), [], []⟩
def d_is_saying : He.DefD := ⟨("is_saying", none), "is_saying", "is_saying", defArgs (top 28), defBody (top 28), defScope (top 28), [], []⟩
def d_is_web : He.DefD := ⟨("is_web", none), "is_web", "is_web", defArgs (top 29), defBody (top 29), defScope (top 29), [], []⟩
def d_need_web : He.DefD := ⟨("need_web", none), "need_web", "need_web", defArgs (top 30), defBody (top 30), defScope (top 30), [], []⟩
def d_boxes_of : He.DefD := ⟨("boxes_of", none), "boxes_of", "boxes_of", defArgs (top 31), defBody (top 31), defScope (top 31), [], []⟩
def d_without : He.DefD := ⟨("without", none), "without", "without", defArgs (top 32), defBody (top 32), defScope (top 32), [], []⟩
def d_chains : He.DefD := ⟨("chains", none), "chains", "chains", defArgs (top 36), defBody (top 36), defScope (top 36), [], []⟩
def d_rows : He.DefD := ⟨("rows", none), "rows", "rows", defArgs (top 38), defBody (top 38), defScope (top 38), [], []⟩
def d_segments_by : He.DefD := ⟨("segments_by", none), "segments_by", "segments_by", defArgs (top 40), defBody (top 40), defScope (top 40), [], []⟩
def d_web_text : He.DefD := ⟨("web_text", none), "web_text", "web_text", defArgs (top 51), defBody (top 51), defScope (top 51), [], []⟩
def d_turned : He.DefD := ⟨("turned", none), "turned", "turned", defArgs (top 63), defBody (top 63), defScope (top 63), [], []⟩
def d_ring : He.DefD := ⟨("ring", none), "ring", "ring", defArgs (top 65), defBody (top 65), defScope (top 65), [], []⟩
def d_knots : He.DefD := ⟨("knots", none), "knots", "knots", defArgs (top 67), defBody (top 67), defScope (top 67), [], []⟩
def d_ties : He.DefD := ⟨("ties", none), "ties", "ties", defArgs (top 70), defBody (top 70), defScope (top 70), [], []⟩
def d_solved : He.DefD := ⟨("solved", none), "solved", "solved", defArgs (top 71), defBody (top 71), defScope (top 71), [], []⟩
def d_clash : He.DefD := ⟨("clash", none), "clash", "clash", defArgs (top 72), defBody (top 72), defScope (top 72), [], []⟩
def d_layers : He.DefD := ⟨("layers", none), "layers", "layers", defArgs (top 74), defBody (top 74), defScope (top 74), [], []⟩
def d_flow : He.DefD := ⟨("flow", none), "flow", "flow", defArgs (top 76), defBody (top 76), defScope (top 76), [], []⟩
def d_length : He.DefD := ⟨("length", none), "length", "length", defArgs (top 77), defBody (top 77), defScope (top 77), [.non], []⟩
def d_worth : He.DefD := ⟨("worth", none), "worth", "worth", defArgs (top 78), defBody (top 78), defScope (top 78), [], []⟩
def d_widths : He.DefD := ⟨("widths", none), "widths", "widths", defArgs (top 94), defBody (top 94), defScope (top 94), [], []⟩
def d_picture : He.DefD := ⟨("picture", none), "picture", "picture", defArgs (top 117), defBody (top 117), defScope (top 117), [], []⟩
def d_board_of : He.DefD := ⟨("board_of", none), "board_of", "board_of", defArgs (top 125), defBody (top 125), defScope (top 125), [], []⟩
def d_law_bag : He.DefD := ⟨("_law_bag", none), "_law_bag", "_law_bag", defArgs (top 127), defBody (top 127), defScope (top 127), [], []⟩
def d_law_bent_web : He.DefD := ⟨("_law_bent_web", none), "_law_bent_web", "_law_bent_web", defArgs (top 128), defBody (top 128), defScope (top 128), [], []⟩
def d_law_drawn_web : He.DefD := ⟨("_law_drawn_web", none), "_law_drawn_web", "_law_drawn_web", defArgs (top 129), defBody (top 129), defScope (top 129), [], []⟩
def d_law_good_web : He.DefD := ⟨("_law_good_web", none), "_law_good_web", "_law_good_web", defArgs (top 130), defBody (top 130), defScope (top 130), [], []⟩
def d_law_names : He.DefD := ⟨("_law_names", none), "_law_names", "_law_names", defArgs (top 131), defBody (top 131), defScope (top 131), [], []⟩
def d_law_odd : He.DefD := ⟨("_law_odd", none), "_law_odd", "_law_odd", defArgs (top 132), defBody (top 132), defScope (top 132), [], []⟩
def d_law_pull : He.DefD := ⟨("_law_pull", none), "_law_pull", "_law_pull", defArgs (top 133), defBody (top 133), defScope (top 133), [], []⟩
def d_law_web_door : He.DefD := ⟨("_law_web_door", none), "_law_web_door", "_law_web_door", defArgs (top 134), defBody (top 134), defScope (top 134), [], []⟩
def d_law_word : He.DefD := ⟨("_law_word", none), "_law_word", "_law_word", defArgs (top 135), defBody (top 135), defScope (top 135), [], []⟩
def d_law : He.DefD := ⟨("law", none), "law", "law", defArgs (top 136), defBody (top 136), defScope (top 136), [], []⟩
def fnsH : List He.DefD := [d_is_name, d_is_least, d_is_weight, d_is_far, d_is_arrow, d_is_saying, d_is_web, d_need_web, d_boxes_of, d_without, d_chains, d_rows, d_segments_by, d_web_text, d_turned, d_ring, d_knots, d_ties, d_solved, d_clash, d_layers, d_flow, d_length, d_worth, d_widths, d_picture, d_board_of, d_law_bag, d_law_bent_web, d_law_drawn_web, d_law_good_web, d_law_names, d_law_odd, d_law_pull, d_law_web_door, d_law_word, d_law]
def factsH : List He.Fa := [.glo "is_name", .glo "is_least", .glo "is_weight", .glo "is_far", .glo "is_arrow", .glo "is_saying", .glo "is_web", .glo "need_web", .glo "boxes_of", .glo "without", .glo "chains", .glo "rows", .glo "segments_by", .glo "web_text", .glo "turned", .glo "ring", .glo "knots", .glo "ties", .glo "solved", .glo "clash", .glo "layers", .glo "flow", .glo "length", .glo "worth", .glo "widths", .glo "picture", .glo "board_of", .glo "_law_bag", .glo "_law_bent_web", .glo "_law_drawn_web", .glo "_law_good_web", .glo "_law_names", .glo "_law_odd", .glo "_law_pull", .glo "_law_web_door", .glo "_law_word", .glo "law", .free "abs", .free "all", .free "enumerate", .free "int", .free "len", .free "list", .free "max", .free "min", .free "range", .free "set", .free "tuple", .str "LETTERS" "abcdefghijklmnopqrstuvwxyz", .int "LONGEST" 6, .int "MOST_BOXES" 40, .int "MOST_ARROWS" 80, .int "MOST_SAYINGS" 20, .int "MOST_LEAST" 3, .int "MOST_WEIGHT" 9, .int "MOST_FAR" 9, .glo "BadArrow", .glo "BadWay", .glo "BadWeb", .glo "Clash", .glo "InkError", .exc "BadWeb", .exm "BadWeb" "BadArrow" false, .exm "BadWeb" "BadWay" false, .exm "BadWeb" "BadWeb" true, .exm "BadWeb" "Clash" false, .exm "BadWeb" "InkError" true, .glo "chains_chains", .glo "layers_layers", .glo "rows_chains", .glo "turned_rings"]
def tfH : List He.Defn := [("_law_web_door", none)]
def exH : PySem.W.Frag → Bool := fun K => decide (He.ga K "chains_chains" = He.ga K "chains") && decide (He.ga K "layers_layers" = He.ga K "layers") && decide (He.ga K "rows_chains" = He.ga K "rows") && decide (He.ga K "turned_rings" = He.ga K "turned")
abbrev RH : PySem.W.OpenRow := PySem.W.OpenLaw.row PySem.Challenge.rw_layerink_k02_webs_refused_at_every_door
def asH : List Addr := cStatics :: 3 :: 6 :: 4 :: 21 :: 31 :: 44 :: 56 :: 68 :: 80 :: 92 :: 104 :: 116 :: 128 :: 147 :: 159 :: 172 :: 179 :: 186 :: 193 :: 200 :: 207 :: 214 :: 219 :: 226 :: 233 :: 238 :: 245 :: 250 :: 255 :: 260 :: 267 :: 274 :: 279 :: 286 :: 293 :: 298 :: 303 :: 310 :: 315 :: 322 :: 329 :: 336 :: 343 :: 348 :: 353 :: 360 :: 367 :: 374 :: 381 :: 388 :: 393 :: 400 :: 407 :: 414 :: 421 :: 426 :: 431 :: 438 :: 444 :: 449 :: 456 :: 461 :: 466 :: 471 :: 476 :: 483 :: 488 :: 494 :: 501 :: 506 :: 511 :: 516 :: 523 :: 530 :: 537 :: 542 :: 547 :: 554 :: 559 :: 566 :: 571 :: 578 :: 583 :: 590 :: 597 :: 602 :: 609 :: 616 :: 621 :: 626 :: 631 :: 635 :: 864 :: 875 :: 880 :: 885 :: 890 :: 895 :: 900 :: 907 :: 914 :: 919 :: 926 :: 933 :: 940 :: 947 :: 954 :: 959 :: 0 :: 20 :: 30 :: 43 :: 55 :: 67 :: 79 :: 91 :: 103 :: 115 :: 127 :: 146 :: 158 :: 171 :: 178 :: 185 :: 192 :: 199 :: 206 :: 213 :: 218 :: 225 :: 232 :: 237 :: 244 :: 249 :: 254 :: 259 :: 266 :: 273 :: 278 :: 285 :: 292 :: 297 :: 302 :: 309 :: 314 :: 321 :: 328 :: 335 :: 342 :: 347 :: 352 :: 359 :: 366 :: 373 :: 380 :: 387 :: 392 :: 399 :: 406 :: 413 :: 420 :: 425 :: 430 :: 437 :: 443 :: 439 :: 448 :: 455 :: 460 :: 465 :: 470 :: 475 :: 482 :: 487 :: 493 :: 489 :: 500 :: 505 :: 510 :: 515 :: 522 :: 529 :: 536 :: 541 :: 546 :: 553 :: 558 :: 565 :: 570 :: 577 :: 582 :: 589 :: 596 :: 601 :: 608 :: 615 :: 620 :: 625 :: 630 :: 632 :: 633 :: 634 :: 863 :: 874 :: 879 :: 884 :: 889 :: 894 :: 899 :: 906 :: 913 :: 918 :: 925 :: 932 :: 939 :: 946 :: 953 :: 958 :: 15 :: 16 :: 17 :: 18 :: 19 :: 29 :: 32 :: 42 :: 54 :: 66 :: 78 :: 90 :: 102 :: 114 :: 126 :: 144 :: 145 :: 157 :: 160 :: 170 :: 175 :: 176 :: 177 :: 180 :: 181 :: 182 :: 183 :: 184 :: 187 :: 188 :: 189 :: 190 :: 191 :: 194 :: 195 :: 196 :: 197 :: 198 :: 201 :: 202 :: 203 :: 204 :: 205 :: 208 :: 209 :: 210 :: 211 :: 212 :: 215 :: 216 :: 217 :: 220 :: 221 :: 222 :: 223 :: 224 :: 227 :: 228 :: 229 :: 230 :: 231 :: 234 :: 235 :: 236 :: 239 :: 240 :: 241 :: 242 :: 243 :: 246 :: 247 :: 248 :: 251 :: 252 :: 253 :: 256 :: 257 :: 258 :: 261 :: 262 :: 263 :: 264 :: 265 :: 268 :: 269 :: 270 :: 271 :: 272 :: 275 :: 276 :: 277 :: 280 :: 281 :: 282 :: 283 :: 284 :: 287 :: 288 :: 289 :: 290 :: 291 :: 294 :: 295 :: 296 :: 299 :: 300 :: 301 :: 304 :: 305 :: 306 :: 307 :: 308 :: 311 :: 312 :: 313 :: 316 :: 317 :: 318 :: 319 :: 320 :: 323 :: 324 :: 325 :: 326 :: 327 :: 330 :: 331 :: 332 :: 333 :: 334 :: 337 :: 338 :: 339 :: 340 :: 341 :: 344 :: 345 :: 346 :: 349 :: 350 :: 351 :: 354 :: 355 :: 356 :: 357 :: 358 :: 361 :: 362 :: 363 :: 364 :: 365 :: 368 :: 369 :: 370 :: 371 :: 372 :: 375 :: 376 :: 377 :: 378 :: 379 :: 382 :: 383 :: 384 :: 385 :: 386 :: 389 :: 390 :: 391 :: 394 :: 395 :: 396 :: 397 :: 398 :: 401 :: 402 :: 403 :: 404 :: 405 :: 408 :: 409 :: 410 :: 411 :: 412 :: 415 :: 416 :: 417 :: 418 :: 419 :: 422 :: 423 :: 424 :: 427 :: 428 :: 429 :: 432 :: 433 :: 434 :: 435 :: 436 :: 440 :: 441 :: 442 :: 445 :: 446 :: 447 :: 450 :: 451 :: 452 :: 453 :: 454 :: 457 :: 458 :: 459 :: 462 :: 463 :: 464 :: 467 :: 468 :: 469 :: 472 :: 473 :: 474 :: 477 :: 478 :: 479 :: 480 :: 481 :: 484 :: 485 :: 486 :: 490 :: 491 :: 492 :: 495 :: 496 :: 497 :: 498 :: 499 :: 502 :: 503 :: 504 :: 507 :: 508 :: 509 :: 512 :: 513 :: 514 :: 517 :: 518 :: 519 :: 520 :: 521 :: 524 :: 525 :: 526 :: 527 :: 528 :: 531 :: 532 :: 533 :: 534 :: 535 :: 538 :: 539 :: 540 :: 543 :: 544 :: 545 :: 548 :: 549 :: 550 :: 551 :: 552 :: 555 :: 556 :: 557 :: 560 :: 561 :: 562 :: 563 :: 564 :: 567 :: 568 :: 569 :: 572 :: 573 :: 574 :: 575 :: 576 :: 579 :: 580 :: 581 :: 584 :: 585 :: 586 :: 587 :: 588 :: 591 :: 592 :: 593 :: 594 :: 595 :: 598 :: 599 :: 600 :: 603 :: 604 :: 605 :: 606 :: 607 :: 610 :: 611 :: 612 :: 613 :: 614 :: 617 :: 618 :: 619 :: 622 :: 623 :: 624 :: 627 :: 628 :: 629 :: 649 :: 656 :: 663 :: 670 :: 677 :: 684 :: 691 :: 698 :: 705 :: 713 :: 720 :: 727 :: 735 :: 743 :: 750 :: 757 :: 764 :: 771 :: 778 :: 785 :: 792 :: 799 :: 806 :: 811 :: 816 :: 823 :: 830 :: 835 :: 842 :: 847 :: 854 :: 861 :: 862 :: 865 :: 866 :: 869 :: 870 :: 871 :: 872 :: 873 :: 876 :: 877 :: 878 :: 881 :: 882 :: 883 :: 886 :: 887 :: 888 :: 891 :: 892 :: 893 :: 896 :: 897 :: 898 :: 901 :: 902 :: 903 :: 904 :: 905 :: 908 :: 909 :: 910 :: 911 :: 912 :: 915 :: 916 :: 917 :: 920 :: 921 :: 922 :: 923 :: 924 :: 927 :: 928 :: 929 :: 930 :: 931 :: 934 :: 935 :: 936 :: 937 :: 938 :: 941 :: 942 :: 943 :: 944 :: 945 :: 948 :: 949 :: 950 :: 951 :: 952 :: 955 :: 956 :: 957 :: 143 :: 648 :: 655 :: 662 :: 669 :: 676 :: 683 :: 690 :: 697 :: 704 :: 712 :: 706 :: 719 :: 726 :: 734 :: 728 :: 742 :: 736 :: 749 :: 756 :: 763 :: 770 :: 777 :: 784 :: 791 :: 798 :: 805 :: 810 :: 815 :: 822 :: 829 :: 834 :: 841 :: 846 :: 853 :: 860 :: []
abbrev hkH : PySem.W.Hook := Ink.hookL asH factsH fnsH [] tfH exH
def obH (s : PySem.W.SharedT) : He.AlX := Ink.obsL asH factsH fnsH [] tfH exH (HandSHeadRun.getT s)
theorem obH_eq (s : PySem.W.SharedT) : obH s = hkH.obs s.abs := Ink.obsL_eq (HandSHeadRun.getT_eq s)
open PySem.W HandSHeadRun in
theorem runA (w : World) : ∀ os : OsState, (endF (stepQ (denQ tabQ) RH.prog w) 9000 RH.prog w os).map (fun s => looksF RH.prog (boot_heap w.params) s.abs) = some true := by
  intro os
  kernel_rfl
def looseH : List PySem.Str := ("_wall" :: "InkError" :: "BadWeb" :: "BadArrow" :: "BadWay" :: "BadName" :: "Taken" :: "Full" :: "BadLeast" :: "BadWeight" :: "Clash" :: "Missing" :: "NoBox" :: "LETTERS" :: "LONGEST" :: "MOST_BOXES" :: "MOST_ARROWS" :: "MOST_SAYINGS" :: "MOST_LEAST" :: "MOST_WEIGHT" :: "MOST_FAR" :: "is_name" :: "is_least" :: "is_weight" :: "is_far" :: "is_arrow" :: "is_saying" :: "is_web" :: "need_web" :: "boxes_of" :: "without" :: "box_item" :: "chain_of" :: "chains" :: "chains_chains" :: "rows" :: "rows_chains" :: "segments_by" :: "spots_of" :: "segments_below" :: "added" :: "up_to" :: "counted" :: "crossings" :: "crossings_crossings" :: "arrow_text" :: "web_text" :: "BACKWARD" :: "links_of" :: "raised" :: "ring_at" :: "gain_ring" :: "sent" :: "best" :: "way_to" :: "parted" :: "turned" :: "turned_rings" :: "ring" :: "reached" :: "knots" :: "ties_of" :: "ties" :: "solved" :: "clash" :: "lots" :: "layers" :: "layers_layers" :: "flow" :: "length" :: "worth" :: "ROUNDS" :: "FINE" :: "neighbours" :: "swept" :: "swept_rows" :: "ahead_of" :: "turned_twos" :: "gain" :: "exchanged" :: "ordered" :: "GAP" :: "BEND" :: "even_up" :: "widths" :: "seen_from" :: "joined" :: "tops" :: "tops_by" :: "wide" :: "least_places" :: "by_item" :: "middle" :: "places" :: "port_columns" :: "ports" :: "overlap" :: "tracks" :: "box_text" :: "put" :: "layer_row" :: "heads" :: "corner" :: "track_rows" :: "channel" :: "picture" :: "EMPTY" :: "Board" :: "need_sizes" :: "web_of" :: "in_order" :: "held_pairs" :: "board_of" :: "_law_bag" :: "_law_bent_web" :: "_law_drawn_web" :: "_law_good_web" :: "_law_names" :: "_law_odd" :: "_law_pull" :: "_law_web_door" :: "_law_word" :: [])
open PySem.W HandSHeadRun in
theorem runB (w : World) : ∀ os : OsState, (endF (stepQ (denQ tabQ) RH.prog w) 9000 RH.prog w os).map (fun s => seenQ (view RH.prog [136]) looseH (importedModules RH.prog.main.body) (fun s => xlAt (view RH.prog [136]) [] s && recOk RH.toRowW.records s) s.abs) = some (openGood (view RH.prog [136]) looseH) := by
  intro os
  kernel_rfl
open PySem.W HandSHeadRun in
theorem runC (w : World) : ∀ os : OsState, (endF (stepQ (denQ tabQ) RH.prog w) 9000 RH.prog w os).map obH = some (hkH.val w) := by
  intro os
  kernel_rfl
theorem runH (w : World) : HandSHeadRun.RunEq RH (PySem.W.view RH.prog [136]) hkH obH 9000 looseH w := fun os => map3 (runA w os) (runB w os) (runC w os)
theorem txtH {K : PySem.W.Frag} {h : Heap} {mg : Str → Option Value} (X : K.In h) (G : h.Ns mainGlobals mg) (c : He.SaysD factsH fnsH K) : Txt K mg :=
  ⟨He.free_ok X G (c.fact 37 (f := .free "abs") rfl),
    He.free_ok X G (c.fact 38 (f := .free "all") rfl),
    He.free_ok X G (c.fact 39 (f := .free "enumerate") rfl),
    He.free_ok X G (c.fact 40 (f := .free "int") rfl),
    He.free_ok X G (c.fact 41 (f := .free "len") rfl),
    He.free_ok X G (c.fact 42 (f := .free "list") rfl),
    He.free_ok X G (c.fact 43 (f := .free "max") rfl),
    He.free_ok X G (c.fact 44 (f := .free "min") rfl),
    He.free_ok X G (c.fact 45 (f := .free "range") rfl),
    He.free_ok X G (c.fact 46 (f := .free "set") rfl),
    He.free_ok X G (c.fact 47 (f := .free "tuple") rfl),
    He.str_ok X G (c.fact 48 rfl),
    He.int_ok X G (c.fact 49 rfl),
    He.int_ok X G (c.fact 50 rfl),
    He.int_ok X G (c.fact 51 rfl),
    He.int_ok X G (c.fact 52 rfl),
    He.int_ok X G (c.fact 53 rfl),
    He.int_ok X G (c.fact 54 rfl),
    He.int_ok X G (c.fact 55 rfl),
    He.glo_ok X G (c.fact 56 (f := .glo "BadArrow") rfl),
    He.glo_ok X G (c.fact 57 (f := .glo "BadWay") rfl),
    He.glo_ok X G (c.fact 58 (f := .glo "BadWeb") rfl),
    He.glo_ok X G (c.fact 59 (f := .glo "Clash") rfl),
    He.glo_ok X G (c.fact 60 (f := .glo "InkError") rfl),
    He.exc_ok (c.fact 61 (f := .exc "BadWeb") rfl),
    He.exm_ok (c.fact 62 (f := .exm "BadWeb" "BadArrow" false) rfl),
    He.exm_ok (c.fact 63 (f := .exm "BadWeb" "BadWay" false) rfl),
    He.exm_ok (c.fact 64 (f := .exm "BadWeb" "BadWeb" true) rfl),
    He.exm_ok (c.fact 65 (f := .exm "BadWeb" "Clash" false) rfl),
    He.exm_ok (c.fact 66 (f := .exm "BadWeb" "InkError" true) rfl)⟩
theorem allH {P : Program} {w : World} {K : PySem.W.Frag} {h : Heap} {mg : Str → Option Value} {f : Addr} (X : K.In h) (G : h.Ns mainGlobals mg) (hfa : mg ("law" : Str) = some (.ref f)) (c : He.SaysD factsH fnsH K) (hx : exH K = true) :
    ∃ fd : FuncData, (∀ (s : Shared) (v : Value), BindsTo s fd ⟨[v], []⟩ [("_law_script", v)]) ∧ ∀ base : Heap, K.In base → base.Ns mainGlobals mg → (∀ p ∈ [He.cT K ("_law_web_door", none)], LamX.TabB base mg p.1 p.2) → FnG P w K mg base (L2.CX P w) 11 f fd ["_law_script"] (spOf K m_law) := by
  have T := txtH X G c
  obtain ⟨fd_is_name, F_is_name⟩ := c.def_ 0 (d := d_is_name) rfl
  have g_is_name := He.glo_ok X G (c.fact 0 (f := .glo "is_name") rfl)
  obtain ⟨fd_is_least, F_is_least⟩ := c.def_ 1 (d := d_is_least) rfl
  have g_is_least := He.glo_ok X G (c.fact 1 (f := .glo "is_least") rfl)
  obtain ⟨fd_is_weight, F_is_weight⟩ := c.def_ 2 (d := d_is_weight) rfl
  have g_is_weight := He.glo_ok X G (c.fact 2 (f := .glo "is_weight") rfl)
  obtain ⟨fd_is_far, F_is_far⟩ := c.def_ 3 (d := d_is_far) rfl
  have g_is_far := He.glo_ok X G (c.fact 3 (f := .glo "is_far") rfl)
  obtain ⟨fd_is_arrow, F_is_arrow⟩ := c.def_ 4 (d := d_is_arrow) rfl
  have g_is_arrow := He.glo_ok X G (c.fact 4 (f := .glo "is_arrow") rfl)
  obtain ⟨fd_is_saying, F_is_saying⟩ := c.def_ 5 (d := d_is_saying) rfl
  have g_is_saying := He.glo_ok X G (c.fact 5 (f := .glo "is_saying") rfl)
  obtain ⟨fd_is_web, F_is_web⟩ := c.def_ 6 (d := d_is_web) rfl
  have g_is_web := He.glo_ok X G (c.fact 6 (f := .glo "is_web") rfl)
  obtain ⟨fd_need_web, F_need_web⟩ := c.def_ 7 (d := d_need_web) rfl
  have g_need_web := He.glo_ok X G (c.fact 7 (f := .glo "need_web") rfl)
  obtain ⟨fd_boxes_of, F_boxes_of⟩ := c.def_ 8 (d := d_boxes_of) rfl
  have g_boxes_of := He.glo_ok X G (c.fact 8 (f := .glo "boxes_of") rfl)
  obtain ⟨fd_without, F_without⟩ := c.def_ 9 (d := d_without) rfl
  have g_without := He.glo_ok X G (c.fact 9 (f := .glo "without") rfl)
  obtain ⟨fd_chains, F_chains⟩ := c.def_ 10 (d := d_chains) rfl
  have g_chains := He.glo_ok X G (c.fact 10 (f := .glo "chains") rfl)
  obtain ⟨fd_rows, F_rows⟩ := c.def_ 11 (d := d_rows) rfl
  have g_rows := He.glo_ok X G (c.fact 11 (f := .glo "rows") rfl)
  obtain ⟨fd_segments_by, F_segments_by⟩ := c.def_ 12 (d := d_segments_by) rfl
  have g_segments_by := He.glo_ok X G (c.fact 12 (f := .glo "segments_by") rfl)
  obtain ⟨fd_web_text, F_web_text⟩ := c.def_ 13 (d := d_web_text) rfl
  have g_web_text := He.glo_ok X G (c.fact 13 (f := .glo "web_text") rfl)
  obtain ⟨fd_turned, F_turned⟩ := c.def_ 14 (d := d_turned) rfl
  have g_turned := He.glo_ok X G (c.fact 14 (f := .glo "turned") rfl)
  obtain ⟨fd_ring, F_ring⟩ := c.def_ 15 (d := d_ring) rfl
  have g_ring := He.glo_ok X G (c.fact 15 (f := .glo "ring") rfl)
  obtain ⟨fd_knots, F_knots⟩ := c.def_ 16 (d := d_knots) rfl
  have g_knots := He.glo_ok X G (c.fact 16 (f := .glo "knots") rfl)
  obtain ⟨fd_ties, F_ties⟩ := c.def_ 17 (d := d_ties) rfl
  have g_ties := He.glo_ok X G (c.fact 17 (f := .glo "ties") rfl)
  obtain ⟨fd_solved, F_solved⟩ := c.def_ 18 (d := d_solved) rfl
  have g_solved := He.glo_ok X G (c.fact 18 (f := .glo "solved") rfl)
  obtain ⟨fd_clash, F_clash⟩ := c.def_ 19 (d := d_clash) rfl
  have g_clash := He.glo_ok X G (c.fact 19 (f := .glo "clash") rfl)
  obtain ⟨fd_layers, F_layers⟩ := c.def_ 20 (d := d_layers) rfl
  have g_layers := He.glo_ok X G (c.fact 20 (f := .glo "layers") rfl)
  obtain ⟨fd_flow, F_flow⟩ := c.def_ 21 (d := d_flow) rfl
  have g_flow := He.glo_ok X G (c.fact 21 (f := .glo "flow") rfl)
  obtain ⟨fd_length, F_length⟩ := c.def_ 22 (d := d_length) rfl
  have g_length := He.glo_ok X G (c.fact 22 (f := .glo "length") rfl)
  obtain ⟨fd_worth, F_worth⟩ := c.def_ 23 (d := d_worth) rfl
  have g_worth := He.glo_ok X G (c.fact 23 (f := .glo "worth") rfl)
  obtain ⟨fd_widths, F_widths⟩ := c.def_ 24 (d := d_widths) rfl
  have g_widths := He.glo_ok X G (c.fact 24 (f := .glo "widths") rfl)
  obtain ⟨fd_picture, F_picture⟩ := c.def_ 25 (d := d_picture) rfl
  have g_picture := He.glo_ok X G (c.fact 25 (f := .glo "picture") rfl)
  obtain ⟨fd_board_of, F_board_of⟩ := c.def_ 26 (d := d_board_of) rfl
  have g_board_of := He.glo_ok X G (c.fact 26 (f := .glo "board_of") rfl)
  obtain ⟨fd_law_bag, F_law_bag⟩ := c.def_ 27 (d := d_law_bag) rfl
  have g_law_bag := He.glo_ok X G (c.fact 27 (f := .glo "_law_bag") rfl)
  obtain ⟨fd_law_bent_web, F_law_bent_web⟩ := c.def_ 28 (d := d_law_bent_web) rfl
  have g_law_bent_web := He.glo_ok X G (c.fact 28 (f := .glo "_law_bent_web") rfl)
  obtain ⟨fd_law_drawn_web, F_law_drawn_web⟩ := c.def_ 29 (d := d_law_drawn_web) rfl
  have g_law_drawn_web := He.glo_ok X G (c.fact 29 (f := .glo "_law_drawn_web") rfl)
  obtain ⟨fd_law_good_web, F_law_good_web⟩ := c.def_ 30 (d := d_law_good_web) rfl
  have g_law_good_web := He.glo_ok X G (c.fact 30 (f := .glo "_law_good_web") rfl)
  obtain ⟨fd_law_names, F_law_names⟩ := c.def_ 31 (d := d_law_names) rfl
  have g_law_names := He.glo_ok X G (c.fact 31 (f := .glo "_law_names") rfl)
  obtain ⟨fd_law_odd, F_law_odd⟩ := c.def_ 32 (d := d_law_odd) rfl
  have g_law_odd := He.glo_ok X G (c.fact 32 (f := .glo "_law_odd") rfl)
  obtain ⟨fd_law_pull, F_law_pull⟩ := c.def_ 33 (d := d_law_pull) rfl
  have g_law_pull := He.glo_ok X G (c.fact 33 (f := .glo "_law_pull") rfl)
  obtain ⟨fd_law_web_door, F_law_web_door⟩ := c.def_ 34 (d := d_law_web_door) rfl
  have g_law_web_door := He.glo_ok X G (c.fact 34 (f := .glo "_law_web_door") rfl)
  obtain ⟨fd_law_word, F_law_word⟩ := c.def_ 35 (d := d_law_word) rfl
  have g_law_word := He.glo_ok X G (c.fact 35 (f := .glo "_law_word") rfl)
  obtain ⟨fd_law, F_law⟩ := c.def_ 36 (d := d_law) rfl
  have g_law := He.glo_ok X G (c.fact 36 (f := .glo "law") rfl)
  have g_chains_chains := He.glo_ok X G (c.fact 67 (f := .glo "chains_chains") rfl)
  have g_layers_layers := He.glo_ok X G (c.fact 68 (f := .glo "layers_layers") rfl)
  have g_rows_chains := He.glo_ok X G (c.fact 69 (f := .glo "rows_chains") rfl)
  have g_turned_rings := He.glo_ok X G (c.fact 70 (f := .glo "turned_rings") rfl)
  unfold exH at hx
  simp only [Bool.and_eq_true] at hx
  have e := hfa.symm.trans g_law
  cases e
  have b := FunD.bindsA (ps := ["_law_script"]) F_law fun _ _ _ _ _ _ us hl => match us, hl with | [_], _ => rfl
  refine ⟨fd_law, fun s v => b s [v] rfl, fun base _ _ TB => ?_⟩
  have w_is_name := G_is_name (P := P) (w := w) (base := base) T F_is_name g_is_name  
  have w_is_least := G_is_least (P := P) (w := w) (base := base) T F_is_least g_is_least  
  have w_is_weight := G_is_weight (P := P) (w := w) (base := base) T F_is_weight g_is_weight  
  have w_is_far := G_is_far (P := P) (w := w) (base := base) T F_is_far g_is_far  
  have w_segments_by := G_segments_by (P := P) (w := w) (base := base) T F_segments_by g_segments_by  
  have w_law_bag := G_law_bag (P := P) (w := w) (base := base) T F_law_bag g_law_bag  
  have w_law_good_web := G_law_good_web (P := P) (w := w) (base := base) T F_law_good_web g_law_good_web  
  have w_law_pull := G_law_pull (P := P) (w := w) (base := base) T F_law_pull g_law_pull  
  have w_is_arrow := G_is_arrow (P := P) (w := w) (base := base) T F_is_arrow g_is_arrow  w_is_least w_is_weight
  have w_is_saying := G_is_saying (P := P) (w := w) (base := base) T F_is_saying g_is_saying  w_is_far
  have w_law_names := G_law_names (P := P) (w := w) (base := base) T F_law_names g_law_names  w_law_pull
  have w_law_odd := G_law_odd (P := P) (w := w) (base := base) T F_law_odd g_law_odd  w_law_pull
  have w_is_web := G_is_web (P := P) (w := w) (base := base) T F_is_web g_is_web  w_is_arrow w_is_name w_is_saying
  have w_law_bent_web := G_law_bent_web (P := P) (w := w) (base := base) T F_law_bent_web g_law_bent_web  w_law_odd w_law_pull
  have w_law_drawn_web := G_law_drawn_web (P := P) (w := w) (base := base) T F_law_drawn_web g_law_drawn_web  w_law_names w_law_pull
  have w_need_web := G_need_web (P := P) (w := w) (base := base) T F_need_web g_need_web  w_is_web
  have w_boxes_of := G_boxes_of (P := P) (w := w) (base := base) T F_boxes_of g_boxes_of  w_need_web
  have w_without := G_without (P := P) (w := w) (base := base) T F_without g_without  w_need_web
  have w_chains := G_chains (P := P) (w := w) (base := base) T F_chains g_chains  w_need_web
  have w_chains_chains := fn_alias w_chains g_chains g_chains_chains (of_decide_eq_true hx.1.1.1)
  have w_rows := G_rows (P := P) (w := w) (base := base) T F_rows g_rows  w_need_web
  have w_rows_chains := fn_alias w_rows g_rows g_rows_chains (of_decide_eq_true hx.1.2)
  have w_web_text := G_web_text (P := P) (w := w) (base := base) T F_web_text g_web_text  w_need_web
  have w_turned := G_turned (P := P) (w := w) (base := base) T F_turned g_turned  w_need_web
  have w_turned_rings := fn_alias w_turned g_turned g_turned_rings (of_decide_eq_true hx.2)
  have w_ring := G_ring (P := P) (w := w) (base := base) T F_ring g_ring  w_need_web
  have w_knots := G_knots (P := P) (w := w) (base := base) T F_knots g_knots  w_need_web
  have w_ties := G_ties (P := P) (w := w) (base := base) T F_ties g_ties  w_need_web
  have w_solved := G_solved (P := P) (w := w) (base := base) T F_solved g_solved  w_need_web
  have w_clash := G_clash (P := P) (w := w) (base := base) T F_clash g_clash  w_need_web
  have w_picture := G_picture (P := P) (w := w) (base := base) T F_picture g_picture  w_need_web
  have w_board_of := G_board_of (P := P) (w := w) (base := base) T F_board_of g_board_of  w_need_web
  have w_layers := G_layers (P := P) (w := w) (base := base) T F_layers g_layers  w_solved
  have w_layers_layers := fn_alias w_layers g_layers g_layers_layers (of_decide_eq_true hx.1.1.2)
  have w_flow := G_flow (P := P) (w := w) (base := base) T F_flow g_flow  w_solved
  have w_worth := G_worth (P := P) (w := w) (base := base) T F_worth g_worth  w_ties
  have w_widths := G_widths (P := P) (w := w) (base := base) T F_widths g_widths  w_chains_chains w_segments_by
  have w_length := G_length (P := P) (w := w) (base := base) T F_length g_length  w_layers_layers w_solved
  have w_law_web_door := G_law_web_door (P := P) (w := w) (base := base) T F_law_web_door g_law_web_door rfl (TB _ (List.mem_singleton_self _))  F_law_word g_law_word w_board_of w_boxes_of w_chains_chains w_clash w_flow w_knots w_layers_layers w_length w_picture w_ring w_rows_chains w_ties w_turned_rings w_web_text w_widths w_without w_worth
  exact G_law T F_law rfl (TB _ (List.mem_singleton_self _))  w_law_bag w_law_bent_web w_law_drawn_web w_law_good_web w_law_pull w_law_web_door
end
end Lw
section
open PySem PySem.W PySem.Calls PyProof.Rows
theorem PySem.Challenge.cw_layerink_k02_webs_refused_at_every_door_holds : PySem.Challenge.rw_layerink_k02_webs_refused_at_every_door.Holds := by
  w_on; o_law
  refine HandSHeadRun.head_any (r := PySem.W.OpenLaw.row PySem.Challenge.rw_layerink_k02_webs_refused_at_every_door) (q := PySem.W.view (PySem.W.OpenLaw.row PySem.Challenge.rw_layerink_k02_webs_refused_at_every_door).prog [136]) (H := Lw.hkH) (ob := Lw.obH) (M := 9000) (loose := Lw.looseH) (d := HandSHeadRun.topDef (PySem.W.OpenLaw.row PySem.Challenge.rw_layerink_k02_webs_refused_at_every_door).prog 136) (kwd := []) Lw.obH_eq (by kernel_rfl)
    (fun s => by kernel_rfl) Lw.runH (by kernel_rfl) (by kernel_rfl) (by kernel_rfl) (by rfl)
    (by first | assumption | decide +kernel) (by decide +kernel) ⟨rfl, rfl, rfl, rfl, rfl, by decide +kernel⟩ ?hw ?hc
  case hw => w_witness2
  case hc =>
    refine Ink.walkT (l := PySem.Challenge.rw_layerink_k02_webs_refused_at_every_door) (n := 63) (k := 11) (x := "_law_script") (CX := fun w => L2.CX (PySem.Challenge.rw_layerink_k02_webs_refused_at_every_door).prog w) rfl (by decide) (by kernel_rfl) ⟨rfl, by decide, by decide⟩ ?F (fun _ _ _ _ _ z => Ink.noCX z)
    intro w mg fa h Y G hm0
    obtain ⟨K, kx, c⟩ := Y
    have hm : mg ("law" : PySem.Str) = some (.ref fa) := by
      have e : (HandSHeadRun.topDef (PySem.W.OpenLaw.row PySem.Challenge.rw_layerink_k02_webs_refused_at_every_door).prog 136).name = ("law" : PySem.Str) := by kernel_rfl
      rw [← e]; exact hm0
    obtain ⟨fd, hb, hF⟩ := Lw.allH (P := (PySem.Challenge.rw_layerink_k02_webs_refused_at_every_door).prog) (w := w) kx G hm c.t.d c.more
    have tin : ∀ p ∈ [He.cT K ("_law_web_door", none)], p = He.cT K ("_law_web_door", none) := fun p hp => List.mem_singleton.mp hp
    refine ⟨K, fd, [He.cT K ("_law_web_door", none)], Ink.spOf K Lw.m_law, kx, fun p hp => ?_, fun p hp => ?_, fun p hp => ?_, hb, fun H a ns _ hH hO hS => Ink.sp_law (Lw.law_ok ns) (fun p hp => ?_) (fun b ps e => ?_) hS, hF⟩
    · rw [tin p hp]; exact c.empty _ (List.mem_singleton_self _)
    · rw [tin p hp]; exact c.out _ (List.mem_singleton_self _)
    · rw [tin p hp]; exact PySem.W.codeHd_of_K kx (c.hd _ (List.mem_singleton_self _))
    · rw [List.mem_singleton.mp hp]; exact hH _ (List.mem_singleton_self _)
    · obtain ⟨p, hp, e2⟩ := hO b ps e
      exact ⟨_, List.mem_singleton_self _, by rw [← e2, tin p hp]⟩
end
