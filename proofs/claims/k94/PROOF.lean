import PyProof.Rows.All
import Wide.All
import OpenK.AllK
import Wide.FinOn
import HandS.ForMost
import HandS.IsInst
import HandS.Wide
import HandS.Conv
import HandS.WordsExc
import KE.GoesNew
import KE.GoesMore
import HandS.EndBits
import PySem.Challenge.RW_mendplan_k94_whole_watching
import KE.OsArith
import KE.BitLaws
set_option Elab.async false
set_option linter.all false
set_option maxRecDepth 100000
/-! DL: a layer over the readings. Data D, owned trees O, the frozen part F of the abstract heap, the relation Sim. -/
namespace DL
open PySem L2

/-- data, as a frozen value stands for it -/
inductive D where
  | non | bl (b : Bool) | int (i : Int) | str (s : Str) | ty (n : String)
  | lst (l : List D) | tup (l : List D)
  | dk (kvs : List (Key × D)) | dt (kvs : List (List Key × D))
  | obj (C : Addr) (fs : List (Str × D))
  | scr (l : List D)
/-- owned trees: what a name alone holds -/
inductive O where
  | fz (d : D)
  | lst (l : List O)
  | dk (kvs : List (Key × D)) | dt (kvs : List (List Key × D))
  | ins (C : Addr) (fs : List (Str × O))
mutual
def O.toD : O → D
  | .fz d => d
  | .lst l => .lst (O.toDL l)
  | .dk k => .dk k
  | .dt k => .dt k
  | .ins C fs => .obj C (O.toDF fs)
def O.toDL : List O → List D
  | [] => []
  | o :: r => o.toD :: O.toDL r
def O.toDF : List (Str × O) → List (Str × D)
  | [] => []
  | (f, o) :: r => (f, o.toD) :: O.toDF r
end
theorem toDL_map : ∀ l : List O, O.toDL l = l.map O.toD
  | [] => rfl
  | o :: r => by rw [O.toDL, toDL_map r, List.map_cons]
theorem toDF_map : ∀ l : List (Str × O), O.toDF l = l.map fun p => (p.1, p.2.toD)
  | [] => rfl
  | (f, o) :: r => by rw [O.toDF, toDF_map r, List.map_cons]

section
variable (K : PySem.W.Frag) (F : Hp)
mutual
inductive Fz : V → D → Prop
  | non : Fz .non .non
  | bl (b : Bool) : Fz (.bl b) (.bl b)
  | int (i : Int) : Fz (.int i) (.int i)
  | str (s : Str) : Fz (.str s) (.str s)
  | ty (n : String) : Fz (.ty n) (.ty n)
  | lst {a : Addr} {xs : List V} {ds : List D} (h : F a = some (.lst xs)) (l : FzL xs ds) : Fz (.ref a) (.lst ds)
  | tup {a : Addr} {xs : List V} {ds : List D} (h : SqT K F a xs) (l : FzL xs ds) : Fz (.ref a) (.tup ds)
  | dk {a : Addr} {kvs : List (Key × V)} {ds : List (Key × D)} (h : F a = some (.dK kvs)) (e : kvs.map Prod.fst = ds.map Prod.fst) (l : FzL (kvs.map Prod.snd) (ds.map Prod.snd)) : Fz (.ref a) (.dk ds)
  | dt {a : Addr} {kvs : List (List Key × V)} {ds : List (List Key × D)} (h : F a = some (.dT kvs)) (e : kvs.map Prod.fst = ds.map Prod.fst) (l : FzL (kvs.map Prod.snd) (ds.map Prod.snd)) : Fz (.ref a) (.dt ds)
  | obj {a C dx : Addr} {fs : List (Str × V)} {ds : List (Str × D)} (h : F a = some (.ins C dx fs)) (e : fs.map Prod.fst = ds.map Prod.fst) (l : FzL (fs.map Prod.snd) (ds.map Prod.snd)) : Fz (.ref a) (.obj C ds)
  | scr {a : Addr} {xs : List V} {ds : List D} (h : SqL K F a xs) (l : FzL xs ds) : Fz (.ref a) (.scr ds)
inductive FzL : List V → List D → Prop
  | nil : FzL [] []
  | cons {v : V} {vs : List V} {d : D} {ds : List D} (h : Fz v d) (l : FzL vs ds) : FzL (v :: vs) (d :: ds)
end
end

def Le (F F' : Hp) : Prop := ∀ a o, F a = some o → F' a = some o
theorem Le.refl (F : Hp) : Le F F := fun _ _ h => h
theorem Le.trans {F G H : Hp} (a : Le F G) (b : Le G H) : Le F H := fun x o h => b x o (a x o h)
section
variable {K : PySem.W.Frag} {F F' : Hp}
theorem rd_mono {a : Addr} {u : HO} (e : Le F F') (h : Rd F a u) : Rd F' a u := by
  rcases h with h | ⟨o, h⟩
  · exact .inl (e a _ h)
  · exact .inr ⟨o, e a _ h⟩
theorem sqT_mono {a : Addr} {xs : List V} (e : Le F F') (h : SqT K F a xs) : SqT K F' a xs := h.imp (rd_mono e) id
theorem sqL_mono {a : Addr} {xs : List V} (e : Le F F') (h : SqL K F a xs) : SqL K F' a xs := h.imp (rd_mono e) id
mutual
theorem Fz.mono (e : Le F F') : ∀ {v : V} {d : D}, Fz K F v d → Fz K F' v d
  | _, _, .non => .non
  | _, _, .bl b => .bl b
  | _, _, .int i => .int i
  | _, _, .str i => .str i
  | _, _, .ty i => .ty i
  | _, _, .lst h l => .lst (e _ _ h) (FzL.mono e l)
  | _, _, .tup h l => .tup (sqT_mono e h) (FzL.mono e l)
  | _, _, .dk h q l => .dk (e _ _ h) q (FzL.mono e l)
  | _, _, .dt h q l => .dt (e _ _ h) q (FzL.mono e l)
  | _, _, .obj h q l => .obj (e _ _ h) q (FzL.mono e l)
  | _, _, .scr h l => .scr (sqL_mono e h) (FzL.mono e l)
theorem FzL.mono (e : Le F F') : ∀ {vs : List V} {ds : List D}, FzL K F vs ds → FzL K F' vs ds
  | _, _, .nil => .nil
  | _, _, .cons h l => .cons (Fz.mono e h) (FzL.mono e l)
end
theorem FzL.length : ∀ {vs : List V} {ds : List D}, FzL K F vs ds → vs.length = ds.length
  | _, _, .nil => rfl
  | _, _, .cons _ l => by rw [List.length_cons, List.length_cons, FzL.length l]
theorem FzL.get : ∀ {vs : List V} {ds : List D} {i : Nat} {d : D}, FzL K F vs ds → ds[i]? = some d → ∃ v, vs[i]? = some v ∧ Fz K F v d
  | _, _, i, _, .nil, h => by simp at h
  | _, _, 0, _, .cons h _, e => by simp at e; subst e; exact ⟨_, rfl, h⟩
  | _, _, i + 1, _, .cons _ l, e => by
    obtain ⟨v, h1, h2⟩ := FzL.get l (i := i) (by simpa using e)
    exact ⟨v, by simpa using h1, h2⟩
theorem FzL.got : ∀ {vs : List V} {ds : List D} {i : Nat} {v : V}, FzL K F vs ds → vs[i]? = some v → ∃ d, ds[i]? = some d ∧ Fz K F v d
  | _, _, i, _, .nil, h => by simp at h
  | _, _, 0, _, .cons h _, e => by simp at e; subst e; exact ⟨_, rfl, h⟩
  | _, _, i + 1, _, .cons _ l, e => by
    obtain ⟨v, h1, h2⟩ := FzL.got l (i := i) (by simpa using e)
    exact ⟨v, by simpa using h1, h2⟩
theorem FzL.append : ∀ {vs ws : List V} {ds es : List D}, FzL K F vs ds → FzL K F ws es → FzL K F (vs ++ ws) (ds ++ es)
  | _, _, _, _, .nil, m => m
  | _, _, _, _, .cons h l, m => .cons h (FzL.append l m)
theorem FzL.take : ∀ {vs : List V} {ds : List D} (n : Nat), FzL K F vs ds → FzL K F (vs.take n) (ds.take n)
  | _, _, 0, _ => .nil
  | _, _, _ + 1, .nil => .nil
  | _, _, n + 1, .cons h l => .cons h (FzL.take n l)
theorem FzL.drop : ∀ {vs : List V} {ds : List D} (n : Nat), FzL K F vs ds → FzL K F (vs.drop n) (ds.drop n)
  | _, _, 0, l => l
  | _, _, _ + 1, .nil => .nil
  | _, _, n + 1, .cons _ l => FzL.drop n l
theorem FzL.reverse : ∀ {vs : List V} {ds : List D}, FzL K F vs ds → FzL K F vs.reverse ds.reverse
  | _, _, .nil => .nil
  | _, _, .cons h l => by rw [List.reverse_cons, List.reverse_cons]; exact (FzL.reverse l).append (.cons h .nil)
end

/-! ### owned trees -/
section
variable (K : PySem.W.Frag) (F H : Hp)
mutual
inductive Ow : (Addr → Prop) → V → O → Prop
  | fz {S : Addr → Prop} {v : V} {d : D} (h : Fz K F v d) : Ow S v (.fz d)
  | lst {S S1 : Addr → Prop} {a : Addr} {xs : List V} {os : List O} (h : H a = some (.lst xs)) (n : F a = none) (s : S a) (s1 : ∀ b, S1 b → S b ∧ b ≠ a) (l : OwL S1 xs os) : Ow S (.ref a) (.lst os)
  | dk {S : Addr → Prop} {a : Addr} {kvs : List (Key × V)} {ds : List (Key × D)} (h : H a = some (.dK kvs)) (n : F a = none) (s : S a) (e : kvs.map Prod.fst = ds.map Prod.fst) (l : FzL K F (kvs.map Prod.snd) (ds.map Prod.snd)) : Ow S (.ref a) (.dk ds)
  | dt {S : Addr → Prop} {a : Addr} {kvs : List (List Key × V)} {ds : List (List Key × D)} (h : H a = some (.dT kvs)) (n : F a = none) (s : S a) (e : kvs.map Prod.fst = ds.map Prod.fst) (l : FzL K F (kvs.map Prod.snd) (ds.map Prod.snd)) : Ow S (.ref a) (.dt ds)
  | ins {S S1 : Addr → Prop} {a C dx : Addr} {fs : List (Str × V)} {os : List (Str × O)} (h : H a = some (.ins C dx fs)) (n : F a = none) (s : S a) (s1 : ∀ b, S1 b → S b ∧ b ≠ a) (e : fs.map Prod.fst = os.map Prod.fst)
      (l : OwL S1 (fs.map Prod.snd) (os.map Prod.snd)) : Ow S (.ref a) (.ins C os)
inductive OwL : (Addr → Prop) → List V → List O → Prop
  | nil {S : Addr → Prop} : OwL S [] []
  | cons {S S1 S2 : Addr → Prop} {v : V} {vs : List V} {o : O} {os : List O} (s1 : ∀ b, S1 b → S b) (s2 : ∀ b, S2 b → S b) (dj : ∀ b, S1 b → ¬ S2 b) (h : Ow S1 v o) (l : OwL S2 vs os) : OwL S (v :: vs) (o :: os)
end
end
def isTbl : HO → Prop
  | .tbl _ => True
  | _ => False
/-- all but the tables of code objects stay -/
structure Ext (H H' : Hp) : Prop where
  keep : ∀ a o, H a = some o → ¬ isTbl o → H' a = some o
  thr : ∀ a, H a ≠ none → H' a ≠ none
theorem Ext.refl (H : Hp) : Ext H H := ⟨fun _ _ h _ => h, fun _ h => h⟩
theorem Ext.trans {H H1 H2 : Hp} (a : Ext H H1) (b : Ext H1 H2) : Ext H H2 := ⟨fun x o h n => b.keep x o (a.keep x o h n) n, fun x h => b.thr x (a.thr x h)⟩
theorem Ext.of {H H' : Hp} (h : Le H H') : Ext H H' := ⟨fun a o e _ => h a o e, fun a n e => by
  cases q : H a with
  | none => exact n q
  | some o => rw [h a o q] at e; cases e⟩
theorem Le.new {H : Hp} {p : Addr} {o : HO} (h : H p = none) : Le H (upd H p o) := fun a u e => by
  rw [upd_ne (ne_of_none e h)]; exact e
theorem Ext.new {H : Hp} {p : Addr} {o : HO} (h : H p = none) : Ext H (upd H p o) := .of (Le.new h)
section
variable {K : PySem.W.Frag} {F F' H H' : Hp}
theorem Ow.grow {S S' : Addr → Prop} (e : ∀ b, S b → S' b) {v : V} {o : O} (w : Ow K F H S v o) : Ow K F H S' v o := by
  cases w with
  | fz h => exact .fz h
  | lst h n s s1 l => exact .lst h n (e _ s) (fun b z => ⟨e b (s1 b z).1, (s1 b z).2⟩) l
  | dk h n s q l => exact .dk h n (e _ s) q l
  | dt h n s q l => exact .dt h n (e _ s) q l
  | ins h n s s1 q l => exact .ins h n (e _ s) (fun b z => ⟨e b (s1 b z).1, (s1 b z).2⟩) q l
theorem OwL.grow {S S' : Addr → Prop} (e : ∀ b, S b → S' b) {v : List V} {o : List O} (w : OwL K F H S v o) : OwL K F H S' v o := by
  cases w with
  | nil => exact .nil
  | cons s1 s2 dj h l => exact .cons (fun b z => e b (s1 b z)) (fun b z => e b (s2 b z)) dj h l
/-- a tree stands where its nodes are kept and not frozen -/
structure Stand (S : Addr → Prop) (F H F' H' : Hp) : Prop where
  le : Le F F'
  keep : ∀ b o, S b → H b = some o → ¬ isTbl o → H' b = some o
  no : ∀ b, S b → H b ≠ none → F b = none → F' b = none
theorem Stand.sub {S S' : Addr → Prop} (x : Stand S F H F' H') (e : ∀ b, S' b → S b) : Stand S' F H F' H' := ⟨x.le, fun b o z => x.keep b o (e b z), fun b z => x.no b (e b z)⟩
mutual
theorem Ow.stand : ∀ {S : Addr → Prop} {v : V} {o : O}, Ow K F H S v o → Stand S F H F' H' → Ow K F' H' S v o
  | _, _, _, .fz h, x => .fz (h.mono x.le)
  | _, _, _, .lst h n s s1 l, x => .lst (x.keep _ _ s h (fun z => z)) (x.no _ s (by rw [h]; simp) n) s s1 (OwL.stand l (x.sub fun b z => (s1 b z).1))
  | _, _, _, .dk h n s e l, x => .dk (x.keep _ _ s h (fun z => z)) (x.no _ s (by rw [h]; simp) n) s e (l.mono x.le)
  | _, _, _, .dt h n s e l, x => .dt (x.keep _ _ s h (fun z => z)) (x.no _ s (by rw [h]; simp) n) s e (l.mono x.le)
  | _, _, _, .ins h n s s1 e l, x => .ins (x.keep _ _ s h (fun z => z)) (x.no _ s (by rw [h]; simp) n) s s1 e (OwL.stand l (x.sub fun b z => (s1 b z).1))
theorem OwL.stand : ∀ {S : Addr → Prop} {v : List V} {o : List O}, OwL K F H S v o → Stand S F H F' H' → OwL K F' H' S v o
  | _, _, _, .nil, _ => .nil
  | _, _, _, .cons s1 s2 dj h l, x => .cons s1 s2 dj (Ow.stand h (x.sub s1)) (OwL.stand l (x.sub s2))
end
mutual
theorem Ow.fz' : ∀ {S : Addr → Prop} {v : V} {o : O}, Ow K F H S v o → Le F F' → (∀ b o, S b → H b = some o → ¬ isTbl o → F' b = some o) → Fz K F' v o.toD
  | _, _, _, .fz h, e, _ => h.mono e
  | _, _, _, .lst h n s s1 l, e, k => .lst (k _ _ s h fun z => z) (OwL.fz' l e fun b o z => k b o (s1 b z).1)
  | _, _, _, .dk h n s q l, e, k => .dk (k _ _ s h fun z => z) q (l.mono e)
  | _, _, _, .dt h n s q l, e, k => .dt (k _ _ s h fun z => z) q (l.mono e)
  | _, _, _, .ins (fs := fs) (os := os) h n s s1 q l, e, k => by
    have z := OwL.fz' l e fun b o z => k b o (s1 b z).1
    show Fz K F' _ (.obj _ (O.toDF os))
    refine .obj (k _ _ s h fun z => z) ?_ ?_
    · rw [q, toDF_map, List.map_map]; rfl
    · rw [toDL_map] at z
      rw [toDF_map, List.map_map]
      rw [List.map_map] at z
      exact z
theorem OwL.fz' : ∀ {S : Addr → Prop} {v : List V} {o : List O}, OwL K F H S v o → Le F F' → (∀ b o, S b → H b = some o → ¬ isTbl o → F' b = some o) → FzL K F' v (O.toDL o)
  | _, _, _, .nil, _, _ => .nil
  | _, _, _, .cons s1 s2 dj h l, e, k => .cons (Ow.fz' h e fun b o z => k b o (s1 b z)) (OwL.fz' l e fun b o z => k b o (s2 b z))
end
theorem OwL.length : ∀ {S : Addr → Prop} {vs : List V} {os : List O}, OwL K F H S vs os → vs.length = os.length
  | _, _, _, .nil => rfl
  | _, _, _, .cons _ _ _ _ l => by rw [List.length_cons, List.length_cons, OwL.length l]
/-- frozen items, as owned leaves -/
theorem OwL.leaves {S : Addr → Prop} : ∀ {vs : List V} {ds : List D}, FzL K F vs ds → OwL K F H S vs (ds.map O.fz)
  | _, _, .nil => .nil
  | _, _, .cons h l => .cons (S1 := fun _ => False) (fun _ z => z.elim) (fun _ z => z) (fun _ z => z.elim) (.fz h) (OwL.leaves l)
end

/-! ### paths into a tree -/
inductive Step where
  | ix (n : Nat) | at (f : Str)
def putA {α : Type} (f : Str) (v : α) : List (Str × α) → List (Str × α)
  | [] => [(f, v)]
  | (g, x) :: r => if g = f then (g, v) :: r else (g, x) :: putA f v r
def O.get : List Step → O → Option O
  | [], o => some o
  | .ix n :: π, .lst l => (l[n]?).bind (O.get π)
  | .at f :: π, .ins _ fs => (fs.lookup f).bind (O.get π)
  | _ :: _, _ => none
def O.put (o' : O) : List Step → O → O
  | [], _ => o'
  | .ix n :: π, .lst l => (l[n]?).elim (.lst l) fun x => .lst (l.set n (O.put o' π x))
  | .at f :: π, .ins C fs => (fs.lookup f).elim (.ins C fs) fun x => .ins C (putA f (O.put o' π x) fs)
  | _ :: _, o => o
/-- what stands at the end of a path in the heap -/
def At (H : Hp) : List Step → V → V → Prop
  | [], v, v1 => v1 = v
  | .ix n :: π, v, v1 => ∃ a xs x, v = .ref a ∧ H a = some (.lst xs) ∧ xs[n]? = some x ∧ At H π x v1
  | .at f :: π, v, v1 => ∃ a C dx fs x, v = .ref a ∧ H a = some (.ins C dx fs) ∧ fs.lookup f = some x ∧ At H π x v1
theorem putF_eq (f : Str) (v : V) : ∀ fs : List (Str × V), putF f v fs = putA f v fs
  | [] => rfl
  | (g, x) :: r => by unfold putF putA; rw [putF_eq f v r]
theorem putA_fst {α β : Type} (f : Str) (v : α) (w : β) : ∀ {fs : List (Str × α)} {gs : List (Str × β)}, fs.map Prod.fst = gs.map Prod.fst → (putA f v fs).map Prod.fst = (putA f w gs).map Prod.fst
  | [], [], _ => rfl
  | [], _ :: _, h => by simp at h
  | _ :: _, [], h => by simp at h
  | (g, x) :: r, (g', y) :: r', h => by
    simp only [List.map_cons, List.cons.injEq] at h
    obtain ⟨rfl, h⟩ := h
    unfold putA
    by_cases e : g = f
    · rw [if_pos e, if_pos e, List.map_cons, List.map_cons, h]
    · rw [if_neg e, if_neg e, List.map_cons, List.map_cons, putA_fst f v w h]
/-- a name's place among the attributes -/
theorem lookup_ix {α : Type} (f : Str) : ∀ {fs : List (Str × α)} {x : α}, fs.lookup f = some x → ∃ i, (fs.map Prod.snd)[i]? = some x ∧
    (∀ {β : Type} {gs : List (Str × β)}, fs.map Prod.fst = gs.map Prod.fst → gs.lookup f = (gs.map Prod.snd)[i]? ∧ ∀ y : β, (putA f y gs).map Prod.snd = (gs.map Prod.snd).set i y ∧ (putA f y gs).map Prod.fst = gs.map Prod.fst)
  | (g, x) :: r, y, h => by
    rw [List.lookup_cons] at h
    by_cases e : f = g
    · have eb : (f == g) = true := beq_iff_eq.mpr e
      rw [eb] at h
      refine ⟨0, by simpa using h, fun {β gs} q => ?_⟩
      cases gs with
      | nil => simp at q
      | cons p s =>
        obtain ⟨g', z⟩ := p
        simp only [List.map_cons, List.cons.injEq] at q
        obtain ⟨rfl, q⟩ := q
        refine ⟨by rw [List.lookup_cons, eb]; rfl, fun y => ?_⟩
        unfold putA
        rw [if_pos e.symm]
        exact ⟨rfl, rfl⟩
    · have eb : (f == g) = false := beq_eq_false_iff_ne.mpr e
      rw [eb] at h
      obtain ⟨i, h1, h2⟩ := lookup_ix f h
      refine ⟨i + 1, by simpa using h1, fun {β gs} q => ?_⟩
      cases gs with
      | nil => simp at q
      | cons p s =>
        obtain ⟨g', z⟩ := p
        simp only [List.map_cons, List.cons.injEq] at q
        obtain ⟨rfl, q⟩ := q
        obtain ⟨h3, h4⟩ := h2 q
        refine ⟨by rw [List.lookup_cons, eb, h3]; rfl, fun y => ?_⟩
        obtain ⟨h5, h6⟩ := h4 y
        unfold putA
        rw [if_neg (Ne.symm e)]
        exact ⟨by rw [List.map_cons, h5]; rfl, by rw [List.map_cons, List.map_cons, h6]⟩
section
variable {K : PySem.W.Frag} {F F' H H' : Hp}
theorem OwL.at_ : ∀ {S : Addr → Prop} {vs : List V} {os : List O} {i : Nat} {o : O}, OwL K F H S vs os → os[i]? = some o →
    ∃ (v : V) (S1 Sr : Addr → Prop), vs[i]? = some v ∧ Ow K F H S1 v o ∧ (∀ b, S1 b → S b) ∧ (∀ b, Sr b → S b) ∧ (∀ b, S1 b → ¬ Sr b) ∧
      ∀ (F' H' : Hp) (S' : Addr → Prop) (o' : O), Stand Sr F H F' H' → Ow K F' H' S' v o' → (∀ b, S' b → ¬ Sr b) → OwL K F' H' (fun b => S' b ∨ Sr b) vs (os.set i o')
  | _, _, _, i, _, .nil, h => by simp at h
  | S, _, _, 0, _, .cons (S1 := A) (S2 := B) s1 s2 dj h l, e => by
    simp at e; subst e
    refine ⟨_, A, B, rfl, h, s1, s2, dj, fun F' H' S' o' st w n => ?_⟩
    exact .cons (fun b z => .inl z) (fun b z => .inr z) n w (l.stand st)
  | S, _, _, i + 1, _, .cons (S1 := A) (S2 := B) s1 s2 dj h l, e => by
    obtain ⟨v, S1, Sr, h1, h2, h3, h4, h5, h6⟩ := OwL.at_ l (i := i) (by simpa using e)
    refine ⟨v, S1, fun b => A b ∨ Sr b, by simpa using h1, h2, fun b z => s2 b (h3 b z), fun b z => z.elim (s1 b) fun z => s2 b (h4 b z), fun b z q => q.elim (fun q => dj b q (h3 b z)) (h5 b z), fun F' H' S' o' st w n => ?_⟩
    have l' := h6 F' H' S' o' (st.sub fun b z => .inr z) w fun b z q => n b z (.inr q)
    exact .cons (S1 := A) (S2 := fun b => S' b ∨ Sr b) (fun b z => .inr (.inl z)) (fun b z => z.imp id .inr) (fun b z q => q.elim (fun q => n b q (.inl z)) fun q => dj b z (h4 b q)) (h.stand (st.sub fun b z => .inl z)) l'
theorem Ow.focus : ∀ (π : List Step) {S : Addr → Prop} {v : V} {o o1 : O}, Ow K F H S v o → O.get π o = some o1 →
    ∃ (v1 : V) (S1 Sr : Addr → Prop), At H π v v1 ∧ Ow K F H S1 v1 o1 ∧ (∀ b, S1 b → S b) ∧ (∀ b, Sr b → S b) ∧ (∀ b, S1 b → ¬ Sr b) ∧
      ∀ (F' H' : Hp) (S' : Addr → Prop) (o' : O), Stand Sr F H F' H' → Ow K F' H' S' v1 o' → (∀ b, S' b → ¬ Sr b) → Ow K F' H' (fun b => S' b ∨ Sr b) v (O.put o' π o)
  | [], S, v, o, o1, w, e => by
    simp only [O.get, Option.some.injEq] at e; subst e
    exact ⟨v, S, fun _ => False, rfl, w, fun _ z => z, fun _ z => z.elim, fun _ _ z => z, fun F' H' S' o' _ w' _ => w'.grow fun b z => .inl z⟩
  | .ix n :: π, S, _, _, o1, .lst (S1 := T) (a := a) (xs := xs) (os := os) h nf s s1 l, e => by
    cases q : os[n]? with
    | none => rw [O.get, q] at e; cases e
    | some x =>
      rw [O.get, q] at e
      obtain ⟨vx, A, B, g1, g2, g3, g4, g5, g6⟩ := l.at_ q
      obtain ⟨v1, S1, Sr, k1, k2, k3, k4, k5, k6⟩ := Ow.focus π g2 e
      refine ⟨v1, S1, fun b => Sr b ∨ B b ∨ b = a, ⟨a, xs, vx, rfl, h, g1, k1⟩, k2, fun b z => (s1 b (g3 b (k3 b z))).1, fun b z => ?_, fun b z y => ?_, fun F' H' S' o' st w n' => ?_⟩
      · rcases z with z | z | z
        · exact (s1 b (g3 b (k4 b z))).1
        · exact (s1 b (g4 b z)).1
        · subst z; exact s
      · rcases y with y | y | y
        · exact k5 b z y
        · exact g5 b (k3 b z) y
        · exact (s1 b (g3 b (k3 b z))).2 y
      · have w1 := k6 F' H' S' o' (st.sub fun b z => .inl z) w fun b z y => n' b z (.inl y)
        have w2 := g6 F' H' _ _ (st.sub fun b z => .inr (.inl z)) w1 fun b z y => z.elim (fun z => n' b z (.inr (.inl y))) fun z => g5 b (k4 b z) y
        have ee : O.put o' (.ix n :: π) (.lst os) = .lst (os.set n (O.put o' π x)) := by rw [O.put, q]; rfl
        rw [ee]
        refine .lst (S1 := fun b => (S' b ∨ Sr b) ∨ B b) (st.keep a _ (.inr (.inr rfl)) h fun z => z) (st.no a (.inr (.inr rfl)) (by rw [h]; simp) nf) (.inr (.inr (.inr rfl))) (fun b z => ?_) w2
        rcases z with (z | z) | z
        · exact ⟨.inl z, fun y => n' b z (.inr (.inr y))⟩
        · exact ⟨.inr (.inl z), (s1 b (g3 b (k4 b z))).2⟩
        · exact ⟨.inr (.inr (.inl z)), (s1 b (g4 b z)).2⟩
  | .at f :: π, S, _, _, o1, .ins (S1 := T) (a := a) (C := C) (dx := dx) (fs := fs) (os := os) h nf s s1 eq l, e => by
    cases q : os.lookup f with
    | none => rw [O.get, q] at e; cases e
    | some x =>
      rw [O.get, q] at e
      obtain ⟨i, i1, i2⟩ := lookup_ix f q
      obtain ⟨j1, _⟩ := i2 (gs := fs) eq.symm
      obtain ⟨_, j2⟩ := i2 (gs := os) rfl
      obtain ⟨vx, A, B, g1, g2, g3, g4, g5, g6⟩ := l.at_ i1
      obtain ⟨v1, S1, Sr, k1, k2, k3, k4, k5, k6⟩ := Ow.focus π g2 e
      refine ⟨v1, S1, fun b => Sr b ∨ B b ∨ b = a, ⟨a, C, dx, fs, vx, rfl, h, by rw [j1, g1], k1⟩, k2, fun b z => (s1 b (g3 b (k3 b z))).1, fun b z => ?_, fun b z y => ?_, fun F' H' S' o' st w n' => ?_⟩
      · rcases z with z | z | z
        · exact (s1 b (g3 b (k4 b z))).1
        · exact (s1 b (g4 b z)).1
        · subst z; exact s
      · rcases y with y | y | y
        · exact k5 b z y
        · exact g5 b (k3 b z) y
        · exact (s1 b (g3 b (k3 b z))).2 y
      · have w1 := k6 F' H' S' o' (st.sub fun b z => .inl z) w fun b z y => n' b z (.inl y)
        have w2 := g6 F' H' _ _ (st.sub fun b z => .inr (.inl z)) w1 fun b z y => z.elim (fun z => n' b z (.inr (.inl y))) fun z => g5 b (k4 b z) y
        have ee : O.put o' (.at f :: π) (.ins C os) = .ins C (putA f (O.put o' π x) os) := by rw [O.put, q]; rfl
        rw [ee]
        refine .ins (S1 := fun b => (S' b ∨ Sr b) ∨ B b) (st.keep a _ (.inr (.inr rfl)) h fun z => z) (st.no a (.inr (.inr rfl)) (by rw [h]; simp) nf) (.inr (.inr (.inr rfl))) (fun b z => ?_) (by rw [(j2 _).2]; exact eq) (by rw [(j2 _).1]; exact w2)
        rcases z with (z | z) | z
        · exact ⟨.inl z, fun y => n' b z (.inr (.inr y))⟩
        · exact ⟨.inr (.inl z), (s1 b (g3 b (k4 b z))).2⟩
        · exact ⟨.inr (.inr (.inl z)), (s1 b (g4 b z)).2⟩
  | .ix _ :: _, _, _, .fz _, _, _, e => by simp [O.get] at e
  | .ix _ :: _, _, _, .dk _, _, _, e => by simp [O.get] at e
  | .ix _ :: _, _, _, .dt _, _, _, e => by simp [O.get] at e
  | .ix _ :: _, _, _, .ins _ _, _, _, e => by simp [O.get] at e
  | .at _ :: _, _, _, .fz _, _, _, e => by simp [O.get] at e
  | .at _ :: _, _, _, .dk _, _, _, e => by simp [O.get] at e
  | .at _ :: _, _, _, .dt _, _, _, e => by simp [O.get] at e
  | .at _ :: _, _, _, .lst _, _, _, e => by simp [O.get] at e
end
end DL

/-! DL2: the state relation. -/
namespace DL
open PySem L2

abbrev DEnv := List (Option O)
/-- what a def's body stands in: the entry's frozen part and heap, what the caller handed to be changed, slots that stay -/
structure Cn where
  F_0 : Hp
  H_0 : Hp
  P_0 : Addr → Prop
  pin : List Nat
  s_0 : L2.St
/-- an address that this body may own -/
def Cn.mine (c : Cn) (a : Addr) : Prop := c.P_0 a ∨ c.H_0 a = none
structure EnvOk (K : PySem.W.Frag) (F H : Hp) (c : Cn) (R : Addr → Prop) (δ : DEnv) (σ : L2.St) (T : Nat → Addr → Prop) : Prop where
  at_ : ∀ i o, δ[i]? = some (some o) → ∃ v, σ[i]? = some (some v) ∧ Ow K F H (T i) v o
  dj : ∀ i j a, T i a → T j a → i = j
  nr : ∀ i a, T i a → ¬ R a
  own : ∀ i a, T i a → c.mine a
  hv : ∀ i a, T i a → H a ≠ none
  nf : ∀ i a, T i a → F a = none
structure Sim (K : PySem.W.Frag) (c : Cn) (R : Addr → Prop) (δ : DEnv) (σ : L2.St) (F H : Hp) : Prop where
  sub : Le F H
  nt : ∀ a o, F a = some o → ¬ isTbl o
  f0 : Le c.F_0 F
  fn : ∀ a, F a ≠ none → c.F_0 a ≠ none ∨ c.mine a
  keep : ∀ a o, c.H_0 a = some o → ¬ c.P_0 a → ¬ isTbl o → H a = some o
  thr : ∀ a, c.H_0 a ≠ none → H a ≠ none
  rs : ∀ a, R a → F a = none ∧ H a ≠ none ∧ c.mine a
  env : ∃ T, EnvOk K F H c R δ σ T
  pin : ∀ i ∈ c.pin, σ[i]? = c.s_0[i]?
  len : δ.length = σ.length
section
variable {K : PySem.W.Frag} {c : Cn} {R R' : Addr → Prop} {δ : DEnv} {σ : L2.St} {F F' H H' : Hp}

theorem Sim.ext (s : Sim K c R δ σ F H) (e : Ext H H') (l : Le F F') (u : Le F' H') (n : ∀ a o, F' a = some o → ¬ isTbl o) (q : ∀ a, F' a ≠ none → F a ≠ none ∨ H a = none) : Sim K c R δ σ F' H' := by
  obtain ⟨T, E⟩ := s.env
  refine ⟨u, n, s.f0.trans l, fun a z => ?_, fun a o h p t => e.keep a o (s.keep a o h p t) t, fun a h => e.thr a (s.thr a h), fun a z => ?_, ⟨T, fun i o h => ?_, E.dj, E.nr, E.own, fun i a z => e.thr a (E.hv i a z), fun i a z => ?_⟩, s.pin, s.len⟩
  · rcases q a z with z | z
    · exact s.fn a z
    · refine .inr (.inr ?_)
      cases h : c.H_0 a with
      | none => rfl
      | some o => exact absurd z (s.thr a (by rw [h]; simp))
  · obtain ⟨h1, h2, h3⟩ := s.rs a z
    refine ⟨?_, e.thr a h2, h3⟩
    cases h : F' a with
    | none => rfl
    | some o => exact ((q a (by rw [h]; simp)).elim (fun z => z h1) fun z => h2 z).elim
  · obtain ⟨v, h1, h2⟩ := E.at_ i o h
    refine ⟨v, h1, h2.stand ⟨l, fun b u _ hb t => e.keep b u hb t, fun b _ hb fb => ?_⟩⟩
    cases h : F' b with
    | none => rfl
    | some u => exact ((q b (by rw [h]; simp)).elim (fun z => z fb) fun z => hb z).elim
  · cases h : F' a with
    | none => rfl
    | some u => exact ((q a (by rw [h]; simp)).elim (fun y => y (E.nf i a z)) fun y => E.hv i a z y).elim
/-- the heap has grown, nothing is frozen anew -/
theorem Sim.grow (s : Sim K c R δ σ F H) (e : Ext H H') : Sim K c R δ σ F H' := s.ext e (Le.refl F) (fun a o h => e.keep a o (s.sub a o h) (s.nt a o h)) s.nt fun a z => .inl z
/-- a new object, frozen at once -/
theorem Sim.new {p : Addr} {o : HO} (s : Sim K c R δ σ F H) (h : H p = none) (n : ¬ isTbl o) : Sim K c R δ σ (upd F p o) (upd H p o) := by
  have fp : F p = none := by
    cases q : F p with
    | none => rfl
    | some u => rw [s.sub p u q] at h; cases h
  refine s.ext (.new h) (Le.new fp) (fun a u e => ?_) (fun a u e => ?_) fun a z => ?_
  · by_cases hp : a = p
    · subst hp; rw [upd_same] at e ⊢; exact e
    · rw [upd_ne hp] at e ⊢; exact s.sub a u e
  · by_cases hp : a = p
    · subst hp; rw [upd_same] at e; cases e; exact n
    · rw [upd_ne hp] at e; exact s.nt a u e
  · by_cases hp : a = p
    · subst hp; exact .inr h
    · rw [upd_ne hp] at z; exact .inl z
theorem Sim.fresh {p : Addr} (s : Sim K c R δ σ F H) (h : H p = none) : F p = none := by
  cases q : F p with
  | none => rfl
  | some u => rw [s.sub p u q] at h; cases h
theorem Sim.mine {p : Addr} (s : Sim K c R δ σ F H) (h : H p = none) : c.mine p := .inr (by
  cases q : c.H_0 p with
  | none => rfl
  | some o => exact absurd h (s.thr p (by rw [q]; simp)))
/-- a new object, held back -/
theorem Sim.hold {p : Addr} {o : HO} (s : Sim K c R δ σ F H) (h : H p = none) : Sim K c (fun a => R a ∨ a = p) δ σ F (upd H p o) := by
  have g := s.grow (Ext.new (o := o) h)
  obtain ⟨T, E⟩ := s.env
  obtain ⟨T', E'⟩ := g.env
  refine ⟨g.sub, g.nt, g.f0, g.fn, g.keep, g.thr, fun a z => ?_, ⟨T, fun i o hi => ?_, E.dj, fun i a z y => ?_, E.own, fun i a z => (Ext.new h).thr a (E.hv i a z), E.nf⟩, g.pin, g.len⟩
  · rcases z with z | z
    · exact g.rs a z
    · subst z; exact ⟨s.fresh h, by rw [upd_same]; simp, s.mine h⟩
  · obtain ⟨v, h1, h2⟩ := E.at_ i o hi
    exact ⟨v, h1, h2.stand ⟨Le.refl _, fun b u _ hb t => (Ext.new h).keep b u hb t, fun b _ _ fb => fb⟩⟩
  · rcases y with y | y
    · exact E.nr i a z y
    · subst y; exact E.hv i a z h
/-- what is held back changes (or is let go) -/
theorem Sim.held (s : Sim K c R δ σ F H) (R' : Addr → Prop) (k : ∀ a o, ¬ R a → H a = some o → ¬ isTbl o → H' a = some o) (t : ∀ a, H a ≠ none → H' a ≠ none) (r : ∀ a, R' a → R a ∨ (H a = none ∧ H' a ≠ none)) : Sim K c R' δ σ F H' := by
  obtain ⟨T, E⟩ := s.env
  have fR : ∀ a, F a ≠ none → ¬ R a := fun a h z => h (s.rs a z).1
  refine ⟨fun a o h => k a o (fR a (by rw [h]; simp)) (s.sub a o h) (s.nt a o h), s.nt, s.f0, s.fn, fun a o h p n => ?_, fun a h => t a (s.thr a h), fun a z => ?_, ⟨T, fun i o hi => ?_, E.dj, fun i a z y => ?_, E.own, fun i a z => t a (E.hv i a z), E.nf⟩, s.pin, s.len⟩
  · refine k a o (fun z => ?_) (s.keep a o h p n) n
    rcases (s.rs a z).2.2 with m | m
    · exact p m
    · rw [h] at m; cases m
  · rcases r a z with z | ⟨z, y⟩
    · obtain ⟨h1, h2, h3⟩ := s.rs a z
      exact ⟨h1, t a h2, h3⟩
    · exact ⟨s.fresh z, y, s.mine z⟩
  · obtain ⟨v, h1, h2⟩ := E.at_ i o hi
    exact ⟨v, h1, h2.stand ⟨Le.refl _, fun b u z hb n => k b u (E.nr i b z) hb n, fun b _ _ fb => fb⟩⟩
  · rcases r a y with q | ⟨q, _⟩
    · exact E.nr i a z q
    · exact E.hv i a z q
theorem Sim.drop (s : Sim K c R δ σ F H) (R' : Addr → Prop) (r : ∀ a, R' a → R a) : Sim K c R' δ σ F H :=
  s.held R' (fun _ _ _ h _ => h) (fun _ h => h) fun a z => .inl (r a z)
/-- F with the nodes of S -/
noncomputable def frz (F H : Hp) (S : Addr → Prop) : Hp := fun a =>
  haveI := Classical.propDecidable (S a ∧ ∃ o, H a = some o ∧ ¬ isTbl o)
  if F a = none then (if S a ∧ ∃ o, H a = some o ∧ ¬ isTbl o then H a else none) else F a
theorem frz_le (F H : Hp) (S : Addr → Prop) : Le F (frz F H S) := fun a o h => by
  unfold frz; rw [if_neg (by rw [h]; simp)]; exact h
theorem frz_at {F H : Hp} {S : Addr → Prop} (s : Le F H) {a : Addr} {o : HO} (h : S a) (e : H a = some o) (n : ¬ isTbl o) : frz F H S a = some o := by
  unfold frz
  by_cases q : F a = none
  · rw [if_pos q, if_pos ⟨h, o, e, n⟩]; exact e
  · rw [if_neg q]
    cases z : F a with
    | none => exact absurd z q
    | some u => rw [← s a u z]; exact e
theorem frz_of {F H : Hp} {S : Addr → Prop} {a : Addr} {o : HO} (h : frz F H S a = some o) : F a = some o ∨ (F a = none ∧ S a ∧ H a = some o ∧ ¬ isTbl o) := by
  unfold frz at h
  by_cases q : F a = none
  · rw [if_pos q] at h
    split at h
    · next z => obtain ⟨z1, u, z2, z3⟩ := z; rw [z2] at h; cases h; exact .inr ⟨q, z1, z2, z3⟩
    · cases h
  · rw [if_neg q] at h; exact .inl h
theorem frz_sub {F H : Hp} {S : Addr → Prop} (s : Le F H) : Le (frz F H S) H := fun a o h => (frz_of h).elim (s a o) fun z => z.2.2.1
/-- what is held back is frozen -/
theorem Sim.freeze {S : Addr → Prop} {v : V} {o : O} (s : Sim K c (fun a => R a ∨ S a) δ σ F H) (w : Ow K F H S v o) (d : ∀ a, S a → ¬ R a) :
    ∃ F', Le F F' ∧ Sim K c R δ σ F' H ∧ Fz K F' v o.toD := by
  obtain ⟨T, E⟩ := s.env
  refine ⟨frz F H S, frz_le F H S, ⟨frz_sub s.sub, fun a u h => ?_, s.f0.trans (frz_le F H S), fun a h => ?_, s.keep, s.thr, fun a z => ?_, ⟨T, fun i u hi => ?_, E.dj, fun i a z y => E.nr i a z (.inl y), E.own, E.hv, fun i a z => ?_⟩, s.pin, s.len⟩, w.fz' (frz_le F H S) fun b u z hb n => frz_at s.sub z hb n⟩
  · rcases frz_of h with z | z
    · exact s.nt a u z
    · exact z.2.2.2
  · cases h' : frz F H S a with
    | none => exact absurd h' h
    | some u =>
      rcases frz_of h' with z | z
      · exact s.fn a (by rw [z]; simp)
      · exact .inr (s.rs a (.inr z.2.1)).2.2
  · obtain ⟨h1, h2, h3⟩ := s.rs a (.inl z)
    refine ⟨?_, h2, h3⟩
    cases h' : frz F H S a with
    | none => rfl
    | some u =>
      rcases frz_of h' with y | y
      · rw [h1] at y; cases y
      · exact absurd z (d a y.2.1)
  · obtain ⟨x, h1, h2⟩ := E.at_ i u hi
    refine ⟨x, h1, h2.stand ⟨frz_le F H S, fun b y _ hb _ => hb, fun b z hb fb => ?_⟩⟩
    cases h' : frz F H S b with
    | none => rfl
    | some y =>
      rcases frz_of h' with q | q
      · rw [fb] at q; cases q
      · exact absurd (Or.inr q.2.1) (E.nr i b z)
  · cases h' : frz F H S a with
    | none => rfl
    | some y =>
      rcases frz_of h' with q | q
      · rw [E.nf i a z] at q; cases q
      · exact absurd (Or.inr q.2.1) (E.nr i a z)
/-- a slot's tree is taken out -/
theorem Sim.out {i : Nat} {o : O} (s : Sim K c R δ σ F H) (h : δ[i]? = some (some o)) :
    ∃ (v : V) (S : Addr → Prop), σ[i]? = some (some v) ∧ Ow K F H S v o ∧ (∀ a, S a → ¬ R a) ∧ Sim K c (fun a => R a ∨ S a) (δ.set i none) σ F H := by
  obtain ⟨T, E⟩ := s.env
  obtain ⟨v, h1, h2⟩ := E.at_ i o h
  refine ⟨v, T i, h1, h2, E.nr i, s.sub, s.nt, s.f0, s.fn, s.keep, s.thr, fun a z => ?_, ⟨fun j a => j ≠ i ∧ T j a, fun j u hj => ?_, fun j k a y z => E.dj j k a y.2 z.2, fun j a z y => ?_, fun j a z => E.own j a z.2, fun j a z => E.hv j a z.2, fun j a z => E.nf j a z.2⟩, s.pin, by rw [List.length_set]; exact s.len⟩
  · rcases z with z | z
    · exact s.rs a z
    · exact ⟨E.nf i a z, E.hv i a z, E.own i a z⟩
  · by_cases e : j = i
    · subst e
      have hl : j < δ.length := (List.getElem?_eq_some_iff.mp h).1
      rw [List.getElem?_set_self hl] at hj; cases hj
    · rw [List.getElem?_set_ne (Ne.symm e)] at hj
      obtain ⟨x, h3, h4⟩ := E.at_ j u hj
      exact ⟨x, h3, h4.grow fun b z => ⟨e, z⟩⟩
  · rcases y with y | y
    · exact E.nr j a z.2 y
    · exact z.1 (E.dj j i a z.2 y)
/-- a held tree goes into a slot -/
theorem Sim.into {i : Nat} {S : Addr → Prop} {v : V} {o : O} (s : Sim K c (fun a => R a ∨ S a) δ σ F H) (w : Ow K F H S v o) (d : ∀ a, S a → ¬ R a) (hp : i ∉ c.pin ∨ σ[i]? = some (some v)) : Sim K c R (δ.set i (some o)) (σ.set i (some v)) F H := by
  obtain ⟨T, E⟩ := s.env
  refine ⟨s.sub, s.nt, s.f0, s.fn, s.keep, s.thr, fun a z => s.rs a (.inl z), ⟨fun j a => (j ≠ i ∧ T j a) ∨ (j = i ∧ S a), fun j u hj => ?_, fun j k a y z => ?_, fun j a z y => ?_, fun j a z => ?_, fun j a z => ?_, fun j a z => ?_⟩, fun j hj => ?_, by rw [List.length_set, List.length_set]; exact s.len⟩
  · by_cases e : j = i
    · subst e
      have hl : j < δ.length := by
        have := (List.getElem?_eq_some_iff.mp hj).1
        rwa [List.length_set] at this
      rw [List.getElem?_set_self hl] at hj; cases hj
      exact ⟨v, by rw [List.getElem?_set_self (s.len ▸ hl)], w.grow fun b z => .inr ⟨rfl, z⟩⟩
    · rw [List.getElem?_set_ne (Ne.symm e)] at hj
      obtain ⟨x, h3, h4⟩ := E.at_ j u hj
      exact ⟨x, by rw [List.getElem?_set_ne (Ne.symm e)]; exact h3, h4.grow fun b z => .inl ⟨e, z⟩⟩
  · rcases y with ⟨y1, y2⟩ | ⟨y1, y2⟩
    · rcases z with ⟨z1, z2⟩ | ⟨z1, z2⟩
      · exact E.dj j k a y2 z2
      · exact absurd (Or.inr z2) (E.nr j a y2)
    · rcases z with ⟨z1, z2⟩ | ⟨z1, z2⟩
      · exact absurd (Or.inr y2) (E.nr k a z2)
      · rw [y1, z1]
  · rcases z with z | z
    · exact E.nr j a z.2 (.inl y)
    · exact d a z.2 y
  · rcases z with z | z
    · exact E.own j a z.2
    · exact (s.rs a (.inr z.2)).2.2
  · rcases z with z | z
    · exact E.hv j a z.2
    · exact (s.rs a (.inr z.2)).2.1
  · rcases z with z | z
    · exact E.nf j a z.2
    · exact (s.rs a (.inr z.2)).1
  · by_cases e : j = i
    · subst e
      rcases hp with hp | hp
      · exact absurd hj hp
      · have hl : j < σ.length := (List.getElem?_eq_some_iff.mp hp).1
        rw [List.getElem?_set_self hl, ← s.pin j hj, hp]
    · rw [List.getElem?_set_ne (Ne.symm e)]; exact s.pin j hj
/-- a frozen value goes into a slot -/
theorem Sim.put {i : Nat} {v : V} {d : D} (s : Sim K c R δ σ F H) (w : Fz K F v d) (hp : i ∉ c.pin) : Sim K c R (δ.set i (some (.fz d))) (σ.set i (some v)) F H :=
  Sim.into (S := fun _ => False) (s.drop _ fun a z => z.elim id False.elim) (.fz w) (fun _ z => z.elim) (.inl hp)
end
end DL

/-! DL3: a tree in a slot changes; a def's entry and end. -/
namespace DL
open PySem L2

/-- S has become S', all else stands -/
structure Chg (S S' : Addr → Prop) (F H F' H' : Hp) : Prop where
  keep : ∀ a o, ¬ S a → H a = some o → ¬ isTbl o → H' a = some o
  thr : ∀ a, H a ≠ none → H' a ≠ none
  le : Le F F'
  sub : Le F' H'
  nt : ∀ a o, F' a = some o → ¬ isTbl o
  fn : ∀ a, F' a ≠ none → F a ≠ none ∨ S a ∨ H a = none
  own : ∀ a, S' a → (S a ∨ H a = none) ∧ F' a = none ∧ H' a ≠ none
section
variable {K : PySem.W.Frag} {c : Cn} {R R' S S' : Addr → Prop} {δ : DEnv} {σ : L2.St} {F F' H H' : Hp}
theorem not_none {o : Option HO} (h : ¬ o ≠ none) : o = none := by
  cases o with
  | none => rfl
  | some u => exact absurd (by simp) h
theorem Sim.step (s : Sim K c (fun a => R a ∨ S a) δ σ F H) (d : ∀ a, S a → ¬ R a) (g : Chg S S' F H F' H') : Sim K c (fun a => R a ∨ S' a) δ σ F' H' := by
  obtain ⟨T, E⟩ := s.env
  have low : ∀ a, F a = none → ¬ S a → H a ≠ none → F' a = none := fun a f n h => not_none fun z => (g.fn a z).elim (fun y => y f) fun y => y.elim n h
  have fS : ∀ a, F a ≠ none → ¬ S a := fun a h z => h (s.rs a (.inr z)).1
  refine ⟨g.sub, g.nt, s.f0.trans g.le, fun a z => ?_, fun a o h p n => ?_, fun a h => g.thr a (s.thr a h), fun a z => ?_, ⟨T, fun i o hi => ?_, E.dj, fun i a z y => ?_, E.own, fun i a z => g.thr a (E.hv i a z), fun i a z => low a (E.nf i a z) (fun y => E.nr i a z (.inr y)) (E.hv i a z)⟩, s.pin, s.len⟩
  · rcases g.fn a z with y | y | y
    · exact s.fn a y
    · exact .inr (s.rs a (.inr y)).2.2
    · exact .inr (s.mine y)
  · refine g.keep a o (fun z => ?_) (s.keep a o h p n) n
    rcases (s.rs a (.inr z)).2.2 with m | m
    · exact p m
    · rw [h] at m; cases m
  · rcases z with z | z
    · obtain ⟨h1, h2, h3⟩ := s.rs a (.inl z)
      exact ⟨low a h1 (fun y => d a y z) h2, g.thr a h2, h3⟩
    · obtain ⟨h1, h2, h3⟩ := g.own a z
      refine ⟨h2, h3, ?_⟩
      rcases h1 with y | y
      · exact (s.rs a (.inr y)).2.2
      · exact s.mine y
  · obtain ⟨v, h1, h2⟩ := E.at_ i o hi
    exact ⟨v, h1, h2.stand ⟨g.le, fun b u z hb n => g.keep b u (fun y => E.nr i b z (.inr y)) hb n, fun b z hb fb => low b fb (fun y => E.nr i b z (.inr y)) hb⟩⟩
  · rcases y with y | y
    · exact E.nr i a z (.inl y)
    · rcases (g.own a y).1 with q | q
      · exact E.nr i a z (.inr q)
      · exact E.hv i a z q
theorem Sim.focusE {E : Addr → Prop} {i : Nat} {π : List Step} {o o1 : O} (s : Sim K c (fun a => R a ∨ E a) δ σ F H) (dE : ∀ a, E a → ¬ R a) (h : δ[i]? = some (some o)) (hg : O.get π o = some o1) :
    ∃ (v v1 : V) (S1 : Addr → Prop), σ[i]? = some (some v) ∧ At H π v v1 ∧ Ow K F H S1 v1 o1 ∧ (∀ a, S1 a → ¬ R a ∧ F a = none ∧ H a ≠ none ∧ c.mine a ∧ ¬ E a) ∧
      ∀ (F' H' : Hp) (S' : Addr → Prop) (o' : O), Chg (fun a => S1 a ∨ E a) S' F H F' H' → Ow K F' H' S' v1 o' → Sim K c R (δ.set i (some (O.put o' π o))) σ F' H' := by
  obtain ⟨v, S, h1, h2, h3, h4⟩ := s.out h
  obtain ⟨v1, S1, Sr, g1, g2, g3, g4, g5, g6⟩ := h2.focus π hg
  refine ⟨v, v1, S1, h1, g1, g2, fun a z => ?_, fun F' H' S' o' g w => ?_⟩
  · obtain ⟨e1, e2, e3⟩ := h4.rs a (.inr (g3 a z))
    exact ⟨fun y => h3 a (g3 a z) (.inl y), e1, e2, e3, fun y => h3 a (g3 a z) (.inr y)⟩
  · have s1 : Sim K c (fun a => (R a ∨ Sr a) ∨ (S1 a ∨ E a)) (δ.set i none) σ F H := h4.drop _ fun a z => by
      rcases z with (z | z) | z | z
      · exact .inl (.inl z)
      · exact .inr (g4 a z)
      · exact .inr (g3 a z)
      · exact .inl (.inr z)
    have dd : ∀ a, S1 a ∨ E a → ¬ (R a ∨ Sr a) := fun a z y => by
      rcases z with z | z
      · exact y.elim (fun y => h3 a (g3 a z) (.inl y)) (g5 a z)
      · exact y.elim (dE a z) fun y => h3 a (g4 a y) (.inr z)
    have s2 := s1.step (S' := S') dd g
    have low : ∀ a, Sr a → F' a = none := fun a z => (s2.rs a (.inl (.inr z))).1
    have n' : ∀ b, S' b → ¬ Sr b := fun b z y => by
      rcases (g.own b z).1 with q | q
      · exact dd b q (.inr y)
      · exact (h4.rs b (.inr (g4 b y))).2.1 q
    have w' := g6 F' H' S' o' ⟨g.le, fun b u z hb n => g.keep b u (fun y => dd b y (.inr z)) hb n, fun b z _ _ => low b z⟩ w n'
    have s3 : Sim K c (fun a => R a ∨ (S' a ∨ Sr a)) (δ.set i none) σ F' H' := s2.drop _ fun a z => z.elim (fun z => .inl (.inl z)) fun z => z.elim .inr fun z => .inl (.inr z)
    have s4 := s3.into (i := i) w' (fun a z y => ?_) (.inr h1)
    · have es : σ.set i (some v) = σ := by
        have hl : i < σ.length := (List.getElem?_eq_some_iff.mp h1).1
        have he : σ[i] = some v := (List.getElem?_eq_some_iff.mp h1).2
        rw [← he]; exact List.set_getElem_self hl
      rw [es, List.set_set] at s4
      exact s4
    · rcases z with z | z
      · rcases (g.own a z).1 with q | q
        · exact dd a q (.inl y)
        · exact (h4.rs a (.inl (.inl y))).2.1 q
      · exact h3 a (g4 a z) (.inl y)
theorem Sim.focus {i : Nat} {π : List Step} {o o1 : O} (s : Sim K c R δ σ F H) (h : δ[i]? = some (some o)) (hg : O.get π o = some o1) :
    ∃ (v v1 : V) (S1 : Addr → Prop), σ[i]? = some (some v) ∧ At H π v v1 ∧ Ow K F H S1 v1 o1 ∧ (∀ a, S1 a → ¬ R a ∧ F a = none ∧ H a ≠ none ∧ c.mine a) ∧
      ∀ (F' H' : Hp) (S' : Addr → Prop) (o' : O), Chg S1 S' F H F' H' → Ow K F' H' S' v1 o' → Sim K c R (δ.set i (some (O.put o' π o))) σ F' H' := by
  obtain ⟨v, v1, S1, h1, h2, h3, h4, h5⟩ := Sim.focusE (E := fun _ => False) (s.drop _ fun a z => z.elim id False.elim) (fun _ z => z.elim) h hg
  refine ⟨v, v1, S1, h1, h2, h3, fun a z => ⟨(h4 a z).1, (h4 a z).2.1, (h4 a z).2.2.1, (h4 a z).2.2.2.1⟩, fun F' H' S' o' g w => h5 F' H' S' o' ?_ w⟩
  exact ⟨fun a o n => g.keep a o fun z => n (.inl z), g.thr, g.le, g.sub, g.nt, fun a z => (g.fn a z).imp id fun y => y.imp .inl id, fun a z => ⟨(g.own a z).1.imp .inl id, (g.own a z).2⟩⟩
/-- a tree is seen -/
theorem Sim.see {i : Nat} {π : List Step} {o o1 : O} (s : Sim K c R δ σ F H) (h : δ[i]? = some (some o)) (hg : O.get π o = some o1) :
    ∃ (v v1 : V) (S1 : Addr → Prop), σ[i]? = some (some v) ∧ At H π v v1 ∧ Ow K F H S1 v1 o1 ∧ (∀ a, S1 a → ¬ R a ∧ F a = none ∧ H a ≠ none ∧ c.mine a) := by
  obtain ⟨v, v1, S1, a, b, d, e, _⟩ := s.focus h hg
  exact ⟨v, v1, S1, a, b, d, e⟩
/-- a name is read as data: its tree is frozen -/
theorem Sim.read {i : Nat} {o : O} (s : Sim K c R δ σ F H) (h : δ[i]? = some (some o)) :
    ∃ v F', σ[i]? = some (some v) ∧ Le F F' ∧ Sim K c R (δ.set i (some (.fz o.toD))) σ F' H ∧ Fz K F' v o.toD := by
  obtain ⟨v, S, h1, h2, h3, h4⟩ := s.out h
  obtain ⟨F', g1, g2, g3⟩ := h4.freeze h2 h3
  refine ⟨v, F', h1, g1, ?_, g3⟩
  have s4 := Sim.into (i := i) (S := fun _ => False) (g2.drop _ fun a z => z.elim id False.elim) (.fz g3) (fun _ z => z.elim) (.inr h1)
  have es : σ.set i (some v) = σ := by
    have hl : i < σ.length := (List.getElem?_eq_some_iff.mp h1).1
    have he : σ[i] = some v := (List.getElem?_eq_some_iff.mp h1).2
    rw [← he]; exact List.set_getElem_self hl
  rw [es, List.set_set] at s4
  exact s4
/-- everything that the slots hold, at the heap as it stands -/
theorem Sim.all (s : Sim K c R δ σ F H) {i : Nat} {o : O} (h : δ[i]? = some (some o)) : ∃ v, σ[i]? = some (some v) ∧ Fz K H v o.toD := by
  obtain ⟨T, E⟩ := s.env
  obtain ⟨v, h1, h2⟩ := E.at_ i o h
  exact ⟨v, h1, h2.fz' s.sub fun b u _ hb _ => hb⟩

/-! ### a def's entry and end -/
theorem OwL.family : ∀ {S : Addr → Prop} {vs : List V} {os : List O}, OwL K F H S vs os →
    ∃ T : Nat → Addr → Prop, (∀ i o, os[i]? = some o → ∃ v, vs[i]? = some v ∧ Ow K F H (T i) v o) ∧ (∀ i j a, T i a → T j a → i = j) ∧ ∀ i a, T i a → S a
  | _, _, _, .nil => ⟨fun _ _ => False, fun i o h => by simp at h, fun _ _ _ h => h.elim, fun _ _ h => h.elim⟩
  | S, _, _, .cons (S1 := A) (S2 := B) s1 s2 dj h l => by
    obtain ⟨T, t1, t2, t3⟩ := OwL.family l
    refine ⟨fun i a => match i with | 0 => A a | j + 1 => T j a, fun i o e => ?_, fun i j a y z => ?_, fun i a z => ?_⟩
    · cases i with
      | zero => simp at e; subst e; exact ⟨_, rfl, h⟩
      | succ j =>
        obtain ⟨v, e1, e2⟩ := t1 j o (by simpa using e)
        exact ⟨v, by simpa using e1, e2⟩
    · cases i with
      | zero =>
        cases j with
        | zero => rfl
        | succ j => exact absurd (t3 j a z) (dj a y)
      | succ i =>
        cases j with
        | zero => exact absurd (t3 i a y) (dj a z)
        | succ j => rw [t2 i j a y z]
    · cases i with
      | zero => exact s1 a z
      | succ j => exact s2 a (t3 j a z)
theorem Sim.enter {vs : List V} {os : List O} {N : List Str} {pin : List Nat} (sub : Le F H) (nt : ∀ a o, F a = some o → ¬ isTbl o) (w : OwL K F H S vs os) (hS : ∀ a, S a → F a = none ∧ H a ≠ none) (hl : vs.length ≤ N.length) :
    Sim K ⟨F, H, S, pin, L2.start N vs⟩ (fun _ => False) (os.map some ++ List.replicate (N.length - os.length) none) (L2.start N vs) F H := by
  obtain ⟨T, t1, t2, t3⟩ := w.family
  have le := w.length
  refine ⟨sub, nt, Le.refl F, fun a h => .inl h, fun a o h _ _ => h, fun a h => h, fun a z => z.elim, ⟨T, fun i o h => ?_, t2, fun i a z y => y, fun i a z => .inl (t3 i a z), fun i a z => (hS a (t3 i a z)).2, fun i a z => (hS a (t3 i a z)).1⟩, fun i _ => rfl, ?_⟩
  · have hi : os[i]? = some o := by
      by_cases q : i < os.length
      · rw [List.getElem?_append_left (by simpa using q)] at h
        simpa [List.getElem?_map] using h
      · rw [List.getElem?_append_right (by simpa using q)] at h
        have := List.mem_of_getElem? h
        rw [List.mem_replicate] at this
        cases this.2
    obtain ⟨v, e1, e2⟩ := t1 i o hi
    refine ⟨v, ?_, e2⟩
    have hv : i < vs.length := (List.getElem?_eq_some_iff.mp e1).1
    unfold L2.start
    rw [List.getElem?_append_left (by simpa using hv), List.getElem?_map, e1]; rfl
  · unfold L2.start
    simp only [List.length_append, List.length_map, List.length_replicate, le]
/-- the trees that stay in their slots, together -/
theorem EnvOk.pick {T : Nat → Addr → Prop} (E : EnvOk K F H c R δ σ T) : ∀ (pin : List Nat) (os : List O) (vs : List V), pin.Nodup → pin.map (fun i => δ[i]?) = os.map (fun o => some (some o)) → pin.map (fun i => σ[i]?) = vs.map (fun v => some (some v)) →
    OwL K F H (fun a => ∃ i ∈ pin, T i a) vs os
  | [], [], [], _, _, _ => .nil
  | i :: pin, o :: os, v :: vs, nd, h1, h2 => by
    simp only [List.map_cons, List.cons.injEq] at h1 h2
    obtain ⟨v', e1, e2⟩ := E.at_ i o h1.1
    rw [h2.1] at e1; cases e1
    have nd' := List.nodup_cons.mp nd
    exact .cons (S1 := T i) (S2 := fun a => ∃ j ∈ pin, T j a) (fun a z => ⟨i, List.mem_cons_self, z⟩) (fun a ⟨j, hj, z⟩ => ⟨j, List.mem_cons_of_mem _ hj, z⟩) (fun a z ⟨j, hj, y⟩ => nd'.1 (by rw [E.dj i j a z y]; exact hj)) e2 (E.pick pin os vs nd'.2 h1.2 h2.2)
  | [], [], _ :: _, _, _, h => by simp at h
  | [], _ :: _, _, _, h, _ => by simp at h
  | _ :: _, [], _, _, h, _ => by simp at h
  | _ :: _, _ :: _, [], _, _, h => by simp at h
end
end DL

/-! DL4: the judgements. -/
namespace DL
open PySem L2

/-- an exception as data: its class, its attributes -/
structure Xc where
  C : Addr
  fs : List (Str × D)
inductive Rz (α : Type) where
  | ok (a : α) | er (x : Xc) | no
namespace Rz
variable {α β : Type}
def post (m : Rz α) (P : α → Prop) (B : Xc → Prop) : Prop := match m with
  | .ok a => P a
  | .er x => B x
  | .no => False
def bind (m : Rz α) (f : α → Rz β) : Rz β := match m with
  | .ok a => f a
  | .er x => .er x
  | .no => .no
def of : Option α → Rz α
  | some a => .ok a
  | none => .no
@[simp] theorem post_ok (a : α) (P : α → Prop) (B : Xc → Prop) : (Rz.ok a).post P B = P a := rfl
@[simp] theorem post_er (x : Xc) (P : α → Prop) (B : Xc → Prop) : (Rz.er x : Rz α).post P B = B x := rfl
@[simp] theorem post_no (P : α → Prop) (B : Xc → Prop) : (Rz.no : Rz α).post P B = False := rfl
@[simp] theorem bind_ok (a : α) (f : α → Rz β) : (Rz.ok a).bind f = f a := rfl
@[simp] theorem bind_er (x : Xc) (f : α → Rz β) : (Rz.er x).bind f = .er x := rfl
@[simp] theorem bind_no (f : α → Rz β) : (Rz.no).bind f = .no := rfl
@[simp] theorem of_some (a : α) : Rz.of (some a) = .ok a := rfl
@[simp] theorem of_none : Rz.of (none : Option α) = .no := rfl
theorem post_bind (m : Rz α) (f : α → Rz β) (P : β → Prop) (B : Xc → Prop) : (m.bind f).post P B = m.post (fun a => (f a).post P B) B := by cases m <;> rfl
theorem post_mono {m : Rz α} {P P' : α → Prop} {B B' : Xc → Prop} (h : m.post P B) (hp : ∀ a, P a → P' a) (hb : ∀ x, B x → B' x) : m.post P' B' := by
  cases m with
  | ok a => exact hp a h
  | er x => exact hb x h
  | no => exact h
theorem post_of {o : Option α} {P : α → Prop} {B : Xc → Prop} (h : (Rz.of o).post P B) : ∃ a, o = some a ∧ P a := by
  cases o with
  | none => exact h.elim
  | some a => exact ⟨a, rfl, h⟩
end Rz

section
variable (K : PySem.W.Frag)
/-- its attributes stand in the dict at d -/
def XAt (x : Xc) (d : Addr) (H : Hp) : Prop := ∃ fs, H d = some (.xd fs) ∧ fs.map Prod.fst = x.fs.map Prod.fst ∧ FzL K H (fs.map Prod.snd) (x.fs.map Prod.snd)
/-- all but what was handed to be changed is as it was at the entry -/
structure Keep (H0 : Hp) (P : Addr → Prop) (H : Hp) : Prop where
  keep : ∀ a o, H0 a = some o → ¬ P a → ¬ isTbl o → H a = some o
  thr : ∀ a, H0 a ≠ none → H a ≠ none
/-- what is held back stands -/
def Held (R : Addr → Prop) (H H' : Hp) : Prop := ∀ a o, R a → H a = some o → ¬ isTbl o → H' a = some o
/-- what is wished of an exception -/
def Wish (B : XK) (c : Cn) (x : Xc) : Prop := ∀ d H', XAt K x d H' → Keep c.H_0 c.P_0 H' → B (.ref x.C) (some d) H'
variable (B : XK)
/-- an expression's reading gives data -/
def DI (te : TE) (g : DEnv → Rz (D × DEnv)) : Prop := ∀ (c : Cn) (R : Addr → Prop) (δ : DEnv) (σ : L2.St) (F H : Hp), Sim K c R δ σ F H → ∀ Q : VK,
  (g δ).post (fun p => ∀ v F' H', Sim K c R p.2 σ F' H' → Le F F' → Held R H H' → Fz K F' v p.1 → Q v H') (Wish K B c) → te σ H Q
/-- .. a new tree -/
def DF (te : TE) (g : DEnv → Rz (O × DEnv)) : Prop := ∀ (c : Cn) (R : Addr → Prop) (δ : DEnv) (σ : L2.St) (F H : Hp), Sim K c R δ σ F H → ∀ Q : VK,
  (g δ).post (fun p => ∀ v F' H' S, Sim K c (fun a => R a ∨ S a) p.2 σ F' H' → (∀ a, S a → ¬ R a) → Le F F' → Held R H H' → Ow K F' H' S v p.1 → Q v H') (Wish K B c) → te σ H Q
/-- a test's -/
def DT (tt : TT) (g : DEnv → Rz (Bool × DEnv)) : Prop := ∀ (c : Cn) (R : Addr → Prop) (δ : DEnv) (σ : L2.St) (F H : Hp), Sim K c R δ σ F H → ∀ Q : Bool → Hp → Prop,
  (g δ).post (fun p => ∀ F' H', Sim K c R p.2 σ F' H' → Le F F' → Held R H H' → Q p.1 H') (Wish K B c) → tt σ H Q
/-- arguments, all as data -/
def DA (ta : TA) (g : DEnv → Rz (List D × DEnv)) : Prop := ∀ (c : Cn) (R : Addr → Prop) (δ : DEnv) (σ : L2.St) (F H : Hp), Sim K c R δ σ F H → ∀ Q : List V → Hp → Prop,
  (g δ).post (fun p => ∀ vs F' H', Sim K c R p.2 σ F' H' → Le F F' → Held R H H' → FzL K F' vs p.1 → Q vs H') (Wish K B c) → ta σ H Q
/-- an expression that touches nothing -/
def SX (te : TE) (f : DEnv → Option D) : Prop := ∀ (c : Cn) (R : Addr → Prop) (δ : DEnv) (σ : L2.St) (F H : Hp), Sim K c R δ σ F H → ∀ d, f δ = some d → ∃ v, Fz K F v d ∧ ∀ Q : VK, Q v H → te σ H Q
/-- a place within the tree of slot i: its path, what stands there -/
def PL (te : TE) (i : Nat) (p : DEnv → Option (List Step × O)) : Prop := ∀ (c : Cn) (R : Addr → Prop) (δ : DEnv) (σ : L2.St) (F H : Hp), Sim K c R δ σ F H → ∀ π o, p δ = some (π, o) →
  (∃ o0, δ[i]? = some (some o0) ∧ O.get π o0 = some o) ∧ ∀ v v1, σ[i]? = some (some v) → At H π v v1 → ∀ Q : VK, Q v1 H → te σ H Q
end
theorem Held.refl {R : Addr → Prop} {H : Hp} : Held R H H := fun _ _ _ h _ => h
theorem Held.trans {R : Addr → Prop} {H H1 H2 : Hp} (a : Held R H H1) (b : Held R H1 H2) : Held R H H2 := fun x o r h n => b x o r (a x o r h n) n
theorem Held.of {R : Addr → Prop} {H H' : Hp} (e : Ext H H') : Held R H H' := fun a o _ h n => e.keep a o h n
section
variable {K : PySem.W.Frag} {B : XK} {te ta tb : TE}
/-- what touches nothing, as data -/
def gS (f : DEnv → Option D) : DEnv → Rz (D × DEnv) := fun δ => (Rz.of (f δ)).bind fun d => .ok (d, δ)
theorem SX.di {f : DEnv → Option D} (h : SX K te f) : DI K B te (gS f) := fun c R δ σ F H s Q q => by
  unfold gS at q
  rw [Rz.post_bind] at q
  obtain ⟨d, e, q⟩ := Rz.post_of q
  obtain ⟨v, fz, k⟩ := h c R δ σ F H s d e
  exact k Q (q v F H s (Le.refl F) Held.refl fz)
/-- a new tree, frozen at once -/
def gZ (g : DEnv → Rz (O × DEnv)) : DEnv → Rz (D × DEnv) := fun δ => (g δ).bind fun p => .ok (p.1.toD, p.2)
theorem DF.di {g : DEnv → Rz (O × DEnv)} (h : DF K B te g) : DI K B te (gZ g) := fun c R δ σ F H s Q q => by
  unfold gZ at q
  rw [Rz.post_bind] at q
  refine h c R δ σ F H s Q (Rz.post_mono q (fun p q v F' H' S s' dj l hd w => ?_) fun _ z => z)
  obtain ⟨F2, l2, s2, z⟩ := s'.freeze w dj
  exact q v F2 H' s2 (l.trans l2) hd z
/-- data as a tree -/
def gO (g : DEnv → Rz (D × DEnv)) : DEnv → Rz (O × DEnv) := fun δ => (g δ).bind fun p => .ok (.fz p.1, p.2)
theorem DI.df {g : DEnv → Rz (D × DEnv)} (h : DI K B te g) : DF K B te (gO g) := fun c R δ σ F H s Q q => by
  unfold gO at q
  rw [Rz.post_bind] at q
  refine h c R δ σ F H s Q (Rz.post_mono q (fun p q v F' H' s' l hd w => ?_) fun _ z => z)
  exact q v F' H' (fun _ => False) (s'.drop _ fun a z => z.elim id False.elim) (fun _ z => z.elim) l hd (.fz w)
/-- a name -/
def gV (i : Nat) : DEnv → Rz (D × DEnv) := fun δ => match δ[i]? with
  | some (some (.fz d)) => .ok (d, δ)
  | some (some o) => .ok (o.toD, δ.set i (some (.fz o.toD)))
  | _ => .no
theorem di_var {i : Nat} : DI K B (tVar i) (gV i) := fun c R δ σ F H s Q q => by
  unfold gV at q
  split at q
  · next d e =>
    obtain ⟨v, v1, S1, h1, ha, w, _⟩ := s.see (π := []) e rfl
    cases (show v1 = v from ha)
    cases w with
    | fz z => exact ⟨v, h1, q v F H s (Le.refl F) Held.refl z⟩
  · next o _ e =>
    obtain ⟨v, F', h1, h2, h3, h4⟩ := s.read e
    exact ⟨v, h1, q v F' H h3 h2 Held.refl h4⟩
  · exact q.elim
/-- a name as a place -/
def pV (i : Nat) : DEnv → Option (List Step × O) := fun δ => match δ[i]? with
  | some (some o) => some ([], o)
  | _ => none
theorem pl_var {i : Nat} : PL K (tVar i) i (pV i) := fun c R δ σ F H s π o e => by
  unfold pV at e
  split at e
  · next o' h =>
    simp only [Option.some.injEq, Prod.mk.injEq] at e
    obtain ⟨rfl, rfl⟩ := e
    exact ⟨⟨_, h, rfl⟩, fun v v1 hv ha Q q => ⟨v, hv, by cases (show v1 = v from ha); exact q⟩⟩
  · cases e
/-- a place that holds data -/
def fP (p : DEnv → Option (List Step × O)) : DEnv → Option D := fun δ => (p δ).bind fun x => match x.2 with
  | .fz d => some d
  | _ => none
theorem PL.sx {i : Nat} {p : DEnv → Option (List Step × O)} (h : PL K te i p) : SX K te (fP p) := fun c R δ σ F H s d e => by
  unfold fP at e
  cases q : p δ with
  | none => rw [q] at e; cases e
  | some x =>
    obtain ⟨π, o⟩ := x
    rw [q] at e
    cases o with
    | fz d' =>
      simp only [Option.bind_some, Option.some.injEq] at e
      subst e
      obtain ⟨⟨o0, h1, h2⟩, k⟩ := h c R δ σ F H s π _ q
      obtain ⟨v, v1, S1, g1, g2, g3, _⟩ := s.see h1 h2
      cases g3 with
      | fz z => exact ⟨v1, z, fun Q hq => k v v1 g1 g2 Q hq⟩
    | _ => cases e
theorem sx_var {i : Nat} : SX K (tVar i) (fP (pV i)) := pl_var.sx
theorem sx_c {v : V} {d : D} (h : ∀ F, Fz K F v d) : SX K (tC v) (fun _ => some d) := fun c R δ σ F H s d' e => by
  cases e
  exact ⟨v, h F, fun Q q => q⟩
/-! ### operations by values -/
/-- what an operation on values gives at H: a value that stands, or a new object -/
def Gives (K : PySem.W.Frag) (F H : Hp) (r : VK → Prop) (d : D) : Prop :=
  (∃ v, Fz K F v d ∧ ∀ Q : VK, Q v H → r Q) ∨ (∃ ho, ¬ isTbl ho ∧ (∀ p, F p = none → Fz K (upd F p ho) (.ref p) d) ∧ ∀ Q : VK, (∀ p, H p = none → Q (.ref p) (upd H p ho)) → r Q)
theorem Gives.go {c : Cn} {R : Addr → Prop} {δ : DEnv} {σ : L2.St} {F H : Hp} {r : VK → Prop} {d : D} (g : Gives K F H r d) (s : Sim K c R δ σ F H) {Q : VK}
    (q : ∀ v F' H', Sim K c R δ σ F' H' → Le F F' → Held R H H' → Fz K F' v d → Q v H') : r Q := by
  rcases g with ⟨v, fz, k⟩ | ⟨ho, n, fz, k⟩
  · exact k Q (q v F H s (Le.refl F) Held.refl fz)
  · exact k Q fun p hp => q (.ref p) (upd F p ho) (upd H p ho) (s.new hp n) (Le.new (s.fresh hp)) (.of (.new hp)) (fz p (s.fresh hp))
def Op1 (K : PySem.W.Frag) (r : V → Hp → VK → Prop) (f : D → Option D) : Prop := ∀ (F H : Hp) (v : V) (d e : D), Le F H → Fz K F v d → f d = some e → Gives K F H (r v H) e
def Op2 (K : PySem.W.Frag) (r : R2) (f : D → D → Option D) : Prop := ∀ (F H : Hp) (v w : V) (d e x : D), Le F H → Fz K F v d → Fz K F w e → f d e = some x → Gives K F H (r v w H) x
def OpN (K : PySem.W.Frag) (r : List V → Hp → VK → Prop) (f : List D → Option D) : Prop := ∀ (F H : Hp) (vs : List V) (ds : List D) (x : D), Le F H → FzL K F vs ds → f ds = some x → Gives K F H (r vs H) x
def g1 (f : D → Option D) (ga : DEnv → Rz (D × DEnv)) : DEnv → Rz (D × DEnv) := fun δ => (ga δ).bind fun p => (Rz.of (f p.1)).bind fun x => .ok (x, p.2)
def g2 (f : D → D → Option D) (ga gb : DEnv → Rz (D × DEnv)) : DEnv → Rz (D × DEnv) := fun δ => (ga δ).bind fun p => (gb p.2).bind fun q => (Rz.of (f p.1 q.1)).bind fun x => .ok (x, q.2)
theorem di_un {r : V → Hp → VK → Prop} {f : D → Option D} {ga : DEnv → Rz (D × DEnv)} (o : Op1 K r f) (ha : DI K B ta ga) : DI K B (tUn r ta) (g1 f ga) := fun c R δ σ F H s Q q => by
  unfold g1 at q
  rw [Rz.post_bind] at q
  refine ha c R δ σ F H s _ (Rz.post_mono q (fun p q v F1 H1 s1 l1 h1 z1 => ?_) fun _ z => z)
  rw [Rz.post_bind] at q
  obtain ⟨x, e, q⟩ := Rz.post_of q
  exact (o F1 H1 v _ x s1.sub z1 e).go s1 fun v F2 H2 s2 l2 h2 z2 => q v F2 H2 s2 (l1.trans l2) (h1.trans h2) z2
theorem di_op {r : R2} {f : D → D → Option D} {ga gb : DEnv → Rz (D × DEnv)} (o : Op2 K r f) (ha : DI K B ta ga) (hb : DI K B tb gb) : DI K B (tOp r ta tb) (g2 f ga gb) := fun c R δ σ F H s Q q => by
  unfold g2 at q
  rw [Rz.post_bind] at q
  refine ha c R δ σ F H s _ (Rz.post_mono q (fun p q v F1 H1 s1 l1 h1 z1 => ?_) fun _ z => z)
  rw [Rz.post_bind] at q
  refine hb c R p.2 σ F1 H1 s1 _ (Rz.post_mono q (fun p' q w F2 H2 s2 l2 h2 z2 => ?_) fun _ z => z)
  rw [Rz.post_bind] at q
  obtain ⟨x, e, q⟩ := Rz.post_of q
  exact (o F2 H2 v w _ _ x s2.sub (z1.mono l2) z2 e).go s2 fun v F3 H3 s3 l3 h3 z3 => q v F3 H3 s3 ((l1.trans l2).trans l3) ((h1.trans h2).trans h3) z3
def gN (f : List D → Option D) (ga : DEnv → Rz (List D × DEnv)) : DEnv → Rz (D × DEnv) := fun δ => (ga δ).bind fun p => (Rz.of (f p.1)).bind fun x => .ok (x, p.2)
theorem di_cb {r : List V → Hp → VK → Prop} {f : List D → Option D} {tg : TA} {ga : DEnv → Rz (List D × DEnv)} (o : OpN K r f) (ha : DA K B tg ga) : DI K B (tCB r tg) (gN f ga) := fun c R δ σ F H s Q q => by
  unfold gN at q
  rw [Rz.post_bind] at q
  refine ha c R δ σ F H s _ (Rz.post_mono q (fun p q v F1 H1 s1 l1 h1 z1 => ?_) fun _ z => z)
  rw [Rz.post_bind] at q
  obtain ⟨x, e, q⟩ := Rz.post_of q
  exact (o F1 H1 v _ x s1.sub z1 e).go s1 fun v F2 H2 s2 l2 h2 z2 => q v F2 H2 s2 (l1.trans l2) (h1.trans h2) z2
def gaNil : DEnv → Rz (List D × DEnv) := fun δ => .ok ([], δ)
def gaCons (ga : DEnv → Rz (D × DEnv)) (gr : DEnv → Rz (List D × DEnv)) : DEnv → Rz (List D × DEnv) := fun δ => (ga δ).bind fun p => (gr p.2).bind fun q => .ok (p.1 :: q.1, q.2)
theorem da_nil : DA K B tNil gaNil := fun c R δ σ F H s Q q => q [] F H s (Le.refl F) Held.refl .nil
theorem da_cons {tr : TA} {ga : DEnv → Rz (D × DEnv)} {gr : DEnv → Rz (List D × DEnv)} (ha : DI K B ta ga) (hr : DA K B tr gr) : DA K B (tCons ta tr) (gaCons ga gr) := fun c R δ σ F H s Q q => by
  unfold gaCons at q
  rw [Rz.post_bind] at q
  refine ha c R δ σ F H s _ (Rz.post_mono q (fun p q v F1 H1 s1 l1 h1 z1 => ?_) fun _ z => z)
  rw [Rz.post_bind] at q
  refine hr c R p.2 σ F1 H1 s1 _ (Rz.post_mono q (fun p' q w F2 H2 s2 l2 h2 z2 => ?_) fun _ z => z)
  exact q (v :: w) F2 H2 s2 (l1.trans l2) (h1.trans h2) (.cons (z1.mono l2) z2)
/-! ### displays -/
theorem sqT_of {F : Hp} {a : Addr} {xs : List V} (h : F a = some (.tup xs)) : SqT K F a xs := .inl (.inl h)
def gaTup (ga : DEnv → Rz (List D × DEnv)) : DEnv → Rz (D × DEnv) := fun δ => (ga δ).bind fun p => if p.1.length ≤ 100000 then .ok (.tup p.1, p.2) else .no
theorem big {n : Nat} (h : n ≤ 100000) : n ≤ sizeLine := Nat.le_trans h (by decide)
theorem di_tup {tg : TA} {ga : DEnv → Rz (List D × DEnv)} (ha : DA K B tg ga) : DI K B (tTup tg) (gaTup ga) := fun c R δ σ F H s Q q => by
  unfold gaTup at q
  rw [Rz.post_bind] at q
  refine ha c R δ σ F H s _ (Rz.post_mono q (fun p q v F1 H1 s1 l1 h1 z1 => ?_) fun _ z => z)
  by_cases hl : p.1.length ≤ 100000
  · rw [if_pos hl] at q
    refine ⟨big (by rw [z1.length]; exact hl), fun a ha => ?_⟩
    exact q (.ref a) (upd F1 a (.tup v)) _ (s1.new ha fun z => z) (l1.trans (Le.new (s1.fresh ha))) (h1.trans (.of (.new ha))) (.tup (sqT_of upd_same) (z1.mono (Le.new (s1.fresh ha))))
  · rw [if_neg hl] at q; exact q.elim
def gaLst (ga : DEnv → Rz (List D × DEnv)) : DEnv → Rz (O × DEnv) := fun δ => (ga δ).bind fun p => if p.1.length ≤ 100000 then .ok (.lst (p.1.map .fz), p.2) else .no
/-- a new list at p whose items are data -/
theorem Sim.newList {c : Cn} {R : Addr → Prop} {δ : DEnv} {σ : L2.St} {F H : Hp} {p : Addr} {xs : List V} {ds : List D} (s : Sim K c R δ σ F H) (hp : H p = none) (l : FzL K F xs ds) :
    Sim K c (fun a => R a ∨ a = p) δ σ F (upd H p (.lst xs)) ∧ (∀ a, a = p → ¬ R a) ∧ Ow K F (upd H p (.lst xs)) (fun a => a = p) (.ref p) (.lst (ds.map .fz)) :=
  ⟨s.hold hp, fun a e z => by subst e; exact (s.rs a z).2.1 hp, .lst (S1 := fun _ => False) upd_same (s.fresh hp) rfl (fun _ z => z.elim) (OwL.leaves l)⟩
theorem df_lst {tg : TA} {ga : DEnv → Rz (List D × DEnv)} (ha : DA K B tg ga) : DF K B (tLst tg) (gaLst ga) := fun c R δ σ F H s Q q => by
  unfold gaLst at q
  rw [Rz.post_bind] at q
  refine ha c R δ σ F H s _ (Rz.post_mono q (fun p q v F1 H1 s1 l1 h1 z1 => ?_) fun _ z => z)
  by_cases hl : p.1.length ≤ 100000
  · rw [if_pos hl] at q
    refine ⟨big (by rw [z1.length]; exact hl), fun a ha => ?_⟩
    obtain ⟨s2, n, w⟩ := s1.newList ha z1
    exact q (.ref a) F1 _ _ s2 n l1 (h1.trans (.of (.new ha))) w
  · rw [if_neg hl] at q; exact q.elim
/-! ### tests -/
def fBl : D → Option Bool
  | .bl b => some b
  | _ => none
def gB (ga : DEnv → Rz (D × DEnv)) : DEnv → Rz (Bool × DEnv) := fun δ => (ga δ).bind fun p => (Rz.of (fBl p.1)).bind fun b => .ok (b, p.2)
theorem fBl_eq {d : D} {b : Bool} (h : fBl d = some b) : d = .bl b := by
  cases d <;> simp [fBl] at h
  rw [h]
theorem dt_test {ga : DEnv → Rz (D × DEnv)} (ha : DI K B ta ga) : DT K B (tTest ta) (gB ga) := fun c R δ σ F H s Q q => by
  unfold gB at q
  rw [Rz.post_bind] at q
  refine ha c R δ σ F H s _ (Rz.post_mono q (fun p q v F1 H1 s1 l1 h1 z1 => ?_) fun _ z => z)
  rw [Rz.post_bind] at q
  obtain ⟨b, e, q⟩ := Rz.post_of q
  rw [fBl_eq e] at z1
  cases z1
  exact ⟨b, rfl, q F1 H1 s1 l1 h1⟩
theorem dt_B {ga : DEnv → Rz (D × DEnv)} (ha : DI K B ta ga) : DT K B (tB ta) (gB ga) := fun c R δ σ F H s Q q => by
  unfold gB at q
  rw [Rz.post_bind] at q
  refine ha c R δ σ F H s _ (Rz.post_mono q (fun p q v F1 H1 s1 l1 h1 z1 => ?_) fun _ z => z)
  rw [Rz.post_bind] at q
  obtain ⟨b, e, q⟩ := Rz.post_of q
  rw [fBl_eq e] at z1
  cases z1
  exact ⟨b, rfl, q F1 H1 s1 l1 h1⟩
variable {tt tu : TT} {gt gu : DEnv → Rz (Bool × DEnv)}
def gAnd (ga gb : DEnv → Rz (Bool × DEnv)) : DEnv → Rz (Bool × DEnv) := fun δ => (ga δ).bind fun p => if p.1 = true then gb p.2 else .ok (false, p.2)
def gOr (ga gb : DEnv → Rz (Bool × DEnv)) : DEnv → Rz (Bool × DEnv) := fun δ => (ga δ).bind fun p => if p.1 = true then .ok (true, p.2) else gb p.2
def gNot (ga : DEnv → Rz (Bool × DEnv)) : DEnv → Rz (Bool × DEnv) := fun δ => (ga δ).bind fun p => .ok (!p.1, p.2)
theorem dt_and (ha : DT K B tt gt) (hb : DT K B tu gu) : DT K B (tAnd tt tu) (gAnd gt gu) := fun c R δ σ F H s Q q => by
  unfold gAnd at q
  rw [Rz.post_bind] at q
  refine ha c R δ σ F H s _ (Rz.post_mono q (fun p q F1 H1 s1 l1 h1 => ?_) fun _ z => z)
  by_cases e : p.1 = true
  · rw [if_pos e] at q ⊢
    exact hb c R p.2 σ F1 H1 s1 _ (Rz.post_mono q (fun p' q F2 H2 s2 l2 h2 => q F2 H2 s2 (l1.trans l2) (h1.trans h2)) fun _ z => z)
  · rw [if_neg e] at q ⊢
    exact q F1 H1 s1 l1 h1
theorem dt_or (ha : DT K B tt gt) (hb : DT K B tu gu) : DT K B (tOr tt tu) (gOr gt gu) := fun c R δ σ F H s Q q => by
  unfold gOr at q
  rw [Rz.post_bind] at q
  refine ha c R δ σ F H s _ (Rz.post_mono q (fun p q F1 H1 s1 l1 h1 => ?_) fun _ z => z)
  by_cases e : p.1 = true
  · rw [if_pos e] at q ⊢
    exact q F1 H1 s1 l1 h1
  · rw [if_neg e] at q ⊢
    exact hb c R p.2 σ F1 H1 s1 _ (Rz.post_mono q (fun p' q F2 H2 s2 l2 h2 => q F2 H2 s2 (l1.trans l2) (h1.trans h2)) fun _ z => z)
theorem dt_not (ha : DT K B tt gt) : DT K B (tNot tt) (gNot gt) := fun c R δ σ F H s Q q => by
  unfold gNot at q
  rw [Rz.post_bind] at q
  exact ha c R δ σ F H s _ (Rz.post_mono q (fun p q F1 H1 s1 l1 h1 => q F1 H1 s1 l1 h1) fun _ z => z)
/-! ### values by a test -/
def gIf (gt : DEnv → Rz (Bool × DEnv)) (ga gb : DEnv → Rz (D × DEnv)) : DEnv → Rz (D × DEnv) := fun δ => (gt δ).bind fun p => if p.1 = true then ga p.2 else gb p.2
theorem di_if {ga gb : DEnv → Rz (D × DEnv)} (ht : DT K B tt gt) (ha : DI K B ta ga) (hb : DI K B tb gb) : DI K B (tIf tt ta tb) (gIf gt ga gb) := fun c R δ σ F H s Q q => by
  unfold gIf at q
  rw [Rz.post_bind] at q
  refine ht c R δ σ F H s _ (Rz.post_mono q (fun p q F1 H1 s1 l1 h1 => ?_) fun _ z => z)
  by_cases e : p.1 = true
  · rw [if_pos e] at q ⊢
    exact ha c R p.2 σ F1 H1 s1 _ (Rz.post_mono q (fun p' q v F2 H2 s2 l2 h2 => q v F2 H2 s2 (l1.trans l2) (h1.trans h2)) fun _ z => z)
  · rw [if_neg e] at q ⊢
    exact hb c R p.2 σ F1 H1 s1 _ (Rz.post_mono q (fun p' q v F2 H2 s2 l2 h2 => q v F2 H2 s2 (l1.trans l2) (h1.trans h2)) fun _ z => z)
def gAndV (ga gb : DEnv → Rz (D × DEnv)) : DEnv → Rz (D × DEnv) := fun δ => (ga δ).bind fun p => (Rz.of (fBl p.1)).bind fun b => if b = true then gb p.2 else .ok (.bl false, p.2)
def gOrV (ga gb : DEnv → Rz (D × DEnv)) : DEnv → Rz (D × DEnv) := fun δ => (ga δ).bind fun p => (Rz.of (fBl p.1)).bind fun b => if b = true then .ok (.bl true, p.2) else gb p.2
theorem di_andV {ga gb : DEnv → Rz (D × DEnv)} (ha : DI K B ta ga) (hb : DI K B tb gb) : DI K B (tAndV ta tb) (gAndV ga gb) := fun c R δ σ F H s Q q => by
  unfold gAndV at q
  rw [Rz.post_bind] at q
  refine ha c R δ σ F H s _ (Rz.post_mono q (fun p q v F1 H1 s1 l1 h1 z1 => ?_) fun _ z => z)
  rw [Rz.post_bind] at q
  obtain ⟨b, e, q⟩ := Rz.post_of q
  rw [fBl_eq e] at z1
  cases z1
  refine ⟨b, rfl, ?_⟩
  by_cases e : b = true
  · rw [if_pos e] at q ⊢
    exact hb c R p.2 σ F1 H1 s1 _ (Rz.post_mono q (fun p' q v F2 H2 s2 l2 h2 => q v F2 H2 s2 (l1.trans l2) (h1.trans h2)) fun _ z => z)
  · rw [if_neg e] at q ⊢
    exact q (.bl false) F1 H1 s1 l1 h1 (.bl false)
theorem di_orV {ga gb : DEnv → Rz (D × DEnv)} (ha : DI K B ta ga) (hb : DI K B tb gb) : DI K B (tOrV ta tb) (gOrV ga gb) := fun c R δ σ F H s Q q => by
  unfold gOrV at q
  rw [Rz.post_bind] at q
  refine ha c R δ σ F H s _ (Rz.post_mono q (fun p q v F1 H1 s1 l1 h1 z1 => ?_) fun _ z => z)
  rw [Rz.post_bind] at q
  obtain ⟨b, e, q⟩ := Rz.post_of q
  rw [fBl_eq e] at z1
  cases z1
  refine ⟨b, rfl, ?_⟩
  by_cases e : b = true
  · rw [if_pos e] at q ⊢
    exact q (.bl true) F1 H1 s1 l1 h1 (.bl true)
  · rw [if_neg e] at q ⊢
    exact hb c R p.2 σ F1 H1 s1 _ (Rz.post_mono q (fun p' q v F2 H2 s2 l2 h2 => q v F2 H2 s2 (l1.trans l2) (h1.trans h2)) fun _ z => z)
def gNotV (ga : DEnv → Rz (D × DEnv)) : DEnv → Rz (D × DEnv) := fun δ => (ga δ).bind fun p => (Rz.of (fBl p.1)).bind fun b => .ok (.bl (!b), p.2)
theorem di_notV {ga : DEnv → Rz (D × DEnv)} (ha : DI K B ta ga) : DI K B (tNotV ta) (gNotV ga) := fun c R δ σ F H s Q q => by
  unfold gNotV at q
  rw [Rz.post_bind] at q
  refine ha c R δ σ F H s _ (Rz.post_mono q (fun p q v F1 H1 s1 l1 h1 z1 => ?_) fun _ z => z)
  rw [Rz.post_bind] at q
  obtain ⟨b, e, q⟩ := Rz.post_of q
  rw [fBl_eq e] at z1
  cases z1
  exact ⟨b, rfl, q (.bl (!b)) F1 H1 s1 l1 h1 (.bl _)⟩
end
end DL

/-! DL5: statements, loops, defs. -/
namespace DL
open PySem L2

def nR : Addr → Prop := fun _ => False
/-- what is wanted behind a statement, over data -/
structure DEnds where
  nx : DEnv → Prop
  rt : O → DEnv → Prop
  bk : DEnv → Prop := fun _ => False
  ct : DEnv → Prop := fun _ => False
  er : Xc → Prop := fun _ => False
abbrev DTS := DEnds → DEnv → Prop
section
variable (K : PySem.W.Frag) (B : XK)
structure Rel (c : Cn) (F : Hp) (D : Ends) (de : DEnds) : Prop where
  nx : ∀ δ σ F' H, Sim K c nR δ σ F' H → Le F F' → de.nx δ → D.nx σ H
  rt : ∀ o δ v σ F' H S, Sim K c S δ σ F' H → Le F F' → Ow K F' H S v o → de.rt o δ → D.rt v H
  bk : ∀ δ σ F' H, Sim K c nR δ σ F' H → Le F F' → de.bk δ → D.bk σ H
  ct : ∀ δ σ F' H, Sim K c nR δ σ F' H → Le F F' → de.ct δ → D.ct σ H
  er : ∀ x, de.er x → Wish K B c x
/-- a statement's reading, over data; the slots pin are never stored -/
def DS (pin : List Nat) (ts : TS) (T : DTS) : Prop := ∀ (c : Cn) (δ : DEnv) (σ : L2.St) (F H : Hp) (D : Ends) (de : DEnds), c.pin = pin → Sim K c nR δ σ F H → T de δ → Rel K B c F D de → ts D σ H
/-- a target's -/
def DG (ts pin : List Nat) (g : TG) (t : D → DEnv → Option DEnv) : Prop := ∀ (c : Cn) (R : Addr → Prop) (δ δ' : DEnv) (σ : L2.St) (F H : Hp) (v : V) (d : D), c.pin = pin → Sim K c R δ σ F H → Fz K F v d → t d δ = some δ' →
  ∀ Q : L2.St → Hp → Prop, (∀ σ', Sim K c R δ' σ' F H → σ'.length = σ.length → (∀ j, j ∉ ts → σ'[j]? = σ[j]?) → Q σ' H) → g v σ H Q
def DGs (ts pin : List Nat) (g : TGs) (t : List D → DEnv → Option DEnv) : Prop := ∀ (c : Cn) (R : Addr → Prop) (δ δ' : DEnv) (σ : L2.St) (F H : Hp) (vs : List V) (ds : List D), c.pin = pin → Sim K c R δ σ F H → FzL K F vs ds → t ds δ = some δ' →
  ∀ Q : L2.St → Hp → Prop, (∀ σ', Sim K c R δ' σ' F H → σ'.length = σ.length → (∀ j, j ∉ ts → σ'[j]? = σ[j]?) → Q σ' H) → g vs σ H Q
/-- what a loop walks: the items -/
structure Walk (F : Hp) (J : It) (ds : List D) : Prop where
  go : ∀ k F2 H2, Le F F2 → Le F2 H2 → k < ds.length → J.go k H2
  yld : ∀ k F2 H2 x H3 d, Le F F2 → Le F2 H2 → ds[k]? = some d → J.yld k H2 x H3 → (H3 = H2 ∧ Fz K F2 x d) ∨ ∃ p ho, ¬ isTbl ho ∧ H2 p = none ∧ H3 = upd H2 p ho ∧ Fz K (upd F2 p ho) x d
  stop : ∀ F2 H2, Le F F2 → Le F2 H2 → J.stop ds.length H2
def DW (wi : TI) (g : DEnv → Rz (List D × DEnv)) : Prop := ∀ (c : Cn) (R : Addr → Prop) (δ : DEnv) (σ : L2.St) (F H : Hp), Sim K c R δ σ F H → ∀ Q : It → Hp → Prop,
  (g δ).post (fun p => ∀ J F' H', Sim K c R p.2 σ F' H' → Le F F' → Held R H H' → Walk K F' J p.1 → Q J H') (Wish K B c) → wi σ H Q
end
section
variable {K : PySem.W.Frag} {B : XK} {pin : List Nat}
theorem Rel.mono {c : Cn} {F F1 : Hp} {D : Ends} {de : DEnds} (r : Rel K B c F D de) (l : Le F F1) : Rel K B c F1 D de :=
  ⟨fun δ σ F' H s m => r.nx δ σ F' H s (l.trans m), fun o δ v σ F' H S s m => r.rt o δ v σ F' H S s (l.trans m), fun δ σ F' H s m => r.bk δ σ F' H s (l.trans m), fun δ σ F' H s m => r.ct δ σ F' H s (l.trans m), r.er⟩
def dNext : DTS := fun de δ => de.nx δ
theorem ds_next : DS K B pin tNext dNext := fun c δ σ F H D de _ s q r => r.nx δ σ F H s (Le.refl F) q
def dBreak : DTS := fun de δ => de.bk δ
theorem ds_break : DS K B pin tBreak dBreak := fun c δ σ F H D de _ s q r => r.bk δ σ F H s (Le.refl F) q
def dCont : DTS := fun de δ => de.ct δ
theorem ds_cont : DS K B pin tCont dCont := fun c δ σ F H D de _ s q r => r.ct δ σ F H s (Le.refl F) q
def dNever : DTS := fun _ _ => False
theorem ds_never : DS K B pin tNever dNever := fun c δ σ F H D de _ s q r => q.elim
def dSeq (T U : DTS) : DTS := fun de δ => T { de with nx := U de } δ
theorem ds_seq {t u : TS} {T U : DTS} (h1 : DS K B pin t T) (h2 : DS K B pin u U) : DS K B pin (tSeq t u) (dSeq T U) := fun c δ σ F H D de hp s q r =>
  h1 c δ σ F H { D with nx := u D } { de with nx := U de } hp s q ⟨fun δ' σ' F' H' s' l q' => h2 c δ' σ' F' H' D de hp s' q' (r.mono l), r.rt, r.bk, r.ct, r.er⟩
variable {te ta tb : TE} {tt : TT}
def dDrop (g : DEnv → Rz (D × DEnv)) : DTS := fun de δ => (g δ).post (fun p => de.nx p.2) de.er
theorem ds_drop {g : DEnv → Rz (D × DEnv)} (h : DI K B te g) : DS K B pin (tDrop te) (dDrop g) := fun c δ σ F H D de hp s q r =>
  h c nR δ σ F H s _ (Rz.post_mono q (fun p q v F' H' s' l _ _ => r.nx p.2 σ F' H' s' l q) r.er)
def dRet (g : DEnv → Rz (O × DEnv)) : DTS := fun de δ => (g δ).post (fun p => de.rt p.1 p.2) de.er
theorem ds_ret {g : DEnv → Rz (O × DEnv)} (h : DF K B te g) : DS K B pin (tRet te) (dRet g) := fun c δ σ F H D de hp s q r =>
  h c nR δ σ F H s _ (Rz.post_mono q (fun p q v F' H' S s' dj l _ w => r.rt p.1 p.2 v σ F' H' S (s'.drop _ fun a z => .inr z) l w q) r.er)
def dRetN : DTS := fun de δ => de.rt (.fz .non) δ
theorem ds_retN : DS K B pin tRetN dRetN := fun c δ σ F H D de hp s q r => r.rt (.fz .non) δ .non σ F H nR s (Le.refl F) (.fz .non) q
def dIf (g : DEnv → Rz (Bool × DEnv)) (T U : DTS) : DTS := fun de δ => (g δ).post (fun p => if p.1 = true then T de p.2 else U de p.2) de.er
theorem ds_if {g : DEnv → Rz (Bool × DEnv)} {t u : TS} {T U : DTS} (hc : DT K B tt g) (h1 : DS K B pin t T) (h2 : DS K B pin u U) : DS K B pin (tIfS tt t u) (dIf g T U) := fun c δ σ F H D de hp s q r => by
  refine hc c nR δ σ F H s _ (Rz.post_mono q (fun p q F' H' s' l _ => ?_) r.er)
  by_cases e : p.1 = true
  · rw [if_pos e] at q ⊢; exact h1 c p.2 σ F' H' D de hp s' q (r.mono l)
  · rw [if_neg e] at q ⊢; exact h2 c p.2 σ F' H' D de hp s' q (r.mono l)
/-- name = value: a new tree, or data -/
def dSet (i : Nat) (g : DEnv → Rz (O × DEnv)) : DTS := fun de δ => (g δ).post (fun p => de.nx (p.2.set i (some p.1))) de.er
theorem ds_set {i : Nat} {g : DEnv → Rz (O × DEnv)} (h : DF K B te g) (hi : i ∉ pin) : DS K B pin (tAsg te (gName i)) (dSet i g) := fun c δ σ F H D de hp s q r =>
  h c nR δ σ F H s _ (Rz.post_mono q (fun p q v F' H' S s' dj l _ w => r.nx _ _ F' H' (s'.into (R := nR) w dj (.inl (hp ▸ hi))) l q) r.er)
/-! ### targets -/
def tgN (i : Nat) : D → DEnv → Option DEnv := fun d δ => some (δ.set i (some (.fz d)))
theorem dg_name {i : Nat} (hi : i ∉ pin) : DG K [i] pin (gName i) (tgN i) := fun c R δ δ' σ F H v d hp s z e Q q => by
  cases e
  exact q _ (s.put z (hp ▸ hi)) (List.length_set ..) fun j hj => List.getElem?_set_ne (fun e => hj (by simp [e]))
def tgNil : List D → DEnv → Option DEnv
  | [], δ => some δ
  | _ :: _, _ => none
def tgCons (t : D → DEnv → Option DEnv) (u : List D → DEnv → Option DEnv) : List D → DEnv → Option DEnv
  | [], _ => none
  | d :: r, δ => (t d δ).bind (u r)
theorem dg_nil : DGs K [] pin L2.gNil tgNil := fun c R δ δ' σ F H vs ds hp s z e Q q => by
  cases z with
  | nil => cases e; exact ⟨rfl, q σ s rfl fun _ _ => rfl⟩
  | cons _ _ => cases e
theorem dg_cons {t1 t2 : List Nat} {g : TG} {gs : TGs} {t : D → DEnv → Option DEnv} {u : List D → DEnv → Option DEnv} (h1 : DG K t1 pin g t) (h2 : DGs K t2 pin gs u) : DGs K (t1 ++ t2) pin (L2.gCons g gs) (tgCons t u) := fun c R δ δ' σ F H vs ds hp s z e Q q => by
  cases z with
  | nil => cases e
  | cons h l =>
    rename_i v vr d dr
    replace e : (t d δ).bind (u dr) = some δ' := e
    cases e1 : t d δ with
    | none => rw [e1] at e; cases e
    | some δ1 =>
      rw [e1] at e
      exact ⟨v, vr, rfl, h1 c R δ δ1 σ F H v d hp s h e1 _ fun σ1 s1 n1 k1 => h2 c R δ1 δ' σ1 F H vr dr hp s1 l e Q fun σ2 s2 n2 k2 => q σ2 s2 (n2.trans n1) fun j hj =>
        (k2 j fun z => hj (List.mem_append_right _ z)).trans (k1 j fun z => hj (List.mem_append_left _ z))⟩
def tgTup (n : Nat) (u : List D → DEnv → Option DEnv) : D → DEnv → Option DEnv
  | .tup ds, δ => if ds.length = n then u ds δ else none
  | _, _ => none
theorem dg_tup {ts : List Nat} {n : Nat} {gs : TGs} {u : List D → DEnv → Option DEnv} (h : DGs K ts pin gs u) : DG K ts pin (L2.gTup K n gs) (tgTup n u) := fun c R δ δ' σ F H v d hp s z e Q q => by
  cases z with
  | tup hq l =>
    rename_i a xs ds
    replace e : (if ds.length = n then u ds δ else none) = some δ' := e
    by_cases hn : ds.length = n
    · rw [if_pos hn] at e
      exact ⟨a, xs, rfl, sqT_mono s.sub hq, by rw [l.length]; exact hn, h c R δ δ' σ F H xs ds hp s l e Q q⟩
    · rw [if_neg hn] at e; cases e
  | _ => cases e
def dAsg (g : DEnv → Rz (D × DEnv)) (t : D → DEnv → Option DEnv) : DTS := fun de δ => (g δ).post (fun p => (Rz.of (t p.1 p.2)).post (fun δ' => de.nx δ') fun _ => False) de.er
theorem ds_asg {ts : List Nat} {gt : TG} {g : DEnv → Rz (D × DEnv)} {t : D → DEnv → Option DEnv} (h : DI K B te g) (hg : DG K ts pin gt t) : DS K B pin (tAsg te gt) (dAsg g t) := fun c δ σ F H D de hp s q r =>
  h c nR δ σ F H s _ (Rz.post_mono q (fun p q v F' H' s' l _ z => by
    obtain ⟨δ', e, q⟩ := Rz.post_of q
    exact hg c nR p.2 δ' σ F' H' v p.1 hp s' z e _ fun σ' s2 _ _ => r.nx δ' σ' F' H' s2 l q) r.er)
/-! ### loops -/
def whileN (g : DEnv → Rz (Bool × DEnv)) (T : DTS) (de : DEnds) : Nat → DEnv → Prop
  | 0, _ => False
  | n + 1, δ => (g δ).post (fun p => if p.1 = true then T { de with nx := whileN g T de n, ct := whileN g T de n, bk := de.nx } p.2 else de.nx p.2) de.er
def dWhile (g : DEnv → Rz (Bool × DEnv)) (T : DTS) : DTS := fun de δ => ∃ n, whileN g T de n δ
theorem ds_while {g : DEnv → Rz (Bool × DEnv)} {t : TS} {T : DTS} (hc : DT K B tt g) (hb : DS K B pin t T) : DS K B pin (tWhile tt t) (dWhile g T) := fun c δ σ F H D de hp s q r => by
  obtain ⟨n, q⟩ := q
  refine ⟨fun m σ' H' => ∃ δ' F', Sim K c nR δ' σ' F' H' ∧ Le F F' ∧ whileN g T de m δ', ⟨n, δ, F, s, Le.refl F, q⟩, ?_⟩
  rintro m σ1 H1 ⟨δ1, F1, s1, l1, q1⟩
  cases m with
  | zero => exact q1.elim
  | succ m =>
    refine hc c nR δ1 σ1 F1 H1 s1 _ (Rz.post_mono q1 (fun p q2 F2 H2 s2 l2 _ => ?_) r.er)
    by_cases e : p.1 = true
    · rw [if_pos e] at q2 ⊢
      refine ⟨fun σ' H' => ∃ δ' F', Sim K c nR δ' σ' F' H' ∧ Le F F' ∧ whileN g T de m δ', fun σ' H' h => ⟨m, Nat.lt_succ_self m, h⟩, ?_⟩
      have l := l1.trans l2
      exact hb c p.2 σ1 F2 H2 _ _ hp s2 q2 ⟨fun δ' σ' F' H' s' m q => ⟨δ', F', s', l.trans m, q⟩, fun o δ' v σ' F' H' S s' m => r.rt o δ' v σ' F' H' S s' (l.trans m), fun δ' σ' F' H' s' m q => r.nx δ' σ' F' H' s' (l.trans m) q, fun δ' σ' F' H' s' m q => ⟨δ', F', s', l.trans m, q⟩, r.er⟩
    · rw [if_neg e] at q2 ⊢
      exact r.nx p.2 σ1 F2 H2 s2 (l1.trans l2) q2
def forL (t : D → DEnv → Option DEnv) (T : DTS) (de : DEnds) : List D → DEnv → Prop
  | [], δ => de.nx δ
  | d :: r, δ => (Rz.of (t d δ)).post (fun δ' => T { de with nx := forL t T de r, ct := forL t T de r, bk := de.nx } δ') fun _ => False
def dFor (g : DEnv → Rz (List D × DEnv)) (t : D → DEnv → Option DEnv) (T : DTS) : DTS := fun de δ => (g δ).post (fun p => forL t T de p.1 p.2) de.er
/-- one turn's item -/
theorem Walk.item {c : Cn} {R : Addr → Prop} {δ : DEnv} {σ : L2.St} {F F2 H2 H3 : Hp} {J : It} {ds : List D} {k : Nat} {x : V} {d : D} (w : Walk K F J ds) (s : Sim K c R δ σ F2 H2) (l : Le F F2) (hd : ds[k]? = some d) (y : J.yld k H2 x H3) :
    ∃ F3, Sim K c R δ σ F3 H3 ∧ Le F2 F3 ∧ Held R H2 H3 ∧ Fz K F3 x d := by
  rcases w.yld k F2 H2 x H3 d l s.sub hd y with ⟨rfl, z⟩ | ⟨p, ho, n, hp, rfl, z⟩
  · exact ⟨F2, s, Le.refl _, Held.refl, z⟩
  · exact ⟨upd F2 p ho, s.new hp n, Le.new (s.fresh hp), .of (.new hp), z⟩
theorem ds_for {ts : List Nat} {wi : TI} {gt : TG} {t : TS} {g : DEnv → Rz (List D × DEnv)} {tg : D → DEnv → Option DEnv} {T : DTS} (hi : DW K B wi g) (hg : DG K ts pin gt tg) (hb : DS K B pin t T) : DS K B pin (tFor wi gt t) (dFor g tg T) := fun c δ σ F H D de hp s q r => by
  refine hi c nR δ σ F H s _ (Rz.post_mono q (fun p q J F1 H1 s1 l1 _ w => ?_) r.er)
  refine ⟨fun i m σ' H' => m = p.1.length - i ∧ i ≤ p.1.length ∧ ∃ δ' F', Sim K c nR δ' σ' F' H' ∧ Le F1 F' ∧ forL tg T de (p.1.drop i) δ', ⟨_, rfl, Nat.zero_le _, p.2, F1, s1, Le.refl _, q⟩, ?_⟩
  rintro i m σ2 H2 ⟨rfl, hi, δ2, F2, s2, l2, q2⟩
  by_cases hlt : i < p.1.length
  · refine .inr ⟨w.go i F2 H2 l2 s2.sub hlt, fun σ' H' => ∃ δ' F', Sim K c nR δ' σ' F' H' ∧ Le F1 F' ∧ forL tg T de (p.1.drop (i + 1)) δ', fun σ' H' h => ⟨_, by omega, rfl, hlt, h⟩, fun x H3 y => ?_⟩
    have hd : p.1[i]? = some p.1[i] := by simp [hlt]
    obtain ⟨F3, s3, l3, _, z3⟩ := w.item s2 l2 hd y
    rw [List.drop_eq_getElem_cons hlt] at q2
    obtain ⟨δ3, e3, q3⟩ := Rz.post_of q2
    refine hg c nR δ2 δ3 σ2 F3 H3 x _ hp s3 z3 e3 _ fun σ4 s4 _ _ => ?_
    have l := l2.trans l3
    exact hb c δ3 σ4 F3 H3 _ _ hp s4 q3 ⟨fun δ' σ' F' H' s' m q => ⟨δ', F', s', l.trans m, q⟩, fun o δ' v σ' F' H' S s' m => r.rt o δ' v σ' F' H' S s' ((l1.trans l).trans m), fun δ' σ' F' H' s' m q => r.nx δ' σ' F' H' s' ((l1.trans l).trans m) q, fun δ' σ' F' H' s' m q => ⟨δ', F', s', l.trans m, q⟩, r.er⟩
  · have e : i = p.1.length := by omega
    subst e
    refine .inl ⟨w.stop F2 H2 l2 s2.sub, ?_⟩
    rw [List.drop_length] at q2
    exact r.nx δ2 σ2 F2 H2 s2 (l1.trans l2) q2
/-! ### what is walked -/
theorem walk_list {F : Hp} {a : Addr} {xs : List V} {ds : List D} (h : SqL K F a xs) (l : FzL K F xs ds) : Walk K F (Itl K a) ds where
  go := fun k F2 H2 l1 l2 hk => by
    have hk' : k < xs.length := by rw [l.length]; exact hk
    exact ⟨xs, xs[k], sqL_mono (l1.trans l2) h, by simp [hk']⟩
  yld := fun k F2 H2 x H3 d l1 l2 hd y => by
    obtain ⟨e, y⟩ := y
    obtain ⟨v, h1, h2⟩ := l.get hd
    have e2 := y xs (sqL_mono (l1.trans l2) h)
    rw [h1] at e2; cases e2
    exact .inl ⟨e, h2.mono l1⟩
  stop := fun F2 H2 l1 l2 => ⟨xs, sqL_mono (l1.trans l2) h, by rw [l.length]; exact Nat.le_refl _⟩
theorem walk_tup {F : Hp} {a : Addr} {xs : List V} {ds : List D} (h : SqT K F a xs) (l : FzL K F xs ds) : Walk K F (Itt K a) ds where
  go := fun k F2 H2 l1 l2 hk => by
    have hk' : k < xs.length := by rw [l.length]; exact hk
    exact ⟨xs, xs[k], sqT_mono (l1.trans l2) h, by simp [hk']⟩
  yld := fun k F2 H2 x H3 d l1 l2 hd y => by
    obtain ⟨e, y⟩ := y
    obtain ⟨v, h1, h2⟩ := l.get hd
    have e2 := y xs (sqT_mono (l1.trans l2) h)
    rw [h1] at e2; cases e2
    exact .inl ⟨e, h2.mono l1⟩
  stop := fun F2 H2 l1 l2 => ⟨xs, sqT_mono (l1.trans l2) h, by rw [l.length]; exact Nat.le_refl _⟩
def rangeD (lo : Int) (n : Nat) : List D := (List.range n).map fun k => .int (lo + (k : Nat))
theorem walk_range {F : Hp} {lo : Int} {n : Nat} : Walk K F (Itr lo n) (rangeD lo n) where
  go := fun k F2 H2 _ _ hk => by
    have : (rangeD lo n).length = n := by simp [rangeD]
    rw [this] at hk; exact hk
  yld := fun k F2 H2 x H3 d _ _ hd y => by
    obtain ⟨e, rfl⟩ := y
    unfold rangeD at hd
    rw [List.getElem?_map] at hd
    cases q : (List.range n)[k]? with
    | none => rw [q] at hd; cases hd
    | some j =>
      rw [q] at hd
      obtain ⟨hk, e2⟩ := List.getElem?_eq_some_iff.mp q
      rw [List.getElem_range] at e2
      subst e2
      cases hd
      exact .inl ⟨e, .int _⟩
  stop := fun F2 H2 _ _ => by
    have : (rangeD lo n).length = n := by simp [rangeD]
    rw [this]; exact Nat.le_refl n
/-- over a list or a tuple of data -/
def itemsD : D → Option (List D)
  | .lst l => some l
  | .tup l => some l
  | .scr l => some l
  | _ => none
def wL (g : DEnv → Rz (D × DEnv)) : DEnv → Rz (List D × DEnv) := fun δ => (g δ).bind fun p => match p.1 with
  | .lst l => .ok (l, p.2)
  | .scr l => .ok (l, p.2)
  | _ => .no
def wT (g : DEnv → Rz (D × DEnv)) : DEnv → Rz (List D × DEnv) := fun δ => (g δ).bind fun p => match p.1 with
  | .tup l => .ok (l, p.2)
  | _ => .no
theorem sqL_of {F : Hp} {a : Addr} {xs : List V} (h : F a = some (.lst xs)) : SqL K F a xs := .inl (.inl h)
theorem dw_list {g : DEnv → Rz (D × DEnv)} (h : DI K B te g) : DW K B (iList K te) (wL g) := fun c R δ σ F H s Q q => by
  unfold wL at q
  rw [Rz.post_bind] at q
  refine h c R δ σ F H s _ (Rz.post_mono q (fun p q v F1 H1 s1 l1 h1 z1 => ?_) fun _ z => z)
  obtain ⟨d, δ1⟩ := p
  cases z1 with
  | lst ha l => exact ⟨_, rfl, ⟨_, sqL_mono s1.sub (sqL_of ha)⟩, q _ F1 H1 s1 l1 h1 (walk_list (sqL_of ha) l)⟩
  | scr ha l => exact ⟨_, rfl, ⟨_, sqL_mono s1.sub ha⟩, q _ F1 H1 s1 l1 h1 (walk_list ha l)⟩
  | _ => exact q.elim
theorem dw_tup {g : DEnv → Rz (D × DEnv)} (h : DI K B te g) : DW K B (iTup K te) (wT g) := fun c R δ σ F H s Q q => by
  unfold wT at q
  rw [Rz.post_bind] at q
  refine h c R δ σ F H s _ (Rz.post_mono q (fun p q v F1 H1 s1 l1 h1 z1 => ?_) fun _ z => z)
  obtain ⟨d, δ1⟩ := p
  cases z1 with
  | tup ha l => exact ⟨_, rfl, ⟨_, sqT_mono s1.sub ha⟩, q _ F1 H1 s1 l1 h1 (walk_tup ha l)⟩
  | _ => exact q.elim
/-- range(n), range(a, b) -/
def wR1 (g : DEnv → Rz (List D × DEnv)) : DEnv → Rz (List D × DEnv) := fun δ => (g δ).bind fun p => match p.1 with
  | [.int j] => if -(2 ^ 62) ≤ j ∧ j < 2 ^ 62 then .ok (rangeD 0 j.toNat, p.2) else .no
  | _ => .no
def wR2 (g : DEnv → Rz (List D × DEnv)) : DEnv → Rz (List D × DEnv) := fun δ => (g δ).bind fun p => match p.1 with
  | [.int i, .int j] => if -(2 ^ 62) ≤ i ∧ i < 2 ^ 62 ∧ -(2 ^ 62) ≤ j ∧ j < 2 ^ 62 then .ok (rangeD i (j - i).toNat, p.2) else .no
  | _ => .no
theorem dw_range1 {t : TA} {g : DEnv → Rz (List D × DEnv)} (h : DA K B t g) : DW K B (iRng1 t) (wR1 g) := fun c R δ σ F H s Q q => by
  unfold wR1 at q
  rw [Rz.post_bind] at q
  refine h c R δ σ F H s _ (Rz.post_mono q (fun p q v F1 H1 s1 l1 h1 z1 => ?_) fun _ z => z)
  obtain ⟨ds, δ1⟩ := p
  simp only at q z1
  split at q
  · next j =>
    by_cases e : -(2 ^ 62) ≤ j ∧ j < 2 ^ 62
    · rw [if_pos e] at q
      cases z1 with
      | cons z zr =>
        cases z; cases zr
        exact ⟨j, rfl, e.1, e.2, q _ F1 H1 s1 l1 h1 walk_range⟩
    · rw [if_neg e] at q; exact q.elim
  · exact q.elim
theorem dw_range2 {t : TA} {g : DEnv → Rz (List D × DEnv)} (h : DA K B t g) : DW K B (iRng2 t) (wR2 g) := fun c R δ σ F H s Q q => by
  unfold wR2 at q
  rw [Rz.post_bind] at q
  refine h c R δ σ F H s _ (Rz.post_mono q (fun p q v F1 H1 s1 l1 h1 z1 => ?_) fun _ z => z)
  obtain ⟨ds, δ1⟩ := p
  simp only at q z1
  split at q
  · next i j =>
    by_cases e : -(2 ^ 62) ≤ i ∧ i < 2 ^ 62 ∧ -(2 ^ 62) ≤ j ∧ j < 2 ^ 62
    · rw [if_pos e] at q
      cases z1 with
      | cons z zr =>
        cases z
        cases zr with
        | cons z zr =>
          cases z; cases zr
          exact ⟨i, j, rfl, e, q _ F1 H1 s1 l1 h1 walk_range⟩
    · rw [if_neg e] at q; exact q.elim
  · exact q.elim
end
end DL

/-! DL6: the promise of a def, its body, its calls. -/
namespace DL
open PySem L2

/-- the promise: the parameters' trees os; those at pin are handed back as they stand behind -/
def spD (K : PySem.W.Frag) (n : Nat) (pin : List Nat) (Φ : List O → Rz (O × List O)) : Sp := fun vs H Q E =>
  ∃ (os : List O) (F : Hp) (S : Addr → Prop), os.length = n ∧ Le F H ∧ (∀ a o, F a = some o → ¬ isTbl o) ∧ OwL K F H S vs os ∧ (∀ a, S a → F a = none ∧ H a ≠ none) ∧
    (Φ os).post (fun p => ∀ v F' H' Sr S', Chg S (fun a => Sr a ∨ S' a) F H F' H' → (∀ a, Sr a → ¬ S' a) → Ow K F' H' Sr v p.1 → (∃ ws, pin.map (fun i => vs[i]?) = ws.map some ∧ OwL K F' H' S' ws p.2) → Q v H')
      (fun x => ∀ d H', XAt K x d H' → Keep H S H' → E (.ref x.C) (some d) H')
def dEnds (pin : List Nat) (r : Rz (O × List O)) : DEnds where
  nx := fun δ => ∃ os, r = .ok (.fz .non, os) ∧ pin.map (fun i => δ[i]?) = os.map (fun o => some (some o))
  rt := fun o δ => ∃ os, r = .ok (o, os) ∧ pin.map (fun i => δ[i]?) = os.map (fun o => some (some o))
  er := fun x => r = .er x
def dInit (N : Nat) (os : List O) : DEnv := os.map some ++ List.replicate (N - os.length) none
/-- a block, over data -/
def DSs (X : Cx) (B : XK) (pin : List Nat) (sts : List Stmt) (T : DTS) : Prop := ∃ t, PSs X sts t ∧ DS X.K B pin t T
section
variable {P : Program} {w : World} {K : PySem.W.Frag} {mg : Str → Option Value} {base : Heap}
theorem ws_of : ∀ (l : List (Option V)), (∀ x ∈ l, x ≠ none) → ∃ ws : List V, l = ws.map some
  | [], _ => ⟨[], rfl⟩
  | none :: r, h => absurd rfl (h none (by simp))
  | some v :: r, h => by
    obtain ⟨ws, e⟩ := ws_of r fun x hx => h x (by simp [hx])
    exact ⟨v :: ws, by rw [e]; rfl⟩
theorem fn_D {x qual : Str} {st : Stmt} {f : Addr} {fd : FuncData} {N ps : List Str} {k n : Nat} {pin : List Nat} {Φ : List O → Rz (O × List O)} (F : Fun K x qual st f fd) (S : FnScope N ps (defScope st)) (hn : ps.length = n) (hN : n ≤ N.length) (nd : pin.Nodup) (hpin : ∀ i ∈ pin, i < n)
    (body : ∀ (cdv : Value) (A : Around) (outer : List Env) (s : Shared) (H : Hp) (E : XK), Room k (A.deeper (PyProof.Rows.envOfC qual (defScope st) s.heap.objs.size f cdv)) →
      ∃ T, DSs (cxOf (L2.CX P w) P w K mg base N qual (defScope st) f cdv A outer s H E) E pin (defBody st) T ∧ ∀ os, os.length = n → Φ os ≠ .no → T (dEnds pin (Φ os)) (dInit N.length os)) :
    FnOk P w K mg base (L2.CX P w) (k + 1) f fd ps (spD K n pin Φ) := by
  refine F.okX S (fun vs H Q E h => ?_) (fun cdv A outer s H vs Q E hr h => ?_)
  · obtain ⟨os, F', S', h1, h2, h3, h4, _⟩ := h
    rw [h4.length, h1, hn]
  · obtain ⟨os, F0, S0, hl, sub, nt, hw, hS, hq⟩ := h
    obtain ⟨T, ⟨t, ht, hd⟩, hT⟩ := body cdv A outer s H E hr
    refine ⟨t, ht, ?_⟩
    have hlen : vs.length = n := by rw [hw.length, hl]
    have s0 : Sim K ⟨F0, H, S0, pin, L2.start N vs⟩ nR (dInit N.length os) (L2.start N vs) F0 H := Sim.enter sub nt hw hS (by rw [hlen]; exact hN)
    have hno : Φ os ≠ .no := fun e => by rw [e] at hq; exact hq.elim
    refine hd _ _ _ F0 H _ _ rfl s0 (hT os hl hno) ?_
    have fin : ∀ (o : O) (δ : DEnv) (v : V) (σ : L2.St) (F' H' : Hp) (Sr : Addr → Prop), Sim K ⟨F0, H, S0, pin, L2.start N vs⟩ Sr δ σ F' H' → Ow K F' H' Sr v o → (∃ os', Φ os = .ok (o, os') ∧ pin.map (fun i => δ[i]?) = os'.map (fun o => some (some o))) → Q v H' := by
      intro o δ v σ F' H' Sr s1 w1 ⟨os', e, hp⟩
      rw [e] at hq
      obtain ⟨T', E'⟩ := s1.env
      obtain ⟨ws, hws⟩ := ws_of (pin.map fun i => vs[i]?) fun y hy => by
        obtain ⟨i, hi, rfl⟩ := List.mem_map.mp hy
        have : i < vs.length := by rw [hlen]; exact hpin i hi
        rw [List.getElem?_eq_getElem this]; simp
      have hσ : pin.map (fun i => σ[i]?) = ws.map (fun v => some (some v)) := by
        have e1 : pin.map (fun i => σ[i]?) = pin.map (fun i => (vs[i]?).map some) := List.map_congr_left fun i hi => by
          rw [s1.pin i hi]
          show (L2.start N vs)[i]? = _
          unfold L2.start
          rw [List.getElem?_append_left (by rw [List.length_map, hlen]; exact hpin i hi), List.getElem?_map]
        have e2 : pin.map (fun i => (vs[i]?).map some) = (pin.map fun i => vs[i]?).map (Option.map some) := by rw [List.map_map]; rfl
        rw [e1, e2, hws, List.map_map]; rfl
      refine hq v F' H' Sr (fun a => ∃ i ∈ pin, T' i a) ⟨fun a o n h t => s1.keep a o h n t, s1.thr, s1.f0, s1.sub, s1.nt, s1.fn, fun a z => ?_⟩ (fun a z ⟨i, _, y⟩ => E'.nr i a y z) w1 ⟨ws, hws, E'.pick pin os' ws nd hp hσ⟩
      rcases z with z | ⟨i, _, z⟩
      · obtain ⟨h1, h2, h3⟩ := s1.rs a z
        exact ⟨h3, h1, h2⟩
      · exact ⟨E'.own i a z, E'.nf i a z, E'.hv i a z⟩
    refine ⟨fun δ σ F' H' s1 _ q => ?_, fun o δ v σ F' H' Sr s1 _ w1 q => fin o δ v σ F' H' Sr s1 w1 q, fun _ _ _ _ _ _ z => z.elim, fun _ _ _ _ _ _ z => z.elim, fun x e d H' hx hk => ?_⟩
    · exact fin (.fz .non) δ .non σ F' H' nR s1 (.fz .non) q
    · have e' : Φ os = .er x := e
      rw [e'] at hq
      exact hq d H' hx ⟨hk.keep, hk.thr⟩
end

/-! ### several slots at once -/
def unset : DEnv → List Nat → DEnv
  | δ, [] => δ
  | δ, i :: r => unset (δ.set i none) r
def setS : DEnv → List Nat → List O → DEnv
  | δ, i :: r, o :: os => setS (δ.set i (some o)) r os
  | δ, _, _ => δ
theorem unset_get {i : Nat} : ∀ {is : List Nat} {δ : DEnv}, i ∉ is → (unset δ is)[i]? = δ[i]?
  | [], _, _ => rfl
  | j :: r, δ, h => by
    unfold unset
    rw [unset_get (fun z => h (List.mem_cons_of_mem _ z)), List.getElem?_set_ne (fun e => h (by simp [e]))]
theorem set_unset {i : Nat} {x : Option O} : ∀ {is : List Nat} {δ : DEnv}, i ∉ is → (unset δ is).set i x = unset (δ.set i x) is
  | [], _, _ => rfl
  | j :: r, δ, h => by
    unfold unset
    rw [set_unset (fun z => h (List.mem_cons_of_mem _ z)), List.set_comm _ _ (fun e => h (by simp [e]))]
theorem setS_unset : ∀ {is : List Nat} {os : List O} {δ : DEnv}, is.Nodup → is.length = os.length → setS (unset δ is) is os = setS δ is os
  | [], _, _, _, _ => rfl
  | i :: r, [], _, _, h => by simp at h
  | i :: r, o :: os, δ, nd, h => by
    obtain ⟨n1, n2⟩ := List.nodup_cons.mp nd
    unfold setS unset
    rw [set_unset n1, List.set_set, setS_unset n2 (by simpa using h)]
section
variable {K : PySem.W.Frag} {c : Cn} {R S : Addr → Prop} {σ : L2.St} {F H : Hp}
theorem Sim.outs : ∀ {is : List Nat} {os : List O} {R : Addr → Prop} {δ : DEnv}, Sim K c R δ σ F H → is.Nodup → is.map (fun i => δ[i]?) = os.map (fun o => some (some o)) →
    ∃ (ws : List V) (S : Addr → Prop), is.map (fun i => σ[i]?) = ws.map (fun v => some (some v)) ∧ OwL K F H S ws os ∧ (∀ a, S a → ¬ R a) ∧ Sim K c (fun a => R a ∨ S a) (unset δ is) σ F H
  | [], [], R, δ, s, _, _ => ⟨[], fun _ => False, rfl, .nil, fun _ z => z.elim, s.drop _ fun a z => z.elim id False.elim⟩
  | [], _ :: _, _, _, _, _, h => by simp at h
  | _ :: _, [], _, _, _, _, h => by simp at h
  | i :: is, o :: os, R, δ, s, nd, h => by
    obtain ⟨n1, n2⟩ := List.nodup_cons.mp nd
    simp only [List.map_cons, List.cons.injEq] at h
    obtain ⟨v, S1, h1, h2, h3, h4⟩ := s.out h.1
    have e : is.map (fun j => (δ.set i none)[j]?) = os.map (fun o => some (some o)) := by
      rw [← h.2]
      exact List.map_congr_left fun j hj => List.getElem?_set_ne fun e => n1 (by rw [e]; exact hj)
    obtain ⟨ws, S2, g1, g2, g3, g4⟩ := h4.outs n2 e
    refine ⟨v :: ws, fun a => S1 a ∨ S2 a, by rw [List.map_cons, List.map_cons, g1, h1], .cons (fun a z => .inl z) (fun a z => .inr z) (fun a z y => g3 a y (.inr z)) h2 g2, fun a z y => ?_, g4.drop _ fun a z => ?_⟩
    · exact z.elim (fun z => h3 a z y) fun z => g3 a z (.inl y)
    · rcases z with z | z | z
      · exact .inl (.inl z)
      · exact .inl (.inr z)
      · exact .inr z
theorem Sim.intos : ∀ {is : List Nat} {os : List O} {ws : List V} {S : Addr → Prop} {δ : DEnv}, Sim K c (fun a => R a ∨ S a) δ σ F H → OwL K F H S ws os → (∀ a, S a → ¬ R a) → is.length = os.length → is.map (fun i => σ[i]?) = ws.map (fun v => some (some v)) → Sim K c R (setS δ is os) σ F H
  | [], [], _, S, δ, s, _, _, _, _ => s.drop _ fun a z => .inl z
  | [], _ :: _, _, _, _, _, _, _, h, _ => by simp at h
  | _ :: _, [], _, _, _, _, _, _, h, _ => by simp at h
  | i :: is, o :: os, _, S, δ, s, .cons (S1 := A) (S2 := C) s1 s2 dj h l, d, hl, hv => by
    simp only [List.map_cons, List.cons.injEq] at hv
    have s' : Sim K c (fun a => (R a ∨ C a) ∨ A a) δ σ F H := s.drop _ fun a z => by
      rcases z with (z | z) | z
      · exact .inl z
      · exact .inr (s2 a z)
      · exact .inr (s1 a z)
    have g := s'.into (i := i) h (fun a z y => y.elim (d a (s1 a z)) (dj a z)) (.inr hv.1)
    rename_i v vs
    have es : σ.set i (some v) = σ := by
      have hl : i < σ.length := (List.getElem?_eq_some_iff.mp hv.1).1
      have he : σ[i] = some v := (List.getElem?_eq_some_iff.mp hv.1).2
      rw [← he]; exact List.set_getElem_self hl
    rw [es] at g
    show Sim K c R (setS (δ.set i (some o)) is os) σ F H
    exact Sim.intos g l (fun a z => d a (s2 a z)) (by simpa using hl) hv.2
end

/-! ### arguments: data, or a slot that the callee may change -/
inductive Arg where
  | d (d : D) | al (i : Nat)
inductive FzA (K : PySem.W.Frag) (F : Hp) (σ : L2.St) : List V → List Arg → Prop
  | nil : FzA K F σ [] []
  | d {v : V} {d : D} {vs : List V} {as : List Arg} (h : Fz K F v d) (l : FzA K F σ vs as) : FzA K F σ (v :: vs) (.d d :: as)
  | al {v : V} {i : Nat} {vs : List V} {as : List Arg} (h : σ[i]? = some (some v)) (l : FzA K F σ vs as) : FzA K F σ (v :: vs) (.al i :: as)
def alI : List Arg → List Nat
  | [] => []
  | .d _ :: r => alI r
  | .al i :: r => i :: alI r
def alP (k : Nat) : List Arg → List Nat
  | [] => []
  | .d _ :: r => alP (k + 1) r
  | .al _ :: r => k :: alP (k + 1) r
/-- the trees of the slots that are handed -/
def alO (δ : DEnv) : List Nat → Option (List O)
  | [] => some []
  | i :: r => match δ[i]? with
    | some (some o) => (alO δ r).map (o :: ·)
    | _ => none
def mixO : List Arg → List O → List O
  | [], _ => []
  | .d d :: r, os => .fz d :: mixO r os
  | .al _ :: r, o :: os => o :: mixO r os
  | .al _ :: r, [] => .fz .non :: mixO r []
section
variable {K : PySem.W.Frag} {B : XK} {F H : Hp} {σ : L2.St}
theorem FzA.mono {F' : Hp} (e : Le F F') : ∀ {vs : List V} {as : List Arg}, FzA K F σ vs as → FzA K F' σ vs as
  | _, _, .nil => .nil
  | _, _, .d h l => .d (h.mono e) (l.mono e)
  | _, _, .al h l => .al h (l.mono e)
theorem alO_map {δ : DEnv} : ∀ {is : List Nat} {os : List O}, alO δ is = some os → is.map (fun i => δ[i]?) = os.map (fun o => some (some o))
  | [], _, h => by cases h; rfl
  | i :: r, os, h => by
    unfold alO at h
    split at h
    · next o e =>
      cases q : alO δ r with
      | none => rw [q] at h; cases h
      | some os' =>
        rw [q] at h
        cases h
        rw [List.map_cons, List.map_cons, alO_map q, e]
    · cases h
/-- all arguments as trees -/
theorem FzA.all {S : Addr → Prop} : ∀ {vs : List V} {as : List Arg} {ws : List V} {os : List O} {S : Addr → Prop}, FzA K F σ vs as → (alI as).map (fun i => σ[i]?) = ws.map (fun v => some (some v)) → OwL K F H S ws os → OwL K F H S vs (mixO as os)
  | _, _, ws, os, S, .nil, _, _ => .nil
  | _, _, ws, os, S, .d h l, e, w => .cons (S1 := fun _ => False) (fun _ z => z.elim) (fun _ z => z) (fun _ z => z.elim) (.fz h) (FzA.all (S := S) l e w)
  | _, _, [], _, S, .al h l, e, w => by simp [alI] at e
  | _, _, _ :: _, _, S, .al h l, e, .cons s1 s2 dj g m => by
    simp only [alI, List.map_cons, List.cons.injEq] at e
    rw [h] at e
    have e1 := e.1
    simp only [Option.some.injEq] at e1
    subst e1
    exact .cons s1 s2 dj g (FzA.all (S := S) l e.2 m)
theorem FzA.places : ∀ {vs : List V} {as : List Arg} {us : List V}, FzA K F σ vs as → (alP us.length as).map (fun i => (us ++ vs)[i]?) = (alI as).map (fun i => (σ[i]?).bind id)
  | _, _, us, .nil => rfl
  | _, _, us, .d (v := v) (vs := vs) h l => by
    have e := FzA.places (us := us ++ [v]) l
    rw [List.length_append, List.length_singleton, List.append_assoc] at e
    exact e
  | _, _, us, .al (v := v) (vs := vs) h l => by
    have e := FzA.places (us := us ++ [v]) l
    rw [List.length_append, List.length_singleton, List.append_assoc] at e
    show List.map _ (us.length :: alP (us.length + 1) _) = List.map _ (_ :: alI _)
    rw [List.map_cons, List.map_cons]
    have e2 : (us ++ v :: vs)[us.length]? = some v := by simp
    rw [e2, h]
    exact congrArg _ e
variable (K B)
def DAA (ta : TA) (g : DEnv → Rz (List Arg × DEnv)) : Prop := ∀ (c : Cn) (R : Addr → Prop) (δ : DEnv) (σ : L2.St) (F H : Hp), Sim K c R δ σ F H → ∀ Q : List V → Hp → Prop,
  (g δ).post (fun p => ∀ vs F' H', Sim K c R p.2 σ F' H' → Le F F' → Held R H H' → FzA K F' σ vs p.1 → Q vs H') (Wish K B c) → ta σ H Q
variable {K B}
def gANil : DEnv → Rz (List Arg × DEnv) := fun δ => .ok ([], δ)
def gAD (ga : DEnv → Rz (D × DEnv)) (gr : DEnv → Rz (List Arg × DEnv)) : DEnv → Rz (List Arg × DEnv) := fun δ => (ga δ).bind fun p => (gr p.2).bind fun q => .ok (.d p.1 :: q.1, q.2)
def gAA (i : Nat) (gr : DEnv → Rz (List Arg × DEnv)) : DEnv → Rz (List Arg × DEnv) := fun δ => match δ[i]? with
  | some (some _) => (gr δ).bind fun q => .ok (.al i :: q.1, q.2)
  | _ => .no
theorem daa_nil : DAA K B tNil gANil := fun c R δ σ F H s Q q => q [] F H s (Le.refl F) Held.refl .nil
theorem daa_d {ta : TE} {tr : TA} {ga : DEnv → Rz (D × DEnv)} {gr : DEnv → Rz (List Arg × DEnv)} (ha : DI K B ta ga) (hr : DAA K B tr gr) : DAA K B (tCons ta tr) (gAD ga gr) := fun c R δ σ F H s Q q => by
  unfold gAD at q
  rw [Rz.post_bind] at q
  refine ha c R δ σ F H s _ (Rz.post_mono q (fun p q v F1 H1 s1 l1 h1 z1 => ?_) fun _ z => z)
  rw [Rz.post_bind] at q
  refine hr c R p.2 σ F1 H1 s1 _ (Rz.post_mono q (fun p' q w F2 H2 s2 l2 h2 z2 => ?_) fun _ z => z)
  exact q (v :: w) F2 H2 s2 (l1.trans l2) (h1.trans h2) (.d (z1.mono l2) z2)
theorem daa_al {i : Nat} {tr : TA} {gr : DEnv → Rz (List Arg × DEnv)} (hr : DAA K B tr gr) : DAA K B (tCons (tVar i) tr) (gAA i gr) := fun c R δ σ F H s Q q => by
  unfold gAA at q
  split at q
  · next o e =>
    obtain ⟨v, hv, _⟩ := s.all e
    rw [Rz.post_bind] at q
    refine ⟨v, hv, hr c R δ σ F H s _ (Rz.post_mono q (fun p' q w F2 H2 s2 l2 h2 z2 => ?_) fun _ z => z)⟩
    exact q (v :: w) F2 H2 s2 l2 h2 (.al hv z2)
  · exact q.elim
/-- the call itself, its arguments reckoned -/
def gCallV (n : Nat) (cp : List Nat) (Φ : List O → Rz (O × List O)) (as : List Arg) (δ : DEnv) : Rz (O × DEnv) :=
  if as.length = n ∧ alP 0 as = cp ∧ (alI as).Nodup then (Rz.of (alO δ (alI as))).bind fun os => (Φ (mixO as os)).bind fun q => if q.2.length = cp.length then .ok (q.1, setS δ (alI as) q.2) else .no else .no
/-- f(..) -/
def gCall (n : Nat) (cp : List Nat) (Φ : List O → Rz (O × List O)) (ga : DEnv → Rz (List Arg × DEnv)) : DEnv → Rz (O × DEnv) := fun δ => (ga δ).bind fun p => gCallV n cp Φ p.1 p.2
theorem alP_len : ∀ (as : List Arg) (k : Nat), (alP k as).length = (alI as).length
  | [], _ => rfl
  | .d _ :: r, k => alP_len r (k + 1)
  | .al _ :: r, k => by show (alP (k + 1) r).length + 1 = (alI r).length + 1; rw [alP_len r (k + 1)]
theorem mixO_len : ∀ (as : List Arg) (os : List O), (mixO as os).length = as.length
  | [], _ => rfl
  | .d _ :: r, os => by show (mixO r os).length + 1 = _; rw [mixO_len r os]; rfl
  | .al _ :: r, o :: os => by show (mixO r os).length + 1 = _; rw [mixO_len r os]; rfl
  | .al _ :: r, [] => by show (mixO r []).length + 1 = _; rw [mixO_len r []]; rfl
theorem call_core {n : Nat} {cp : List Nat} {Φ : List O → Rz (O × List O)} {c : Cn} {R : Addr → Prop} {δ : DEnv} {as : List Arg} {vs : List V} {Q : VK} (s1 : Sim K c R δ σ F H) (z1 : FzA K F σ vs as)
    (q : (gCallV n cp Φ as δ).post (fun p => ∀ v F' H' S, Sim K c (fun a => R a ∨ S a) p.2 σ F' H' → (∀ a, S a → ¬ R a) → Le F F' → Held R H H' → Ow K F' H' S v p.1 → Q v H') (Wish K B c)) : spD K n cp Φ vs H Q B := by
  unfold gCallV at q
  by_cases hc : as.length = n ∧ alP 0 as = cp ∧ (alI as).Nodup
  · rw [if_pos hc, Rz.post_bind] at q
    obtain ⟨os, eo, q⟩ := Rz.post_of q
    obtain ⟨ws, S, g1, g2, g3, g4⟩ := s1.outs hc.2.2 (alO_map eo)
    refine ⟨mixO as os, F, S, by rw [mixO_len]; exact hc.1, s1.sub, s1.nt, FzA.all (S := S) z1 g1 g2, fun a z => ⟨(g4.rs a (.inr z)).1, (g4.rs a (.inr z)).2.1⟩, ?_⟩
    rw [Rz.post_bind] at q
    refine Rz.post_mono q (fun r q v F' H' Sr S' ch dj w ⟨ws', e1, w'⟩ => ?_) fun x hx d H' xa kp => ?_
    · by_cases hl : r.2.length = cp.length
      · rw [if_pos hl] at q
        have ew : ws' = ws := by
          have e2 := FzA.places (us := []) z1
          rw [List.nil_append, List.length_nil, hc.2.1, e1] at e2
          have e3 : (alI as).map (fun i => (σ[i]?).bind id) = ws.map some := by
            have : (alI as).map (fun i => (σ[i]?).bind id) = ((alI as).map fun i => σ[i]?).map (fun o => o.bind id) := by rw [List.map_map]; rfl
            rw [this, g1, List.map_map]; rfl
          rw [e3] at e2
          exact List.map_inj_right (fun _ _ h => Option.some.inj h) |>.mp e2
        subst ew
        have s2 := g4.step (S' := fun a => Sr a ∨ S' a) g3 ch
        have s3 : Sim K c (fun a => (R a ∨ Sr a) ∨ S' a) (unset δ (alI as)) σ F' H' := s2.drop _ fun a z => by
          rcases z with (z | z) | z
          · exact .inl z
          · exact .inr (.inl z)
          · exact .inr (.inr z)
        have nr : ∀ a, Sr a ∨ S' a → ¬ R a := fun a z y => by
          rcases (ch.own a z).1 with k | k
          · exact g3 a k y
          · exact (g4.rs a (.inl y)).2.1 k
        have hlen : (alI as).length = r.2.length := by rw [hl, ← hc.2.1, alP_len]
        have s4 := Sim.intos s3 w' (fun a z y => y.elim (nr a (.inr z)) fun y => dj a y z) hlen g1
        rw [setS_unset hc.2.2 hlen] at s4
        exact q v F' H' Sr s4 (fun a z => nr a (.inl z)) ch.le (fun a o hr ho hn => ch.keep a o (fun z => g3 a z hr) ho hn) w
      · rw [if_neg hl] at q; exact q.elim
    · refine hx d H' xa ⟨fun a o h p n => kp.keep a o (s1.keep a o h p n) (fun z => ?_) n, fun a h => kp.thr a (s1.thr a h)⟩
      rcases (g4.rs a (.inr z)).2.2 with m | m
      · exact p m
      · rw [h] at m; cases m
  · rw [if_neg hc] at q; exact q.elim
theorem df_call {n : Nat} {cp : List Nat} {Φ : List O → Rz (O × List O)} {t : TA} {ga : DEnv → Rz (List Arg × DEnv)} (ha : DAA K B t ga) : DF K B (tCall (spD K n cp Φ) [] B t) (gCall n cp Φ ga) := fun c R δ σ F H s Q q => by
  unfold gCall at q
  rw [Rz.post_bind] at q
  refine ha c R δ σ F H s _ (Rz.post_mono q (fun p q vs F1 H1 s1 l1 h1 z1 => ?_) fun _ z => z)
  rw [List.append_nil]
  exact call_core s1 z1 (Rz.post_mono q (fun p q v F' H' S s' dj l hd w => q v F' H' S s' dj (l1.trans l) (h1.trans hd) w) fun _ z => z)
theorem look_none {α β : Type} {m : Str} : ∀ {fs : List (Str × α)} {gs : List (Str × β)}, fs.map Prod.fst = gs.map Prod.fst → gs.lookup m = none → fs.lookup m = none
  | [], [], _, _ => rfl
  | [], _ :: _, h, _ => by simp at h
  | _ :: _, [], h, _ => by simp at h
  | (f, x) :: r, (g, y) :: s, h, e => by
    simp only [List.map_cons, List.cons.injEq] at h
    obtain ⟨rfl, h⟩ := h
    rw [List.lookup_cons] at e ⊢
    cases q : m == f with
    | true => rw [q] at e; cases e
    | false => rw [q] at e; exact look_none h e
/-- o.m(..), o a slot whose instance the method may change -/
def gMethA (C : Addr) (m : Str) (i n : Nat) (cp : List Nat) (Φ : List O → Rz (O × List O)) (ga : DEnv → Rz (List Arg × DEnv)) : DEnv → Rz (O × DEnv) := fun δ => match δ[i]? with
  | some (some (.ins C' fs)) => if C' = C ∧ fs.lookup m = none then (ga δ).bind fun p => gCallV n cp Φ (.al i :: p.1) p.2 else .no
  | _ => .no
theorem df_methA {C : Addr} {m : Str} {i n : Nat} {cp : List Nat} {Φ : List O → Rz (O × List O)} {t : TA} {ga : DEnv → Rz (List Arg × DEnv)} (ha : DAA K B t ga) : DF K B (tMeth C m (spD K n cp Φ) [] B (tVar i) t) (gMethA C m i n cp Φ ga) := fun c R δ σ F H s Q q => by
  unfold gMethA at q
  split at q
  · next C' fs e =>
    by_cases hc : C' = C ∧ fs.lookup m = none
    · rw [if_pos hc] at q
      obtain ⟨v, v1, S1, g1, g2, g3, _⟩ := s.see (π := []) e rfl
      cases (show v1 = v from g2)
      obtain ⟨rfl, hm⟩ := hc
      cases g3 with
      | ins h n sa s1 en l =>
        refine ⟨_, g1, _, _, _, rfl, h, look_none en hm, ?_⟩
        rw [Rz.post_bind] at q
        refine ha c R δ σ F H s _ (Rz.post_mono q (fun p q vs F1 H1 s1 l1 h1 z1 => ?_) fun _ z => z)
        rw [List.append_nil]
        exact call_core s1 (.al g1 z1) (Rz.post_mono q (fun p q v F' H' S s' dj l hd w => q v F' H' S s' dj (l1.trans l) (h1.trans hd) w) fun _ z => z)
    · rw [if_neg hc] at q; exact q.elim
  · exact q.elim
/-- o.m(..), o an instance that is data -/
def gMethD (C : Addr) (m : Str) (n : Nat) (cp : List Nat) (Φ : List O → Rz (O × List O)) (go : DEnv → Rz (D × DEnv)) (ga : DEnv → Rz (List Arg × DEnv)) : DEnv → Rz (O × DEnv) := fun δ => (go δ).bind fun r => match r.1 with
  | .obj C' fs => if C' = C ∧ fs.lookup m = none then (ga r.2).bind fun p => gCallV n cp Φ (.d r.1 :: p.1) p.2 else .no
  | _ => .no
theorem df_methD {C : Addr} {m : Str} {n : Nat} {cp : List Nat} {Φ : List O → Rz (O × List O)} {to : TE} {t : TA} {go : DEnv → Rz (D × DEnv)} {ga : DEnv → Rz (List Arg × DEnv)} (ho : DI K B to go) (ha : DAA K B t ga) : DF K B (tMeth C m (spD K n cp Φ) [] B to t) (gMethD C m n cp Φ go ga) := fun c R δ σ F H s Q q => by
  unfold gMethD at q
  rw [Rz.post_bind] at q
  refine ho c R δ σ F H s _ (Rz.post_mono q (fun r q1 v F1 H1 s1 l1 h1 z1 => ?_) fun _ z => z)
  obtain ⟨d, δ1⟩ := r
  cases z1 with
  | obj h en l =>
    rename_i a C' dx fs ds
    by_cases hc : C' = C ∧ ds.lookup m = none
    · dsimp only at q1
      rw [if_pos hc, Rz.post_bind] at q1
      obtain ⟨rfl, hm⟩ := hc
      refine ⟨_, _, _, rfl, s1.sub _ _ h, look_none en hm, ?_⟩
      refine ha c R δ1 σ F1 H1 s1 _ (Rz.post_mono q1 (fun p q vs F2 H2 s2 l2 h2 z2 => ?_) fun _ z => z)
      rw [List.append_nil]
      exact call_core s2 (.d (.obj (l2 _ _ h) en (l.mono l2)) z2) (Rz.post_mono q (fun p q v F' H' S s' dj l hd w => q v F' H' S s' dj ((l1.trans l2).trans l) ((h1.trans h2).trans hd) w) fun _ z => z)
    · dsimp only at q1
      rw [if_neg hc] at q1; exact q1.elim
  | _ => exact q1.elim
/-- C(..): a new instance by its __init__ -/
def gMake (C : Addr) (n : Nat) (Φ : List O → Rz (O × List O)) (ga : DEnv → Rz (List D × DEnv)) : DEnv → Rz (O × DEnv) := fun δ => (ga δ).bind fun p =>
  if p.1.length + 1 = n then (Φ (.ins C [] :: p.1.map .fz)).bind fun q => match q with
    | (.fz .non, [o]) => .ok (o, p.2)
    | _ => .no else .no
theorem df_make {C : Addr} {n : Nat} {Φ : List O → Rz (O × List O)} {t : TA} {ga : DEnv → Rz (List D × DEnv)} (ha : DA K B t ga) : DF K B (tMake C (spD K n [0] Φ) [] B t) (gMake C n Φ ga) := fun c R δ σ F H s Q q => by
  unfold gMake at q
  rw [Rz.post_bind] at q
  refine ha c R δ σ F H s _ (Rz.post_mono q (fun p q vs F1 H1 s1 l1 h1 z1 => ?_) fun _ z => z)
  intro x dx hx hdx ne
  by_cases hn : p.1.length + 1 = n
  · rw [if_pos hn] at q
    have hx2 : upd H1 dx (.own x) x = none := by rw [upd_ne (Ne.symm ne)]; exact hx
    have s2 := (s1.grow (Ext.new (o := .own x) hdx)).hold (o := .ins C dx []) hx2
    have e2 : Ext H1 (upd (upd H1 dx (.own x)) x (.ins C dx [])) := (Ext.new hdx).trans (.new hx2)
    have w0 : Ow K F1 (upd (upd H1 dx (.own x)) x (.ins C dx [])) (fun a => a = x) (.ref x) (.ins C []) := .ins (S1 := fun _ => False) upd_same (s1.fresh hx) rfl (fun _ z => z.elim) rfl .nil
    rw [List.append_nil]
    refine ⟨.ins C [] :: p.1.map .fz, F1, fun a => a = x, by rw [List.length_cons, List.length_map]; exact hn, s2.sub, s2.nt, .cons (S2 := fun _ => False) (fun _ z => z) (fun _ z => z.elim) (fun _ _ z => z) w0 (OwL.leaves z1), fun a z => by subst z; exact ⟨s1.fresh hx, by rw [upd_same]; simp⟩, ?_⟩
    rw [Rz.post_bind] at q
    refine Rz.post_mono q (fun r q v F' H' Sr S' ch dj w ⟨ws', ew, w'⟩ => ?_) fun y hy d H' xa kp => ?_
    · have nx : ∀ a, a = x → ¬ R a := fun a e z => by subst e; exact (s1.rs a z).2.1 hx
      have s3 := s2.step nx ch
      obtain ⟨ro, rs⟩ := r
      split at q
      · next o heq =>
        simp only [Prod.mk.injEq] at heq
        obtain ⟨rfl, rfl⟩ := heq
        cases w with
        | fz z =>
          cases z
          refine ⟨rfl, ?_⟩
          simp only [List.map_cons, List.map_nil, List.getElem?_cons_zero] at ew
          cases ws' with
          | nil => simp at ew
          | cons v0 r0 =>
            simp only [List.map_cons, List.cons.injEq, Option.some.injEq] at ew
            obtain ⟨rfl, er⟩ := ew
            cases w' with
            | cons t1 t2 t3 w1 _ =>
              have nr : ∀ a, S' a → ¬ R a := fun a z y => by
                rcases (ch.own a (.inr z)).1 with k | k
                · exact nx a k y
                · exact (s2.rs a (.inl y)).2.1 k
              exact q _ F' H' S' (s3.drop _ fun a z => z.imp id .inr) nr (l1.trans ch.le) ((h1.trans (.of e2)).trans fun a o hr ho hn => ch.keep a o (fun z => nx a z hr) ho hn) (w1.grow t1)
      · exact q.elim
    · refine hy d H' xa ⟨fun a o h p n => kp.keep a o (e2.keep a o (s1.keep a o h p n) n) (fun z => ?_) n, fun a h => kp.thr a (e2.thr a (s1.thr a h))⟩
      subst z
      exact s1.thr a (by rw [h]; simp) hx
  · rw [if_neg hn] at q; exact q.elim
end
end DL

/-! DL7: comprehensions; trees changed in place. -/
namespace DL
open PySem L2

def Rz.nox {α : Type} : Rz α → Rz α
  | .ok a => .ok a
  | _ => .no
theorem Rz.post_nox {α : Type} {m : Rz α} {P : α → Prop} {B B' : Xc → Prop} (h : (m.nox).post P B) : m.post P B' := by
  cases m with
  | ok a => exact h
  | er x => exact h.elim
  | no => exact h
def wipeD (δ : DEnv) : List Nat → DEnv
  | [] => δ
  | v :: vs => (wipeD δ vs).set v none
/-- the slots vs as in δ, the others as in δ' -/
def backD (δ δ' : DEnv) : List Nat → DEnv
  | [] => δ'
  | v :: vs => (backD δ δ' vs).set v ((δ[v]?).getD none)
def plainAt (δ : DEnv) (vs : List Nat) : Bool := vs.all fun v => match δ[v]? with
  | some (some (.fz _)) => true
  | some none => true
  | _ => false
theorem wipeD_len (δ : DEnv) : ∀ vs, (wipeD δ vs).length = δ.length
  | [] => rfl
  | v :: vs => by unfold wipeD; rw [List.length_set, wipeD_len δ vs]
theorem wipeD_some {δ : DEnv} {i : Nat} {x : O} : ∀ {vs : List Nat}, (wipeD δ vs)[i]? = some (some x) → δ[i]? = some (some x) ∧ i ∉ vs
  | [], h => ⟨h, by simp⟩
  | v :: vs, h => by
    unfold wipeD at h
    by_cases e : v = i
    · subst e
      by_cases hv : v < (wipeD δ vs).length
      · rw [List.getElem?_set_self hv] at h; cases h
      · rw [List.getElem?_eq_none (by simpa using hv)] at h; cases h
    · rw [List.getElem?_set_ne e] at h
      obtain ⟨h1, h2⟩ := wipeD_some h
      exact ⟨h1, by simp [Ne.symm e, h2]⟩
theorem backD_len (δ δ' : DEnv) : ∀ vs, (backD δ δ' vs).length = δ'.length
  | [] => rfl
  | v :: vs => by unfold backD; rw [List.length_set, backD_len δ δ' vs]
theorem backD_out {δ δ' : DEnv} {i : Nat} : ∀ {vs : List Nat}, i ∉ vs → (backD δ δ' vs)[i]? = δ'[i]?
  | [], _ => rfl
  | v :: vs, h => by
    unfold backD
    rw [List.getElem?_set_ne (fun e => h (by simp [e])), backD_out fun z => h (List.mem_cons_of_mem _ z)]
theorem backD_in {δ δ' : DEnv} {i : Nat} (hl : δ.length = δ'.length) : ∀ {vs : List Nat}, i ∈ vs → (backD δ δ' vs)[i]? = δ[i]?
  | v :: vs, h => by
    unfold backD
    by_cases e : v = i
    · subst e
      by_cases hv : v < δ.length
      · rw [List.getElem?_set_self (by rw [backD_len]; omega), List.getElem?_eq_getElem hv]; rfl
      · rw [List.getElem?_eq_none (by rw [List.length_set, backD_len]; omega), List.getElem?_eq_none (by omega)]
    · rw [List.getElem?_set_ne e]
      rcases List.mem_cons.mp h with z | z
      · exact absurd z.symm e
      · exact backD_in hl z
theorem wipe_len (σ : L2.St) (vs : List Nat) : (wipe σ vs).length = σ.length := wipe_length σ vs
theorem wipe_out' {σ : L2.St} {i : Nat} {vs : List Nat} (h : i ∉ vs) : (wipe σ vs)[i]? = σ[i]? := L2.wipe_out h
theorem wipe_in {σ : L2.St} {i : Nat} : ∀ {vs : List Nat}, i ∈ vs → i < σ.length → (wipe σ vs)[i]? = some none
  | v :: vs, h, hl => by
    unfold wipe
    by_cases e : v = i
    · subst e
      rw [List.getElem?_set_self (by rw [wipe_length]; exact hl)]
    · rw [List.getElem?_set_ne e]
      rcases List.mem_cons.mp h with z | z
      · exact absurd z.symm e
      · exact wipe_in z hl
theorem wipe_same {σ σ' : L2.St} {vs : List Nat} (hl : σ'.length = σ.length) (h : ∀ j, j ∉ vs → σ'[j]? = σ[j]?) : wipe σ' vs = wipe σ vs := by
  refine List.ext_getElem? fun j => ?_
  by_cases hj : j ∈ vs
  · by_cases hlt : j < σ.length
    · rw [wipe_in hj hlt, wipe_in hj (hl ▸ hlt)]
    · rw [List.getElem?_eq_none (by rw [wipe_length]; omega), List.getElem?_eq_none (by rw [wipe_length]; omega)]
  · rw [wipe_out' hj, wipe_out' hj, h j hj]
def Cn.free (c : Cn) : Cn := { c with pin := [] }
section
variable {K : PySem.W.Frag} {c : Cn} {R : Addr → Prop} {δ δ' : DEnv} {σ : L2.St} {F F' H H' : Hp}
theorem Sim.wiped (s : Sim K c R δ σ F H) (vs : List Nat) : Sim K c.free R (wipeD δ vs) (wipe σ vs) F H := by
  obtain ⟨T, E⟩ := s.env
  refine ⟨s.sub, s.nt, s.f0, s.fn, s.keep, s.thr, s.rs, ⟨T, fun i o h => ?_, E.dj, E.nr, E.own, E.hv, E.nf⟩, fun i hi => absurd hi (by simp [Cn.free]), by rw [wipeD_len, wipe_length]; exact s.len⟩
  obtain ⟨h1, h2⟩ := wipeD_some h
  obtain ⟨v, g1, g2⟩ := E.at_ i o h1
  exact ⟨v, by rw [wipe_out' h2]; exact g1, g2⟩
/-- behind the block: the own names' slots are the def's again -/
theorem Sim.unwiped {vs : List Nat} (s : Sim K c R δ σ F H) (s' : Sim K c.free R' δ' (wipe σ vs) F' H') (l : Le F F') (hp : plainAt δ vs = true) (hl : δ.length = δ'.length) : Sim K c R' (backD δ δ' vs) σ F' H' := by
  obtain ⟨T, E⟩ := s.env
  obtain ⟨T', E'⟩ := s'.env
  refine ⟨s'.sub, s'.nt, s'.f0, s'.fn, s'.keep, s'.thr, s'.rs, ⟨fun i a => i ∉ vs ∧ T' i a, fun i o h => ?_, fun i j a y z => E'.dj i j a y.2 z.2, fun i a z => E'.nr i a z.2, fun i a z => E'.own i a z.2, fun i a z => E'.hv i a z.2, fun i a z => E'.nf i a z.2⟩, s.pin, by rw [backD_len, ← hl]; exact s.len⟩
  by_cases hi : i ∈ vs
  · rw [backD_in hl hi] at h
    have hh := List.all_eq_true.mp hp i hi
    rw [h] at hh
    cases o with
    | fz d =>
      obtain ⟨v, g1, g2⟩ := E.at_ i _ h
      cases g2 with
      | fz z => exact ⟨v, g1, .fz (z.mono l)⟩
    | _ => cases hh
  · rw [backD_out hi] at h
    obtain ⟨v, g1, g2⟩ := E'.at_ i o h
    rw [wipe_out' hi] at g1
    exact ⟨v, g1, g2.grow fun b z => ⟨hi, z⟩⟩
theorem Sim.wipeB {vs : List Nat} {σ2 : L2.St} (s : Sim K c.free R δ σ2 F H) (e : wipe σ2 vs = wipe σ vs) : Sim K c.free R (wipeD δ vs) (wipe σ vs) F H := by
  have g := s.wiped vs
  rw [e] at g
  exact g
theorem OwL.snoc {S2 : Addr → Prop} {v : V} {o : O} (w : Ow K F H S2 v o) : ∀ {S : Addr → Prop} {vs : List V} {os : List O}, OwL K F H S vs os → (∀ b, S2 b → ¬ S b) → OwL K F H (fun b => S b ∨ S2 b) (vs ++ [v]) (os ++ [o])
  | S, _, _, .nil, n => .cons (S2 := fun _ => False) (fun b z => .inr z) (fun _ z => z.elim) (fun _ _ z => z) w .nil
  | S, _, _, .cons (S1 := A) (S2 := C) s1 s2 dj h l, n => .cons (S1 := A) (S2 := fun b => C b ∨ S2 b) (fun b z => .inl (s1 b z)) (fun b z => z.imp (s2 b) id) (fun b z y => y.elim (dj b z) fun y => n b y (s1 b z)) h (OwL.snoc w l fun b z y => n b z (s2 b y))
end
section
variable {K : PySem.W.Frag} {B : XK}
def lcL (tg : D → DEnv → Option DEnv) (gt : DEnv → Rz (Bool × DEnv)) (ge : DEnv → Rz (O × DEnv)) (vs : List Nat) : List D → DEnv → Rz (List O × DEnv)
  | [], δ => .ok ([], δ)
  | d :: r, δ => (Rz.of (tg d δ)).bind fun δ1 => (gt δ1).nox.bind fun p => if p.1 = true then (ge p.2).nox.bind fun q => (lcL tg gt ge vs r (wipeD q.2 vs)).bind fun x => .ok (q.1 :: x.1, x.2) else lcL tg gt ge vs r (wipeD p.2 vs)
def gLc (gi : DEnv → Rz (List D × DEnv)) (tg : D → DEnv → Option DEnv) (gt : DEnv → Rz (Bool × DEnv)) (ge : DEnv → Rz (O × DEnv)) (vs : List Nat) : DEnv → Rz (O × DEnv) := fun δ => (gi δ).bind fun p =>
  if p.1.length ≤ 100000 ∧ plainAt p.2 vs = true then (lcL tg gt ge vs p.1 (wipeD p.2 vs)).bind fun x => .ok (.lst x.1, backD p.2 x.2 vs) else .no
theorem gYes : DT K B tYes (fun δ => .ok (true, δ)) := fun c R δ σ F H s Q q => q F H s (Le.refl F) Held.refl
theorem df_lc {ts vs : List Nat} {wi : TI} {g : TG} {tt : TT} {te : TE} {gi : DEnv → Rz (List D × DEnv)} {tg : D → DEnv → Option DEnv} {gt : DEnv → Rz (Bool × DEnv)} {ge : DEnv → Rz (O × DEnv)}
    (hi : DW K B wi gi) (hg : DG K ts [] g tg) (ht : DT K (fun _ _ _ => False) tt gt) (he : DF K (fun _ _ _ => False) te ge) (hv : ∀ i ∈ ts, i ∈ vs) : DF K B (tLc wi g tt te vs) (gLc gi tg gt ge vs) := fun c R δ σ F H s Q q => by
  unfold gLc at q
  rw [Rz.post_bind] at q
  refine hi c R δ σ F H s _ (Rz.post_mono q (fun p q J F1 H1 s1 l1 h1 w => ?_) fun _ z => z)
  by_cases hc : p.1.length ≤ 100000 ∧ plainAt p.2 vs = true
  · rw [if_pos hc, Rz.post_bind] at q
    intro Dl hDl
    have s2 := s1.hold (o := .lst []) hDl
    refine ⟨fun i m Hh => m = p.1.length - i ∧ i ≤ p.1.length ∧ ∃ (δi : DEnv) (F' : Hp) (acc : List V) (os : List O) (S1 : Addr → Prop), Sim K c.free (fun a => R a ∨ (a = Dl ∨ S1 a)) δi (wipe σ vs) F' Hh ∧ Le F1 F' ∧ Held R H1 Hh ∧ Hh Dl = some (.lst acc) ∧ (∀ b, S1 b → b ≠ Dl ∧ ¬ R b) ∧
        OwL K F' Hh S1 acc os ∧ acc.length ≤ i ∧ δi.length = p.2.length ∧ (lcL tg gt ge vs (p.1.drop i) δi).post (fun x => ∀ v F' H' S, Sim K c (fun a => R a ∨ S a) (backD p.2 x.2 vs) σ F' H' → (∀ a, S a → ¬ R a) → Le F F' → Held R H H' → Ow K F' H' S v (.lst (os ++ x.1)) → Q v H') (fun _ => False), ⟨_, rfl, Nat.zero_le _, wipeD p.2 vs, F1, [], [], fun _ => False, ?_, Le.refl F1, .of (.new hDl), upd_same, fun _ z => z.elim, .nil, Nat.le_refl _, wipeD_len _ _, ?_⟩, ?_⟩
    · exact (s2.wiped vs).drop _ fun a z => z.imp id fun z => z.elim id False.elim
    · rw [List.drop_zero]
      cases e : lcL tg gt ge vs p.1 (wipeD p.2 vs) with
      | ok x => rw [e] at q; exact q
      | er x =>
        exfalso
        have noer : ∀ (ds : List D) (δ : DEnv) (x : Xc), lcL tg gt ge vs ds δ ≠ .er x := by
          intro ds
          induction ds with
          | nil => intro δ x z; cases z
          | cons d r ih =>
            intro δ x z
            unfold lcL at z
            cases e1 : tg d δ with
            | none => rw [e1] at z; cases z
            | some δ1 =>
              rw [e1] at z
              simp only [Rz.of_some, Rz.bind_ok] at z
              cases e2 : gt δ1 with
              | ok p =>
                rw [e2] at z
                simp only [Rz.nox, Rz.bind_ok] at z
                split at z
                · cases e3 : ge p.2 with
                  | ok q =>
                    rw [e3] at z
                    simp only [Rz.bind_ok] at z
                    cases e4 : lcL tg gt ge vs r (wipeD q.2 vs) with
                    | ok y => rw [e4] at z; cases z
                    | er y => exact ih _ _ e4
                    | no => rw [e4] at z; cases z
                  | er q => rw [e3] at z; cases z
                  | no => rw [e3] at z; cases z
                · exact ih _ _ z
              | er p => rw [e2] at z; cases z
              | no => rw [e2] at z; cases z
        exact noer _ _ _ e
      | no => rw [e] at q; exact q.elim
    · rintro i m Hh ⟨rfl, hi, δi, F', acc, os, S1, s3, l3, h3, e3, d3, w3, n3, ln3, q3⟩
      by_cases hlt : i < p.1.length
      · refine .inr ⟨w.go i F' Hh l3 s3.sub hlt, fun H' => ∃ (δi : DEnv) (F' : Hp) (acc : List V) (os : List O) (S1 : Addr → Prop), Sim K c.free (fun a => R a ∨ (a = Dl ∨ S1 a)) δi (wipe σ vs) F' H' ∧ Le F1 F' ∧ Held R H1 H' ∧ H' Dl = some (.lst acc) ∧ (∀ b, S1 b → b ≠ Dl ∧ ¬ R b) ∧
          OwL K F' H' S1 acc os ∧ acc.length ≤ i + 1 ∧ δi.length = p.2.length ∧ (lcL tg gt ge vs (p.1.drop (i + 1)) δi).post (fun x => ∀ v F' H' S, Sim K c (fun a => R a ∨ S a) (backD p.2 x.2 vs) σ F' H' → (∀ a, S a → ¬ R a) → Le F F' → Held R H H' → Ow K F' H' S v (.lst (os ++ x.1)) → Q v H') (fun _ => False), fun H' h => ⟨_, by omega, rfl, hlt, h⟩, fun x H4 y => ?_⟩
        have hd : p.1[i]? = some p.1[i] := by simp [hlt]
        obtain ⟨F4, s4, l4, h4, z4⟩ := w.item s3 l3 hd y
        rw [List.drop_eq_getElem_cons hlt] at q3
        unfold lcL at q3
        rw [Rz.post_bind] at q3
        obtain ⟨δ5, e5, q3⟩ := Rz.post_of q3
        refine hg c.free _ δi δ5 (wipe σ vs) F4 H4 x _ rfl s4 z4 e5 _ fun σ5 s5 ln5 k5 => ?_
        have ew : wipe σ5 vs = wipe σ vs := by
          have e1 : wipe σ5 vs = wipe (wipe σ vs) vs := wipe_same ln5 fun j hj => k5 j fun z => hj (hv j z)
          rw [e1]
          exact wipe_same (wipe_length σ vs) fun j hj => wipe_out' hj
        have ew' : wipe σ5 vs = wipe (wipe σ vs) vs := wipe_same ln5 fun j hj => k5 j fun z => hj (hv j z)
        have ld : H4 Dl = some (.lst acc) := h4 Dl _ (.inr (.inl rfl)) e3 fun z => z
        rw [Rz.post_bind] at q3
        refine ⟨ew, ?_⟩
        refine ht c.free _ δ5 σ5 F4 H4 s5 _ (Rz.post_mono (Rz.post_nox q3) (fun b q6 F6 H6 s6 l6 h6 => ?_) fun _ z => z)
        have wst : ∀ {Fa Ha Fb Hb : Hp} {Ra : Addr → Prop} {δa : DEnv} {σa : L2.St}, Sim K c.free (fun a => R a ∨ (a = Dl ∨ S1 a)) δa σa Fb Hb → Le Fa Fb → Held (fun a => R a ∨ (a = Dl ∨ S1 a)) Ha Hb → OwL K Fa Ha S1 acc os → OwL K Fb Hb S1 acc os := fun sb lb hb wa =>
          wa.stand ⟨lb, fun b o z ho n => hb b o (.inr (.inr z)) ho n, fun b z _ _ => (sb.rs b (.inr (.inr z))).1⟩
        have w4 := wst (Ra := R) s4 l4 h4 w3
        have w6 := wst (Ra := R) s6 l6 h6 w4
        have ld6 : H6 Dl = some (.lst acc) := h6 Dl _ (.inr (.inl rfl)) ld fun z => z
        have hR6 : Held R H1 H6 := (h3.trans fun a o hr => h4 a o (.inl hr)).trans fun a o hr => h6 a o (.inl hr)
        by_cases hb : b.1 = true
        · rw [if_pos hb] at q6 ⊢
          rw [Rz.post_bind] at q6
          refine he c.free _ b.2 σ5 F6 H6 s6 _ (Rz.post_mono (Rz.post_nox q6) (fun r q7 v7 F7 H7 S7 s7 dj7 l7 h7 w7 => ?_) fun _ z => z)
          have ld7 : H7 Dl = some (.lst acc) := h7 Dl _ (.inr (.inl rfl)) ld6 fun z => z
          refine ⟨acc, ld7, Nat.lt_of_lt_of_le (Nat.lt_of_le_of_lt (Nat.le_trans n3 (Nat.le_of_lt hlt)) (Nat.lt_succ_of_le hc.1)) (by decide), ?_⟩
          have s7' : Sim K c.free (fun a => R a ∨ (a = Dl ∨ (S1 a ∨ S7 a))) r.2 σ5 F7 H7 := s7.drop _ fun a z => by
            rcases z with z | z | z | z
            · exact .inl (.inl z)
            · exact .inl (.inr (.inl z))
            · exact .inl (.inr (.inr z))
            · exact .inr z
          have nt7 : ∀ a, S7 a → ¬ S1 a := fun a z y => dj7 a z (.inr (.inr y))
          have w7b : OwL K F7 H7 S1 acc os := w6.stand ⟨l7, fun b o z ho n => h7 b o (.inr (.inr z)) ho n, fun b z _ _ => (s7'.rs b (.inr (.inr (.inl z)))).1⟩
          have s8 := s7'.held (H' := upd H7 Dl (.lst (acc ++ [v7]))) (fun a => R a ∨ (a = Dl ∨ (S1 a ∨ S7 a))) (fun a o n ho _ => by rw [upd_ne (fun z => n (.inr (.inl z)))]; exact ho) (fun a h => by
            by_cases z : a = Dl
            · subst z; rw [upd_same]; simp
            · rw [upd_ne z]; exact h) fun a z => .inl z
          have st8 : ∀ {S : Addr → Prop}, (∀ b, S b → b ≠ Dl) → Stand S F7 H7 F7 (upd H7 Dl (.lst (acc ++ [v7]))) := fun hS => ⟨Le.refl _, fun b o z ho _ => by rw [upd_ne (hS b z)]; exact ho, fun b _ _ f => f⟩
          have w8 := OwL.snoc (w7.stand (st8 fun b z e => dj7 b z (.inr (.inl e)))) (w7b.stand (st8 fun b z => (d3 b z).1)) nt7
          refine ⟨wipeD r.2 vs, F7, acc ++ [v7], os ++ [r.1], fun a => S1 a ∨ S7 a, s8.wipeB ew, ((l3.trans l4).trans l6).trans l7, ?_, upd_same, fun b z => ?_, w8, by rw [List.length_append]; simp; omega, ?_, ?_⟩
          · refine hR6.trans fun a o hr ho hn => ?_
            have := h7 a o (.inl hr) ho hn
            by_cases z : a = Dl
            · exfalso; subst z
              exact (s1.rs a hr).2.1 hDl
            · rw [upd_ne z]; exact this
          · rcases z with z | z
            · exact d3 b z
            · exact ⟨fun e => dj7 b z (.inr (.inl e)), fun e => dj7 b z (.inl e)⟩
          · have e1 := s8.len
            rw [wipeD_len, e1, ← (wipe_length σ5 vs), ew, wipe_length]
            exact s1.len.symm
          · rw [Rz.post_bind] at q7
            refine Rz.post_mono q7 (fun x q8 => ?_) fun _ z => z
            intro v F' H' S a b c' d' e'
            refine q8 v F' H' S a b c' d' ?_
            rw [List.append_assoc] at e'
            exact e'
        · rw [if_neg hb] at q6 ⊢
          refine ⟨wipeD b.2 vs, F6, acc, os, S1, s6.wipeB ew, (l3.trans l4).trans l6, hR6, ld6, d3, w6, by omega, ?_, q6⟩
          have e1 := s6.len
          rw [wipeD_len, e1, ← (wipe_length σ5 vs), ew, wipe_length]
          exact s1.len.symm
      · have e : i = p.1.length := by omega
        subst e
        refine .inl ⟨w.stop F' Hh l3 s3.sub, ?_⟩
        rw [List.drop_length] at q3
        refine q3 _ F' Hh (fun a => a = Dl ∨ S1 a) (Sim.unwiped s1 s3 l3 hc.2 ln3.symm) (fun a z y => ?_) (l1.trans l3) (h1.trans h3) ?_
        · rcases z with z | z
          · subst z; exact (s1.rs a y).2.1 hDl
          · exact (d3 a z).2 y
        · rw [List.append_nil]
          exact .lst (S1 := S1) e3 (s3.rs Dl (.inr (.inl rfl))).1 (.inl rfl) (fun b z => ⟨.inr z, (d3 b z).1⟩) w3
  · rw [if_neg hc] at q; exact q.elim
end
end DL

/-! DL8: places; what changes a tree. -/
namespace DL
open PySem L2

theorem O.get_app : ∀ (π ρ : List Step) (o : O), O.get (π ++ ρ) o = (O.get π o).bind (O.get ρ)
  | [], ρ, o => rfl
  | .ix n :: π, ρ, .lst l => by
    show ((l[n]?).bind (O.get (π ++ ρ))) = ((l[n]?).bind (O.get π)).bind (O.get ρ)
    cases l[n]? with
    | none => rfl
    | some x => exact O.get_app π ρ x
  | .at f :: π, ρ, .ins C fs => by
    show ((fs.lookup f).bind (O.get (π ++ ρ))) = ((fs.lookup f).bind (O.get π)).bind (O.get ρ)
    cases fs.lookup f with
    | none => rfl
    | some x => exact O.get_app π ρ x
  | .ix _ :: _, _, .fz _ => rfl
  | .ix _ :: _, _, .dk _ => rfl
  | .ix _ :: _, _, .dt _ => rfl
  | .ix _ :: _, _, .ins _ _ => rfl
  | .at _ :: _, _, .fz _ => rfl
  | .at _ :: _, _, .dk _ => rfl
  | .at _ :: _, _, .dt _ => rfl
  | .at _ :: _, _, .lst _ => rfl
theorem At.split {H : Hp} : ∀ {π ρ : List Step} {v v1 : V}, At H (π ++ ρ) v v1 → ∃ v', At H π v v' ∧ At H ρ v' v1
  | [], _, v, _, h => ⟨v, rfl, h⟩
  | .ix n :: π, ρ, v, v1, h => by
    obtain ⟨a, xs, x, h1, h2, h3, h4⟩ := h
    obtain ⟨v', g1, g2⟩ := At.split (π := π) h4
    exact ⟨v', ⟨a, xs, x, h1, h2, h3, g1⟩, g2⟩
  | .at f :: π, ρ, v, v1, h => by
    obtain ⟨a, C, dx, fs, x, h1, h2, h3, h4⟩ := h
    obtain ⟨v', g1, g2⟩ := At.split (π := π) h4
    exact ⟨v', ⟨a, C, dx, fs, x, h1, h2, h3, g1⟩, g2⟩
theorem At.one {H : Hp} : ∀ {π : List Step} {v v1 v2 : V}, At H π v v1 → At H π v v2 → v1 = v2
  | [], v, _, _, h, k => by rw [show _ = v from h, show _ = v from k]
  | .ix n :: π, v, v1, v2, h, k => by
    obtain ⟨a, xs, x, h1, h2, h3, h4⟩ := h
    obtain ⟨b, ys, y, k1, k2, k3, k4⟩ := k
    rw [h1] at k1; cases k1
    rw [h2] at k2; cases k2
    rw [h3] at k3; cases k3
    exact At.one h4 k4
  | .at f :: π, v, v1, v2, h, k => by
    obtain ⟨a, C, dx, fs, x, h1, h2, h3, h4⟩ := h
    obtain ⟨b, C', dy, gs, y, k1, k2, k3, k4⟩ := k
    rw [h1] at k1; cases k1
    rw [h2] at k2; cases k2
    rw [h3] at k3; cases k3
    exact At.one h4 k4
section
variable {K : PySem.W.Frag} {B : XK} {te ta tb ti to : TE} {i : Nat} {p : DEnv → Option (List Step × O)}
def pF (C : Addr) (f : Str) (p : DEnv → Option (List Step × O)) : DEnv → Option (List Step × O) := fun δ => (p δ).bind fun x => match x.2 with
  | .ins C' fs => if C' = C then (fs.lookup f).map fun y => (x.1 ++ [.at f], y) else none
  | _ => none
theorem pl_fld {C : Addr} {f : Str} (h : PL K te i p) (hc : Cls K C) (hn : NoAttr K C f) : PL K (tFld K te f) i (pF C f p) := fun c R δ σ F H s π o e => by
  unfold pF at e
  cases q : p δ with
  | none => rw [q] at e; cases e
  | some x =>
    obtain ⟨π0, o0⟩ := x
    rw [q] at e
    cases o0 with
    | ins C' fs =>
      simp only [Option.bind_some] at e
      by_cases hC : C' = C
      · rw [if_pos hC] at e
        subst hC
        cases hl : fs.lookup f with
        | none => rw [hl] at e; cases e
        | some y =>
          rw [hl] at e
          simp only [Option.map_some, Option.some.injEq, Prod.mk.injEq] at e
          obtain ⟨rfl, rfl⟩ := e
          obtain ⟨⟨r, h1, h2⟩, k⟩ := h c R δ σ F H s π0 _ q
          refine ⟨⟨r, h1, by rw [O.get_app, h2]; show (fs.lookup f).bind _ = _; rw [hl]; rfl⟩, fun v v1 hv ha Q hq => ?_⟩
          obtain ⟨v', g1, g2⟩ := ha.split
          obtain ⟨a, C2, dx, gs, x, e1, e2, e3, e4⟩ := g2
          cases (show v1 = x from e4)
          obtain ⟨w, w1, S1, m1, m2, m3, _⟩ := s.see h1 h2
          rw [hv] at m1; cases m1
          cases At.one g1 m2
          cases m3 with
          | ins z1 z2 z3 z4 z5 z6 =>
            cases e1
            rw [e2] at z1; cases z1
            exact k v _ hv g1 _ ⟨a, C', dx, gs, v1, rfl, e2, hc, hn, e3, hq⟩
      · rw [if_neg hC] at e; cases e
    | _ => cases e
def pI (p : DEnv → Option (List Step × O)) (f : DEnv → Option D) : DEnv → Option (List Step × O) := fun δ => (p δ).bind fun x => match x.2, f δ with
  | .lst os, some (.int k) => (ixN os.length k).bind fun j => (os[j]?).map fun y => (x.1 ++ [.ix j], y)
  | _, _ => none
theorem pl_ix {f : DEnv → Option D} (h : PL K te i p) (hi : SX K ti f) : PL K (tOp (rIx K) te ti) i (pI p f) := fun c R δ σ F H s π o e => by
  unfold pI at e
  cases q : p δ with
  | none => rw [q] at e; cases e
  | some x =>
    obtain ⟨π0, o0⟩ := x
    rw [q] at e
    simp only [Option.bind_some] at e
    split at e
    · next os k hf =>
      cases hj : ixN os.length k with
      | none => rw [hj] at e; cases e
      | some j =>
        rw [hj] at e
        simp only [Option.bind_some] at e
        cases hy : os[j]? with
        | none => rw [hy] at e; cases e
        | some y =>
          rw [hy] at e
          simp only [Option.map_some, Option.some.injEq, Prod.mk.injEq] at e
          obtain ⟨rfl, rfl⟩ := e
          obtain ⟨⟨r, h1, h2⟩, g⟩ := h c R δ σ F H s π0 _ q
          refine ⟨⟨r, h1, by rw [O.get_app, h2]; show (os[j]?).bind _ = _; rw [hy]; rfl⟩, fun v v1 hv ha Q hq => ?_⟩
          obtain ⟨v', g1, g2⟩ := ha.split
          obtain ⟨a, xs, x, e1, e2, e3, e4⟩ := g2
          cases (show v1 = x from e4)
          obtain ⟨w, w1, S1, m1, m2, m3, _⟩ := s.see h1 h2
          rw [hv] at m1; cases m1
          cases At.one g1 m2
          cases m3 with
          | lst z1 z2 z3 z4 z5 =>
            cases e1
            rw [e2] at z1; cases z1
            obtain ⟨vi, fz, ki⟩ := hi c R δ σ F H s _ hf
            cases fz
            refine g v _ hv g1 _ (ki _ (.inl ⟨a, xs, k, v1, rfl, rfl, sqL_of e2, ?_, hq⟩))
            unfold atI
            rw [z5.length, hj]
            exact e3
    · cases e
/-- a list in a tree -/
theorem Sim.list {c : Cn} {R E : Addr → Prop} {δ : DEnv} {σ : L2.St} {F H : Hp} {π : List Step} {o : O} {os : List O} (s : Sim K c (fun a => R a ∨ E a) δ σ F H) (dE : ∀ a, E a → ¬ R a) (h : δ[i]? = some (some o)) (hg : O.get π o = some (.lst os)) :
    ∃ (v : V) (a : Addr) (xs : List V) (S1 : Addr → Prop), σ[i]? = some (some v) ∧ At H π v (.ref a) ∧ H a = some (.lst xs) ∧ OwL K F H S1 xs os ∧ ¬ R a ∧ ¬ E a ∧ (∀ b, S1 b → b ≠ a ∧ ¬ E b) ∧
      ∀ (xs' : List V) (os' : List O), OwL K F H (fun b => S1 b ∨ E b) xs' os' → Sim K c R (δ.set i (some (O.put (.lst os') π o))) σ F (upd H a (.lst xs')) := by
  obtain ⟨v, v1, S, h1, h2, h3, h4, h5⟩ := Sim.focusE s dE h hg
  cases h3 with
  | lst z1 z2 z3 z4 z5 =>
    rename_i S1 a xs
    refine ⟨v, a, xs, S1, h1, h2, z1, z5, (h4 a z3).1, (h4 a z3).2.2.2.2, fun b z => ⟨(z4 b z).2, (h4 b (z4 b z).1).2.2.2.2⟩, fun xs' os' w => ?_⟩
    have hup : ∀ b, H b ≠ none → upd H a (.lst xs') b ≠ none := fun b hb => by
      by_cases e : b = a
      · subst e; rw [upd_same]; simp
      · rw [upd_ne e]; exact hb
    have facts : ∀ b, S b ∨ E b → F b = none ∧ H b ≠ none := fun b z => by
      rcases z with z | z
      · exact ⟨(h4 b z).2.1, (h4 b z).2.2.1⟩
      · exact ⟨(s.rs b (.inr z)).1, (s.rs b (.inr z)).2.1⟩
    refine h5 F (upd H a (.lst xs')) (fun b => S b ∨ E b) (.lst os') ⟨fun b u n hb _ => by rw [upd_ne (fun e => n (.inl (by rw [e]; exact z3)))]; exact hb, hup, Le.refl F, fun b u hb => ?_, s.nt, fun b z => .inl z, fun b z => ⟨.inl z, (facts b z).1, hup b (facts b z).2⟩⟩ ?_
    · rw [upd_ne (fun e => by rw [e, z2] at hb; cases hb)]; exact s.sub b u hb
    · have ne : ∀ b, S1 b ∨ E b → b ≠ a := fun b z e => by
        rcases z with z | z
        · exact (z4 b z).2 e
        · exact (h4 a z3).2.2.2.2 (e ▸ z)
      exact .lst upd_same z2 (.inl z3) (fun b z => ⟨z.imp (fun z => (z4 b z).1) id, ne b z⟩) (w.stand ⟨Le.refl F, fun b u z hb _ => by rw [upd_ne (ne b z)]; exact hb, fun b _ _ f => f⟩)
def putAt (δ : DEnv) (i : Nat) (π : List Step) (o' : O) : DEnv := match δ[i]? with
  | some (some o) => δ.set i (some (O.put o' π o))
  | _ => δ
theorem putAt_eq {δ : DEnv} {π : List Step} {o o' : O} (h : δ[i]? = some (some o)) : putAt δ i π o' = δ.set i (some (O.put o' π o)) := by
  unfold putAt; rw [h]
theorem OwL.sub {F H : Hp} {S S' : Addr → Prop} {vs : List V} {os : List O} (w : OwL K F H S vs os) (h : ∀ b, S b → S' b) : OwL K F H S' vs os := w.grow h
/-- xs.append(e), xs a name -/
def dApp (i : Nat) (g : DEnv → Rz (O × DEnv)) : DTS := fun de δ => match δ[i]? with
  | some (some (.lst _)) => (g δ).post (fun p => match p.2[i]? with
    | some (some (.lst os)) => os.length < 100000 ∧ de.nx (p.2.set i (some (.lst (os ++ [p.1]))))
    | _ => False) de.er
  | _ => False
theorem small5 {n : Nat} (h : n < 100000) : n < sizeLine := Nat.lt_of_lt_of_le h (by decide)
theorem ds_app {pin : List Nat} {g : DEnv → Rz (O × DEnv)} (h : DF K B te g) : DS K B pin (tDrop (tBM K "list" rAppend (tVar i) (tCons te tNil))) (dApp i g) := fun c δ σ F H D de hp s q r => by
  unfold dApp at q
  split at q
  · next os0 e0 =>
    obtain ⟨v, a, xs, S1, h1, h2, h3, _⟩ := Sim.list (E := fun _ => False) (R := nR) (s.drop _ fun a z => z.elim id False.elim) (fun _ z => z.elim) e0 (π := []) rfl
    cases (show V.ref a = v from h2)
    refine ⟨_, h1, .inl ⟨rfl, xs, sqL_of h3⟩, ?_⟩
    refine h c nR δ σ F H s _ (Rz.post_mono q (fun p q v' F' H' S s' dj l _ w => ?_) r.er)
    split at q
    · next os e1 =>
      obtain ⟨hl, q⟩ := q
      obtain ⟨v2, a2, xs2, S2, k1, k2, k3, k4, k5, k6, k7, k8⟩ := Sim.list (E := S) (R := nR) s' dj e1 (π := []) rfl
      rw [h1] at k1; cases k1
      cases (show V.ref a2 = V.ref a from k2)
      refine ⟨a, xs2, v', rfl, rfl, k3, small5 (by rw [k4.length]; exact hl), ?_⟩
      exact r.nx _ σ F' _ (k8 _ _ (OwL.snoc w k4 fun b z y => (k7 b y).2 z)) l q
    · exact q.elim
  · exact q.elim
/-- place.append(e), e a value that touches nothing -/
def dAppP (i : Nat) (p : DEnv → Option (List Step × O)) (f : DEnv → Option D) : DTS := fun de δ => match p δ, f δ with
  | some (π, .lst os), some d => os.length < 100000 ∧ de.nx (putAt δ i π (.lst (os ++ [.fz d])))
  | _, _ => False
theorem ds_appP {pin : List Nat} {f : DEnv → Option D} (hpl : PL K ta i p) (h : SX K te f) : DS K B pin (tDrop (tBM K "list" rAppend ta (tCons te tNil))) (dAppP i p f) := fun c δ σ F H D de hp s q r => by
  unfold dAppP at q
  split at q
  · next π os d e1 e2 =>
    obtain ⟨hl, q⟩ := q
    obtain ⟨⟨o, g1, g2⟩, k⟩ := hpl c nR δ σ F H s π _ e1
    obtain ⟨v, a, xs, S1, h1, h2, h3, h4, h5, h6, h7, h8⟩ := Sim.list (E := fun _ => False) (R := nR) (s.drop _ fun a z => z.elim id False.elim) (fun _ z => z.elim) g1 g2
    obtain ⟨y, fz, ky⟩ := h c nR δ σ F H s d e2
    refine k v (.ref a) h1 h2 _ ⟨.inl ⟨rfl, xs, sqL_of h3⟩, ky _ ⟨a, xs, y, rfl, rfl, h3, small5 (by rw [h4.length]; exact hl), ?_⟩⟩
    rw [putAt_eq g1] at q
    exact r.nx _ σ F _ (h8 _ _ (OwL.snoc (S2 := fun _ => False) (.fz fz) h4 fun _ z => z.elim)) (Le.refl F) q
  · exact q.elim
/-- place.pop() of data -/
def gPop (i : Nat) (p : DEnv → Option (List Step × O)) : DEnv → Rz (D × DEnv) := fun δ => match p δ with
  | some (π, .lst os) => match os[os.length - 1]? with
    | some (.fz d) => .ok (d, putAt δ i π (.lst os.dropLast))
    | _ => .no
  | _ => .no
theorem OwL.init {F H : Hp} : ∀ {S : Addr → Prop} {vs : List V} {os : List O}, OwL K F H S vs os → OwL K F H S vs.dropLast os.dropLast
  | _, _, _, .nil => .nil
  | _, [_], [_], .cons _ _ _ _ .nil => .nil
  | _, _ :: _ :: _, _ :: _ :: _, .cons s1 s2 dj h (.cons t1 t2 t3 h2 l) => .cons s1 s2 dj h (OwL.init (.cons t1 t2 t3 h2 l))
theorem OwL.get {F H : Hp} : ∀ {S : Addr → Prop} {vs : List V} {os : List O} {j : Nat} {o : O}, OwL K F H S vs os → os[j]? = some o → ∃ v, vs[j]? = some v ∧ Ow K F H S v o
  | _, _, _, j, _, .nil, h => by simp at h
  | _, _, _, 0, _, .cons s1 s2 dj h l, e => by simp at e; subst e; exact ⟨_, rfl, h.grow s1⟩
  | _, _, _, j + 1, _, .cons s1 s2 dj h l, e => by
    obtain ⟨v, h1, h2⟩ := OwL.get l (j := j) (by simpa using e)
    exact ⟨v, by simpa using h1, h2.grow s2⟩
theorem di_pop (hpl : PL K ta i p) : DI K B (tBM0 K "list" rPop ta) (gPop i p) := fun c R δ σ F H s Q q => by
  unfold gPop at q
  split at q
  · next π os e1 =>
    split at q
    · next d e2 =>
      obtain ⟨⟨o, g1, g2⟩, k⟩ := hpl c R δ σ F H s π _ e1
      obtain ⟨v, a, xs, S1, h1, h2, h3, h4, h5, h6, h7, h8⟩ := Sim.list (E := fun _ => False) (s.drop _ fun a z => z.elim id False.elim) (fun _ z => z.elim) g1 g2
      obtain ⟨y, y1, y2⟩ := h4.get e2
      cases y2 with
      | fz z =>
        refine k v (.ref a) h1 h2 _ ⟨.inl ⟨rfl, xs, sqL_of h3⟩, a, xs, y, rfl, rfl, h3, by rw [h4.length]; exact y1, ?_⟩
        have q' := q y F (upd H a (.lst xs.dropLast))
        rw [putAt_eq g1] at q'
        exact q' (h8 _ _ (h4.init.grow fun b z => .inl z)) (Le.refl F) (fun b u hr hb _ => by rw [upd_ne (fun e => h5 (by rw [← e]; exact hr))]; exact hb) z
    · exact q.elim
  · exact q.elim
/-- xs[i] = e, xs a name -/
def dSetIx (i : Nat) (g gi : DEnv → Rz (D × DEnv)) : DTS := fun de δ => (g δ).post (fun p => match p.2[i]? with
  | some (some (.lst _)) => (gi p.2).post (fun q => match q.2[i]?, q.1 with
    | some (some (.lst os)), .int k => match ixN os.length k with
      | some j => de.nx (q.2.set i (some (.lst (os.set j (.fz p.1)))))
      | none => False
    | _, _ => False) de.er
  | _ => False) de.er
theorem OwL.setF {F H : Hp} : ∀ {S : Addr → Prop} {vs : List V} {os : List O} {v : V} {d : D} (j : Nat), OwL K F H S vs os → Fz K F v d → OwL K F H S (vs.set j v) (os.set j (.fz d))
  | _, _, _, _, _, _, .nil, _ => .nil
  | _, _, _, _, _, 0, .cons s1 s2 dj h l, z => .cons (S1 := fun _ => False) (fun _ z => z.elim) s2 (fun _ z => z.elim) (.fz z) l
  | _, _, _, _, _, j + 1, .cons s1 s2 dj h l, z => .cons s1 s2 dj h (OwL.setF j l z)
theorem ds_setIx {pin : List Nat} {g gi : DEnv → Rz (D × DEnv)} (h : DI K B te g) (hi : DI K B ti gi) : DS K B pin (tAsg te (gSub (tVar i) ti rSetL)) (dSetIx i g gi) := fun c δ σ F H D de hp s q r => by
  refine h c nR δ σ F H s _ (Rz.post_mono q (fun p q v F1 H1 s1 l1 _ z1 => ?_) r.er)
  split at q
  · next os0 e0 =>
    obtain ⟨v0, a, xs, S1, h1, h2, h3, _⟩ := Sim.list (E := fun _ => False) (R := nR) (s1.drop _ fun a z => z.elim id False.elim) (fun _ z => z.elim) e0 (π := []) rfl
    cases (show V.ref a = v0 from h2)
    refine ⟨_, h1, hi c nR p.2 σ F1 H1 s1 _ (Rz.post_mono q (fun p' q y F2 H2 s2 l2 _ z2 => ?_) r.er)⟩
    split at q
    · next os k e1 e2 =>
      rw [e2] at z2
      cases z2
      split at q
      · next j ej =>
        obtain ⟨v2, a2, xs2, S2, k1, k2, k3, k4, k5, k6, k7, k8⟩ := Sim.list (E := fun _ => False) (R := nR) (s2.drop _ fun a z => z.elim id False.elim) (fun _ z => z.elim) e1 (π := []) rfl
        rw [h1] at k1; cases k1
        cases (show V.ref a2 = V.ref a from k2)
        refine ⟨a, xs2, k, j, rfl, rfl, k3, by rw [k4.length]; exact ej, ?_⟩
        exact r.nx _ σ F2 _ (k8 _ _ ((k4.setF j (z1.mono l2)).grow fun b z => .inl z)) (l1.trans l2) q
      · exact q.elim
    · exact q.elim
  · exact q.elim
/-- name op= e -/
def dAug (i : Nat) (f : D → D → Option D) (g : DEnv → Rz (D × DEnv)) : DTS := fun de δ => match δ[i]? with
  | some (some (.fz d)) => (g δ).post (fun p => match f d p.1 with
    | some x => de.nx (p.2.set i (some (.fz x)))
    | none => False) de.er
  | _ => False
theorem ds_aug {pin : List Nat} {r2 : TIp} {f : D → D → Option D} {g : DEnv → Rz (D × DEnv)} (o : Op2 K r2 f) (h : DI K B te g) (hi : i ∉ pin) : DS K B pin (tAug i te r2) (dAug i f g) := fun c δ σ F H D de hp s q r => by
  unfold dAug at q
  split at q
  · next d e =>
    obtain ⟨v, v1, S1, h1, ha, w, _⟩ := s.see (π := []) e rfl
    cases (show v1 = v from ha)
    cases w with
    | fz z =>
      refine ⟨v, h1, h c nR δ σ F H s _ (Rz.post_mono q (fun p q y F1 H1 s1 l1 _ z1 => ?_) r.er)⟩
      split at q
      · next x ex =>
        exact (o F1 H1 v y _ _ x s1.sub (z.mono l1) z1 ex).go s1 fun u F2 H2 s2 l2 _ z2 => r.nx _ _ F2 H2 (s2.put z2 (hp ▸ hi)) (l1.trans l2) q
      · exact q.elim
  · exact q.elim
/-- place[i] op= e, all of it touching nothing -/
def dAugIx (i : Nat) (p : DEnv → Option (List Step × O)) (fi f : DEnv → Option D) (op : D → D → Option D) : DTS := fun de δ => match p δ, fi δ, f δ with
  | some (π, .lst os), some (.int k), some e => match ixN os.length k with
    | some j => match os[j]? with
      | some (.fz d) => match op d e with
        | some x => de.nx (putAt δ i π (.lst (os.set j (.fz x))))
        | none => False
      | _ => False
    | none => False
  | _, _, _ => False
def OpS2 (K : PySem.W.Frag) (r : R2) (f : D → D → Option D) : Prop := ∀ (F H : Hp) (v w : V) (d e x : D), Le F H → Fz K F v d → Fz K F w e → f d e = some x → ∃ y, Fz K F y x ∧ ∀ Q : VK, Q y H → r v w H Q
theorem OpS2.op {r : R2} {f : D → D → Option D} (h : OpS2 K r f) : Op2 K r f := fun F H v w d e x l z1 z2 q => .inl (h F H v w d e x l z1 z2 q)
theorem ds_augIx {pin : List Nat} {r2 : TIp} {fi f : DEnv → Option D} {op : D → D → Option D} (o : OpS2 K r2 op) (hpl : PL K to i p) (hi : SX K ti fi) (h : SX K te f) :
    DS K B pin (tAugS to ti te (fun x y H Q => rIxL K x y H Q) r2 rSetL) (dAugIx i p fi f op) := fun c δ σ F H D de hp s q r => by
  unfold dAugIx at q
  split at q
  · next π os k e e1 e2 e3 =>
    split at q
    · next j ej =>
      split at q
      · next d ed =>
        split at q
        · next x ex =>
          obtain ⟨⟨oo, g1, g2⟩, kp⟩ := hpl c nR δ σ F H s π _ e1
          obtain ⟨v, a, xs, S1, h1, h2, h3, h4, h5, h6, h7, h8⟩ := Sim.list (E := fun _ => False) (R := nR) (s.drop _ fun a z => z.elim id False.elim) (fun _ z => z.elim) g1 g2
          obtain ⟨yi, fzi, ki⟩ := hi c nR δ σ F H s _ e2
          cases fzi
          obtain ⟨ye, fze, ke⟩ := h c nR δ σ F H s _ e3
          obtain ⟨yd, d1, d2⟩ := h4.get ed
          cases d2 with
          | fz z =>
            obtain ⟨yx, fzx, kx⟩ := o F H yd ye d e x s.sub z fze ex
            refine kp v (.ref a) h1 h2 _ (ki _ ⟨a, xs, k, yd, rfl, rfl, sqL_of h3, ?_, ke _ (kx _ ⟨a, xs, k, j, rfl, rfl, h3, by rw [h4.length]; exact ej, ?_⟩)⟩)
            · unfold atI
              rw [h4.length, ej]
              exact d1
            · rw [putAt_eq g1] at q
              exact r.nx _ σ F _ (h8 _ _ ((h4.setF j fzx).grow fun b z => .inl z)) (Le.refl F) q
        · exact q.elim
      · exact q.elim
    · exact q.elim
  · exact q.elim
/-- o.f = e: o the instance in slot i -/
def dAttr (C : Addr) (f : Str) (i : Nat) (g : DEnv → Rz (O × DEnv)) : DTS := fun de δ => (g δ).post (fun p => match p.2[i]? with
  | some (some (.ins C' fs)) => C' = C ∧ fs.length < 1000 ∧ de.nx (p.2.set i (some (.ins C' (putA f p.1 fs))))
  | _ => False) de.er
theorem putA_len {α : Type} (f : Str) (v : α) : ∀ fs : List (Str × α), fs.length ≤ (putA f v fs).length
  | [] => by simp
  | (g, x) :: r => by
    unfold putA
    split
    · simp
    · simp [putA_len f v r]
/-- an attribute is stored: the values and the trees -/
theorem OwL.putA {F H : Hp} {S2 : Addr → Prop} {v : V} {o : O} {f : Str} (w : Ow K F H S2 v o) : ∀ {S : Addr → Prop} {fs : List (Str × V)} {os : List (Str × O)}, fs.map Prod.fst = os.map Prod.fst → OwL K F H S (fs.map Prod.snd) (os.map Prod.snd) → (∀ b, S2 b → ¬ S b) →
    OwL K F H (fun b => S b ∨ S2 b) ((DL.putA f v fs).map Prod.snd) ((DL.putA f o os).map Prod.snd)
  | S, [], [], _, _, _ => .cons (S2 := fun _ => False) (fun b z => .inr z) (fun _ z => z.elim) (fun _ _ z => z) w .nil
  | _, [], _ :: _, h, _, _ => by simp at h
  | _, _ :: _, [], h, _, _ => by simp at h
  | S, (g, x) :: r, (g', y) :: r', h, l, n => by
    simp only [List.map_cons, List.cons.injEq] at h
    obtain ⟨rfl, h⟩ := h
    cases l with
    | cons s1 s2 dj hx l =>
      rename_i A C
      unfold DL.putA
      by_cases e : g = f
      · rw [if_pos e, if_pos e]
        exact .cons (S1 := S2) (S2 := C) (fun b z => .inr z) (fun b z => .inl (s2 b z)) (fun b z y => n b z (s2 b y)) w l
      · rw [if_neg e, if_neg e]
        exact .cons (S1 := A) (S2 := fun b => C b ∨ S2 b) (fun b z => .inl (s1 b z)) (fun b z => z.imp (s2 b) id) (fun b z y => y.elim (dj b z) fun y => n b y (s1 b z)) hx (OwL.putA w h l fun b z y => n b z (s2 b y))
theorem ds_attr {pin : List Nat} {C : Addr} {f : Str} {g : DEnv → Rz (O × DEnv)} (h : DF K B te g) (hc : Cls K C) (hn : NoAttr K C f) : DS K B pin (sFld K (tVar i) te f) (dAttr C f i g) := fun c δ σ F H D de hp s q r => by
  refine h c nR δ σ F H s _ (Rz.post_mono q (fun p q v F1 H1 S s1 dj l1 _ w => ?_) r.er)
  split at q
  · next C' fs e0 =>
    obtain ⟨rfl, hl, q⟩ := q
    obtain ⟨v0, v1, S0, h1, h2, h3, h4, h5⟩ := Sim.focusE (R := nR) s1 dj e0 (π := []) rfl
    cases (show v1 = v0 from h2)
    cases h3 with
    | ins z1 z2 z3 z4 z5 z6 =>
      rename_i S1 a dx xs
      have hlx : xs.length < 1000 := by
        have : xs.length = fs.length := by simpa using congrArg List.length z5
        omega
      refine ⟨_, h1, a, C', dx, xs, rfl, z1, hc, hn, hlx, ?_⟩
      rw [putF_eq]
      have hup : ∀ (o : HO) b, H1 b ≠ none → upd H1 a o b ≠ none := fun o b hb => by
        by_cases e : b = a
        · subst e; rw [upd_same]; simp
        · rw [upd_ne e]; exact hb
      have facts : ∀ b, S0 b ∨ S b → F1 b = none ∧ H1 b ≠ none := fun b z => by
        rcases z with z | z
        · exact ⟨(h4 b z).2.1, (h4 b z).2.2.1⟩
        · exact ⟨(s1.rs b (.inr z)).1, (s1.rs b (.inr z)).2.1⟩
      have ne : ∀ b, S1 b ∨ S b → b ≠ a := fun b z e => by
        rcases z with z | z
        · exact (z4 b z).2 e
        · exact (h4 a z3).2.2.2.2 (e ▸ z)
      have st : Stand (fun b => S1 b ∨ S b) F1 H1 F1 (upd H1 a (.ins C' dx (putA f v xs))) := ⟨Le.refl _, fun b u z hb _ => by rw [upd_ne (ne b z)]; exact hb, fun b _ _ f => f⟩
      refine r.nx _ σ F1 _ (h5 F1 _ (fun b => S0 b ∨ S b) (.ins C' (putA f p.1 fs)) ⟨fun b u n hb _ => by rw [upd_ne (fun e => n (.inl (by rw [e]; exact z3)))]; exact hb, hup _, Le.refl _, fun b u hb => ?_, s1.nt, fun b z => .inl z, fun b z => ⟨.inl z, (facts b z).1, hup _ b (facts b z).2⟩⟩ ?_) l1 q
      · rw [upd_ne (fun e => by rw [e, z2] at hb; cases hb)]; exact s1.sub b u hb
      · refine .ins upd_same z2 (.inl z3) (fun b z => ⟨z.imp (fun z => (z4 b z).1) id, ne b z⟩) (putA_fst f v p.1 z5) ((OwL.putA (f := f) w z5 z6 fun b z y => (h4 b (z4 b y).1).2.2.2.2 z).stand st)
  · exact q.elim
/-! ### values that touch nothing -/
theorem sx_op {r : R2} {f : D → D → Option D} {fa fb : DEnv → Option D} (o : OpS2 K r f) (ha : SX K ta fa) (hb : SX K tb fb) : SX K (tOp r ta tb) (fun δ => (fa δ).bind fun a => (fb δ).bind fun b => f a b) := fun c R δ σ F H s d e => by
  dsimp only at e
  cases h1 : fa δ with
  | none => rw [h1] at e; cases e
  | some x =>
    rw [h1] at e
    simp only [Option.bind_some] at e
    cases h2 : fb δ with
    | none => rw [h2] at e; cases e
    | some y =>
      rw [h2] at e
      simp only [Option.bind_some] at e
      obtain ⟨v, z1, k1⟩ := ha c R δ σ F H s x h1
      obtain ⟨w, z2, k2⟩ := hb c R δ σ F H s y h2
      obtain ⟨u, z3, k3⟩ := o F H v w x y d s.sub z1 z2 e
      exact ⟨u, z3, fun Q hq => k1 _ (k2 _ (k3 Q hq))⟩
/-- how many stand at a place -/
def fLenP (p : DEnv → Option (List Step × O)) : DEnv → Option D := fun δ => (p δ).bind fun x => match x.2 with
  | .lst os => some (.int (os.length : Int))
  | .fz (.lst ds) => some (.int (ds.length : Int))
  | .fz (.tup ds) => some (.int (ds.length : Int))
  | _ => none
def rLen (K : PySem.W.Frag) : List V → Hp → VK → Prop := fun xs H Q => ∃ x n, xs = [x] ∧ LenV K x H n ∧ Q (.int n) H
theorem sx_lenP (h : PL K te i p) : SX K (tCB (rLen K) (tCons te tNil)) (fLenP p) := fun c R δ σ F H s d e => by
  unfold fLenP at e
  cases q : p δ with
  | none => rw [q] at e; cases e
  | some x =>
    obtain ⟨π, o⟩ := x
    rw [q] at e
    obtain ⟨⟨r, h1, h2⟩, k⟩ := h c R δ σ F H s π _ q
    obtain ⟨v, v1, S1, m1, m2, m3, _⟩ := s.see h1 h2
    simp only [Option.bind_some] at e
    split at e
    · next os =>
      cases e
      cases m3 with
      | lst z1 z2 z3 z4 z5 => exact ⟨_, .int _, fun Q hq => k v _ m1 m2 _ ⟨_, os.length, rfl, .inl ⟨_, sqL_of z1, z5.length.symm⟩, hq⟩⟩
    · next ds =>
      cases e
      cases m3 with
      | fz z =>
        cases z with
        | lst z1 z2 => exact ⟨_, .int _, fun Q hq => k v _ m1 m2 _ ⟨_, ds.length, rfl, .inl ⟨_, sqL_of (s.sub _ _ z1), z2.length.symm⟩, hq⟩⟩
    · next ds =>
      cases e
      cases m3 with
      | fz z =>
        cases z with
        | tup z1 z2 => exact ⟨_, .int _, fun Q hq => k v _ m1 m2 _ ⟨_, ds.length, rfl, .inr ⟨_, sqT_mono s.sub z1, z2.length.symm⟩, hq⟩⟩
    · cases e
theorem isEmpty_len {α β : Type} : ∀ {l : List α} {m : List β}, l.length = m.length → l.isEmpty = m.isEmpty
  | [], [], _ => rfl
  | _ :: _, _ :: _, _ => rfl
  | [], _ :: _, h => by simp at h
  | _ :: _, [], h => by simp at h
/-- is there anything at a place -/
def fTruP (p : DEnv → Option (List Step × O)) : DEnv → Rz (Bool × DEnv) := fun δ => match p δ with
  | some (_, .lst os) => .ok (!os.isEmpty, δ)
  | _ => .no
theorem dt_truP (h : PL K te i p) : DT K B (fun σ H Q => te σ H fun x H' => ∃ k, TruV K x H' k ∧ Q k H') (fTruP p) := fun c R δ σ F H s Q q => by
  unfold fTruP at q
  split at q
  · next π os e =>
    obtain ⟨⟨r, h1, h2⟩, k⟩ := h c R δ σ F H s π _ e
    obtain ⟨v, v1, S1, m1, m2, m3, _⟩ := s.see h1 h2
    cases m3 with
    | lst z1 z2 z3 z4 z5 =>
      exact k v _ m1 m2 _ ⟨!os.isEmpty, .inl ⟨_, sqL_of z1, by rw [isEmpty_len z5.length]⟩, q F H s (Le.refl F) Held.refl⟩
  · exact q.elim
end
end DL

/-! DL9: built-in operations over data. -/
namespace DL
open PySem L2
section
variable {K : PySem.W.Frag} {B : XK} {te ta tb : TE}

/-! ### intsD -/
def fI2 (g : Int → Int → D) : D → D → Option D
  | .int a, .int b => some (g a b)
  | _, _ => none
def fI2c (C : Int → Int → Prop) [∀ a b, Decidable (C a b)] (g : Int → Int → D) : D → D → Option D
  | .int a, .int b => if C a b then some (g a b) else none
  | _, _ => none
theorem os_I0 {g : Int → Int → V} {h : Int → Int → D} (e : ∀ F i j, Fz K F (g i j) (h i j)) : OpS2 K (rI0 g) (fI2 h) := fun F H v w d e' x l z1 z2 q => by
  unfold fI2 at q
  split at q
  · next a b =>
    cases q; cases z1; cases z2
    exact ⟨_, e F a b, fun Q hq => ⟨a, b, rfl, rfl, hq⟩⟩
  · cases q
theorem os_I {C C' : Int → Int → Prop} [∀ a b, Decidable (C' a b)] {g : Int → Int → V} {h : Int → Int → D} (hc : ∀ i j, C' i j → C i j) (e : ∀ F i j, Fz K F (g i j) (h i j)) : OpS2 K (rI C g) (fI2c C' h) := fun F H v w d e' x l z1 z2 q => by
  unfold fI2c at q
  split at q
  · next a b =>
    by_cases hC : C' a b
    · rw [if_pos hC] at q
      cases q; cases z1; cases z2
      exact ⟨_, e F a b, fun Q hq => ⟨a, b, rfl, rfl, hc a b hC, hq⟩⟩
    · rw [if_neg hC] at q; cases q
  · cases q
abbrev fSub := fI2 fun a b => .int (a - b)
abbrev fAddI := fI2 fun a b => .int (a + b)
abbrev fMod := fI2c (fun _ b => 0 < b) fun a b => .int (a % b)
abbrev fDiv := fI2c (fun _ b => 0 < b ∧ b < 1073741824) fun a b => .int (a / b)
abbrev fPow := fI2c (fun a b => 0 ≤ b ∧ b ≤ 1000 ∧ -(2 ^ 60) < a ∧ a < 2 ^ 60) fun a b => .int (a ^ b.toNat)
abbrev fShl := fI2c (fun a b => 0 ≤ b ∧ b ≤ 1000 ∧ -(2 ^ 60) < a ∧ a < 2 ^ 60) fun a b => .int (a * 2 ^ b.toNat)
abbrev fShr := fI2c (fun _ b => 0 ≤ b) fun a b => .int (a / 2 ^ b.toNat)
abbrev fAnd := fI2 fun a b => .int (Builtin.bitAnd a b)
abbrev fOr := fI2 fun a b => .int (Builtin.bitOr a b)
abbrev fLt := fI2 fun a b => .bl (decide (a < b))
abbrev fLe := fI2 fun a b => .bl (decide (a ≤ b))
abbrev fGt := fI2 fun a b => .bl (decide (b < a))
abbrev fGe := fI2 fun a b => .bl (decide (b ≤ a))
abbrev fMulI := fI2c (fun a b => (-(2 ^ 60) < a ∧ a < 2 ^ 60) ∨ (-(2 ^ 60) < b ∧ b < 2 ^ 60)) fun a b => .int (a * b)
theorem os_add : OpS2 K (rI0 fun i j => .int (i + j)) fAddI := os_I0 fun F i j => .int _
theorem os_sub : OpS2 K (rI0 fun i j => .int (i - j)) fSub := os_I0 fun F i j => .int _
theorem os_and : OpS2 K (rI0 fun i j => .int (Builtin.bitAnd i j)) fAnd := os_I0 fun F i j => .int _
theorem os_or : OpS2 K (rI0 fun i j => .int (Builtin.bitOr i j)) fOr := os_I0 fun F i j => .int _
theorem os_mod : OpS2 K (rI (fun _ j => 0 < j) fun i j => .int (i % j)) fMod := os_I (fun _ _ h => h) fun F i j => .int _
theorem os_div : OpS2 K (rI CDiv fun i j => .int (i / j)) fDiv := os_I (fun _ _ h => h) fun F i j => .int _
theorem p60 {a : Int} (h : -(2 ^ 60) < a ∧ a < 2 ^ 60) : a.natAbs < 2 ^ 64 := by omega
theorem os_pow : OpS2 K (rI CPow fun i j => .int (i ^ j.toNat)) fPow := os_I (fun _ _ h => ⟨h.1, by omega, p60 h.2.2⟩) fun F i j => .int _
theorem os_shl : OpS2 K (rI CPow fun i j => .int (i * 2 ^ j.toNat)) fShl := os_I (fun _ _ h => ⟨h.1, by omega, p60 h.2.2⟩) fun F i j => .int _
theorem os_shr : OpS2 K (rI (fun _ j => 0 ≤ j) fun i j => .int (i / 2 ^ j.toNat)) fShr := os_I (fun _ _ h => h) fun F i j => .int _
theorem os_mul : OpS2 K (rI CMul fun i j => .int (i * j)) fMulI := os_I (fun _ _ h => h.imp (fun h => ⟨by omega, by omega⟩) fun h => ⟨by omega, by omega⟩) fun F i j => .int _
theorem os_lt : OpS2 K (rI0 fun i j => .bl (decide (i < j))) fLt := os_I0 fun F i j => .bl _
theorem os_le : OpS2 K (rI0 fun i j => .bl (decide (i ≤ j))) fLe := os_I0 fun F i j => .bl _
theorem os_gt : OpS2 K (rI0 fun i j => .bl (decide (j < i))) fGt := os_I0 fun F i j => .bl _
theorem os_ge : OpS2 K (rI0 fun i j => .bl (decide (j ≤ i))) fGe := os_I0 fun F i j => .bl _
/-! ### == of scalars, is None -/
def fEqB : D → D → Option Bool
  | .int a, .int b => some (decide (a = b))
  | .bl a, .bl b => some (decide (a = b))
  | .str a, .str b => some (decide (a = b))
  | .non, .non => some true
  | .non, .int _ => some false
  | .int _, .non => some false
  | .non, .str _ => some false
  | .str _, .non => some false
  | .int _, .str _ => some false
  | .str _, .int _ => some false
  | _, _ => none
def fEq (d e : D) : Option D := (fEqB d e).map .bl
def fNe (d e : D) : Option D := (fEqB d e).map fun b => .bl (!b)
theorem eqB_V {F : Hp} {v w : V} {d e : D} {b : Bool} (z1 : Fz K F v d) (z2 : Fz K F w e) (h : fEqB d e = some b) : scal v w = true ∧ decide (v = w) = b := by
  unfold fEqB at h
  split at h <;> first
    | (cases h; cases z1; cases z2; exact ⟨rfl, by simp⟩)
    | cases h
theorem os_eq : OpS2 K rEq fEq := fun F H v w d e x l z1 z2 q => by
  unfold fEq at q
  cases h : fEqB d e with
  | none => rw [h] at q; cases q
  | some b =>
    rw [h] at q; cases q
    obtain ⟨h1, h2⟩ := eqB_V z1 z2 h
    exact ⟨.bl b, .bl b, fun Q hq => ⟨h1, by rw [h2]; exact hq⟩⟩
theorem os_ne : OpS2 K rNe fNe := fun F H v w d e x l z1 z2 q => by
  unfold fNe at q
  cases h : fEqB d e with
  | none => rw [h] at q; cases q
  | some b =>
    rw [h] at q; cases q
    obtain ⟨h1, h2⟩ := eqB_V z1 z2 h
    exact ⟨.bl (!b), .bl _, fun Q hq => ⟨h1, by rw [h2]; exact hq⟩⟩
def isNonD : D → Bool
  | .non => true
  | _ => false
def fIsN (d : D) : D → Option D
  | .non => some (.bl (isNonD d))
  | _ => none
def fNotN (d : D) : D → Option D
  | .non => some (.bl (!isNonD d))
  | _ => none
theorem isNon_V {F : Hp} {v : V} {d : D} (z : Fz K F v d) : decide (v = .non) = isNonD d := by
  cases z <;> simp [isNonD]
def rIsN' : R2 := fun x y H Q => y = .non ∧ Q (.bl (decide (x = .non))) H
def rNotN' : R2 := fun x y H Q => y = .non ∧ Q (.bl (!decide (x = .non))) H
theorem op_isN' {X : Cx} : OpR X (compareOp .Is) rIsN' := op_isN
theorem op_notN' {X : Cx} : OpR X (compareOp .IsNot) rNotN' := op_notN
theorem os_isN : OpS2 K rIsN' fIsN := fun F H v w d e x l z1 z2 q => by
  unfold fIsN at q
  split at q
  · cases q; cases z2
    exact ⟨.bl _, .bl _, fun Q hq => ⟨rfl, by rw [isNon_V z1]; exact hq⟩⟩
  · cases q
theorem os_notN : OpS2 K rNotN' fNotN := fun F H v w d e x l z1 z2 q => by
  unfold fNotN at q
  split at q
  · cases q; cases z2
    exact ⟨.bl _, .bl _, fun Q hq => ⟨rfl, by rw [isNon_V z1]; exact hq⟩⟩
  · cases q
/-! ### x in a list or tuple of scalars; one sign in a text -/
def D.flat : D → Bool
  | .non => true
  | .bl _ => true
  | .int _ => true
  | .str _ => true
  | _ => false
def D.eqf : D → D → Bool
  | .non, .non => true
  | .bl a, .bl b => a == b
  | .bl a, .int b => (if a then 1 else 0) == b
  | .int a, .bl b => a == (if b then 1 else 0)
  | .int a, .int b => a == b
  | .str a, .str b => a == b
  | _, _ => false
def inD (x : D) (ds : List D) : Bool := ds.any fun y => D.eqf y x
theorem flat_V {F : Hp} {v : V} {d : D} (z : Fz K F v d) : flatV v = d.flat := by cases z <;> rfl
theorem eqf_V {F : Hp} {v w : V} {d e : D} (z : Fz K F v d) (y : Fz K F w e) : eqV v w = D.eqf d e := by cases z <;> cases y <;> rfl
theorem flat_all {F : Hp} : ∀ {vs : List V} {ds : List D}, FzL K F vs ds → vs.all flatV = ds.all D.flat
  | _, _, .nil => rfl
  | _, _, .cons h l => by rw [List.all_cons, List.all_cons, flat_V h, flat_all l]
theorem in_V {F : Hp} {v : V} {d : D} (z : Fz K F v d) : ∀ {vs : List V} {ds : List D}, FzL K F vs ds → inV v vs = inD d ds
  | _, _, .nil => rfl
  | _, _, .cons h l => by
    show List.any _ _ = List.any _ _
    rw [List.any_cons, List.any_cons, eqf_V h z]
    exact congrArg _ (in_V z l)
def fIn (neg : Bool) (x : D) : D → Option D
  | .lst ds => if x.flat = true ∧ ds.all D.flat = true then some (.bl (if neg then !inD x ds else inD x ds)) else none
  | .tup ds => if x.flat = true ∧ ds.all D.flat = true then some (.bl (if neg then !inD x ds else inD x ds)) else none
  | _ => none
theorem os_in {neg : Bool} : OpS2 K (rIn K neg) (fIn neg) := fun F H v w d e x l z1 z2 q => by
  unfold fIn at q
  split at q
  · next ds =>
    by_cases hc : d.flat = true ∧ ds.all D.flat = true
    · rw [if_pos hc] at q
      cases q
      cases z2 with
      | lst h m => exact ⟨_, .bl _, fun Q hq => ⟨_, _, rfl, .inl (sqL_of (l _ _ h)), by rw [flat_V z1]; exact hc.1, by rw [flat_all m]; exact hc.2, by rw [in_V z1 m]; exact hq⟩⟩
    · rw [if_neg hc] at q; cases q
  · next ds =>
    by_cases hc : d.flat = true ∧ ds.all D.flat = true
    · rw [if_pos hc] at q
      cases q
      cases z2 with
      | tup h m => exact ⟨_, .bl _, fun Q hq => ⟨_, _, rfl, .inr (sqT_mono l h), by rw [flat_V z1]; exact hc.1, by rw [flat_all m]; exact hc.2, by rw [in_V z1 m]; exact hq⟩⟩
    · rw [if_neg hc] at q; cases q
  · cases q
def rInSign : R2 := fun x y H Q => ∃ (c : Nat) (z : Str), x = .str ⟨#[c]⟩ ∧ y = .str z ∧ Q (.bl (decide (c ∈ z.cps.toList))) H
theorem op_inSign {X : Cx} : OpR X (compareOp .In) rInSign := op_in_sign
def fInSign : D → D → Option D
  | .str s, .str z => match s.cps.toList with
    | [c] => some (.bl (decide (c ∈ z.cps.toList)))
    | _ => none
  | _, _ => none
theorem os_inSign : OpS2 K rInSign fInSign := fun F H v w d e x l z1 z2 q => by
  unfold fInSign at q
  split at q
  · next s z =>
    split at q
    · next c hc =>
      cases q; cases z1; cases z2
      refine ⟨_, .bl _, fun Q hq => ⟨c, z, ?_, rfl, hq⟩⟩
      have : s = ⟨#[c]⟩ := by
        obtain ⟨cps⟩ := s
        have e : cps = #[c] := by rw [← hc]
        rw [e]
      rw [this]
    · cases q
  · cases q
/-! ### a new list, as a tree -/
def GivesL (K : PySem.W.Frag) (F H : Hp) (r : VK → Prop) (ds : List D) : Prop := ∃ xs, FzL K F xs ds ∧ ∀ Q : VK, (∀ p, H p = none → Q (.ref p) (upd H p (.lst xs))) → r Q
theorem GivesL.go {c : Cn} {R : Addr → Prop} {δ : DEnv} {σ : L2.St} {F H : Hp} {r : VK → Prop} {ds : List D} (g : GivesL K F H r ds) (s : Sim K c R δ σ F H) {Q : VK}
    (q : ∀ v F' H' S, Sim K c (fun a => R a ∨ S a) δ σ F' H' → (∀ a, S a → ¬ R a) → Le F F' → Held R H H' → Ow K F' H' S v (.lst (ds.map .fz)) → Q v H') : r Q := by
  obtain ⟨xs, l, k⟩ := g
  refine k Q fun p hp => ?_
  obtain ⟨s2, n, w⟩ := s.newList hp l
  exact q (.ref p) F _ _ s2 n (Le.refl F) (.of (.new hp)) w
/-- data that stands, or a new list of data -/
inductive Dx where
  | dat (x : D) | new (xs : List D)
def Dx.o : Dx → O
  | .dat x => .fz x
  | .new xs => .lst (xs.map .fz)
def GivesX (K : PySem.W.Frag) (F H : Hp) (r : VK → Prop) : Dx → Prop
  | .dat x => Gives K F H r x
  | .new xs => GivesL K F H r xs
theorem GivesX.go {c : Cn} {R : Addr → Prop} {δ : DEnv} {σ : L2.St} {F H : Hp} {r : VK → Prop} {x : Dx} (g : GivesX K F H r x) (s : Sim K c R δ σ F H) {Q : VK}
    (q : ∀ v F' H' S, Sim K c (fun a => R a ∨ S a) δ σ F' H' → (∀ a, S a → ¬ R a) → Le F F' → Held R H H' → Ow K F' H' S v x.o → Q v H') : r Q := by
  cases x with
  | dat d => exact Gives.go g s fun v F' H' s' l h z => q v F' H' (fun _ => False) (s'.drop _ fun a z => z.elim id False.elim) (fun _ z => z.elim) l h (.fz z)
  | new ds => exact GivesL.go g s q
def OpX2 (K : PySem.W.Frag) (r : R2) (f : D → D → Option Dx) : Prop := ∀ (F H : Hp) (v w : V) (d e : D) (x : Dx), Le F H → Fz K F v d → Fz K F w e → f d e = some x → GivesX K F H (r v w H) x
def OpXN (K : PySem.W.Frag) (r : List V → Hp → VK → Prop) (f : List D → Option Dx) : Prop := ∀ (F H : Hp) (vs : List V) (ds : List D) (x : Dx), Le F H → FzL K F vs ds → f ds = some x → GivesX K F H (r vs H) x
def gX2 (f : D → D → Option Dx) (ga gb : DEnv → Rz (D × DEnv)) : DEnv → Rz (O × DEnv) := fun δ => (ga δ).bind fun p => (gb p.2).bind fun q => (Rz.of (f p.1 q.1)).bind fun x => .ok (x.o, q.2)
def gXN (f : List D → Option Dx) (ga : DEnv → Rz (List D × DEnv)) : DEnv → Rz (O × DEnv) := fun δ => (ga δ).bind fun p => (Rz.of (f p.1)).bind fun x => .ok (x.o, p.2)
theorem df_op {r : R2} {f : D → D → Option Dx} {ga gb : DEnv → Rz (D × DEnv)} (o : OpX2 K r f) (ha : DI K B ta ga) (hb : DI K B tb gb) : DF K B (tOp r ta tb) (gX2 f ga gb) := fun c R δ σ F H s Q q => by
  unfold gX2 at q
  rw [Rz.post_bind] at q
  refine ha c R δ σ F H s _ (Rz.post_mono q (fun p q v F1 H1 s1 l1 h1 z1 => ?_) fun _ z => z)
  rw [Rz.post_bind] at q
  refine hb c R p.2 σ F1 H1 s1 _ (Rz.post_mono q (fun p' q w F2 H2 s2 l2 h2 z2 => ?_) fun _ z => z)
  rw [Rz.post_bind] at q
  obtain ⟨x, e, q⟩ := Rz.post_of q
  exact (o F2 H2 v w _ _ x s2.sub (z1.mono l2) z2 e).go s2 fun v F3 H3 S s3 dj l3 h3 w3 => q v F3 H3 S s3 dj ((l1.trans l2).trans l3) ((h1.trans h2).trans h3) w3
theorem df_cb {r : List V → Hp → VK → Prop} {f : List D → Option Dx} {tg : TA} {ga : DEnv → Rz (List D × DEnv)} (o : OpXN K r f) (ha : DA K B tg ga) : DF K B (tCB r tg) (gXN f ga) := fun c R δ σ F H s Q q => by
  unfold gXN at q
  rw [Rz.post_bind] at q
  refine ha c R δ σ F H s _ (Rz.post_mono q (fun p q v F1 H1 s1 l1 h1 z1 => ?_) fun _ z => z)
  rw [Rz.post_bind] at q
  obtain ⟨x, e, q⟩ := Rz.post_of q
  exact (o F1 H1 v _ x s1.sub z1 e).go s1 fun v F2 H2 S s2 dj l2 h2 w2 => q v F2 H2 S s2 dj (l1.trans l2) (h1.trans h2) w2
/-- + of intsD, of lists, of texts, of tuples -/
def fAdd : D → D → Option Dx
  | .int a, .int b => some (.dat (.int (a + b)))
  | .lst a, .lst b => if a.length + b.length ≤ 100000 then some (.new (a ++ b)) else none
  | .str a, .str b => if a.length + b.length ≤ 100000 then some (.dat (.str (a ++ b))) else none
  | .tup a, .tup b => if a.length + b.length ≤ 100000 ∧ a ≠ [] then some (.dat (.tup (a ++ b))) else none
  | _, _ => none
def rAddU (K : PySem.W.Frag) : R2 := fun x y H Q => (rI0 (fun i j => .int (i + j)) x y H Q ∨ rCat x y H Q) ∨ ((∃ i j, x = .str i ∧ y = .str j ∧ i.length + j.length ≤ sizeLine ∧ Q (.str (i ++ j)) H) ∨ rCatT K x y H Q)
theorem op_addU {X : Cx} : OpR X (binaryOp .Add) (rAddU X.K) := (op_add.or op_cat).or (op_add_str.or op_catT)
theorem ox_add : OpX2 K (rAddU K) fAdd := fun F H v w d e x l z1 z2 q => by
  unfold fAdd at q
  split at q
  · next a b =>
    cases q; cases z1; cases z2
    exact .inl ⟨_, .int _, fun Q hq => .inl (.inl ⟨a, b, rfl, rfl, hq⟩)⟩
  · next a b =>
    split at q
    · next hl =>
      cases q
      cases z1 with
      | lst h1 m1 =>
        cases z2 with
        | lst h2 m2 => exact ⟨_, m1.append m2, fun Q hq => .inl (.inr ⟨_, _, _, _, rfl, rfl, l _ _ h1, l _ _ h2, by rw [m1.length, m2.length]; exact big hl, hq⟩)⟩
    · cases q
  · next a b =>
    split at q
    · next hl =>
      cases q; cases z1; cases z2
      exact .inl ⟨_, .str _, fun Q hq => .inr (.inl ⟨a, b, rfl, rfl, big hl, hq⟩)⟩
    · cases q
  · next a b =>
    split at q
    · next hl =>
      cases q
      cases z1 with
      | tup h1 m1 =>
        cases z2 with
        | tup h2 m2 =>
          rename_i p1 xs1 p2 xs2
          have ne : xs1 ≠ [] := fun z => by
            subst z
            have := m1.length
            exact hl.2 (List.length_eq_zero_iff.mp this.symm)
          by_cases hb : xs2 = []
          · subst hb
            have e0 : b = [] := List.length_eq_zero_iff.mp m2.length.symm
            subst e0
            refine .inl ⟨.ref p1, by rw [List.append_nil]; exact .tup h1 m1, fun Q hq => .inr (.inr ⟨_, _, _, _, rfl, rfl, sqT_mono l h1, sqT_mono l h2, ne, by rw [m1.length]; exact big (by simpa using hl.1), fun _ => hq, fun z => absurd rfl z⟩)⟩
          · exact .inr ⟨.tup (xs1 ++ xs2), fun z => z, fun p hp => .tup (sqT_of upd_same) ((m1.append m2).mono (Le.new hp)), fun Q hq => .inr (.inr ⟨_, _, _, _, rfl, rfl, sqT_mono l h1, sqT_mono l h2, ne, by rw [m1.length, m2.length]; exact big hl.1, fun z => absurd z hb, fun _ => hq⟩)⟩
    · cases q
  · cases q
/-- list(xs) -/
def fListOf : List D → Option Dx
  | [.lst ds] => some (.new ds)
  | [.tup ds] => some (.new ds)
  | _ => none
def rListOf (K : PySem.W.Frag) : List V → Hp → VK → Prop := fun xs H Q => ∃ p ys, xs = [.ref p] ∧ (SqL K H p ys ∨ SqT K H p ys) ∧ ∀ l, H l = none → Q (.ref l) (upd H l (.lst ys))
theorem cr_listOf {X : Cx} : CallR X (.type "list") (rListOf X.K) := call_list_of
theorem ox_listOf : OpXN K (rListOf K) fListOf := fun F H vs ds x l z q => by
  unfold fListOf at q
  split at q
  · next d =>
    cases q
    cases z with
    | cons h1 h2 =>
      cases h2
      cases h1 with
      | lst a m => exact ⟨_, m, fun Q hq => ⟨_, _, rfl, .inl (sqL_of (l _ _ a)), hq⟩⟩
  · next d =>
    cases q
    cases z with
    | cons h1 h2 =>
      cases h2
      cases h1 with
      | tup a m => exact ⟨_, m, fun Q hq => ⟨_, _, rfl, .inr (sqT_mono l a), hq⟩⟩
  · cases q
/-- tuple(xs) -/
def fTupOf : List D → Option D
  | [.lst ds] => some (.tup ds)
  | [.tup ds] => some (.tup ds)
  | _ => none
def rTupOf (K : PySem.W.Frag) : List V → Hp → VK → Prop := fun xs H Q => ∃ p ys, xs = [.ref p] ∧ ((SqL K H p ys ∧ ∀ l, H l = none → Q (.ref l) (upd H l (.tup ys))) ∨ (SqT K H p ys ∧ Q (.ref p) H))
theorem cr_tupOf {X : Cx} : CallR X (.type "tuple") (rTupOf X.K) := call_tuple_of
theorem on_tupOf : OpN K (rTupOf K) fTupOf := fun F H vs ds x l z q => by
  unfold fTupOf at q
  split at q
  · next d =>
    cases q
    cases z with
    | cons h1 h2 =>
      cases h2
      cases h1 with
      | lst a m => exact .inr ⟨.tup _, fun z => z, fun p hp => .tup (sqT_of upd_same) (m.mono (Le.new hp)), fun Q hq => ⟨_, _, rfl, .inl ⟨sqL_of (l _ _ a), hq⟩⟩⟩
  · next d =>
    cases q
    cases z with
    | cons h1 h2 =>
      cases h2
      cases h1 with
      | tup a m => exact .inl ⟨_, .tup a m, fun Q hq => ⟨_, _, rfl, .inr ⟨sqT_mono l a, hq⟩⟩⟩
  · cases q
/-- len(x) -/
def fLen : List D → Option D
  | [.lst ds] => some (.int (ds.length : Int))
  | [.tup ds] => some (.int (ds.length : Int))
  | [.str z] => if z.length ≤ 100000 then some (.int (z.length : Int)) else none
  | _ => none
theorem cr_len {X : Cx} : CallR X (.builtin "len") (rLen X.K) := call_len
theorem on_len : OpN K (rLen K) fLen := fun F H vs ds x l z q => by
  unfold fLen at q
  split at q
  · next d =>
    cases q
    cases z with
    | cons h1 h2 =>
      cases h2
      cases h1 with
      | lst a m => exact .inl ⟨_, .int _, fun Q hq => ⟨_, _, rfl, .inl ⟨_, sqL_of (l _ _ a), m.length.symm⟩, hq⟩⟩
  · next d =>
    cases q
    cases z with
    | cons h1 h2 =>
      cases h2
      cases h1 with
      | tup a m => exact .inl ⟨_, .int _, fun Q hq => ⟨_, _, rfl, .inr ⟨_, sqT_mono l a, m.length.symm⟩, hq⟩⟩
  · next s =>
    split at q
    · next hl =>
      cases q
      cases z with
      | cons h1 h2 =>
        cases h2; cases h1
        exact .inl ⟨_, .int _, fun Q hq => ⟨_, s.length, rfl, ⟨big hl, rfl⟩, hq⟩⟩
    · cases q
  · cases q
/-- int(x) -/
def fInt : List D → Option D
  | [.int i] => some (.int i)
  | [.bl b] => some (.int (if b then 1 else 0))
  | _ => none
def rInt : List V → Hp → VK → Prop := fun xs H Q => (∃ i, xs = [.int i] ∧ Q (.int i) H) ∨ ∃ k, xs = [.bl k] ∧ Q (.int (if k then 1 else 0)) H
theorem cr_int {X : Cx} : CallR X (.type "int") rInt := call_int1
theorem on_int : OpN K rInt fInt := fun F H vs ds x l z q => by
  unfold fInt at q
  split at q
  · next i =>
    cases q
    cases z with
    | cons h1 h2 => cases h2; cases h1; exact .inl ⟨_, .int _, fun Q hq => .inl ⟨i, rfl, hq⟩⟩
  · next b =>
    cases q
    cases z with
    | cons h1 h2 => cases h2; cases h1; exact .inl ⟨_, .int _, fun Q hq => .inr ⟨b, rfl, hq⟩⟩
  · cases q
/-- all, any, sum, min of a list -/
def boolsD : List D → Option (List Bool)
  | [] => some []
  | .bl b :: r => (boolsD r).map (b :: ·)
  | _ :: _ => none
def intsD : List D → Option (List Int)
  | [] => some []
  | .int i :: r => (intsD r).map (i :: ·)
  | _ :: _ => none
theorem bools_V {F : Hp} : ∀ {vs : List V} {ds : List D} {bs : List Bool}, FzL K F vs ds → boolsD ds = some bs → vs = bs.map V.bl
  | _, _, _, .nil, h => by cases h; rfl
  | _, _, bs, .cons (d := d) h l, e => by
    cases h with
    | bl b =>
      unfold boolsD at e
      rename_i vs ds
      cases q : boolsD ds with
      | none => rw [q] at e; cases e
      | some bs' => rw [q] at e; cases e; rw [List.map_cons, bools_V l q]
    | _ => simp [boolsD] at e
theorem ints_V {F : Hp} : ∀ {vs : List V} {ds : List D} {bs : List Int}, FzL K F vs ds → intsD ds = some bs → vs = bs.map V.int
  | _, _, _, .nil, h => by cases h; rfl
  | _, _, bs, .cons (d := d) h l, e => by
    cases h with
    | int b =>
      unfold intsD at e
      rename_i vs ds
      cases q : intsD ds with
      | none => rw [q] at e; cases e
      | some bs' => rw [q] at e; cases e; rw [List.map_cons, ints_V l q]
    | _ => simp [intsD] at e
def fAll : List D → Option D
  | [.lst ds] => (boolsD ds).map fun bs => .bl (bs.all id)
  | _ => none
def fAny : List D → Option D
  | [.lst ds] => (boolsD ds).map fun bs => .bl (bs.any id)
  | _ => none
def fSum : List D → Option D
  | [.lst ds] => (intsD ds).map fun ns => .int ns.sum
  | _ => none
def minL : List Int → Int
  | [] => 0
  | [a] => a
  | a :: r => min a (minL r)
def maxL : List Int → Int
  | [] => 0
  | [a] => a
  | a :: r => max a (maxL r)
def fMin : List D → Option D
  | [.lst ds] => match intsD ds with
    | some (a :: r) => some (.int (minL (a :: r)))
    | _ => none
  | _ => none
def fMax : List D → Option D
  | [.lst ds] => match intsD ds with
    | some (a :: r) => some (.int (maxL (a :: r)))
    | _ => none
  | _ => none
theorem minL_spec : ∀ {l : List Int}, l ≠ [] → minL l ∈ l ∧ ∀ y ∈ l, minL l ≤ y
  | [a], _ => ⟨by simp [minL], by simp [minL]⟩
  | a :: b :: r, _ => by
    obtain ⟨h1, h2⟩ := minL_spec (l := b :: r) (by simp)
    have e : minL (a :: b :: r) = min a (minL (b :: r)) := rfl
    rw [e]
    refine ⟨?_, fun y hy => ?_⟩
    · rcases Int.le_total a (minL (b :: r)) with q | q
      · rw [Int.min_eq_left q]; simp
      · rw [Int.min_eq_right q]; exact List.mem_cons_of_mem _ h1
    · rcases List.mem_cons.mp hy with q | q
      · subst q; exact Int.min_le_left ..
      · exact Int.le_trans (Int.min_le_right ..) (h2 y q)
theorem maxL_spec : ∀ {l : List Int}, l ≠ [] → maxL l ∈ l ∧ ∀ y ∈ l, y ≤ maxL l
  | [a], _ => ⟨by simp [maxL], by simp [maxL]⟩
  | a :: b :: r, _ => by
    obtain ⟨h1, h2⟩ := maxL_spec (l := b :: r) (by simp)
    have e : maxL (a :: b :: r) = max a (maxL (b :: r)) := rfl
    rw [e]
    refine ⟨?_, fun y hy => ?_⟩
    · rcases Int.le_total a (maxL (b :: r)) with q | q
      · rw [Int.max_eq_right q]; exact List.mem_cons_of_mem _ h1
      · rw [Int.max_eq_left q]; simp
    · rcases List.mem_cons.mp hy with q | q
      · subst q; exact Int.le_max_left ..
      · exact Int.le_trans (h2 y q) (Int.le_max_right ..)
theorem on_all : OpN K (rAll K) fAll := fun F H vs ds x l z q => by
  unfold fAll at q
  split at q
  · next d =>
    cases e : boolsD d with
    | none => rw [e] at q; cases q
    | some bs =>
      rw [e] at q; cases q
      cases z with
      | cons h1 h2 =>
        cases h2
        cases h1 with
        | lst a m => exact .inl ⟨_, .bl _, fun Q hq => ⟨_, bs, rfl, by rw [← bools_V m e]; exact sqL_of (l _ _ a), hq⟩⟩
  · cases q
theorem on_any : OpN K (rAny K) fAny := fun F H vs ds x l z q => by
  unfold fAny at q
  split at q
  · next d =>
    cases e : boolsD d with
    | none => rw [e] at q; cases q
    | some bs =>
      rw [e] at q; cases q
      cases z with
      | cons h1 h2 =>
        cases h2
        cases h1 with
        | lst a m => exact .inl ⟨_, .bl _, fun Q hq => ⟨_, bs, rfl, by rw [← bools_V m e]; exact sqL_of (l _ _ a), hq⟩⟩
  · cases q
theorem on_sum : OpN K (rSum K) fSum := fun F H vs ds x l z q => by
  unfold fSum at q
  split at q
  · next d =>
    cases e : intsD d with
    | none => rw [e] at q; cases q
    | some bs =>
      rw [e] at q; cases q
      cases z with
      | cons h1 h2 =>
        cases h2
        cases h1 with
        | lst a m => exact .inl ⟨_, .int _, fun Q hq => ⟨_, bs, rfl, by rw [← ints_V m e]; exact sqL_of (l _ _ a), hq⟩⟩
  · cases q
theorem on_min : OpN K (rMin K) fMin := fun F H vs ds x l z q => by
  unfold fMin at q
  split at q
  · next d =>
    split at q
    · next a0 r e =>
      cases q
      cases z with
      | cons h1 h2 =>
        cases h2
        cases h1 with
        | lst a m =>
          refine .inl ⟨_, .int _, fun Q hq => ⟨_, a0 :: r, rfl, by rw [← ints_V m e]; exact sqL_of (l _ _ a), by simp, fun m hm hle => ?_⟩⟩
          obtain ⟨s1, s2⟩ := minL_spec (l := a0 :: r) (by simp)
          have : m = minL (a0 :: r) := Int.le_antisymm (hle _ s1) (s2 _ hm)
          rw [this]; exact hq
    · cases q
  · cases q
theorem on_max : OpN K (rMax K) fMax := fun F H vs ds x l z q => by
  unfold fMax at q
  split at q
  · next d =>
    split at q
    · next a0 r e =>
      cases q
      cases z with
      | cons h1 h2 =>
        cases h2
        cases h1 with
        | lst a m =>
          refine .inl ⟨_, .int _, fun Q hq => ⟨_, a0 :: r, rfl, by rw [← ints_V m e]; exact sqL_of (l _ _ a), by simp, fun m hm hle => ?_⟩⟩
          obtain ⟨s1, s2⟩ := maxL_spec (l := a0 :: r) (by simp)
          have : m = maxL (a0 :: r) := Int.le_antisymm (s2 _ hm) (hle _ s1)
          rw [this]; exact hq
    · cases q
  · cases q
/-! ### items of data -/
def fIx : D → D → Option D
  | .lst ds, .int k => atI ds k
  | .tup ds, .int k => atI ds k
  | .str z, .int k => if z.length ≤ 100000 then (atI z.cps.toList k).map fun c => .str ⟨#[c]⟩ else none
  | _, _ => none
theorem atI_V {F : Hp} {vs : List V} {ds : List D} {k : Int} {d : D} (l : FzL K F vs ds) (h : atI ds k = some d) : ∃ v, atI vs k = some v ∧ Fz K F v d := by
  unfold atI at h ⊢
  rw [l.length]
  cases q : ixN ds.length k with
  | none => rw [q] at h; cases h
  | some j => rw [q] at h; exact l.get h
theorem os_ix : OpS2 K (rIx K) fIx := fun F H v w d e x l z1 z2 q => by
  unfold fIx at q
  split at q
  · next ds k =>
    cases z2
    cases z1 with
    | lst a m =>
      obtain ⟨y, h1, h2⟩ := atI_V m q
      exact ⟨y, h2, fun Q hq => .inl ⟨_, _, k, y, rfl, rfl, sqL_of (l _ _ a), h1, hq⟩⟩
  · next ds k =>
    cases z2
    cases z1 with
    | tup a m =>
      obtain ⟨y, h1, h2⟩ := atI_V m q
      exact ⟨y, h2, fun Q hq => .inr (.inl ⟨_, _, k, y, rfl, rfl, sqT_mono l a, h1, hq⟩)⟩
  · next z k =>
    split at q
    · next hl =>
      cases e : atI z.cps.toList k with
      | none => rw [e] at q; cases q
      | some c =>
        rw [e] at q; cases q
        cases z1; cases z2
        exact ⟨_, .str _, fun Q hq => .inr (.inr ⟨z, k, c, rfl, rfl, big hl, e, hq⟩)⟩
    · cases q
  · cases q
/-! ### attributes of data -/
def gFld (C : Addr) (f : Str) (ga : DEnv → Rz (D × DEnv)) : DEnv → Rz (D × DEnv) := fun δ => (ga δ).bind fun p => match p.1 with
  | .obj C' fs => if C' = C then (Rz.of (fs.lookup f)).bind fun x => .ok (x, p.2) else .no
  | _ => .no
theorem di_fld {C : Addr} {f : Str} {ga : DEnv → Rz (D × DEnv)} (ha : DI K B ta ga) (hc : Cls K C) (hn : NoAttr K C f) : DI K B (tFld K ta f) (gFld C f ga) := fun c R δ σ F H s Q q => by
  unfold gFld at q
  rw [Rz.post_bind] at q
  refine ha c R δ σ F H s _ (Rz.post_mono q (fun p q1 v F1 H1 s1 l1 h1 z1 => ?_) fun _ z => z)
  obtain ⟨d, δ1⟩ := p
  cases z1 with
  | obj h en l =>
    rename_i a C' dx fs ds
    dsimp only at q1
    by_cases hC : C' = C
    · rw [if_pos hC, Rz.post_bind] at q1
      subst hC
      obtain ⟨x, e, q1⟩ := Rz.post_of q1
      obtain ⟨i, i1, i2⟩ := lookup_ix f e
      obtain ⟨v, v1, v2⟩ := l.get i1
      exact ⟨a, C', dx, fs, v, rfl, s1.sub _ _ h, hc, hn, by rw [(i2 en.symm).1]; exact v1, q1 v F1 H1 s1 l1 h1 v2⟩
    · rw [if_neg hC] at q1; exact q1.elim
  | _ => exact q1.elim
/-! ### isinstance -/
/-- the name of a value's type -/
def D.tyN : D → Option String
  | .non => some "NoneType"
  | .bl _ => some "bool"
  | .int _ => some "int"
  | .str _ => some "str"
  | .lst _ => some "list"
  | .tup _ => some "tuple"
  | .dk _ => some "dict"
  | .dt _ => some "dict"
  | _ => none
theorem tyX_of {F H : Hp} {v : V} {d : D} {t : String} (l : Le F H) (z : Fz K F v d) (h : d.tyN = some t) : TyX K H v (.type t) := by
  cases z with
  | non => cases h; exact .base .non
  | bl b => cases h; exact .base (.bl b)
  | int i => cases h; exact .base (.int i)
  | str s => cases h; exact .base (.str s)
  | lst a m => cases h; exact .base (.lst (l _ _ a))
  | dk a _ m => cases h; exact .base (.dK (l _ _ a))
  | dt a _ m => cases h; exact .base (.dT (l _ _ a))
  | tup a m =>
    cases h
    rcases a with (a | ⟨o, a⟩) | ⟨o, its, n, h1, h2, _⟩
    · exact .base (.tup (l _ _ a))
    · exact .fTuple (l _ _ a)
    · exact .kTuple h1 h2
  | _ => cases h
/-- f answers isinstance(x, T) -/
def IsT (T : String) (f : D → Option Bool) : Prop := ∀ d b, f d = some b → ∃ t, d.tyN = some t ∧ kitB t T = some b
def isInt : D → Option Bool
  | .int _ => some true
  | .bl _ => some true
  | .non => some false
  | .str _ => some false
  | .lst _ => some false
  | .tup _ => some false
  | _ => none
def isBool : D → Option Bool
  | .bl _ => some true
  | .int _ => some false
  | .non => some false
  | .str _ => some false
  | .lst _ => some false
  | .tup _ => some false
  | _ => none
def isStr : D → Option Bool
  | .str _ => some true
  | .bl _ => some false
  | .int _ => some false
  | .non => some false
  | .lst _ => some false
  | .tup _ => some false
  | _ => none
def isTup : D → Option Bool
  | .tup _ => some true
  | .str _ => some false
  | .bl _ => some false
  | .int _ => some false
  | .non => some false
  | .lst _ => some false
  | _ => none
def isSeq : D → Option Bool
  | .tup _ => some true
  | .lst _ => some true
  | .str _ => some false
  | .bl _ => some false
  | .int _ => some false
  | .non => some false
  | _ => none
theorem isInt_T : IsT "int" isInt := fun d b h => by cases d <;> cases h <;> exact ⟨_, rfl, by decide +kernel⟩
theorem isBool_T : IsT "bool" isBool := fun d b h => by cases d <;> cases h <;> exact ⟨_, rfl, by decide +kernel⟩
theorem isStr_T : IsT "str" isStr := fun d b h => by cases d <;> cases h <;> exact ⟨_, rfl, by decide +kernel⟩
theorem isTup_T : IsT "tuple" isTup := fun d b h => by cases d <;> cases h <;> exact ⟨_, rfl, by decide +kernel⟩
def gIs (f : D → Option Bool) (ga : DEnv → Rz (D × DEnv)) : DEnv → Rz (D × DEnv) := fun δ => (ga δ).bind fun p => (Rz.of (f p.1)).bind fun b => .ok (.bl b, p.2)
theorem di_isi {T : String} {f : D → Option Bool} {ga : DEnv → Rz (D × DEnv)} (hf : IsT T f) (ha : DI K B ta ga) : DI K B (tCB (rIsi K) (tCons ta (tCons (tC (.ty T)) tNil))) (gIs f ga) := fun c R δ σ F H s Q q => by
  unfold gIs at q
  rw [Rz.post_bind] at q
  refine ha c R δ σ F H s _ (Rz.post_mono q (fun p q v F1 H1 s1 l1 h1 z1 => ?_) fun _ z => z)
  rw [Rz.post_bind] at q
  obtain ⟨b, e, q⟩ := Rz.post_of q
  obtain ⟨t, ht, hk⟩ := hf _ _ e
  exact ⟨v, .ty T, .type t, .type T, b, rfl, .ty T, tyX_of s1.sub z1 ht, kit_ty hk, q (.bl b) F1 H1 s1 l1 h1 (.bl b)⟩
theorem isSeq_T (d : D) (b : Bool) (h : isSeq d = some b) : ∃ t, d.tyN = some t ∧ PySem.W.kitAny K (.type t) [.type "list", .type "tuple"] = some b := by
  cases d <;> cases h <;> refine ⟨_, rfl, ?_⟩
  all_goals first
    | exact kitAny_cons (b := true) (kit_ty (by decide +kernel)) (fun h => nomatch h) (fun _ => rfl)
    | exact kitAny_cons (b := false) (kit_ty (by decide +kernel)) (fun _ => kitAny_cons (b := true) (kit_ty (by decide +kernel)) (fun h => nomatch h) (fun _ => rfl)) (fun h => nomatch h)
    | exact kitAny_cons (b := false) (kit_ty (by decide +kernel)) (fun _ => kitAny_cons (b := false) (kit_ty (by decide +kernel)) (fun _ => kitAny_nil) (fun h => nomatch h)) (fun h => nomatch h)
theorem di_isSeq {ga : DEnv → Rz (D × DEnv)} (ha : DI K B ta ga) : DI K B (tCB (rIsiT K) (tCons ta (tCons (tTup (tCons (tC (.ty "list")) (tCons (tC (.ty "tuple")) tNil))) tNil))) (gIs isSeq ga) := fun c R δ σ F H s Q q => by
  unfold gIs at q
  rw [Rz.post_bind] at q
  refine ha c R δ σ F H s _ (Rz.post_mono q (fun p q v F1 H1 s1 l1 h1 z1 => ?_) fun _ z => z)
  rw [Rz.post_bind] at q
  obtain ⟨b, e, q⟩ := Rz.post_of q
  obtain ⟨t, ht, hk⟩ := isSeq_T (K := K) _ _ e
  refine ⟨by show 2 ≤ sizeLine; decide, fun p hp => ?_⟩
  refine ⟨v, p, _, .type t, [.type "list", .type "tuple"], b, rfl, upd_same, .cons (.ty _) (.cons (.ty _) .nil), tyX_of (Le.trans s1.sub (Le.new hp)) z1 ht, hk, ?_⟩
  exact q (.bl b) (upd F1 p _) _ (s1.new hp fun z => z) (l1.trans (Le.new (s1.fresh hp))) (h1.trans (.of (.new hp))) (.bl b)
/-! ### slices of lists, truth -/
def cutD (ds : List D) (lo hi : Option Int) : List D := (ds.drop (HT.sIx ds.length 0 lo)).take (HT.sIx ds.length ds.length hi - HT.sIx ds.length 0 lo)
theorem FzL.cut {F : Hp} {vs : List V} {ds : List D} (l : FzL K F vs ds) (lo hi : Option Int) : FzL K F (cutV vs lo hi) (cutD ds lo hi) := by
  unfold cutV cutD
  rw [l.length]
  exact (l.drop _).take _
/-- a slice's part -/
def DO (K : PySem.W.Frag) (B : XK) (to : TO) (g : DEnv → Rz (Option Int × DEnv)) : Prop := ∀ (c : Cn) (R : Addr → Prop) (δ : DEnv) (σ : L2.St) (F H : Hp), Sim K c R δ σ F H → ∀ Q : Option Int → Hp → Prop,
  (g δ).post (fun p => ∀ F' H', Sim K c R p.2 σ F' H' → Le F F' → Held R H H' → Q p.1 H') (Wish K B c) → to σ H Q
theorem do_none : DO K B tNoPart (fun δ => .ok (none, δ)) := fun c R δ σ F H s Q q => q F H s (Le.refl F) Held.refl
def gPart (ga : DEnv → Rz (D × DEnv)) : DEnv → Rz (Option Int × DEnv) := fun δ => (ga δ).bind fun p => match p.1 with
  | .int i => .ok (some i, p.2)
  | _ => .no
theorem do_some {ga : DEnv → Rz (D × DEnv)} (ha : DI K B ta ga) : DO K B (tPart ta) (gPart ga) := fun c R δ σ F H s Q q => by
  unfold gPart at q
  rw [Rz.post_bind] at q
  refine ha c R δ σ F H s _ (Rz.post_mono q (fun p q1 v F1 H1 s1 l1 h1 z1 => ?_) fun _ z => z)
  obtain ⟨d, δ1⟩ := p
  cases z1 with
  | int i => exact ⟨i, rfl, q1 F1 H1 s1 l1 h1⟩
  | _ => exact q1.elim
def gSlL (ga : DEnv → Rz (D × DEnv)) (gl gh : DEnv → Rz (Option Int × DEnv)) : DEnv → Rz (O × DEnv) := fun δ => (ga δ).bind fun p => (gl p.2).bind fun q => (gh q.2).bind fun r => match p.1 with
  | .lst ds => .ok (.lst ((cutD ds q.1 r.1).map .fz), r.2)
  | .scr ds => .ok (.lst ((cutD ds q.1 r.1).map .fz), r.2)
  | _ => .no
theorem df_slL {tl th : TO} {ga : DEnv → Rz (D × DEnv)} {gl gh : DEnv → Rz (Option Int × DEnv)} (ha : DI K B ta ga) (hl : DO K B tl gl) (hh : DO K B th gh) : DF K B (tSl (rSlL K) ta tl th) (gSlL ga gl gh) := fun c R δ σ F H s Q q => by
  unfold gSlL at q
  rw [Rz.post_bind] at q
  refine ha c R δ σ F H s _ (Rz.post_mono q (fun p q v F1 H1 s1 l1 h1 z1 => ?_) fun _ z => z)
  rw [Rz.post_bind] at q
  refine hl c R p.2 σ F1 H1 s1 _ (Rz.post_mono q (fun x q F2 H2 s2 l2 h2 => ?_) fun _ z => z)
  rw [Rz.post_bind] at q
  refine hh c R x.2 σ F2 H2 s2 _ (Rz.post_mono q (fun y q F3 H3 s3 l3 h3 => ?_) fun _ z => z)
  obtain ⟨d, δ1⟩ := p
  have z3 := z1.mono (l2.trans l3)
  cases z3 with
  | lst a m =>
    refine ⟨_, _, rfl, sqL_of (s3.sub _ _ a), fun p hp => ?_⟩
    obtain ⟨s4, n, w⟩ := s3.newList hp (m.cut x.1 y.1)
    exact q _ F3 _ _ s4 n ((l1.trans l2).trans l3) (((h1.trans h2).trans h3).trans (.of (.new hp))) w
  | scr a m =>
    refine ⟨_, _, rfl, sqL_mono s3.sub a, fun p hp => ?_⟩
    obtain ⟨s4, n, w⟩ := s3.newList hp (m.cut x.1 y.1)
    exact q _ F3 _ _ s4 n ((l1.trans l2).trans l3) (((h1.trans h2).trans h3).trans (.of (.new hp))) w
  | _ => exact q.elim
/-- truth of data -/
def truD : D → Option Bool
  | .non => some false
  | .bl b => some b
  | .int i => some (i != 0)
  | .lst ds => some (!ds.isEmpty)
  | .tup ds => some (!ds.isEmpty)
  | _ => none
def gTru (ga : DEnv → Rz (D × DEnv)) : DEnv → Rz (Bool × DEnv) := fun δ => (ga δ).bind fun p => (Rz.of (truD p.1)).bind fun b => .ok (b, p.2)
theorem dt_tru {ga : DEnv → Rz (D × DEnv)} (ha : DI K B ta ga) : DT K B (fun σ H Q => ta σ H fun x H' => ∃ k, TruV K x H' k ∧ Q k H') (gTru ga) := fun c R δ σ F H s Q q => by
  unfold gTru at q
  rw [Rz.post_bind] at q
  refine ha c R δ σ F H s _ (Rz.post_mono q (fun p q v F1 H1 s1 l1 h1 z1 => ?_) fun _ z => z)
  rw [Rz.post_bind] at q
  obtain ⟨b, e, q⟩ := Rz.post_of q
  obtain ⟨d, δ1⟩ := p
  refine ⟨b, ?_, q F1 H1 s1 l1 h1⟩
  cases z1 with
  | non => cases e; rfl
  | bl b => cases e; rfl
  | int i => cases e; rfl
  | lst a m => cases e; exact .inl ⟨_, sqL_of (s1.sub _ _ a), by rw [isEmpty_len m.length]⟩
  | tup a m => cases e; exact .inr (.inl ⟨_, sqT_mono s1.sub a, by rw [isEmpty_len m.length]⟩)
  | _ => cases e
end
end DL

/-! DLA: statements as functions. -/
namespace DL
open PySem L2

inductive Out where
  | nx (δ : DEnv) | rt (o : O) (δ : DEnv) | bk (δ : DEnv) | ct (δ : DEnv)
abbrev Run := DEnv → Rz Out
def Out.to (de : DEnds) : Out → Prop
  | .nx δ => de.nx δ
  | .rt o δ => de.rt o δ
  | .bk δ => de.bk δ
  | .ct δ => de.ct δ
def lift (f : Run) : DTS := fun de δ => (f δ).post (Out.to de) de.er
section
variable {K : PySem.W.Frag} {B : XK} {pin : List Nat}
/-- a statement's reading does what the function tells -/
def RS (K : PySem.W.Frag) (B : XK) (pin : List Nat) (t : TS) (f : Run) : Prop := DS K B pin t (lift f)
theorem DS.imp {t : TS} {T U : DTS} (h : DS K B pin t T) (e : ∀ de δ, U de δ → T de δ) : DS K B pin t U := fun c δ σ F H D de hp s q r => h c δ σ F H D de hp s (e de δ q) r
def rNext : Run := fun δ => .ok (.nx δ)
theorem rs_next : RS K B pin tNext rNext := ds_next.imp fun _ _ h => h
def rBreak : Run := fun δ => .ok (.bk δ)
theorem rs_break : RS K B pin tBreak rBreak := ds_break.imp fun _ _ h => h
def rCont : Run := fun δ => .ok (.ct δ)
theorem rs_cont : RS K B pin tCont rCont := ds_cont.imp fun _ _ h => h
def rNever : Run := fun _ => .no
theorem rs_never : RS K B pin tNever rNever := ds_never.imp fun _ _ h => h
def rSeq (f g : Run) : Run := fun δ => (f δ).bind fun o => match o with
  | .nx δ' => g δ'
  | .rt o δ' => .ok (.rt o δ')
  | .bk δ' => .ok (.bk δ')
  | .ct δ' => .ok (.ct δ')
theorem rs_seq {t u : TS} {f g : Run} (h1 : RS K B pin t f) (h2 : RS K B pin u g) : RS K B pin (tSeq t u) (rSeq f g) := (ds_seq h1 h2).imp fun de δ h => by
  unfold lift rSeq at h
  rw [Rz.post_bind] at h
  refine Rz.post_mono h (fun o q => ?_) fun _ z => z
  cases o with
  | nx δ' => exact q
  | rt o δ' => exact q
  | bk δ' => exact q
  | ct δ' => exact q
variable {te ta tb ti to : TE} {tt : TT}
def rDrop (g : DEnv → Rz (D × DEnv)) : Run := fun δ => (g δ).bind fun p => .ok (.nx p.2)
theorem rs_drop {g : DEnv → Rz (D × DEnv)} (h : DI K B te g) : RS K B pin (tDrop te) (rDrop g) := (ds_drop h).imp fun de δ h => by
  unfold lift rDrop at h
  rw [Rz.post_bind] at h
  exact h
def rRet (g : DEnv → Rz (O × DEnv)) : Run := fun δ => (g δ).bind fun p => .ok (.rt p.1 p.2)
theorem rs_ret {g : DEnv → Rz (O × DEnv)} (h : DF K B te g) : RS K B pin (tRet te) (rRet g) := (ds_ret h).imp fun de δ h => by
  unfold lift rRet at h
  rw [Rz.post_bind] at h
  exact h
def rRetN : Run := fun δ => .ok (.rt (.fz .non) δ)
theorem rs_retN : RS K B pin tRetN rRetN := ds_retN.imp fun _ _ h => h
def rIf (g : DEnv → Rz (Bool × DEnv)) (f u : Run) : Run := fun δ => (g δ).bind fun p => if p.1 = true then f p.2 else u p.2
theorem rs_if {g : DEnv → Rz (Bool × DEnv)} {t u : TS} {f f' : Run} (hc : DT K B tt g) (h1 : RS K B pin t f) (h2 : RS K B pin u f') : RS K B pin (tIfS tt t u) (rIf g f f') := (ds_if hc h1 h2).imp fun de δ h => by
  unfold lift rIf at h
  rw [Rz.post_bind] at h
  refine Rz.post_mono h (fun p q => ?_) fun _ z => z
  by_cases e : p.1 = true
  · rw [if_pos e] at q ⊢; exact q
  · rw [if_neg e] at q ⊢; exact q
def rSet (i : Nat) (g : DEnv → Rz (O × DEnv)) : Run := fun δ => (g δ).bind fun p => .ok (.nx (p.2.set i (some p.1)))
theorem rs_set {i : Nat} {g : DEnv → Rz (O × DEnv)} (h : DF K B te g) (hi : i ∉ pin) : RS K B pin (tAsg te (gName i)) (rSet i g) := (ds_set h hi).imp fun de δ h => by
  unfold lift rSet at h
  rw [Rz.post_bind] at h
  exact h
def rAsg (g : DEnv → Rz (D × DEnv)) (t : D → DEnv → Option DEnv) : Run := fun δ => (g δ).bind fun p => (Rz.of (t p.1 p.2)).bind fun δ' => .ok (.nx δ')
theorem rs_asg {ts : List Nat} {gt : TG} {g : DEnv → Rz (D × DEnv)} {t : D → DEnv → Option DEnv} (h : DI K B te g) (hg : DG K ts pin gt t) : RS K B pin (tAsg te gt) (rAsg g t) := (ds_asg h hg).imp fun de δ h => by
  unfold lift rAsg at h
  rw [Rz.post_bind] at h
  refine Rz.post_mono h (fun p q => ?_) fun _ z => z
  rw [Rz.post_bind] at q
  cases e : t p.1 p.2 with
  | none => rw [e] at q; exact q.elim
  | some δ' => rw [e] at q; exact q
/-- one turn more -/
def loopR (o : Out) (k : Run) : Rz Out := match o with
  | .nx δ => k δ
  | .ct δ => k δ
  | .bk δ => .ok (.nx δ)
  | .rt o δ => .ok (.rt o δ)
def forR (t : D → DEnv → Option DEnv) (f : Run) : List D → Run
  | [], δ => .ok (.nx δ)
  | d :: r, δ => (Rz.of (t d δ)).bind fun δ' => (f δ').bind fun o => loopR o (forR t f r)
def rFor (g : DEnv → Rz (List D × DEnv)) (t : D → DEnv → Option DEnv) (f : Run) : Run := fun δ => (g δ).bind fun p => forR t f p.1 p.2
theorem forR_L {t : D → DEnv → Option DEnv} {f : Run} {de : DEnds} : ∀ (ds : List D) (δ : DEnv), lift (forR t f ds) de δ → forL t (lift f) de ds δ
  | [], δ, h => h
  | d :: r, δ, h => by
    unfold lift forR at h
    rw [Rz.post_bind] at h
    unfold forL
    cases e : t d δ with
    | none => rw [e] at h; exact h.elim
    | some δ' =>
      rw [e] at h
      show lift f _ δ'
      replace h : ((f δ').bind fun o => loopR o (forR t f r)).post (Out.to de) de.er := h
      rw [Rz.post_bind] at h
      refine Rz.post_mono h (fun o q => ?_) fun _ z => z
      cases o with
      | nx δ2 => exact forR_L r δ2 q
      | ct δ2 => exact forR_L r δ2 q
      | bk δ2 => exact q
      | rt o δ2 => exact q
theorem rs_for {ts : List Nat} {wi : TI} {gt : TG} {t : TS} {g : DEnv → Rz (List D × DEnv)} {tg : D → DEnv → Option DEnv} {f : Run} (hi : DW K B wi g) (hg : DG K ts pin gt tg) (hb : RS K B pin t f) : RS K B pin (tFor wi gt t) (rFor g tg f) := (ds_for hi hg hb).imp fun de δ h => by
  unfold lift rFor at h
  rw [Rz.post_bind] at h
  exact Rz.post_mono h (fun p q => forR_L p.1 p.2 q) fun _ z => z
/-- a while, with so many turns -/
def whileK (g : DEnv → Rz (Bool × DEnv)) (f : Run) : Nat → Run
  | 0, _ => .no
  | n + 1, δ => (g δ).bind fun p => if p.1 = true then (f p.2).bind fun o => loopR o (whileK g f n) else .ok (.nx p.2)
theorem whileK_N {g : DEnv → Rz (Bool × DEnv)} {f : Run} {de : DEnds} : ∀ (n : Nat) (δ : DEnv), lift (whileK g f n) de δ → whileN g (lift f) de n δ
  | 0, δ, h => h
  | n + 1, δ, h => by
    unfold lift whileK at h
    rw [Rz.post_bind] at h
    unfold whileN
    refine Rz.post_mono h (fun p q => ?_) fun _ z => z
    by_cases e : p.1 = true
    · rw [if_pos e] at q ⊢
      rw [Rz.post_bind] at q
      refine Rz.post_mono q (fun o q => ?_) fun _ z => z
      cases o with
      | nx δ2 => exact whileK_N n δ2 q
      | ct δ2 => exact whileK_N n δ2 q
      | bk δ2 => exact q
      | rt o δ2 => exact q
    · rw [if_neg e] at q ⊢; exact q
theorem whileK_mono {g : DEnv → Rz (Bool × DEnv)} {f : Run} : ∀ (n m : Nat) (δ : DEnv), n ≤ m → whileK g f n δ ≠ .no → whileK g f m δ = whileK g f n δ
  | 0, _, _, _, h => absurd rfl h
  | n + 1, 0, _, h, _ => absurd h (by omega)
  | n + 1, m + 1, δ, h, hn => by
    unfold whileK at hn ⊢
    cases e : g δ with
    | no => rfl
    | er x => rfl
    | ok p =>
      rw [e] at hn
      simp only [Rz.bind_ok] at hn ⊢
      by_cases c : p.1 = true
      · rw [if_pos c] at hn ⊢
        rw [if_pos c]
        cases e2 : f p.2 with
        | no => rfl
        | er x => rfl
        | ok o =>
          rw [e2] at hn
          simp only [Rz.bind_ok] at hn ⊢
          cases o with
          | nx δ2 => exact whileK_mono n m δ2 (by omega) hn
          | ct δ2 => exact whileK_mono n m δ2 (by omega) hn
          | bk δ2 => rfl
          | rt o δ2 => rfl
      · rw [if_neg c]
        rw [if_neg c]
open Classical in
/-- a while: what enough turns give -/
noncomputable def rWhile (g : DEnv → Rz (Bool × DEnv)) (f : Run) : Run := fun δ => if h : ∃ n, whileK g f n δ ≠ .no then whileK g f h.choose δ else .no
theorem rWhile_at {g : DEnv → Rz (Bool × DEnv)} {f : Run} {δ : DEnv} {n : Nat} (h : whileK g f n δ ≠ .no) : rWhile g f δ = whileK g f n δ := by
  unfold rWhile
  have e : ∃ n, whileK g f n δ ≠ .no := ⟨n, h⟩
  rw [dif_pos e]
  rcases Nat.le_total n e.choose with q | q
  · exact whileK_mono n _ δ q h
  · exact (whileK_mono _ n δ q e.choose_spec).symm
/-- one turn -/
theorem rWhile_eq (g : DEnv → Rz (Bool × DEnv)) (f : Run) (δ : DEnv) : rWhile g f δ = (g δ).bind fun p => if p.1 = true then (f p.2).bind fun o => loopR o (rWhile g f) else .ok (.nx p.2) := by
  have key : ∀ n, whileK g f (n + 1) δ ≠ .no → whileK g f (n + 1) δ = (g δ).bind fun p => if p.1 = true then (f p.2).bind fun o => loopR o (rWhile g f) else .ok (.nx p.2) := by
    intro n hn
    unfold whileK at hn ⊢
    cases e : g δ with
    | no => rfl
    | er x => rfl
    | ok p =>
      rw [e] at hn
      simp only [Rz.bind_ok] at hn ⊢
      by_cases c : p.1 = true
      · rw [if_pos c] at hn
        rw [if_pos c, if_pos c]
        cases e2 : f p.2 with
        | no => rfl
        | er x => rfl
        | ok o =>
          rw [e2] at hn
          simp only [Rz.bind_ok] at hn ⊢
          cases o with
          | nx δ2 => exact (rWhile_at hn).symm
          | ct δ2 => exact (rWhile_at hn).symm
          | bk δ2 => rfl
          | rt o δ2 => rfl
      · rw [if_neg c, if_neg c]
  by_cases h : ∃ n, whileK g f n δ ≠ .no
  · obtain ⟨n, hn⟩ := h
    rw [rWhile_at hn]
    cases n with
    | zero => exact absurd rfl hn
    | succ n => exact key n hn
  · have e : rWhile g f δ = .no := by unfold rWhile; rw [dif_neg h]
    rw [e]
    have all : ∀ n, whileK g f n δ = .no := fun n => Classical.byContradiction fun z => h ⟨n, z⟩
    cases e1 : g δ with
    | no => rfl
    | er x =>
      have := all 1
      unfold whileK at this
      rw [e1] at this; cases this
    | ok p =>
      simp only [Rz.bind_ok]
      by_cases c : p.1 = true
      · rw [if_pos c]
        cases e2 : f p.2 with
        | no => rfl
        | er x =>
          have := all 1
          unfold whileK at this
          rw [e1] at this
          simp only [Rz.bind_ok] at this
          rw [if_pos c, e2] at this; cases this
        | ok o =>
          simp only [Rz.bind_ok]
          have step : ∀ n, loopR o (whileK g f n) = .no := fun n => by
            have := all (n + 1)
            unfold whileK at this
            rw [e1] at this
            simp only [Rz.bind_ok] at this
            rw [if_pos c, e2] at this
            exact this
          have lim : ∀ δ2, (∀ n, whileK g f n δ2 = .no) → rWhile g f δ2 = .no := fun δ2 hh => by
            unfold rWhile
            rw [dif_neg]
            rintro ⟨n, hn⟩
            exact hn (hh n)
          cases o with
          | nx δ2 => exact (lim δ2 step).symm
          | ct δ2 => exact (lim δ2 step).symm
          | bk δ2 => exact absurd (step 0) (by simp [loopR])
          | rt o δ2 => exact absurd (step 0) (by simp [loopR])
      · have := all 1
        unfold whileK at this
        rw [e1] at this
        simp only [Rz.bind_ok] at this
        rw [if_neg c] at this; cases this
theorem rs_while {g : DEnv → Rz (Bool × DEnv)} {t : TS} {f : Run} (hc : DT K B tt g) (hb : RS K B pin t f) : RS K B pin (tWhile tt t) (rWhile g f) := (ds_while hc hb).imp fun de δ h => by
  unfold lift at h
  by_cases e : ∃ n, whileK g f n δ ≠ .no
  · obtain ⟨n, hn⟩ := e
    rw [rWhile_at hn] at h
    exact ⟨n, whileK_N n δ h⟩
  · have e2 : rWhile g f δ = .no := by unfold rWhile; rw [dif_neg e]
    rw [e2] at h
    exact h.elim
/-! ### what changes a tree -/
def appR (i : Nat) (o : O) (δ : DEnv) : Rz Out := match δ[i]? with
  | some (some (.lst os)) => if os.length < 100000 then .ok (.nx (δ.set i (some (.lst (os ++ [o]))))) else .no
  | _ => .no
def rApp (i : Nat) (g : DEnv → Rz (O × DEnv)) : Run := fun δ => match δ[i]? with
  | some (some (.lst _)) => (g δ).bind fun p => appR i p.1 p.2
  | _ => .no
theorem rs_app {i : Nat} {g : DEnv → Rz (O × DEnv)} (h : DF K B te g) : RS K B pin (tDrop (tBM K "list" rAppend (tVar i) (tCons te tNil))) (rApp i g) := (ds_app (i := i) h).imp fun de δ h => by
  unfold lift rApp at h
  unfold dApp
  split at h
  · next os e =>
    rw [Rz.post_bind] at h
    try simp only [e]
    refine Rz.post_mono h (fun p q => ?_) fun _ z => z
    unfold appR at q
    split at q
    · next os' e' =>
      try simp only [e']
      split at q
      · next hl => exact ⟨hl, q⟩
      · exact q.elim
    · exact q.elim
  · exact h.elim
def rAppP (i : Nat) (p : DEnv → Option (List Step × O)) (f : DEnv → Option D) : Run := fun δ => match p δ, f δ with
  | some (π, .lst os), some d => if os.length < 100000 then .ok (.nx (putAt δ i π (.lst (os ++ [.fz d])))) else .no
  | _, _ => .no
theorem rs_appP {i : Nat} {p : DEnv → Option (List Step × O)} {f : DEnv → Option D} (hp : PL K ta i p) (h : SX K te f) : RS K B pin (tDrop (tBM K "list" rAppend ta (tCons te tNil))) (rAppP i p f) := (ds_appP hp h).imp fun de δ h => by
  unfold lift rAppP at h
  unfold dAppP
  split at h
  · next π os d e1 e2 =>
    try simp only [e1, e2]
    split at h
    · next hl => exact ⟨hl, h⟩
    · exact h.elim
  · exact h.elim
def rSetIx (i : Nat) (g gi : DEnv → Rz (D × DEnv)) : Run := fun δ => (g δ).bind fun p => match p.2[i]? with
  | some (some (.lst _)) => (gi p.2).bind fun q => match q.2[i]?, q.1 with
    | some (some (.lst os)), .int k => match ixN os.length k with
      | some j => .ok (.nx (q.2.set i (some (.lst (os.set j (.fz p.1))))))
      | none => .no
    | _, _ => .no
  | _ => .no
theorem rs_setIx {i : Nat} {g gi : DEnv → Rz (D × DEnv)} (h : DI K B te g) (hi : DI K B ti gi) : RS K B pin (tAsg te (gSub (tVar i) ti rSetL)) (rSetIx i g gi) := (ds_setIx (i := i) h hi).imp fun de δ h => by
  unfold lift rSetIx at h
  unfold dSetIx
  rw [Rz.post_bind] at h
  refine Rz.post_mono h (fun p q => ?_) fun _ z => z
  split at q
  · next os0 e0 =>
    rw [Rz.post_bind] at q
    try simp only [e0]
    refine Rz.post_mono q (fun p' q => ?_) fun _ z => z
    split at q
    · next os k e1 e2 =>
      try simp only [e1, e2]
      split at q
      · next j ej => (try simp only [ej]); exact q
      · exact q.elim
    · exact q.elim
  · exact q.elim
def rAug (i : Nat) (f : D → D → Option D) (g : DEnv → Rz (D × DEnv)) : Run := fun δ => match δ[i]? with
  | some (some (.fz d)) => (g δ).bind fun p => (Rz.of (f d p.1)).bind fun x => .ok (.nx (p.2.set i (some (.fz x))))
  | _ => .no
theorem rs_aug {i : Nat} {r2 : TIp} {f : D → D → Option D} {g : DEnv → Rz (D × DEnv)} (o : Op2 K r2 f) (h : DI K B te g) (hi : i ∉ pin) : RS K B pin (tAug i te r2) (rAug i f g) := (ds_aug o h hi).imp fun de δ h => by
  unfold lift rAug at h
  unfold dAug
  split at h
  · next d e =>
    rw [Rz.post_bind] at h
    try simp only [e]
    refine Rz.post_mono h (fun p q => ?_) fun _ z => z
    cases ex : f d p.1 with
    | none => rw [ex] at q; exact q.elim
    | some x => rw [ex] at q; exact q
  · exact h.elim
def rAugIx (i : Nat) (p : DEnv → Option (List Step × O)) (fi f : DEnv → Option D) (op : D → D → Option D) : Run := fun δ => match p δ, fi δ, f δ with
  | some (π, .lst os), some (.int k), some e => match ixN os.length k with
    | some j => match os[j]? with
      | some (.fz d) => (Rz.of (op d e)).bind fun x => .ok (.nx (putAt δ i π (.lst (os.set j (.fz x)))))
      | _ => .no
    | none => .no
  | _, _, _ => .no
theorem rs_augIx {i : Nat} {p : DEnv → Option (List Step × O)} {r2 : TIp} {fi f : DEnv → Option D} {op : D → D → Option D} (o : OpS2 K r2 op) (hp : PL K to i p) (hi : SX K ti fi) (h : SX K te f) :
    RS K B pin (tAugS to ti te (fun x y H Q => rIxL K x y H Q) r2 rSetL) (rAugIx i p fi f op) := (ds_augIx o hp hi h).imp fun de δ h => by
  unfold lift rAugIx at h
  unfold dAugIx
  split at h
  · next π os k e e1 e2 e3 =>
    try simp only [e1, e2, e3]
    split at h
    · next j ej =>
      try simp only [ej]
      split at h
      · next d ed =>
        try simp only [ed]
        cases ex : op d e with
        | none => rw [ex] at h; exact h.elim
        | some x => rw [ex] at h; exact h
      · exact h.elim
    · exact h.elim
  · exact h.elim
def attrR (C : Addr) (f : Str) (i : Nat) (o : O) (δ : DEnv) : Rz Out := match δ[i]? with
  | some (some (.ins C' fs)) => if C' = C ∧ fs.length < 1000 then .ok (.nx (δ.set i (some (.ins C' (putA f o fs))))) else .no
  | _ => .no
def rAttr (C : Addr) (f : Str) (i : Nat) (g : DEnv → Rz (O × DEnv)) : Run := fun δ => (g δ).bind fun p => attrR C f i p.1 p.2
theorem rs_attr {i : Nat} {C : Addr} {f : Str} {g : DEnv → Rz (O × DEnv)} (h : DF K B te g) (hc : Cls K C) (hn : NoAttr K C f) : RS K B pin (sFld K (tVar i) te f) (rAttr C f i g) := (ds_attr (i := i) h hc hn).imp fun de δ h => by
  unfold lift rAttr at h
  unfold dAttr
  rw [Rz.post_bind] at h
  refine Rz.post_mono h (fun p q => ?_) fun _ z => z
  unfold attrR at q
  split at q
  · next C' fs e =>
    try simp only [e]
    split at q
    · next hc => exact ⟨hc.1, hc.2, q⟩
    · exact q.elim
  · exact q.elim
/-! ### a def -/
def finR (pin : List Nat) : Out → Rz (O × List O)
  | .nx δ => (Rz.of (alO δ pin)).bind fun ps => .ok (.fz .non, ps)
  | .rt o δ => (Rz.of (alO δ pin)).bind fun ps => .ok (o, ps)
  | _ => .no
/-- what a def does: N slots, n parameters, those at pin handed back -/
def phi (N n : Nat) (pin : List Nat) (f : Run) : List O → Rz (O × List O) := fun os => if os.length = n then (f (dInit N os)).bind (finR pin) else .no
end
section
variable {P : Program} {w : World} {K : PySem.W.Frag} {mg : Str → Option Value} {base : Heap}
theorem fn_R {x qual : Str} {st : Stmt} {f : Addr} {fd : FuncData} {N ps : List Str} {k M n : Nat} {pin : List Nat} {r : Run} (F : Fun K x qual st f fd) (S : FnScope N ps (defScope st)) (hM : N.length = M) (hn : ps.length = n) (hN : n ≤ M) (nd : pin.Nodup) (hpin : ∀ i ∈ pin, i < n)
    (body : ∀ (cdv : Value) (A : Around) (outer : List Env) (s : Shared) (H : Hp) (E : XK), Room k (A.deeper (PyProof.Rows.envOfC qual (defScope st) s.heap.objs.size f cdv)) →
      ∃ t, PSs (cxOf (L2.CX P w) P w K mg base N qual (defScope st) f cdv A outer s H E) (defBody st) t ∧ RS K E pin t r) :
    FnOk P w K mg base (L2.CX P w) (k + 1) f fd ps (spD K n pin (phi M n pin r)) := by
  subst hM
  refine fn_D F S hn hN nd hpin fun cdv A outer s H E hr => ?_
  obtain ⟨t, h1, h2⟩ := body cdv A outer s H E hr
  refine ⟨lift r, ⟨t, h1, h2⟩, fun os hl hno => ?_⟩
  unfold phi at hno ⊢
  rw [if_pos hl] at hno ⊢
  unfold lift
  cases e : r (dInit N.length os) with
  | no => rw [e] at hno; exact absurd rfl hno
  | er x => rfl
  | ok o =>
    rw [e] at hno
    simp only [Rz.bind_ok] at hno ⊢
    cases o with
    | nx δ =>
      replace hno : (Rz.of (alO δ pin)).bind (fun ps => Rz.ok (O.fz D.non, ps)) ≠ .no := hno
      cases e2 : alO δ pin with
      | none => rw [e2] at hno; exact absurd rfl hno
      | some ps => exact ⟨ps, by show (Rz.of (alO δ pin)).bind _ = _; rw [e2]; rfl, alO_map e2⟩
    | rt o δ =>
      replace hno : (Rz.of (alO δ pin)).bind (fun ps => Rz.ok (o, ps)) ≠ .no := hno
      cases e2 : alO δ pin with
      | none => rw [e2] at hno; exact absurd rfl hno
      | some ps => exact ⟨ps, by show (Rz.of (alO δ pin)).bind _ = _; rw [e2]; rfl, alO_map e2⟩
    | bk δ => exact absurd rfl hno
    | ct δ => exact absurd rfl hno
/-- a def that nothing is known of, at any level -/
theorem fn_no {f : Addr} {fd : FuncData} {ps : List Str} {k n : Nat} {pin : List Nat} (hn : ps.length = n) : FnOk P w K mg base (L2.CX P w) k f fd ps (spD K n pin fun _ => .no) :=
  ⟨fun vs H Q E h => by
    obtain ⟨os, F, S, h1, h2, h3, h4, _⟩ := h
    rw [h4.length, h1, hn], fun A outer s H args us vs Q E _ _ _ _ h => by
    obtain ⟨os, F, S, h1, h2, h3, h4, h5, h6⟩ := h
    exact h6.elim⟩
end
end DL

/-! DLB: more walks. -/
namespace DL
open PySem L2

/-! ### a list, a tuple or a text -/
def iAny (K : PySem.W.Frag) (te : TE) : TI := fun σ H R => iList K te σ H R ∨ iTup K te σ H R ∨ iStr te σ H R
theorem pi_any {X : Cx} {tg e : Expr} {te : TE} (h : PE X e te) : PI X tg e (iAny X.K te) :=
  ⟨fun pins s σ H R I q => by
    rcases q with q | q | q
    · exact (pi_list h).run pins s σ H R I q
    · exact (pi_tup h).run pins s σ H R I q
    · exact (pi_str h).run pins s σ H R I q⟩
def signsD (z : Str) : List D := z.cps.toList.map fun c => .str ⟨#[c]⟩
section
variable {K : PySem.W.Frag} {B : XK} {te : TE} {F : Hp}
theorem walk_str {x : Str} : Walk K F (Its x) (signsD x) where
  go := fun k F2 H2 _ _ hk => by
    have : (signsD x).length = x.cps.size := by simp [signsD]
    rw [this] at hk; exact hk
  yld := fun k F2 H2 v H3 d _ _ hd y => by
    obtain ⟨e, c, hc, rfl⟩ := y
    refine .inl ⟨e, ?_⟩
    unfold signsD at hd
    rw [List.getElem?_map] at hd
    have hc' : x.cps.toList[k]? = some c := by simpa using hc
    rw [hc'] at hd
    cases hd
    exact .str _
  stop := fun F2 H2 _ _ => by
    have : (signsD x).length = x.cps.size := by simp [signsD]
    rw [this]; exact Nat.le_refl _
def wS (g : DEnv → Rz (D × DEnv)) : DEnv → Rz (List D × DEnv) := fun δ => (g δ).bind fun p => match p.1 with
  | .str z => .ok (signsD z, p.2)
  | _ => .no
theorem dw_str {g : DEnv → Rz (D × DEnv)} (h : DI K B te g) : DW K B (iStr te) (wS g) := fun c R δ σ F H s Q q => by
  unfold wS at q
  rw [Rz.post_bind] at q
  refine h c R δ σ F H s _ (Rz.post_mono q (fun p q v F1 H1 s1 l1 h1 z1 => ?_) fun _ z => z)
  obtain ⟨d, δ1⟩ := p
  cases z1 with
  | str z => exact ⟨_, rfl, q _ F1 H1 s1 l1 h1 walk_str⟩
  | _ => exact q.elim
def anyD : D → Option (List D)
  | .lst l => some l
  | .scr l => some l
  | .tup l => some l
  | .str z => some (signsD z)
  | _ => none
def wA (g : DEnv → Rz (D × DEnv)) : DEnv → Rz (List D × DEnv) := fun δ => (g δ).bind fun p => (Rz.of (anyD p.1)).bind fun l => .ok (l, p.2)
theorem dw_any {g : DEnv → Rz (D × DEnv)} (h : DI K B te g) : DW K B (iAny K te) (wA g) := fun c R δ σ F H s Q q => by
  unfold wA at q
  cases e : g δ with
  | no => rw [e] at q; exact q.elim
  | er x => exact .inl (dw_list h c R δ σ F H s Q (by unfold wL; rw [e]; rw [e] at q; exact q))
  | ok p =>
    rw [e] at q
    obtain ⟨d, δ1⟩ := p
    cases d with
    | lst l => exact .inl (dw_list h c R δ σ F H s Q (by unfold wL; rw [e]; exact q))
    | scr l => exact .inl (dw_list h c R δ σ F H s Q (by unfold wL; rw [e]; exact q))
    | tup l => exact .inr (.inl (dw_tup h c R δ σ F H s Q (by unfold wT; rw [e]; exact q)))
    | str l => exact .inr (.inr (dw_str h c R δ σ F H s Q (by unfold wS; rw [e]; exact q)))
    | _ => exact q.elim
end
/-! ### the item of a list, for op= -/
theorem pget_list {X : Cx} : PGet X (fun x y H Q => rIxL X.K x y H Q) := by
  intro pins s σ H x y v u Q I rx ry h
  obtain ⟨p, xs, i, z, rfl, rfl, hq, he, q⟩ := h
  cases rx
  obtain ⟨t, rfl⟩ := ry
  obtain ⟨its, r, pl, hz⟩ := I.list hq
  obtain ⟨j, h1, h2, h3, h4, h5⟩ := atI_get he
  obtain ⟨w, ew, rw'⟩ := r.get h2
  have hl := r.length
  have hn := line63
  have fin : EP X pins σ Q w s := ⟨z, H, I, rw', q⟩
  by_cases h0 : 0 ≤ i
  · have hj : i.toNat = j := by
      rw [seqIndex_of h0 h5] at h1
      exact Option.some.inj h1
    exact wpAny_getItem_list pl.isList h0 (by omega) (by rw [hj]; simpa using ew) fin
  · have hj : (i + (its.toArray.size : Int)).toNat = j := by
      rw [seqIndex_neg (by omega) h4] at h1
      rw [List.size_toArray, ← hl]
      exact Option.some.inj h1
    exact wpAny_getItem_list_neg pl.isList (by omega) (by rw [List.size_toArray] <;> omega) (by omega) (by rw [hj]; simpa using ew) fin
/-! ### enumerate over a tuple -/
/-- the tuple at a, each item in a new pair behind the count from k -/
def Itn (K : PySem.W.Frag) (k : Int) (a : Addr) : It :=
  ⟨fun i H => ∃ (xs : List V) (x : V), SqT K H a xs ∧ xs[i]? = some x, fun i H v H' => ∃ T x, v = .ref T ∧ H T = none ∧ H' = upd H T (.tup [.int (k + (i : Nat)), x]) ∧ ∀ xs, SqT K H a xs → xs[i]? = some x, fun i H => ∃ xs : List V, SqT K H a xs ∧ xs.length = i⟩
theorem apart3 {h : Heap} {k : Int} {old : Value} {a e it : Addr} {i : Nat} {vs : Array Value} (he : IsEnum h e it k old) (hit : h.IsTupleIter it a i) (ht : h.IsTuple a vs) : a ≠ it ∧ e ≠ a := by
  obtain ⟨o, e1, c1, n, d1⟩ := ht
  obtain ⟨o2, e2, c2, d2⟩ := hit
  refine ⟨fun z => ?_, fun z => ?_⟩
  · rw [z, e2] at e1; cases e1
    rw [d2] at d1; cases d1
  · have he' : h.get? e = _ := he
    rw [z, e1] at he'
    cases he'
    cases d1
theorem turn_enT {P : Program} {w : World} {K : PySem.W.Frag} {elts : List Expr} {kk : Nat} {tpos : Pos} (k : Int) (a e it : Addr) :
    Turn P w K (.Tuple elts kk tpos) (Itn K k a) [e, it] e (fun i h => (∃ old, IsEnum h e it (k + (i : Nat)) old) ∧ h.IsTupleIter it a i ∧ e ≠ it) where
  mem := by simp
  obj := fun i h st b hb => by
    obtain ⟨⟨old, he⟩, ⟨o, ho, hc, hd⟩, _⟩ := st
    have e' : b = e ∨ b = it := by simpa using hb
    rcases e' with z | z
    · subst z; exact ⟨_, he, fun v q => nomatch q⟩
    · subst z; exact ⟨o, ho, fun v q => by rw [hd] at q; cases q⟩
  keep := fun i h h' st g => by
    obtain ⟨⟨old, he⟩, hi, hne⟩ := st
    exact ⟨⟨old, g e (by simp) _ he⟩, hi.at fun o q => g it (by simp) o q, hne⟩
  item := by
    intro X hP hw hK hc i pins s σ H E I hf st hg
    subst hP hw hK
    obtain ⟨⟨old, he⟩, hit, hne⟩ := st
    obtain ⟨xs, x, hq, hx⟩ := hg
    obtain ⟨its, rv, p, hz⟩ := I.tuple hq
    obtain ⟨u, hu, ru⟩ := rv.get hx
    have hel : e < s.heap.objs.size := Heap.lt_size he
    have hil : it < s.heap.objs.size := by obtain ⟨_, q, _⟩ := hit; exact Heap.lt_size q
    obtain ⟨n1, n2⟩ := apart3 he hit p
    have D := Draws.tuple (prog := X.prog) (w := X.w) (A := X.A.in1) (I.ok.hd hc) it a n1 its.toArray
    have G := GoesN.enumFrom (elts := elts) (x1 := kk) (pos := tpos) k D e hne (by simp [hne, n2]) (by simp)
    have hlt : i < its.toArray.size := by
      have := (List.getElem?_eq_some_iff.mp hu).1
      simpa using this
    refine G.goes i s _ _ hlt ⟨⟨old, he⟩, hit, p⟩ fun v h' tk hY st' hk htk => ?_
    obtain ⟨T, t, y, rfl, hT, hy, hv⟩ := hY
    have ey : u = y := by
      have : its.toArray[i]? = some u := by simpa using hu
      rw [this] at hy
      exact Option.some.inj hy
    subst ey
    have new : ObjOk X.prog X.w (upd H T (.tup [.int (k + (i : Nat)), x])) h' T (.tup [.int (k + (i : Nat)), x]) :=
      ⟨by show 2 ≤ sizeLine; decide, [.int (k + (i : Nat)) t, u], .cons ⟨_, rfl⟩ (.cons ru .nil), hv⟩
    have I1 : Inv X pins σ (upd H T (.tup [.int (k + (i : Nat)), x])) { s with heap := h', toks := tk } :=
      I.turnedNew (ch := [e, it]) (fun b ob hb q => hk b ob hb q) hf hT new
    refine ⟨.ref T, _, I1, rfl, ⟨_, x, rfl, I.hok.fresh hT, rfl, fun ys hy => by rw [I.tuple_inj hy hq]; exact hx⟩, ⟨st'.1, st'.2.1, hne⟩, fun b hb => ?_⟩
    have hb' : b < s.heap.objs.size := by
      have e' : b = e ∨ b = it := by simpa using hb
      rcases e' with z | z
      · rw [z]; exact hel
      · rw [z]; exact hil
    rw [upd_ne (Nat.ne_of_lt (Nat.lt_of_lt_of_le hb' hT))]
    exact (hf b hb).1
  done := by
    intro X hP hw hK hc i pins s σ H E I hf st hg
    subst hP hw hK
    obtain ⟨⟨old, he⟩, hit, hne⟩ := st
    obtain ⟨xs, hq, hx⟩ := hg
    obtain ⟨its, rv, p, hz⟩ := I.tuple hq
    obtain ⟨n1, n2⟩ := apart3 he hit p
    have D := Draws.tuple (prog := X.prog) (w := X.w) (A := X.A.in1) (I.ok.hd hc) it a n1 its.toArray
    have G := GoesN.enumFrom (elts := elts) (x1 := kk) (pos := tpos) k D e hne (by simp [hne, n2]) (by simp)
    have hl : its.toArray.size = i := by
      have := rv.length
      simp; omega
    rw [hl] at G
    refine G.stops s _ _ ⟨⟨old, he⟩, hit, p⟩ fun h' tk hk htk => ?_
    exact I.turnedL (ch := [e, it]) (fun b o hb q => hk b o hb q) hf
  self := fun A i s Q E st h => let ⟨⟨_, he⟩, _⟩ := st; wpAny_pyIter_enum he h
set_option maxHeartbeats 1000000 in
theorem meets_en1 {v : Value} {o : Obj} {H : Heap → Prop} (B : Begins v o H) :
    Meets (Builtin.«enumerate.__new__» ⟨[.type "enumerate", v], []⟩) (fun _ R s => H s.heap ∧
      R (.ok (.ret (.ref (s.heap.push o).objs.size))) { s with heap := (s.heap.push o).push { cls := .type "enumerate", data := .fields #[.none, .bool false, .ref s.heap.objs.size, rawInt 0, .none, .none] } }) :=
  .of_wp fun prog w A R s h => by
    obtain ⟨hp, g, d, tk, os⟩ := s; obtain ⟨h1, h⟩ := h
    have hsub := sub_enumerate
    have q1 : ∀ {A' : Around} {E : Value → Shared → Prop} {Q : Value → Shared → Prop}, Q (.ref hp.objs.size) ⟨hp.push o, g, d, tk, os⟩ → wpAny (model prog w) A' (pyIter v) Q E ⟨hp, g, d, tk, os⟩ :=
      fun q => B.iter prog w _ _ ⟨hp, g, d, tk, os⟩ _ h1 q
    wp_walk using q1
    refine wpAny_stack_any fun st => wpAny_pure ?_
    split
    · rename_i c _ _ _ _ _
      cases (c == Value.type "enumerate")
      · wp_walk using q1
        exact ⟨_, rfl, h⟩
      · wp_walk using q1
        exact ⟨_, rfl, h⟩
    · wp_walk using q1
      exact ⟨_, rfl, h⟩
theorem en1_begins {prog : Program} {w : World} {A : Around} {E : Value → Shared → Prop} {s : Shared} {v : Value} {o : Obj} {H : Heap → Prop} {Q : Value → Shared → Prop} (B : Begins v o H) (h1 : H s.heap)
    (h : ∀ h', IsEnum h' (s.heap.objs.size + 1) s.heap.objs.size 0 .none → h'.get? s.heap.objs.size = some o → (∀ b o, s.heap.get? b = some o → h'.get? b = some o) → Q (.ref (s.heap.objs.size + 1)) { s with heap := h' }) :
    wpAny (model prog w) A (call (.type "enumerate") [v]) Q E s := by
  refine callType_new F.called_enumerate (by decide) (F.typeCall_enumerate_1 _) (F.newCall_enumerate_1 _) (fun obj => F.args_object_init_2 obj _) F.entry_enumerate_new (meets_en1 B) ⟨h1, ?_⟩
  have hz : (s.heap.push o).objs.size = s.heap.objs.size + 1 := Heap.size_push ..
  show _ ∧ _
  rw [hz]
  have he : IsEnum ((s.heap.push o).push { cls := .type "enumerate", data := .fields #[.none, .bool false, .ref s.heap.objs.size, rawInt 0, .none, .none] }) (s.heap.objs.size + 1) s.heap.objs.size 0 .none := by
    have := Heap.get?_push_size (s.heap.push o) (o := { cls := .type "enumerate", data := .fields #[.none, .bool false, .ref s.heap.objs.size, rawInt 0, .none, .none] }) rfl
    rw [hz] at this; exact this
  exact ⟨⟨_, he, rfl⟩, h _ he (Heap.get?_push_of_some _ (Heap.get?_push_size _ B.free)) fun b o x => Heap.get?_push_of_some _ (Heap.get?_push_of_some _ x)⟩
def iEnT (K : PySem.W.Frag) (ta : TA) : TI := fun σ H R => ta σ H fun vs H1 => ∃ a xs, vs = [.ref a] ∧ SqT K H1 a xs ∧ R (Itn K 0 a) H1
theorem pi_enT {X : Cx} {e : Expr} {ta : TA} {p pos tpos : Pos} {elts : List Expr} {kk : Nat} (hg : Gl X "enumerate") (hm : X.mg "enumerate" = none) (ha : PA X [e] ta) (hs : starEach [e] X.env = [(false, eval e X.env)] := by rfl) :
    PI X (.Tuple elts kk tpos) (.Call (.Name "enumerate" p) [e] [] pos) (iEnT X.K ta) := by
  refine ⟨fun pins s σ H R I h => ?_⟩
  refine PyProof.Rows.Call_ (ld_blt I hg hm PyProof.Rows.boot_enumerate (PyProof.Rows.callWith_type1 (thn (ha.run pos pins s σ H _ I h) fun us s1 ⟨vs, H1, I1, r1, q1⟩ => ?_) hs rfl))
  obtain ⟨a, xs, ex, hq, q⟩ := q1
  subst ex
  cases r1 with
  | cons r rr =>
    cases rr
    cases r
    obtain ⟨its, rv, p', hz⟩ := I1.tuple hq
    refine en1_begins (begins_tuple a its.toArray) p' fun h' he hit hk => wpAny_pyIter_enum he ?_
    have I2 : Inv X pins σ H1 { s1 with heap := h' } := I1.kept (t' := s1.toks) hk
    refine ⟨s1.heap.objs.size + 1, [s1.heap.objs.size + 1, s1.heap.objs.size], _, _, H1, rfl, I2, turn_enT 0 a (s1.heap.objs.size + 1) s1.heap.objs.size, ⟨⟨.none, he⟩, ⟨_, hit, rfl, rfl⟩, Nat.succ_ne_self _⟩, fun b hb => ?_, q⟩
    have e' : b = s1.heap.objs.size + 1 ∨ b = s1.heap.objs.size := by simpa using hb
    have hle : s1.heap.objs.size ≤ b := by
      rcases e' with z | z
      · rw [z]; exact Nat.le_add_right _ _
      · rw [z]; exact Nat.le_refl _
    exact I1.fpOk hle (I1.hok.fresh hle)
def iEnA (K : PySem.W.Frag) (ta : TA) : TI := fun σ H R => iEnum K ta σ H R ∨ iEnT K ta σ H R
theorem pi_enA {X : Cx} {e : Expr} {ta : TA} {p pos tpos : Pos} {elts : List Expr} {kk : Nat} (hg : Gl X "enumerate") (hm : X.mg "enumerate" = none) (ha : PA X [e] ta) (hs : starEach [e] X.env = [(false, eval e X.env)] := by rfl) :
    PI X (.Tuple elts kk tpos) (.Call (.Name "enumerate" p) [e] [] pos) (iEnA X.K ta) :=
  ⟨fun pins s σ H R I q => by
    rcases q with q | q
    · exact (pi_enum hg hm ha hs).run pins s σ H R I q
    · exact (pi_enT hg hm ha hs).run pins s σ H R I q⟩
def enumD (k : Int) (ds : List D) : List D := ds.mapIdx fun i d => .tup [.int (k + (i : Nat)), d]
section
variable {K : PySem.W.Frag} {B : XK} {F : Hp}
theorem enumD_len (k : Int) (ds : List D) : (enumD k ds).length = ds.length := by simp [enumD]
theorem enumD_get {k : Int} {ds : List D} {i : Nat} {d : D} (h : (enumD k ds)[i]? = some d) : ∃ e, ds[i]? = some e ∧ d = .tup [.int (k + (i : Nat)), e] := by
  unfold enumD at h
  rw [List.getElem?_mapIdx] at h
  cases q : ds[i]? with
  | none => rw [q] at h; cases h
  | some e => rw [q] at h; cases h; exact ⟨e, rfl, rfl⟩
theorem pair_fz {F2 : Hp} {p : Addr} {v w : V} {d e : D} (hp : F2 p = none) (z : Fz K F2 w e) (n : Int) : Fz K (upd F2 p (.tup [.int n, w])) (.ref p) (.tup [.int n, e]) :=
  .tup (sqT_of upd_same) (.cons (.int n) (.cons (z.mono (Le.new hp)) .nil))
theorem walk_enum {a : Addr} {xs : List V} {ds : List D} (h : SqL K F a xs) (l : FzL K F xs ds) : Walk K F (Ite K a) (enumD 0 ds) where
  go := fun k F2 H2 l1 l2 hk => by
    rw [enumD_len] at hk
    have hk' : k < xs.length := by rw [l.length]; exact hk
    exact ⟨xs, xs[k], sqL_mono (l1.trans l2) h, by simp [hk']⟩
  yld := fun k F2 H2 x H3 d l1 l2 hd y => by
    obtain ⟨T, v, rfl, hT, rfl, y⟩ := y
    obtain ⟨e, he, rfl⟩ := enumD_get hd
    obtain ⟨v', h1, h2⟩ := l.get he
    have e2 := y xs (sqL_mono (l1.trans l2) h)
    rw [h1] at e2; cases e2
    have fT : F2 T = none := by
      cases q : F2 T with
      | none => rfl
      | some o => rw [l2 T o q] at hT; cases hT
    have := pair_fz (v := V.non) (d := D.non) fT (h2.mono l1) (k : Nat)
    rw [Int.zero_add]
    exact .inr ⟨T, .tup _, fun z => z, hT, rfl, this⟩
  stop := fun F2 H2 l1 l2 => by
    rw [enumD_len]
    exact ⟨xs, sqL_mono (l1.trans l2) h, by rw [l.length]; exact Nat.le_refl _⟩
theorem walk_enT {a : Addr} {xs : List V} {ds : List D} {n : Int} (h : SqT K F a xs) (l : FzL K F xs ds) : Walk K F (Itn K n a) (enumD n ds) where
  go := fun k F2 H2 l1 l2 hk => by
    rw [enumD_len] at hk
    have hk' : k < xs.length := by rw [l.length]; exact hk
    exact ⟨xs, xs[k], sqT_mono (l1.trans l2) h, by simp [hk']⟩
  yld := fun k F2 H2 x H3 d l1 l2 hd y => by
    obtain ⟨T, v, rfl, hT, rfl, y⟩ := y
    obtain ⟨e, he, rfl⟩ := enumD_get hd
    obtain ⟨v', h1, h2⟩ := l.get he
    have e2 := y xs (sqT_mono (l1.trans l2) h)
    rw [h1] at e2; cases e2
    have fT : F2 T = none := by
      cases q : F2 T with
      | none => rfl
      | some o => rw [l2 T o q] at hT; cases hT
    have := pair_fz (v := V.non) (d := D.non) fT (h2.mono l1) (n + (k : Nat))
    exact .inr ⟨T, .tup _, fun z => z, hT, rfl, this⟩
  stop := fun F2 H2 l1 l2 => by
    rw [enumD_len]
    exact ⟨xs, sqT_mono (l1.trans l2) h, l.length⟩
def wE (g : DEnv → Rz (List D × DEnv)) : DEnv → Rz (List D × DEnv) := fun δ => (g δ).bind fun p => match p.1 with
  | [.lst l] => .ok (enumD 0 l, p.2)
  | [.tup l] => .ok (enumD 0 l, p.2)
  | _ => .no
theorem dw_enA {t : TA} {g : DEnv → Rz (List D × DEnv)} (h : DA K B t g) : DW K B (iEnA K t) (wE g) := fun c R δ σ F H s Q q => by
  unfold wE at q
  cases e : g δ with
  | no => rw [e] at q; exact q.elim
  | er x =>
    rw [e] at q
    exact .inl (h c R δ σ F H s _ (by rw [e]; exact q))
  | ok p =>
    rw [e] at q
    obtain ⟨ds, δ1⟩ := p
    cases ds with
    | nil => exact q.elim
    | cons d r =>
      cases r with
      | cons _ _ => cases d <;> exact q.elim
      | nil =>
        cases d with
        | lst l =>
          refine .inl (h c R δ σ F H s _ ?_)
          rw [e]
          intro vs F1 H1 s1 l1 h1 z1
          cases z1 with
          | cons y ys =>
            cases ys
            cases y with
            | lst ha m => exact ⟨_, _, rfl, sqL_mono s1.sub (sqL_of ha), q _ F1 H1 s1 l1 h1 (walk_enum (sqL_of ha) m)⟩
        | tup l =>
          refine .inr (h c R δ σ F H s _ ?_)
          rw [e]
          intro vs F1 H1 s1 l1 h1 z1
          cases z1 with
          | cons y ys =>
            cases ys
            cases y with
            | tup ha m => exact ⟨_, _, rfl, sqT_mono s1.sub ha, q _ F1 H1 s1 l1 h1 (walk_enT ha m)⟩
        | _ => exact q.elim
end
end DL

/-! DLC: words of the printed text. -/
namespace DL
open PySem L2

section
variable {K : PySem.W.Frag} {B : XK}
def gC (d : D) : DEnv → Rz (D × DEnv) := fun δ => .ok (d, δ)
theorem di_c {v : V} {d : D} (h : ∀ F, Fz K F v d) : DI K B (tC v) (gC d) := fun c R δ σ F H s Q q => q v F H s (Le.refl F) Held.refl (h F)
theorem di_k {v : V} {d : D} (h : ∀ F, Fz K F v d := by intro F; constructor) : DI K B (tC v) (gC d) := di_c h
theorem sx_k {v : V} {d : D} (h : ∀ F, Fz K F v d := by intro F; constructor) : SX K (tC v) (fun _ => some d) := sx_c h
def fS2 (f : D → D → Option D) (fa fb : DEnv → Option D) : DEnv → Option D := fun δ => (fa δ).bind fun a => (fb δ).bind fun b => f a b
end
section
variable {P : Program} {w : World} {K : PySem.W.Frag} {mg : Str → Option Value} {base : Heap} {N : List Str} {qual : Str} {scope : Scope} {f : Addr} {cd : Value} {A : Around} {outer : List Env} {s : Shared} {H : Hp} {E : XK}
theorem hpx : PassesOwn (model P w) (cxOf (L2.CX P w) P w K mg base N qual scope f cd A outer s H E).A (cxOf (L2.CX P w) P w K mg base N qual scope f cd A outer s H E).env (cxOf (L2.CX P w) P w K mg base N qual scope f cd A outer s H E).xe :=
  passes_of (X := cxOf (L2.CX P w) P w K mg base N qual scope f cd A outer s H E) rfl
theorem hxx : Passes (L2.CX P w) (cxOf (L2.CX P w) P w K mg base N qual scope f cd A outer s H E) E := passes_call (takes_of rfl rfl rfl rfl) fun _ _ _ _ z => z
end
theorem b_len : bootBuiltins "len" = some (.builtin "len") := by decide +kernel
theorem b_isinstance : bootBuiltins "isinstance" = some (.builtin "isinstance") := by decide +kernel
theorem b_all : bootBuiltins "all" = some (.builtin "all") := by decide +kernel
theorem b_any : bootBuiltins "any" = some (.builtin "any") := by decide +kernel
theorem b_sum : bootBuiltins "sum" = some (.builtin "sum") := by decide +kernel
theorem b_min : bootBuiltins "min" = some (.builtin "min") := by decide +kernel
theorem b_max : bootBuiltins "max" = some (.builtin "max") := by decide +kernel
theorem b_int : bootBuiltins "int" = some (.type "int") := by decide +kernel
theorem b_str : bootBuiltins "str" = some (.type "str") := by decide +kernel
theorem b_bool : bootBuiltins "bool" = some (.type "bool") := by decide +kernel
theorem b_list : bootBuiltins "list" = some (.type "list") := by decide +kernel
theorem b_tuple : bootBuiltins "tuple" = some (.type "tuple") := by decide +kernel
/-- a def of the module -/
structure GF (K : PySem.W.Frag) (mg : Str → Option Value) (x : Str) (st : Stmt) (f : Addr) (fd : FuncData) (ps : List Str) : Prop where
  F : Fun K x x st f fd
  b : Binds K fd ps []
  m : mg x = some (.ref f)
theorem GF.k {K : PySem.W.Frag} {mg : Str → Option Value} {x : Str} {st : Stmt} {f : Addr} {fd : FuncData} {ps : List Str} (g : GF K mg x st f fd ps) : PySem.W.keepIn K (.ref f) = true := g.F.kp
/-- a method -/
structure GM (K : PySem.W.Frag) (x qual : Str) (st : Stmt) (f : Addr) (fd : FuncData) (ps : List Str) (C : Addr) : Prop where
  F : Fun K x qual st f fd
  b : Binds K fd ps []
  m : Meth K C x f
/-- a class's __init__ -/
structure GI (K : PySem.W.Frag) (mg : Str → Option Value) (cn qual : Str) (st : Stmt) (f : Addr) (fd : FuncData) (ps : List Str) (C : Addr) : Prop where
  F : Fun K "__init__" qual st f fd
  b : Binds K fd ps []
  me : Mk K C f
  mc : mg cn = some (.ref C)
end DL

/-! DLD: the law's own end. -/
namespace DL
open PySem L2

/-- the script, as law gets it -/
abbrev scrO (ns : List Int) : O := .fz (.scr (ns.map D.int))
def Small (ns : List Int) : Prop := ns.length ≤ 63 ∧ ∀ z ∈ ns, Builtin.Int.intBits z ≤ 1048576
def spL (K : PySem.W.Frag) : Sp := fun vs H Q _ => ∃ (a : Addr) (ns : List Int), vs = [.ref a] ∧ SqL K H a (ns.map V.int) ∧ Small ns ∧ Only H ∧ Q = fun v _ => v = .bl true
theorem FzL.ints {K : PySem.W.Frag} {F : Hp} : ∀ ns : List Int, FzL K F (ns.map V.int) (ns.map D.int)
  | [] => .nil
  | n :: r => .cons (.int n) (FzL.ints r)
theorem spL_D {K : PySem.W.Frag} {Φ : List O → Rz (O × List O)} (h : ∀ ns : List Int, Small ns → Φ [scrO ns] = .ok (.fz (.bl true), [])) (vs : List V) (H : Hp) (Q : VK) (E : XK) (q : spL K vs H Q E) : spD K 1 [] Φ vs H Q E := by
  obtain ⟨a, ns, rfl, hS, hs, hO, rfl⟩ := q
  refine ⟨[scrO ns], H, fun _ => False, rfl, fun a o e => e, fun b o e t => ?_, .cons (S1 := fun _ => False) (S2 := fun _ => False) (fun _ z => z) (fun _ z => z) (fun _ _ z => z) (.fz (.scr hS (FzL.ints ns))) .nil, fun _ z => z.elim, ?_⟩
  · rcases hO b with z | ⟨u, xs, z⟩
    · rw [z] at e; cases e
    · rw [z] at e; cases e; exact t
  · rw [h ns hs]
    intro v F' H' Sr S' _ _ w _
    cases w with
    | fz z => cases z; rfl
theorem cx_none {P : Program} {w : World} {H : Hp} {s : Shared} {e : Value} {s' : Shared} (h : L2.CX P w [] H s (fun _ _ _ => False) e s') : False := by
  obtain ⟨_, _, _, _, _, _, _, _, _, _, _, _, z⟩ := h
  exact z
theorem walkD {k : Nat} {l : PySem.W.OpenLaw} {q : Program} {loose : List Str} {XP : (Str → Option Value) → Heap → Prop} {YP : World → Heap → Prop} {d : DefRec} {K : Params → PySem.W.Frag} (hr : Room k callerA) (hn : l.most = some 63) (hdf : d.params.defaults = [])
    (hY : ∀ (w : World) (h : Heap), YP w h → (K w.params).In h)
    (F : ∀ (w : World) (mg : Str → Option Value) (fa : Addr) (h : Heap), (K w.params).In h → h.Ns mainGlobals mg → mg d.name = some (.ref fa) →
      ∃ fd : FuncData, (∀ (s : Shared) (u : Value), BindsTo s fd ⟨[u], []⟩ [("script", u)]) ∧ ∀ base : Heap, (K w.params).In base → base.Ns mainGlobals mg → FnOk l.prog w (K w.params) mg base (L2.CX l.prog w) k fa fd ["script"] (spL (K w.params))) :
    PySem.W.WalkO q loose XP YP l.row.toRowW d [] (fun f vs => PySem.call f vs) :=
  L2.walk_ofB (n := 63) (k := k) (x := "script") (CX := fun w => L2.CX l.prog w) (sp := fun w => spL (K w.params)) hn (by decide) hdf hr hY F (fun _ _ a ns hl hb hO hS => ⟨a, ns, rfl, hS, ⟨hl, hb⟩, hO, rfl⟩) fun _ _ _ _ _ z => cx_none z
end DL

namespace DL
open PySem L2
structure Cs where
  PatternNet : Addr

abbrev Ph := List O → Rz (O × List O)
noncomputable def body1_law_numbers (c : Cs) : Run :=
  (rSeq (rIf (gB (g2 fEq (gV 3) (gC (D.int 0)))) rBreak rNext)
  (rSeq (rApp 1 (gO (g2 fMod (gN fInt (gaCons (gV 3) gaNil)) (gC (D.int 997)))))
  (rSet 3 (gO (g2 fDiv (gV 3) (gC (D.int 997)))))))
noncomputable def body2_law_numbers (c : Cs) : Run :=
  (rSeq (rSet 5 (gO (g2 fMod (gN fInt (gaCons (gZ (gX2 fAdd (gZ (gX2 fAdd (g2 fMulI (gV 2) (gC (D.int 48271))) (g2 fMulI (gV 4) (gC (D.int 69621))))) (gC (D.int 11)))) gaNil)) (gC (D.int 2147483647)))))
  (rApp 1 (gO (g2 fMod (gN fInt (gaCons (gZ (gX2 fAdd (g2 fMulI (gV 5) (gC (D.int 16807))) (gV 4))) gaNil)) (gC (D.int 2147483629))))))
noncomputable def body3_law_numbers (c : Cs) : Run :=
  (rIf (gB (g2 fGe (gV 2) (g2 fPow (gC (D.int 10)) (gC (D.int 18))))) (rSeq (rSet 3 (gO (gV 2)))
  (rFor (wR1 (gaCons (gC (D.int 60)) gaNil)) (tgN 4) (body1_law_numbers c))) (rFor (wR1 (gaCons (gC (D.int 4)) gaNil)) (tgN 4) (body2_law_numbers c)))
noncomputable def run_law_numbers (c : Cs) : Run :=
  (rSeq (rSet 1 (gaLst gaNil))
  (rSeq (rFor (wA (gZ (gSlL (gV 0) (fun δ => .ok (none, δ)) (gPart (gC (D.int 63)))))) (tgN 2) (body3_law_numbers c))
  (rSeq (rIf (gB (g2 fEq (gS (fLenP (pV 1))) (gC (D.int 0)))) (rApp 1 (gO (gC (D.int 0)))) rNext)
  (rRet (gO (gV 1))))))
noncomputable def phi_law_numbers (c : Cs) : Ph := phi 6 1 [] (run_law_numbers c)
noncomputable def run_law_draw (c : Cs) : Run :=
  (rSeq (rIf (gB (g2 fLt (gV 1) (gN fLen (gaCons (gV 0) gaNil)))) (rRet (gO (g2 fMod (gN fInt (gaCons (g2 fIx (gV 0) (gV 1)) gaNil)) (gV 2)))) rNext)
  (rSeq (rSet 3 (gO (g2 fMod (gN fInt (gaCons (gZ (gX2 fAdd (gZ (gX2 fAdd (g2 fMulI (g2 fIx (gV 0) (g2 fMod (gN fInt (gaCons (gV 1) gaNil)) (gN fLen (gaCons (gV 0) gaNil)))) (gC (D.int 40692))) (g2 fMulI (gV 1) (gC (D.int 7919))))) (gC (D.int 3)))) gaNil)) (gC (D.int 2147483399)))))
  (rRet (gO (g2 fMod (gN fInt (gaCons (g2 fMod (gN fInt (gaCons (gZ (gX2 fAdd (g2 fMulI (gV 3) (gC (D.int 48271))) (gV 1))) gaNil)) (gC (D.int 2147483647))) gaNil)) (gV 2))))))
noncomputable def phi_law_draw (c : Cs) : Ph := phi 4 3 [] (run_law_draw c)
noncomputable def run_law_take (c : Cs) : Run :=
  (rSeq (rSetIx 1 (gZ (gX2 fAdd (gS (fP (pI (pV 1) (fun _ => some (D.int 0))))) (gC (D.int 1)))) (gC (D.int 0)))
  (rRet (gCall 3 [] (phi_law_draw c) (gAD (gV 0) (gAD (g2 fSub (gS (fP (pI (pV 1) (fun _ => some (D.int 0))))) (gC (D.int 1))) (gAD (gV 2) gANil))))))
noncomputable def phi_law_take (c : Cs) : Ph := phi 3 3 [1] (run_law_take c)
noncomputable def run_law_pick (c : Cs) : Run :=
  (rRet (gO (g2 fIx (gV 2) (gZ (gCall 3 [1] (phi_law_take c) (gAD (gV 0) (gAA 1 (gAD (gN fLen (gaCons (gV 2) gaNil)) gANil))))))))
noncomputable def phi_law_pick (c : Cs) : Ph := phi 3 3 [1] (run_law_pick c)
noncomputable def elt1_law_pattern (c : Cs) (Φ_law_pattern : Ph) : DEnv → Rz (O × DEnv) :=
  (gCall 4 [1] Φ_law_pattern (gAD (gV 0) (gAA 1 (gAD (g2 fSub (gV 2) (gC (D.int 1))) (gAD (gV 3) gANil)))))
noncomputable def run_law_pattern (c : Cs) (Φ_law_pattern : Ph) : Run :=
  (rSeq (rSet 4 (gCall 3 [1] (phi_law_take c) (gAD (gV 0) (gAA 1 (gAD (gC (D.int 9)) gANil)))))
  (rSeq (rIf (gOr (gB (g2 fLe (gV 2) (gC (D.int 1)))) (gB (g2 fLe (gV 4) (gC (D.int 2))))) (rRet (gO (gIf (gB (g2 fEq (gZ (gCall 3 [1] (phi_law_take c) (gAD (gV 0) (gAA 1 (gAD (gC (D.int 4)) gANil))))) (gC (D.int 0)))) (gaTup (gaCons (gC (D.str "any")) gaNil)) (gaTup (gaCons (gC (D.str "one")) (gaCons (gZ (gCall 3 [1] (phi_law_pick c) (gAD (gV 0) (gAA 1 (gAD (gV 3) gANil))))) gaNil)))))) rNext)
  (rSeq (rIf (gB (g2 fLe (gV 4) (gC (D.int 4)))) (rRet (gO (gaTup (gaCons (gC (D.str "many")) (gaCons (gZ (gCall 4 [1] Φ_law_pattern (gAD (gV 0) (gAA 1 (gAD (g2 fSub (gV 2) (gC (D.int 1))) (gAD (gV 3) gANil)))))) gaNil))))) rNext)
  (rSeq (rSet 5 (gO (gN fTupOf (gaCons (gZ (gLc (wR1 (gaCons (gZ (gX2 fAdd (gC (D.int 2)) (gZ (gCall 3 [1] (phi_law_take c) (gAD (gV 0) (gAA 1 (gAD (gC (D.int 2)) gANil))))))) gaNil)) (tgN 6) (fun δ => .ok (true, δ)) (elt1_law_pattern c Φ_law_pattern) [6])) gaNil))))
  (rRet (gO (gaTup (gaCons (gIf (gB (g2 fLe (gV 4) (gC (D.int 6)))) (gC (D.str "row")) (gC (D.str "either"))) (gaCons (gV 5) gaNil)))))))))
noncomputable def phi_law_pattern (c : Cs) : Nat → Ph
  | 0 => fun _ => .no
  | n + 1 => phi 7 4 [1] (run_law_pattern c (phi_law_pattern c n))
noncomputable def elt1_law_p_count (c : Cs) (Φ_law_p_count : Ph) : DEnv → Rz (O × DEnv) :=
  (gCall 1 [] Φ_law_p_count (gAD (gV 1) gANil))
noncomputable def run_law_p_count (c : Cs) (Φ_law_p_count : Ph) : Run :=
  (rSeq (rIf (gB (g2 (fIn false) (g2 fIx (gV 0) (gC (D.int 0))) (gZ (gaLst (gaCons (gC (D.str "one")) (gaCons (gC (D.str "any")) gaNil)))))) (rRet (gO (gC (D.int 1)))) rNext)
  (rSeq (rIf (gB (g2 fEq (g2 fIx (gV 0) (gC (D.int 0))) (gC (D.str "many")))) (rRet (gX2 fAdd (gC (D.int 1)) (gZ (gCall 1 [] Φ_law_p_count (gAD (g2 fIx (gV 0) (gC (D.int 1))) gANil))))) rNext)
  (rRet (gX2 fAdd (gC (D.int 1)) (gN fSum (gaCons (gZ (gLc (wA (g2 fIx (gV 0) (gC (D.int 1)))) (tgN 1) (fun δ => .ok (true, δ)) (elt1_law_p_count c Φ_law_p_count) [1])) gaNil))))))
noncomputable def phi_law_p_count (c : Cs) : Nat → Ph
  | 0 => fun _ => .no
  | n + 1 => phi 2 1 [] (run_law_p_count c (phi_law_p_count c n))
noncomputable def body1_law_small_pattern (c : Cs) : Run :=
  (rSeq (rSet 4 (gCall 4 [1] (phi_law_pattern c 6) (gAD (gV 0) (gAA 1 (gAD (gZ (gX2 fAdd (gC (D.int 1)) (gZ (gCall 3 [1] (phi_law_take c) (gAD (gV 0) (gAA 1 (gAD (gC (D.int 4)) gANil))))))) (gAD (gV 2) gANil))))))
  (rIf (gB (g2 fLe (gZ (gCall 1 [] (phi_law_p_count c 6) (gAD (gV 4) gANil))) (gC (D.int 12)))) (rRet (gO (gV 4))) rNext))
noncomputable def run_law_small_pattern (c : Cs) : Run :=
  (rSeq (rFor (wR1 (gaCons (gC (D.int 8)) gaNil)) (tgN 3) (body1_law_small_pattern c))
  (rRet (gO (gaTup (gaCons (gC (D.str "one")) (gaCons (g2 fIx (gV 2) (gC (D.int 0))) gaNil))))))
noncomputable def phi_law_small_pattern (c : Cs) : Ph := phi 5 3 [1] (run_law_small_pattern c)
noncomputable def body1_law_so (c : Cs) (Φ_law_so : Ph) : Run :=
  (rIf (gNot (gB (gZ (gCall 2 [] Φ_law_so (gAD (g2 fIx (gV 0) (gV 2)) (gAD (g2 fIx (gV 1) (gV 2)) gANil)))))) (rRet (gO (gC (D.bl false)))) rNext)
noncomputable def run_law_so (c : Cs) (Φ_law_so : Ph) : Run :=
  (rSeq (rIf (gB (g2 fIsN (gV 1) (gC D.non))) (rRet (gO (g2 fIsN (gV 0) (gC D.non)))) rNext)
  (rSeq (rIf (gB (gIs isTup (gV 1))) (rSeq (rIf (gOr (gNot (gB (gIs isTup (gV 0)))) (gB (g2 fNe (gN fLen (gaCons (gV 0) gaNil)) (gN fLen (gaCons (gV 1) gaNil))))) (rRet (gO (gC (D.bl false)))) rNext)
  (rSeq (rFor (wR1 (gaCons (gN fLen (gaCons (gV 1) gaNil)) gaNil)) (tgN 2) (body1_law_so c Φ_law_so))
  (rRet (gO (gC (D.bl true)))))) rNext)
  (rSeq (rIf (gOr (gB (gIs isBool (gV 1))) (gB (gIs isBool (gV 0)))) (rRet (gO (gAndV (gIs isBool (gV 1)) (gAndV (gIs isBool (gV 0)) (g2 fEq (gV 0) (gV 1)))))) rNext)
  (rSeq (rIf (gB (gIs isInt (gV 1))) (rRet (gO (gAndV (gIs isInt (gV 0)) (g2 fEq (gV 0) (gV 1))))) rNext)
  (rRet (gO (gAndV (gIs isStr (gV 1)) (gAndV (gIs isStr (gV 0)) (g2 fEq (gV 0) (gV 1))))))))))
noncomputable def phi_law_so (c : Cs) : Nat → Ph
  | 0 => fun _ => .no
  | n + 1 => phi 3 2 [] (run_law_so c (phi_law_so c n))
noncomputable def run_is_sequence (c : Cs) : Run :=
  (rRet (gO (gIs isSeq (gV 0))))
noncomputable def phi_is_sequence (c : Cs) : Ph := phi 1 1 [] (run_is_sequence c)
noncomputable def run_is_row (c : Cs) : Run :=
  (rRet (gO (gAndV (gZ (gCall 1 [] (phi_is_sequence c) (gAD (gV 0) gANil))) (gAndV (g2 fLe (gV 1) (gN fLen (gaCons (gV 0) gaNil))) (g2 fLe (gN fLen (gaCons (gV 0) gaNil)) (gV 2))))))
noncomputable def phi_is_row (c : Cs) : Ph := phi 3 3 [] (run_is_row c)
noncomputable def elt1_is_name (c : Cs) : DEnv → Rz (O × DEnv) :=
  (gO (g2 fInSign (gV 1) (gC (D.str "abcdefghijklmnopqrstuvwxyz"))))
noncomputable def run_is_name (c : Cs) : Run :=
  (rSeq (rIf (gOr (gNot (gB (gIs isStr (gV 0)))) (gOr (gB (g2 fEq (gN fLen (gaCons (gV 0) gaNil)) (gC (D.int 0)))) (gOr (gB (g2 fGt (gN fLen (gaCons (gV 0) gaNil)) (gC (D.int 8)))) (gB (g2 (fIn false) (gV 0) (gC (D.tup [(D.str "and"), (D.str "or"), (D.str "of"), (D.str "always"), (D.str "never")]))))))) (rRet (gO (gC (D.bl false)))) rNext)
  (rRet (gO (gN fAll (gaCons (gZ (gLc (wA (gV 0)) (tgN 1) (fun δ => .ok (true, δ)) (elt1_is_name c) [1])) gaNil)))))
noncomputable def phi_is_name (c : Cs) : Ph := phi 2 1 [] (run_is_name c)
noncomputable def run_is_outline (c : Cs) : Run :=
  (rSeq (rIf (gOr (gNot (gB (gZ (gCall 3 [] (phi_is_row c) (gAD (gV 0) (gAD (gC (D.int 1)) (gAD (gC (D.int 2)) gANil))))))) (gNot (gB (gIs isStr (g2 fIx (gV 0) (gC (D.int 0))))))) (rRet (gO (gC (D.bl false)))) rNext)
  (rSeq (rIf (gB (g2 fEq (gN fLen (gaCons (gV 0) gaNil)) (gC (D.int 1)))) (rRet (gO (g2 fEq (g2 fIx (gV 0) (gC (D.int 0))) (gC (D.str "any"))))) rNext)
  (rSeq (rIf (gB (g2 fEq (g2 fIx (gV 0) (gC (D.int 0))) (gC (D.str "one")))) (rRet (gCall 1 [] (phi_is_name c) (gAD (g2 fIx (gV 0) (gC (D.int 1))) gANil))) rNext)
  (rSeq (rIf (gOr (gB (g2 fEq (g2 fIx (gV 0) (gC (D.int 0))) (gC (D.str "row")))) (gB (g2 fEq (g2 fIx (gV 0) (gC (D.int 0))) (gC (D.str "either"))))) (rRet (gCall 3 [] (phi_is_row c) (gAD (g2 fIx (gV 0) (gC (D.int 1))) (gAD (gC (D.int 2)) (gAD (gC (D.int 5)) gANil))))) rNext)
  (rRet (gO (g2 fEq (g2 fIx (gV 0) (gC (D.int 0))) (gC (D.str "many")))))))))
noncomputable def phi_is_outline (c : Cs) : Ph := phi 1 1 [] (run_is_outline c)
noncomputable def run_inner_patterns (c : Cs) : Run :=
  (rSeq (rIf (gB (g2 fEq (g2 fIx (gV 0) (gC (D.int 0))) (gC (D.str "many")))) (rRet (gaLst (gaCons (g2 fIx (gV 0) (gC (D.int 1))) gaNil))) rNext)
  (rSeq (rIf (gOr (gB (g2 fEq (g2 fIx (gV 0) (gC (D.int 0))) (gC (D.str "row")))) (gB (g2 fEq (g2 fIx (gV 0) (gC (D.int 0))) (gC (D.str "either"))))) (rRet (gXN fListOf (gaCons (g2 fIx (gV 0) (gC (D.int 1))) gaNil))) rNext)
  (rRet (gaLst gaNil))))
noncomputable def phi_inner_patterns (c : Cs) : Ph := phi 1 1 [] (run_inner_patterns c)
noncomputable def body1_is_pattern (c : Cs) : Run :=
  (rApp 2 (gO (gaTup (gaCons (gV 5) (gaCons (gZ (gX2 fAdd (gV 4) (gC (D.int 1)))) gaNil)))))
noncomputable def body2_is_pattern (c : Cs) : Run :=
  (rSeq (rAsg (gPop 2 (pV 2)) (tgTup 2 (tgCons (tgN 3) (tgCons (tgN 4) tgNil))))
  (rSeq (rAug 1 fAddI (gC (D.int 1)))
  (rSeq (rIf (gOr (gB (g2 fGt (gV 1) (gC (D.int 12)))) (gOr (gB (g2 fGt (gV 4) (gC (D.int 5)))) (gNot (gB (gZ (gCall 1 [] (phi_is_outline c) (gAD (gV 3) gANil))))))) (rRet (gO (gC (D.bl false)))) rNext)
  (rFor (wA (gZ (gCall 1 [] (phi_inner_patterns c) (gAD (gV 3) gANil)))) (tgN 5) (body1_is_pattern c)))))
noncomputable def run_is_pattern (c : Cs) : Run :=
  (rSeq (rSet 1 (gO (gC (D.int 0))))
  (rSeq (rSet 2 (gaLst (gaCons (gaTup (gaCons (gV 0) (gaCons (gC (D.int 1)) gaNil))) gaNil)))
  (rSeq (rWhile (fTruP (pV 2)) (body2_is_pattern c))
  (rRet (gO (gC (D.bl true)))))))
noncomputable def phi_is_pattern (c : Cs) : Ph := phi 6 1 [] (run_is_pattern c)
noncomputable def elt1_check_diary (c : Cs) : DEnv → Rz (O × DEnv) :=
  (gCall 1 [] (phi_is_name c) (gAD (gV 2) gANil))
noncomputable def run_check_diary (c : Cs) : Run :=
  (rSeq (rIf (gNot (gB (gZ (gCall 1 [] (phi_is_pattern c) (gAD (gV 0) gANil))))) rNever rNext)
  (rIf (gOr (gNot (gB (gZ (gCall 3 [] (phi_is_row c) (gAD (gV 1) (gAD (gC (D.int 0)) (gAD (gC (D.int 30)) gANil))))))) (gNot (gB (gN fAll (gaCons (gZ (gLc (wA (gV 1)) (tgN 2) (fun δ => .ok (true, δ)) (elt1_check_diary c) [2])) gaNil))))) rNever rNext))
noncomputable def phi_check_diary (c : Cs) : Ph := phi 3 2 [] (run_check_diary c)
noncomputable def run_PatternNet_laid_event (c : Cs) : Run :=
  (rSeq (rSet 2 (gO (g2 fShl (gC (D.int 1)) (gS (fLenP (pF c.PatternNet "wanted" (pV 0)))))))
  (rSeq (rAppP 0 (pF c.PatternNet "wanted" (pV 0)) (fP (pV 1)))
  (rSeq (rAppP 0 (pF c.PatternNet "behind" (pV 0)) (fun _ => some (D.int 0)))
  (rRet (gO (gaTup (gaCons (gC (D.bl false)) (gaCons (gV 2) (gaCons (gV 2) gaNil)))))))))
noncomputable def phi_PatternNet_laid_event (c : Cs) : Ph := phi 3 2 [0] (run_PatternNet_laid_event c)
noncomputable def body1_PatternNet_lead (c : Cs) : Run :=
  (rIf (gB (g2 fEq (g2 fAnd (g2 fShr (gV 1) (gV 3)) (gC (D.int 1))) (gC (D.int 1)))) (rAugIx 0 (pF c.PatternNet "behind" (pV 0)) (fP (pV 3)) (fP (pV 2)) fOr) rNext)
noncomputable def run_PatternNet_lead (c : Cs) : Run :=
  (rFor (wR1 (gaCons (gS (fLenP (pF c.PatternNet "behind" (pV 0)))) gaNil)) (tgN 3) (body1_PatternNet_lead c))
noncomputable def phi_PatternNet_lead (c : Cs) : Ph := phi 4 3 [0] (run_PatternNet_lead c)
noncomputable def body1_PatternNet_laid_either (c : Cs) (Φ_PatternNet_laid : Ph) : Run :=
  (rSeq (rAsg (gZ (gMethA c.PatternNet "laid" 0 2 [0] Φ_PatternNet_laid (gAD (gV 5) gANil))) (tgTup 3 (tgCons (tgN 6) (tgCons (tgN 7) (tgCons (tgN 8) tgNil)))))
  (rSeq (rAug 3 fOr (gV 7))
  (rSeq (rAug 4 fOr (gV 8))
  (rSet 2 (gO (gOrV (gV 2) (gV 6)))))))
noncomputable def run_PatternNet_laid_either (c : Cs) (Φ_PatternNet_laid : Ph) : Run :=
  (rSeq (rAsg (gaTup (gaCons (gC (D.bl false)) (gaCons (gC (D.int 0)) (gaCons (gC (D.int 0)) gaNil)))) (tgTup 3 (tgCons (tgN 2) (tgCons (tgN 3) (tgCons (tgN 4) tgNil)))))
  (rSeq (rFor (wA (gV 1)) (tgN 5) (body1_PatternNet_laid_either c Φ_PatternNet_laid))
  (rRet (gO (gaTup (gaCons (gV 2) (gaCons (gV 3) (gaCons (gV 4) gaNil))))))))
noncomputable def phi_PatternNet_laid_either (c : Cs) (Φ : Ph) : Ph := phi 9 2 [0] (run_PatternNet_laid_either c Φ)
noncomputable def body1_PatternNet_laid_row (c : Cs) (Φ_PatternNet_laid : Ph) : Run :=
  (rSeq (rAsg (gZ (gMethA c.PatternNet "laid" 0 2 [0] Φ_PatternNet_laid (gAD (gV 5) gANil))) (tgTup 3 (tgCons (tgN 6) (tgCons (tgN 7) (tgCons (tgN 8) tgNil)))))
  (rSeq (rDrop (gZ (gMethA c.PatternNet "lead" 0 3 [0] (phi_PatternNet_lead c) (gAD (gV 4) (gAD (gV 7) gANil)))))
  (rSeq (rIf (gTru (gV 2)) (rAug 3 fOr (gV 7)) rNext)
  (rSeq (rSet 4 (gO (gIf (gTru (gV 6)) (g2 fOr (gV 4) (gV 8)) (gV 8))))
  (rSet 2 (gO (gAndV (gV 2) (gV 6))))))))
noncomputable def run_PatternNet_laid_row (c : Cs) (Φ_PatternNet_laid : Ph) : Run :=
  (rSeq (rAsg (gaTup (gaCons (gC (D.bl true)) (gaCons (gC (D.int 0)) (gaCons (gC (D.int 0)) gaNil)))) (tgTup 3 (tgCons (tgN 2) (tgCons (tgN 3) (tgCons (tgN 4) tgNil)))))
  (rSeq (rFor (wA (gV 1)) (tgN 5) (body1_PatternNet_laid_row c Φ_PatternNet_laid))
  (rRet (gO (gaTup (gaCons (gV 2) (gaCons (gV 3) (gaCons (gV 4) gaNil))))))))
noncomputable def phi_PatternNet_laid_row (c : Cs) (Φ : Ph) : Ph := phi 9 2 [0] (run_PatternNet_laid_row c Φ)
noncomputable def run_PatternNet_laid (c : Cs) (Φ_PatternNet_laid_row : Ph) (Φ_PatternNet_laid_either : Ph) (Φ_PatternNet_laid : Ph) : Run :=
  (rSeq (rSet 2 (gO (g2 fIx (gV 1) (gC (D.int 0)))))
  (rSeq (rIf (gB (g2 fEq (gV 2) (gC (D.str "one")))) (rRet (gMethA c.PatternNet "laid_event" 0 2 [0] (phi_PatternNet_laid_event c) (gAD (g2 fIx (gV 1) (gC (D.int 1))) gANil))) rNext)
  (rSeq (rIf (gB (g2 fEq (gV 2) (gC (D.str "any")))) (rRet (gMethA c.PatternNet "laid_event" 0 2 [0] (phi_PatternNet_laid_event c) (gAD (gC D.non) gANil))) rNext)
  (rSeq (rIf (gB (g2 fEq (gV 2) (gC (D.str "row")))) (rRet (gMethA c.PatternNet "laid_row" 0 2 [0] Φ_PatternNet_laid_row (gAD (g2 fIx (gV 1) (gC (D.int 1))) gANil))) rNext)
  (rSeq (rIf (gB (g2 fEq (gV 2) (gC (D.str "either")))) (rRet (gMethA c.PatternNet "laid_either" 0 2 [0] Φ_PatternNet_laid_either (gAD (g2 fIx (gV 1) (gC (D.int 1))) gANil))) rNext)
  (rSeq (rAsg (gZ (gMethA c.PatternNet "laid" 0 2 [0] Φ_PatternNet_laid (gAD (g2 fIx (gV 1) (gC (D.int 1))) gANil))) (tgTup 3 (tgCons (tgN 3) (tgCons (tgN 4) (tgCons (tgN 5) tgNil)))))
  (rSeq (rDrop (gZ (gMethA c.PatternNet "lead" 0 3 [0] (phi_PatternNet_lead c) (gAD (gV 5) (gAD (gV 4) gANil)))))
  (rRet (gO (gaTup (gaCons (gC (D.bl true)) (gaCons (gV 4) (gaCons (gV 5) gaNil)))))))))))))
noncomputable def phi_PatternNet_laid (c : Cs) : Nat → Ph
  | 0 => fun _ => .no
  | n + 1 => phi 6 2 [0] (run_PatternNet_laid c (phi_PatternNet_laid_row c (phi_PatternNet_laid c n)) (phi_PatternNet_laid_either c (phi_PatternNet_laid c n)) (phi_PatternNet_laid c n))
noncomputable def run_PatternNet_init (c : Cs) : Run :=
  (rSeq (rAttr c.PatternNet "wanted" 0 (gaLst gaNil))
  (rSeq (rAttr c.PatternNet "behind" 0 (gaLst gaNil))
  (rSeq (rAsg (gZ (gMethA c.PatternNet "laid" 0 2 [0] (phi_PatternNet_laid c 6) (gAD (gV 1) gANil))) (tgTup 3 (tgCons (tgN 2) (tgCons (tgN 3) (tgCons (tgN 4) tgNil)))))
  (rSeq (rSet 5 (gO (g2 fShl (gC (D.int 1)) (gS (fLenP (pF c.PatternNet "wanted" (pV 0)))))))
  (rSeq (rDrop (gZ (gMethA c.PatternNet "lead" 0 3 [0] (phi_PatternNet_lead c) (gAD (gV 4) (gAD (gV 5) gANil)))))
  (rAttr c.PatternNet "start" 0 (gO (gIf (gTru (gV 2)) (g2 fOr (gV 3) (gV 5)) (gV 3)))))))))
noncomputable def phi_PatternNet_init (c : Cs) : Ph := phi 6 2 [0] (run_PatternNet_init c)
noncomputable def body1_PatternNet_after (c : Cs) : Run :=
  (rIf (gAnd (gB (g2 fEq (g2 fAnd (g2 fShr (gV 1) (gV 4)) (gC (D.int 1))) (gC (D.int 1)))) (gOr (gB (g2 fIsN (gV 5) (gC D.non))) (gB (g2 fEq (gV 5) (gV 2))))) (rAug 3 fOr (g2 fIx (gFld c.PatternNet "behind" (gV 0)) (gV 4))) rNext)
noncomputable def run_PatternNet_after (c : Cs) : Run :=
  (rSeq (rSet 3 (gO (gC (D.int 0))))
  (rSeq (rFor (wE (gaCons (gFld c.PatternNet "wanted" (gV 0)) gaNil)) (tgTup 2 (tgCons (tgN 4) (tgCons (tgN 5) tgNil))) (body1_PatternNet_after c))
  (rRet (gO (gV 3)))))
noncomputable def phi_PatternNet_after (c : Cs) : Ph := phi 6 3 [] (run_PatternNet_after c)
noncomputable def run_PatternNet_ends (c : Cs) : Run :=
  (rRet (gO (g2 fEq (g2 fAnd (g2 fShr (gV 1) (gN fLen (gaCons (gFld c.PatternNet "wanted" (gV 0)) gaNil))) (gC (D.int 1))) (gC (D.int 1)))))
noncomputable def phi_PatternNet_ends (c : Cs) : Ph := phi 2 2 [] (run_PatternNet_ends c)
noncomputable def body1_fits (c : Cs) : Run :=
  (rSet 3 (gMethD c.PatternNet "after" 3 [] (phi_PatternNet_after c) (gV 2) (gAD (gV 3) (gAD (gV 4) gANil))))
noncomputable def run_fits (c : Cs) : Run :=
  (rSeq (rDrop (gZ (gCall 2 [] (phi_check_diary c) (gAD (gV 0) (gAD (gV 1) gANil)))))
  (rSeq (rSet 2 (gMake c.PatternNet 2 (phi_PatternNet_init c) (gaCons (gV 0) gaNil)))
  (rSeq (rSet 3 (gO (gFld c.PatternNet "start" (gV 2))))
  (rSeq (rFor (wA (gV 1)) (tgN 4) (body1_fits c))
  (rRet (gMethD c.PatternNet "ends" 2 [] (phi_PatternNet_ends c) (gV 2) (gAD (gV 3) gANil)))))))
noncomputable def phi_fits (c : Cs) : Ph := phi 5 2 [] (run_fits c)
noncomputable def elt1_law_listed (c : Cs) (Φ_law_listed : Ph) : DEnv → Rz (O × DEnv) :=
  (gCall 1 [] Φ_law_listed (gAD (gV 1) gANil))
noncomputable def run_law_listed (c : Cs) (Φ_law_listed : Ph) : Run :=
  (rSeq (rIf (gB (gIs isTup (gV 0))) (rRet (gLc (wA (gV 0)) (tgN 1) (fun δ => .ok (true, δ)) (elt1_law_listed c Φ_law_listed) [1])) rNext)
  (rRet (gO (gV 0))))
noncomputable def phi_law_listed (c : Cs) : Nat → Ph
  | 0 => fun _ => .no
  | n + 1 => phi 2 1 [] (run_law_listed c (phi_law_listed c n))
noncomputable def run_law_handed (c : Cs) : Run :=
  (rRet (gO (gIf (gB (g2 fEq (gZ (gCall 3 [1] (phi_law_take c) (gAD (gV 0) (gAA 1 (gAD (gC (D.int 2)) gANil))))) (gC (D.int 0)))) (gZ (gCall 1 [] (phi_law_listed c 14) (gAD (gV 2) gANil))) (gV 2))))
noncomputable def phi_law_handed (c : Cs) : Ph := phi 3 3 [1] (run_law_handed c)
noncomputable def tst1_law_p_ends (c : Cs) (Φ_law_p_ends : Ph) : DEnv → Rz (Bool × DEnv) :=
  (gB (g2 (fIn true) (gV 11) (gV 4)))
noncomputable def elt2_law_p_ends (c : Cs) (Φ_law_p_ends : Ph) : DEnv → Rz (O × DEnv) :=
  (gO (gV 11))
noncomputable def body3_law_p_ends (c : Cs) (Φ_law_p_ends : Ph) : Run :=
  (rSet 4 (gX2 fAdd (gV 4) (gZ (gLc (wA (gZ (gCall 3 [] Φ_law_p_ends (gAD (gV 5) (gAD (gV 1) (gAD (gV 2) gANil)))))) (tgN 11) (tst1_law_p_ends c Φ_law_p_ends) (elt2_law_p_ends c Φ_law_p_ends) [11]))))
noncomputable def tst4_law_p_ends (c : Cs) (Φ_law_p_ends : Ph) : DEnv → Rz (Bool × DEnv) :=
  (gB (g2 (fIn true) (gV 11) (gV 7)))
noncomputable def elt5_law_p_ends (c : Cs) (Φ_law_p_ends : Ph) : DEnv → Rz (O × DEnv) :=
  (gO (gV 11))
noncomputable def body6_law_p_ends (c : Cs) (Φ_law_p_ends : Ph) : Run :=
  (rSet 7 (gX2 fAdd (gV 7) (gZ (gLc (wA (gZ (gCall 3 [] Φ_law_p_ends (gAD (gV 5) (gAD (gV 1) (gAD (gV 8) gANil)))))) (tgN 11) (tst4_law_p_ends c Φ_law_p_ends) (elt5_law_p_ends c Φ_law_p_ends) [11]))))
noncomputable def body7_law_p_ends (c : Cs) (Φ_law_p_ends : Ph) : Run :=
  (rSeq (rSet 7 (gaLst gaNil))
  (rSeq (rFor (wA (gV 6)) (tgN 8) (body6_law_p_ends c Φ_law_p_ends))
  (rSet 6 (gO (gV 7)))))
noncomputable def tst8_law_p_ends (c : Cs) (Φ_law_p_ends : Ph) : DEnv → Rz (Bool × DEnv) :=
  (gAnd (gB (g2 (fIn true) (gV 11) (gV 6))) (gB (g2 (fIn true) (gV 11) (gV 7))))
noncomputable def elt9_law_p_ends (c : Cs) (Φ_law_p_ends : Ph) : DEnv → Rz (O × DEnv) :=
  (gO (gV 11))
noncomputable def body10_law_p_ends (c : Cs) (Φ_law_p_ends : Ph) : Run :=
  (rSet 7 (gX2 fAdd (gV 7) (gZ (gLc (wA (gZ (gCall 3 [] Φ_law_p_ends (gAD (g2 fIx (gV 0) (gC (D.int 1))) (gAD (gV 1) (gAD (gV 8) gANil)))))) (tgN 11) (tst8_law_p_ends c Φ_law_p_ends) (elt9_law_p_ends c Φ_law_p_ends) [11]))))
noncomputable def body11_law_p_ends (c : Cs) (Φ_law_p_ends : Ph) : Run :=
  (rSeq (rSet 7 (gaLst gaNil))
  (rSeq (rFor (wA (gV 9)) (tgN 8) (body10_law_p_ends c Φ_law_p_ends))
  (rSeq (rSet 6 (gX2 fAdd (gV 6) (gV 7)))
  (rSet 9 (gO (gV 7))))))
noncomputable def run_law_p_ends (c : Cs) (Φ_law_p_ends : Ph) : Run :=
  (rSeq (rIf (gB (g2 (fIn false) (g2 fIx (gV 0) (gC (D.int 0))) (gZ (gaLst (gaCons (gC (D.str "one")) (gaCons (gC (D.str "any")) gaNil)))))) (rSeq (rSet 3 (gO (gAndV (g2 fLt (gV 2) (gN fLen (gaCons (gV 1) gaNil))) (gOrV (g2 fEq (g2 fIx (gV 0) (gC (D.int 0))) (gC (D.str "any"))) (g2 fEq (g2 fIx (gV 1) (gV 2)) (g2 fIx (gV 0) (gC (D.int 1))))))))
  (rRet (gO (gIf (gTru (gV 3)) (gZ (gaLst (gaCons (gZ (gX2 fAdd (gV 2) (gC (D.int 1)))) gaNil))) (gZ (gaLst gaNil)))))) rNext)
  (rSeq (rIf (gB (g2 fEq (g2 fIx (gV 0) (gC (D.int 0))) (gC (D.str "either")))) (rSeq (rSet 4 (gaLst gaNil))
  (rSeq (rFor (wA (g2 fIx (gV 0) (gC (D.int 1)))) (tgN 5) (body3_law_p_ends c Φ_law_p_ends))
  (rRet (gO (gV 4))))) rNext)
  (rSeq (rIf (gB (g2 fEq (g2 fIx (gV 0) (gC (D.int 0))) (gC (D.str "row")))) (rSeq (rSet 6 (gaLst (gaCons (gV 2) gaNil)))
  (rSeq (rFor (wA (g2 fIx (gV 0) (gC (D.int 1)))) (tgN 5) (body7_law_p_ends c Φ_law_p_ends))
  (rRet (gO (gV 6))))) rNext)
  (rSeq (rSet 6 (gaLst (gaCons (gV 2) gaNil)))
  (rSeq (rSet 9 (gaLst (gaCons (gV 2) gaNil)))
  (rSeq (rFor (wR1 (gaCons (gZ (gX2 fAdd (gN fLen (gaCons (gV 1) gaNil)) (gC (D.int 2)))) gaNil)) (tgN 10) (body11_law_p_ends c Φ_law_p_ends))
  (rRet (gO (gV 6)))))))))
noncomputable def phi_law_p_ends (c : Cs) : Nat → Ph
  | 0 => fun _ => .no
  | n + 1 => phi 12 3 [] (run_law_p_ends c (phi_law_p_ends c n))
noncomputable def run_law_fits (c : Cs) : Run :=
  (rRet (gO (g2 (fIn false) (gN fLen (gaCons (gV 1) gaNil)) (gZ (gCall 3 [] (phi_law_p_ends c 6) (gAD (gV 0) (gAD (gV 1) (gAD (gC (D.int 0)) gANil))))))))
noncomputable def phi_law_fits (c : Cs) : Ph := phi 2 2 [] (run_law_fits c)
noncomputable def body1_first_end (c : Cs) : Run :=
  (rSeq (rSet 3 (gO (g2 fOr (gZ (gMethD c.PatternNet "after" 3 [] (phi_PatternNet_after c) (gV 2) (gAD (gV 3) (gAD (gV 5) gANil)))) (gFld c.PatternNet "start" (gV 2)))))
  (rIf (gB (gZ (gMethD c.PatternNet "ends" 2 [] (phi_PatternNet_ends c) (gV 2) (gAD (gV 3) gANil)))) (rRet (gX2 fAdd (gV 4) (gC (D.int 1)))) rNext))
noncomputable def run_first_end (c : Cs) : Run :=
  (rSeq (rDrop (gZ (gCall 2 [] (phi_check_diary c) (gAD (gV 0) (gAD (gV 1) gANil)))))
  (rSeq (rSet 2 (gMake c.PatternNet 2 (phi_PatternNet_init c) (gaCons (gV 0) gaNil)))
  (rSeq (rSet 3 (gO (gFld c.PatternNet "start" (gV 2))))
  (rSeq (rIf (gB (gZ (gMethD c.PatternNet "ends" 2 [] (phi_PatternNet_ends c) (gV 2) (gAD (gV 3) gANil)))) (rRet (gO (gC (D.int 0)))) rNext)
  (rSeq (rFor (wE (gaCons (gV 1) gaNil)) (tgTup 2 (tgCons (tgN 4) (tgCons (tgN 5) tgNil))) (body1_first_end c))
  (rRet (gO (gC D.non))))))))
noncomputable def phi_first_end (c : Cs) : Ph := phi 6 2 [] (run_first_end c)
noncomputable def elt1_law (c : Cs) : DEnv → Rz (O × DEnv) :=
  (gCall 3 [1] (phi_law_pick c) (gAD (gV 1) (gAA 2 (gAD (gZ (gX2 fAdd (gV 3) (gZ (gaLst (gaCons (gC (D.str "zz")) gaNil))))) gANil))))
noncomputable def body2_law (c : Cs) : Run :=
  (rSet 8 (gX2 fAdd (gV 8) (gZ (gCall 3 [] (phi_law_p_ends c 6) (gAD (gV 5) (gAD (gV 7) (gAD (gV 9) gANil)))))))
noncomputable def body3_law (c : Cs) : Run :=
  (rSeq (rSet 7 (gO (gN fTupOf (gaCons (gZ (gLc (wR1 (gaCons (gZ (gCall 3 [1] (phi_law_take c) (gAD (gV 1) (gAA 2 (gAD (gC (D.int 7)) gANil))))) gaNil)) (tgN 10) (fun δ => .ok (true, δ)) (elt1_law c) [10])) gaNil))))
  (rSeq (rIf (gNot (gB (gZ (gCall 2 [] (phi_law_so c 2) (gAD (gZ (gCall 2 [] (phi_fits c) (gAD (gZ (gCall 3 [1] (phi_law_handed c) (gAD (gV 1) (gAA 2 (gAD (gV 5) gANil))))) (gAD (gZ (gCall 3 [1] (phi_law_handed c) (gAD (gV 1) (gAA 2 (gAD (gV 7) gANil))))) gANil)))) (gAD (gZ (gCall 2 [] (phi_law_fits c) (gAD (gV 5) (gAD (gV 7) gANil)))) gANil)))))) (rRet (gO (gC (D.bl false)))) rNext)
  (rSeq (rSet 8 (gaLst gaNil))
  (rSeq (rFor (wR1 (gaCons (gZ (gX2 fAdd (gN fLen (gaCons (gV 7) gaNil)) (gC (D.int 1)))) gaNil)) (tgN 9) (body2_law c))
  (rIf (gNot (gB (gZ (gCall 2 [] (phi_law_so c 2) (gAD (gZ (gCall 2 [] (phi_first_end c) (gAD (gZ (gCall 3 [1] (phi_law_handed c) (gAD (gV 1) (gAA 2 (gAD (gV 5) gANil))))) (gAD (gZ (gCall 3 [1] (phi_law_handed c) (gAD (gV 1) (gAA 2 (gAD (gV 7) gANil))))) gANil)))) (gAD (gIf (gB (g2 fGt (gN fLen (gaCons (gV 8) gaNil)) (gC (D.int 0)))) (gN fMin (gaCons (gV 8) gaNil)) (gC D.non)) gANil)))))) (rRet (gO (gC (D.bl false)))) rNext)))))
noncomputable def body4_law (c : Cs) : Run :=
  (rSeq (rSet 5 (gCall 3 [1] (phi_law_small_pattern c) (gAD (gV 1) (gAA 2 (gAD (gV 3) gANil)))))
  (rFor (wR1 (gaCons (gC (D.int 4)) gaNil)) (tgN 6) (body3_law c)))
noncomputable def run_law (c : Cs) : Run :=
  (rSeq (rSet 1 (gCall 1 [] (phi_law_numbers c) (gAD (gV 0) gANil)))
  (rSeq (rSet 2 (gaLst (gaCons (gC (D.int 0)) gaNil)))
  (rSeq (rSet 3 (gaLst (gaCons (gC (D.str "a")) (gaCons (gC (D.str "b")) (gaCons (gC (D.str "cc")) gaNil)))))
  (rSeq (rFor (wR1 (gaCons (gC (D.int 4)) gaNil)) (tgN 4) (body4_law c))
  (rRet (gO (gC (D.bl true))))))))
noncomputable def phi_law (c : Cs) : Ph := phi 11 1 [] (run_law c)
theorem go_law_numbers (c : Cs) (a0 : O) : phi_law_numbers c [a0] = (run_law_numbers c [some a0, none, none, none, none, none]).bind (finR []) := rfl
theorem go_law_draw (c : Cs) (a0 a1 a2 : O) : phi_law_draw c [a0, a1, a2] = (run_law_draw c [some a0, some a1, some a2, none]).bind (finR []) := rfl
theorem go_law_take (c : Cs) (a0 a1 a2 : O) : phi_law_take c [a0, a1, a2] = (run_law_take c [some a0, some a1, some a2]).bind (finR [1]) := rfl
theorem go_law_pick (c : Cs) (a0 a1 a2 : O) : phi_law_pick c [a0, a1, a2] = (run_law_pick c [some a0, some a1, some a2]).bind (finR [1]) := rfl
theorem go_law_pattern (c : Cs) (n : Nat) (a0 a1 a2 a3 : O) : phi_law_pattern c (n + 1) [a0, a1, a2, a3] = (run_law_pattern c (phi_law_pattern c n) [some a0, some a1, some a2, some a3, none, none, none]).bind (finR [1]) := rfl
theorem go_law_p_count (c : Cs) (n : Nat) (a0 : O) : phi_law_p_count c (n + 1) [a0] = (run_law_p_count c (phi_law_p_count c n) [some a0, none]).bind (finR []) := rfl
theorem go_law_small_pattern (c : Cs) (a0 a1 a2 : O) : phi_law_small_pattern c [a0, a1, a2] = (run_law_small_pattern c [some a0, some a1, some a2, none, none]).bind (finR [1]) := rfl
theorem go_law_so (c : Cs) (n : Nat) (a0 a1 : O) : phi_law_so c (n + 1) [a0, a1] = (run_law_so c (phi_law_so c n) [some a0, some a1, none]).bind (finR []) := rfl
theorem go_is_sequence (c : Cs) (a0 : O) : phi_is_sequence c [a0] = (run_is_sequence c [some a0]).bind (finR []) := rfl
theorem go_is_row (c : Cs) (a0 a1 a2 : O) : phi_is_row c [a0, a1, a2] = (run_is_row c [some a0, some a1, some a2]).bind (finR []) := rfl
theorem go_is_name (c : Cs) (a0 : O) : phi_is_name c [a0] = (run_is_name c [some a0, none]).bind (finR []) := rfl
theorem go_is_outline (c : Cs) (a0 : O) : phi_is_outline c [a0] = (run_is_outline c [some a0]).bind (finR []) := rfl
theorem go_inner_patterns (c : Cs) (a0 : O) : phi_inner_patterns c [a0] = (run_inner_patterns c [some a0]).bind (finR []) := rfl
theorem go_is_pattern (c : Cs) (a0 : O) : phi_is_pattern c [a0] = (run_is_pattern c [some a0, none, none, none, none, none]).bind (finR []) := rfl
theorem go_check_diary (c : Cs) (a0 a1 : O) : phi_check_diary c [a0, a1] = (run_check_diary c [some a0, some a1, none]).bind (finR []) := rfl
theorem go_PatternNet_laid_event (c : Cs) (a0 a1 : O) : phi_PatternNet_laid_event c [a0, a1] = (run_PatternNet_laid_event c [some a0, some a1, none]).bind (finR [0]) := rfl
theorem go_PatternNet_lead (c : Cs) (a0 a1 a2 : O) : phi_PatternNet_lead c [a0, a1, a2] = (run_PatternNet_lead c [some a0, some a1, some a2, none]).bind (finR [0]) := rfl
theorem go_PatternNet_laid_either (c : Cs) (Φ : Ph) (a0 a1 : O) : phi_PatternNet_laid_either c Φ [a0, a1] = (run_PatternNet_laid_either c Φ [some a0, some a1, none, none, none, none, none, none, none]).bind (finR [0]) := rfl
theorem go_PatternNet_laid_row (c : Cs) (Φ : Ph) (a0 a1 : O) : phi_PatternNet_laid_row c Φ [a0, a1] = (run_PatternNet_laid_row c Φ [some a0, some a1, none, none, none, none, none, none, none]).bind (finR [0]) := rfl
theorem go_PatternNet_laid (c : Cs) (n : Nat) (a0 a1 : O) : phi_PatternNet_laid c (n + 1) [a0, a1] = (run_PatternNet_laid c (phi_PatternNet_laid_row c (phi_PatternNet_laid c n)) (phi_PatternNet_laid_either c (phi_PatternNet_laid c n)) (phi_PatternNet_laid c n) [some a0, some a1, none, none, none, none]).bind (finR [0]) := rfl
theorem go_PatternNet_init (c : Cs) (a0 a1 : O) : phi_PatternNet_init c [a0, a1] = (run_PatternNet_init c [some a0, some a1, none, none, none, none]).bind (finR [0]) := rfl
theorem go_PatternNet_after (c : Cs) (a0 a1 a2 : O) : phi_PatternNet_after c [a0, a1, a2] = (run_PatternNet_after c [some a0, some a1, some a2, none, none, none]).bind (finR []) := rfl
theorem go_PatternNet_ends (c : Cs) (a0 a1 : O) : phi_PatternNet_ends c [a0, a1] = (run_PatternNet_ends c [some a0, some a1]).bind (finR []) := rfl
theorem go_fits (c : Cs) (a0 a1 : O) : phi_fits c [a0, a1] = (run_fits c [some a0, some a1, none, none, none]).bind (finR []) := rfl
theorem go_law_listed (c : Cs) (n : Nat) (a0 : O) : phi_law_listed c (n + 1) [a0] = (run_law_listed c (phi_law_listed c n) [some a0, none]).bind (finR []) := rfl
theorem go_law_handed (c : Cs) (a0 a1 a2 : O) : phi_law_handed c [a0, a1, a2] = (run_law_handed c [some a0, some a1, some a2]).bind (finR [1]) := rfl
theorem go_law_p_ends (c : Cs) (n : Nat) (a0 a1 a2 : O) : phi_law_p_ends c (n + 1) [a0, a1, a2] = (run_law_p_ends c (phi_law_p_ends c n) [some a0, some a1, some a2, none, none, none, none, none, none, none, none, none]).bind (finR []) := rfl
theorem go_law_fits (c : Cs) (a0 a1 : O) : phi_law_fits c [a0, a1] = (run_law_fits c [some a0, some a1]).bind (finR []) := rfl
theorem go_first_end (c : Cs) (a0 a1 : O) : phi_first_end c [a0, a1] = (run_first_end c [some a0, some a1, none, none, none, none]).bind (finR []) := rfl
theorem go_law (c : Cs) (a0 : O) : phi_law c [a0] = (run_law c [some a0, none, none, none, none, none, none, none, none, none, none]).bind (finR []) := rfl
end DL

namespace DL
open PySem L2
def top (i : Nat) : Stmt := PySem.Challenge.pw_mendplan_k94_whole_watching.main.body.getD i (.Pass ⟨0, 0, 0, 0⟩)
abbrev s_law_numbers : Stmt := top 26
abbrev s_law_draw : Stmt := top 27
abbrev s_law_take : Stmt := top 28
abbrev s_law_pick : Stmt := top 31
abbrev s_law_pattern : Stmt := top 32
abbrev s_law_p_count : Stmt := top 33
abbrev s_law_small_pattern : Stmt := top 34
abbrev s_law_so : Stmt := top 25
abbrev s_is_sequence : Stmt := top 3
abbrev s_is_row : Stmt := top 4
abbrev s_is_name : Stmt := top 5
abbrev s_is_outline : Stmt := top 11
abbrev s_inner_patterns : Stmt := top 12
abbrev s_is_pattern : Stmt := top 13
abbrev s_check_diary : Stmt := top 21
abbrev s_PatternNet_laid_event : Stmt := inClass (top 15) 3
abbrev s_PatternNet_lead : Stmt := inClass (top 15) 1
abbrev s_PatternNet_laid_either : Stmt := inClass (top 15) 5
abbrev s_PatternNet_laid_row : Stmt := inClass (top 15) 4
abbrev s_PatternNet_laid : Stmt := inClass (top 15) 2
abbrev s_PatternNet_init : Stmt := inClass (top 15) 0
abbrev s_PatternNet_after : Stmt := inClass (top 15) 6
abbrev s_PatternNet_ends : Stmt := inClass (top 15) 7
abbrev s_fits : Stmt := top 22
abbrev s_law_listed : Stmt := top 29
abbrev s_law_handed : Stmt := top 30
abbrev s_law_p_ends : Stmt := top 35
abbrev s_law_fits : Stmt := top 36
abbrev s_first_end : Stmt := top 23
abbrev s_law : Stmt := top 37
theorem sc_law_numbers : FnScope ["script", "row", "cell", "left", "k", "mixed"] ["script"] (defScope s_law_numbers) := ⟨rfl, rfl, rfl, by decide +kernel, rfl, by decide +kernel, by decide +kernel⟩
theorem sc_law_draw : FnScope ["row", "at", "limit", "mixed"] ["row", "at", "limit"] (defScope s_law_draw) := ⟨rfl, rfl, rfl, by decide +kernel, rfl, by decide +kernel, by decide +kernel⟩
theorem sc_law_take : FnScope ["row", "spot", "limit"] ["row", "spot", "limit"] (defScope s_law_take) := ⟨rfl, rfl, rfl, by decide +kernel, rfl, by decide +kernel, by decide +kernel⟩
theorem sc_law_pick : FnScope ["row", "spot", "things"] ["row", "spot", "things"] (defScope s_law_pick) := ⟨rfl, rfl, rfl, by decide +kernel, rfl, by decide +kernel, by decide +kernel⟩
theorem sc_law_pattern : FnScope ["row", "spot", "deep", "names", "kind", "members", "k"] ["row", "spot", "deep", "names"] (defScope s_law_pattern) := ⟨rfl, rfl, rfl, by decide +kernel, rfl, by decide +kernel, by decide +kernel⟩
theorem sc_law_p_count : FnScope ["pattern", "one"] ["pattern"] (defScope s_law_p_count) := ⟨rfl, rfl, rfl, by decide +kernel, rfl, by decide +kernel, by decide +kernel⟩
theorem sc_law_small_pattern : FnScope ["row", "spot", "names", "k", "made"] ["row", "spot", "names"] (defScope s_law_small_pattern) := ⟨rfl, rfl, rfl, by decide +kernel, rfl, by decide +kernel, by decide +kernel⟩
theorem sc_law_so : FnScope ["found", "meant", "k"] ["found", "meant"] (defScope s_law_so) := ⟨rfl, rfl, rfl, by decide +kernel, rfl, by decide +kernel, by decide +kernel⟩
theorem sc_is_sequence : FnScope ["x"] ["x"] (defScope s_is_sequence) := ⟨rfl, rfl, rfl, by decide +kernel, rfl, by decide +kernel, by decide +kernel⟩
theorem sc_is_row : FnScope ["x", "least", "most"] ["x", "least", "most"] (defScope s_is_row) := ⟨rfl, rfl, rfl, by decide +kernel, rfl, by decide +kernel, by decide +kernel⟩
theorem sc_is_name : FnScope ["x", "sign"] ["x"] (defScope s_is_name) := ⟨rfl, rfl, rfl, by decide +kernel, rfl, by decide +kernel, by decide +kernel⟩
theorem sc_is_outline : FnScope ["x"] ["x"] (defScope s_is_outline) := ⟨rfl, rfl, rfl, by decide +kernel, rfl, by decide +kernel, by decide +kernel⟩
theorem sc_inner_patterns : FnScope ["pattern"] ["pattern"] (defScope s_inner_patterns) := ⟨rfl, rfl, rfl, by decide +kernel, rfl, by decide +kernel, by decide +kernel⟩
theorem sc_is_pattern : FnScope ["x", "count", "waiting", "one", "level", "inner"] ["x"] (defScope s_is_pattern) := ⟨rfl, rfl, rfl, by decide +kernel, rfl, by decide +kernel, by decide +kernel⟩
theorem sc_check_diary : FnScope ["pattern", "diary", "event"] ["pattern", "diary"] (defScope s_check_diary) := ⟨rfl, rfl, rfl, by decide +kernel, rfl, by decide +kernel, by decide +kernel⟩
theorem sc_PatternNet_laid_event : FnScope ["self", "name", "bit"] ["self", "name"] (defScope s_PatternNet_laid_event) := ⟨rfl, rfl, rfl, by decide +kernel, rfl, by decide +kernel, by decide +kernel⟩
theorem sc_PatternNet_lead : FnScope ["self", "places", "state", "at"] ["self", "places", "state"] (defScope s_PatternNet_lead) := ⟨rfl, rfl, rfl, by decide +kernel, rfl, by decide +kernel, by decide +kernel⟩
theorem sc_PatternNet_laid_either : FnScope ["self", "members", "empty", "firsts", "lasts", "member", "skipped", "heads", "tails"] ["self", "members"] (defScope s_PatternNet_laid_either) := ⟨rfl, rfl, rfl, by decide +kernel, rfl, by decide +kernel, by decide +kernel⟩
theorem sc_PatternNet_laid_row : FnScope ["self", "members", "empty", "firsts", "lasts", "member", "skipped", "heads", "tails"] ["self", "members"] (defScope s_PatternNet_laid_row) := ⟨rfl, rfl, rfl, by decide +kernel, rfl, by decide +kernel, by decide +kernel⟩
theorem sc_PatternNet_laid : FnScope ["self", "pattern", "kind", "_", "firsts", "lasts"] ["self", "pattern"] (defScope s_PatternNet_laid) := ⟨rfl, rfl, rfl, by decide +kernel, rfl, by decide +kernel, by decide +kernel⟩
theorem sc_PatternNet_init : FnScope ["self", "pattern", "empty", "firsts", "lasts", "end"] ["self", "pattern"] (defScope s_PatternNet_init) := ⟨rfl, rfl, rfl, by decide +kernel, rfl, by decide +kernel, by decide +kernel⟩
theorem sc_PatternNet_after : FnScope ["self", "state", "event", "found", "at", "name"] ["self", "state", "event"] (defScope s_PatternNet_after) := ⟨rfl, rfl, rfl, by decide +kernel, rfl, by decide +kernel, by decide +kernel⟩
theorem sc_PatternNet_ends : FnScope ["self", "state"] ["self", "state"] (defScope s_PatternNet_ends) := ⟨rfl, rfl, rfl, by decide +kernel, rfl, by decide +kernel, by decide +kernel⟩
theorem sc_fits : FnScope ["pattern", "diary", "net", "state", "event"] ["pattern", "diary"] (defScope s_fits) := ⟨rfl, rfl, rfl, by decide +kernel, rfl, by decide +kernel, by decide +kernel⟩
theorem sc_law_listed : FnScope ["value", "one"] ["value"] (defScope s_law_listed) := ⟨rfl, rfl, rfl, by decide +kernel, rfl, by decide +kernel, by decide +kernel⟩
theorem sc_law_handed : FnScope ["row", "spot", "value"] ["row", "spot", "value"] (defScope s_law_handed) := ⟨rfl, rfl, rfl, by decide +kernel, rfl, by decide +kernel, by decide +kernel⟩
theorem sc_law_p_ends : FnScope ["pattern", "diary", "start", "good", "made", "one", "now", "then", "place", "waiting", "k", "end"] ["pattern", "diary", "start"] (defScope s_law_p_ends) := ⟨rfl, rfl, rfl, by decide +kernel, rfl, by decide +kernel, by decide +kernel⟩
theorem sc_law_fits : FnScope ["pattern", "diary"] ["pattern", "diary"] (defScope s_law_fits) := ⟨rfl, rfl, rfl, by decide +kernel, rfl, by decide +kernel, by decide +kernel⟩
theorem sc_first_end : FnScope ["pattern", "diary", "net", "state", "k", "event"] ["pattern", "diary"] (defScope s_first_end) := ⟨rfl, rfl, rfl, by decide +kernel, rfl, by decide +kernel, by decide +kernel⟩
theorem sc_law : FnScope ["script", "row", "spot", "names", "k", "pattern", "j", "diary", "ends_of", "start", "i"] ["script"] (defScope s_law) := ⟨rfl, rfl, rfl, by decide +kernel, rfl, by decide +kernel, by decide +kernel⟩
structure Tx (K : PySem.W.Frag) (mg : Str → Option Value) where
  c : Cs
  f_law_numbers : Addr
  fd_law_numbers : FuncData
  d_law_numbers : GF K mg "_law_numbers" s_law_numbers f_law_numbers fd_law_numbers ["script"]
  f_law_draw : Addr
  fd_law_draw : FuncData
  d_law_draw : GF K mg "_law_draw" s_law_draw f_law_draw fd_law_draw ["row", "at", "limit"]
  f_law_take : Addr
  fd_law_take : FuncData
  d_law_take : GF K mg "_law_take" s_law_take f_law_take fd_law_take ["row", "spot", "limit"]
  f_law_pick : Addr
  fd_law_pick : FuncData
  d_law_pick : GF K mg "_law_pick" s_law_pick f_law_pick fd_law_pick ["row", "spot", "things"]
  f_law_pattern : Addr
  fd_law_pattern : FuncData
  d_law_pattern : GF K mg "_law_pattern" s_law_pattern f_law_pattern fd_law_pattern ["row", "spot", "deep", "names"]
  f_law_p_count : Addr
  fd_law_p_count : FuncData
  d_law_p_count : GF K mg "_law_p_count" s_law_p_count f_law_p_count fd_law_p_count ["pattern"]
  f_law_small_pattern : Addr
  fd_law_small_pattern : FuncData
  d_law_small_pattern : GF K mg "_law_small_pattern" s_law_small_pattern f_law_small_pattern fd_law_small_pattern ["row", "spot", "names"]
  f_law_so : Addr
  fd_law_so : FuncData
  d_law_so : GF K mg "_law_so" s_law_so f_law_so fd_law_so ["found", "meant"]
  f_is_sequence : Addr
  fd_is_sequence : FuncData
  d_is_sequence : GF K mg "is_sequence" s_is_sequence f_is_sequence fd_is_sequence ["x"]
  f_is_row : Addr
  fd_is_row : FuncData
  d_is_row : GF K mg "is_row" s_is_row f_is_row fd_is_row ["x", "least", "most"]
  f_is_name : Addr
  fd_is_name : FuncData
  d_is_name : GF K mg "is_name" s_is_name f_is_name fd_is_name ["x"]
  f_is_outline : Addr
  fd_is_outline : FuncData
  d_is_outline : GF K mg "_is_outline" s_is_outline f_is_outline fd_is_outline ["x"]
  f_inner_patterns : Addr
  fd_inner_patterns : FuncData
  d_inner_patterns : GF K mg "inner_patterns" s_inner_patterns f_inner_patterns fd_inner_patterns ["pattern"]
  f_is_pattern : Addr
  fd_is_pattern : FuncData
  d_is_pattern : GF K mg "is_pattern" s_is_pattern f_is_pattern fd_is_pattern ["x"]
  f_check_diary : Addr
  fd_check_diary : FuncData
  d_check_diary : GF K mg "check_diary" s_check_diary f_check_diary fd_check_diary ["pattern", "diary"]
  f_PatternNet_laid_event : Addr
  fd_PatternNet_laid_event : FuncData
  d_PatternNet_laid_event : GM K "laid_event" "PatternNet.laid_event" s_PatternNet_laid_event f_PatternNet_laid_event fd_PatternNet_laid_event ["self", "name"] c.PatternNet
  f_PatternNet_lead : Addr
  fd_PatternNet_lead : FuncData
  d_PatternNet_lead : GM K "lead" "PatternNet.lead" s_PatternNet_lead f_PatternNet_lead fd_PatternNet_lead ["self", "places", "state"] c.PatternNet
  f_PatternNet_laid_either : Addr
  fd_PatternNet_laid_either : FuncData
  d_PatternNet_laid_either : GM K "laid_either" "PatternNet.laid_either" s_PatternNet_laid_either f_PatternNet_laid_either fd_PatternNet_laid_either ["self", "members"] c.PatternNet
  f_PatternNet_laid_row : Addr
  fd_PatternNet_laid_row : FuncData
  d_PatternNet_laid_row : GM K "laid_row" "PatternNet.laid_row" s_PatternNet_laid_row f_PatternNet_laid_row fd_PatternNet_laid_row ["self", "members"] c.PatternNet
  f_PatternNet_laid : Addr
  fd_PatternNet_laid : FuncData
  d_PatternNet_laid : GM K "laid" "PatternNet.laid" s_PatternNet_laid f_PatternNet_laid fd_PatternNet_laid ["self", "pattern"] c.PatternNet
  f_PatternNet_init : Addr
  fd_PatternNet_init : FuncData
  d_PatternNet_init : GI K mg "PatternNet" "PatternNet.__init__" s_PatternNet_init f_PatternNet_init fd_PatternNet_init ["self", "pattern"] c.PatternNet
  f_PatternNet_after : Addr
  fd_PatternNet_after : FuncData
  d_PatternNet_after : GM K "after" "PatternNet.after" s_PatternNet_after f_PatternNet_after fd_PatternNet_after ["self", "state", "event"] c.PatternNet
  f_PatternNet_ends : Addr
  fd_PatternNet_ends : FuncData
  d_PatternNet_ends : GM K "ends" "PatternNet.ends" s_PatternNet_ends f_PatternNet_ends fd_PatternNet_ends ["self", "state"] c.PatternNet
  f_fits : Addr
  fd_fits : FuncData
  d_fits : GF K mg "fits" s_fits f_fits fd_fits ["pattern", "diary"]
  f_law_listed : Addr
  fd_law_listed : FuncData
  d_law_listed : GF K mg "_law_listed" s_law_listed f_law_listed fd_law_listed ["value"]
  f_law_handed : Addr
  fd_law_handed : FuncData
  d_law_handed : GF K mg "_law_handed" s_law_handed f_law_handed fd_law_handed ["row", "spot", "value"]
  f_law_p_ends : Addr
  fd_law_p_ends : FuncData
  d_law_p_ends : GF K mg "_law_p_ends" s_law_p_ends f_law_p_ends fd_law_p_ends ["pattern", "diary", "start"]
  f_law_fits : Addr
  fd_law_fits : FuncData
  d_law_fits : GF K mg "_law_fits" s_law_fits f_law_fits fd_law_fits ["pattern", "diary"]
  f_first_end : Addr
  fd_first_end : FuncData
  d_first_end : GF K mg "first_end" s_first_end f_first_end fd_first_end ["pattern", "diary"]
  f_law : Addr
  fd_law : FuncData
  d_law : GF K mg "law" s_law f_law fd_law ["script"]
  cl_PatternNet : Cls K c.PatternNet
  na_wanted : NoAttr K c.PatternNet "wanted"
  na_behind : NoAttr K c.PatternNet "behind"
  na_start : NoAttr K c.PatternNet "start"
  n_range : mg "range" = none
  n_int : mg "int" = none
  n_len : mg "len" = none
  n_tuple : mg "tuple" = none
  n_sum : mg "sum" = none
  n_isinstance : mg "isinstance" = none
  n_bool : mg "bool" = none
  n_str : mg "str" = none
  n_list : mg "list" = none
  n_all : mg "all" = none
  n_enumerate : mg "enumerate" = none
  n_min : mg "min" = none
  a_WORDS : Addr
  c_WORDS : mg "WORDS" = some (.ref a_WORDS)
  z_WORDS : ∀ F, Fz K F (.ref a_WORDS) (D.tup [(D.str "and"), (D.str "or"), (D.str "of"), (D.str "always"), (D.str "never")])
  t_LETTERS : Tok
  c_LETTERS : mg "LETTERS" = some (.str "abcdefghijklmnopqrstuvwxyz" t_LETTERS)
  t_LEAST_MEMBERS : Tok
  c_LEAST_MEMBERS : mg "LEAST_MEMBERS" = some (.int 2 t_LEAST_MEMBERS)
  t_MOST_MEMBERS : Tok
  c_MOST_MEMBERS : mg "MOST_MEMBERS" = some (.int 5 t_MOST_MEMBERS)
  t_MOST_PATTERNS : Tok
  c_MOST_PATTERNS : mg "MOST_PATTERNS" = some (.int 12 t_MOST_PATTERNS)
  t_MOST_LEVELS : Tok
  c_MOST_LEVELS : mg "MOST_LEVELS" = some (.int 5 t_MOST_LEVELS)
  t_MOST_EVENTS : Tok
  c_MOST_EVENTS : mg "MOST_EVENTS" = some (.int 30 t_MOST_EVENTS)
end DL

namespace DL
open PySem L2
section
variable {P : Program} {w : World} {K : PySem.W.Frag} {mg : Str → Option Value} {base : Heap}
theorem ok_law_numbers (T : Tx K mg) : FnOk P w K mg base (L2.CX P w) (1) T.f_law_numbers T.fd_law_numbers ["script"] (spD K 1 [] (phi_law_numbers T.c)) := by
  refine fn_R (k := 0) T.d_law_numbers.F sc_law_numbers rfl rfl (by decide) (by decide) (by decide) fun cdv A outer s H E hr => ?_
  exact ⟨_, (pss_cons (ps_set (i := 1) sc_law_numbers.nd rfl (by first | exact Or.inl rfl | exact Or.inr rfl) (pe_lst pa_nil))
      (pss_cons (ps_for hpx rfl (pi_any (pe_slice sl_list (pv 0) po_none (po_some pe_int))) (pg_name (i := 2) sc_law_numbers.nd rfl (by first | exact Or.inl rfl | exact Or.inr rfl)) (pss_one (ps_if (pt_cmpR op_ge (pv 2) (pe_op op_pow pe_int pe_int) (nomark _)) (pss_cons (ps_set (i := 3) sc_law_numbers.nd rfl (by first | exact Or.inl rfl | exact Or.inr rfl) (pv 2))
      (pss_one (ps_for hpx rfl (pi_range1 rfl T.n_range (pa_cons pe_int pa_nil)) (pg_name (i := 4) sc_law_numbers.nd rfl (by first | exact Or.inl rfl | exact Or.inr rfl)) (pss_cons (ps_if (pt_cmpR op_eq (pv 3) pe_int (nomark _)) (pss_one ps_break) pss_nil)
      (pss_cons (ps_expr (pe_bm PySem.F.plainAttrs_list PySem.F.slot_list_append PySem.F.type_list_append mt_append (pv 1) (pa_cons (pe_op op_mod (pe_callTy cr_int rfl T.n_int b_int (pa_cons (pv 3) pa_nil)) pe_int) pa_nil)))
      (pss_one (ps_set (i := 3) sc_law_numbers.nd rfl (by first | exact Or.inl rfl | exact Or.inr rfl) (pe_op op_fdiv (pv 3) pe_int)))))))) (pss_one (ps_for hpx rfl (pi_range1 rfl T.n_range (pa_cons pe_int pa_nil)) (pg_name (i := 4) sc_law_numbers.nd rfl (by first | exact Or.inl rfl | exact Or.inr rfl)) (pss_cons (ps_set (i := 5) sc_law_numbers.nd rfl (by first | exact Or.inl rfl | exact Or.inr rfl) (pe_op op_mod (pe_callTy cr_int rfl T.n_int b_int (pa_cons (pe_op op_addU (pe_op op_addU (pe_op op_mul (pv 2) pe_int) (pe_op op_mul (pv 4) pe_int)) pe_int) pa_nil)) pe_int))
      (pss_one (ps_expr (pe_bm PySem.F.plainAttrs_list PySem.F.slot_list_append PySem.F.type_list_append mt_append (pv 1) (pa_cons (pe_op op_mod (pe_callTy cr_int rfl T.n_int b_int (pa_cons (pe_op op_addU (pe_op op_mul (pv 5) pe_int) (pv 4)) pa_nil)) pe_int) pa_nil))))))))))
      (pss_cons (ps_if (pt_cmpR op_eq (pe_callB cr_len rfl T.n_len b_len (pa_cons (pv 1) pa_nil)) pe_int (nomark _)) (pss_one (ps_expr (pe_bm PySem.F.plainAttrs_list PySem.F.slot_list_append PySem.F.type_list_append mt_append (pv 1) (pa_cons pe_int pa_nil)))) pss_nil)
      (pss_one (ps_ret (pv 1)))))), (rs_seq (rs_set (df_lst da_nil) (by decide))
      (rs_seq (rs_for (dw_any (DF.di (df_slL di_var do_none (do_some di_k)))) (dg_name (by decide)) (rs_if (dt_test (di_op os_ge.op di_var (di_op os_pow.op di_k di_k))) (rs_seq (rs_set (DI.df di_var) (by decide))
      (rs_for (dw_range1 (da_cons di_k da_nil)) (dg_name (by decide)) (rs_seq (rs_if (dt_test (di_op os_eq.op di_var di_k)) rs_break rs_next)
      (rs_seq (rs_app (DI.df (di_op os_mod.op (di_cb on_int (da_cons di_var da_nil)) di_k)))
      (rs_set (DI.df (di_op os_div.op di_var di_k)) (by decide)))))) (rs_for (dw_range1 (da_cons di_k da_nil)) (dg_name (by decide)) (rs_seq (rs_set (DI.df (di_op os_mod.op (di_cb on_int (da_cons (DF.di (df_op ox_add (DF.di (df_op ox_add (di_op os_mul.op di_var di_k) (di_op os_mul.op di_var di_k))) di_k)) da_nil)) di_k)) (by decide))
      (rs_app (DI.df (di_op os_mod.op (di_cb on_int (da_cons (DF.di (df_op ox_add (di_op os_mul.op di_var di_k) di_var)) da_nil)) di_k)))))))
      (rs_seq (rs_if (dt_test (di_op os_eq.op (SX.di (sx_lenP pl_var)) di_k)) (rs_app (DI.df di_k)) rs_next)
      (rs_ret (DI.df di_var)))))⟩
theorem ok_law_draw (T : Tx K mg) : FnOk P w K mg base (L2.CX P w) (1) T.f_law_draw T.fd_law_draw ["row", "at", "limit"] (spD K 3 [] (phi_law_draw T.c)) := by
  refine fn_R (k := 0) T.d_law_draw.F sc_law_draw rfl rfl (by decide) (by decide) (by decide) fun cdv A outer s H E hr => ?_
  exact ⟨_, (pss_cons (ps_if (pt_cmpR op_lt (pv 1) (pe_callB cr_len rfl T.n_len b_len (pa_cons (pv 0) pa_nil)) (nomark _)) (pss_one (ps_ret (pe_op op_mod (pe_callTy cr_int rfl T.n_int b_int (pa_cons (pe_ix ix_seq (pv 0) (pv 1) (fun _ _ => rfl)) pa_nil)) (pv 2)))) pss_nil)
      (pss_cons (ps_set (i := 3) sc_law_draw.nd rfl (by first | exact Or.inl rfl | exact Or.inr rfl) (pe_op op_mod (pe_callTy cr_int rfl T.n_int b_int (pa_cons (pe_op op_addU (pe_op op_addU (pe_op op_mul (pe_ix ix_seq (pv 0) (pe_op op_mod (pe_callTy cr_int rfl T.n_int b_int (pa_cons (pv 1) pa_nil)) (pe_callB cr_len rfl T.n_len b_len (pa_cons (pv 0) pa_nil))) (fun _ _ => rfl)) pe_int) (pe_op op_mul (pv 1) pe_int)) pe_int) pa_nil)) pe_int))
      (pss_one (ps_ret (pe_op op_mod (pe_callTy cr_int rfl T.n_int b_int (pa_cons (pe_op op_mod (pe_callTy cr_int rfl T.n_int b_int (pa_cons (pe_op op_addU (pe_op op_mul (pv 3) pe_int) (pv 1)) pa_nil)) pe_int) pa_nil)) (pv 2)))))), (rs_seq (rs_if (dt_test (di_op os_lt.op di_var (di_cb on_len (da_cons di_var da_nil)))) (rs_ret (DI.df (di_op os_mod.op (di_cb on_int (da_cons (di_op os_ix.op di_var di_var) da_nil)) di_var))) rs_next)
      (rs_seq (rs_set (DI.df (di_op os_mod.op (di_cb on_int (da_cons (DF.di (df_op ox_add (DF.di (df_op ox_add (di_op os_mul.op (di_op os_ix.op di_var (di_op os_mod.op (di_cb on_int (da_cons di_var da_nil)) (di_cb on_len (da_cons di_var da_nil)))) di_k) (di_op os_mul.op di_var di_k))) di_k)) da_nil)) di_k)) (by decide))
      (rs_ret (DI.df (di_op os_mod.op (di_cb on_int (da_cons (di_op os_mod.op (di_cb on_int (da_cons (DF.di (df_op ox_add (di_op os_mul.op di_var di_k) di_var)) da_nil)) di_k) da_nil)) di_var)))))⟩
theorem ok_law_take (T : Tx K mg) : FnOk P w K mg base (L2.CX P w) (2) T.f_law_take T.fd_law_take ["row", "spot", "limit"] (spD K 3 [1] (phi_law_take T.c)) := by
  refine fn_R (k := 1) T.d_law_take.F sc_law_take rfl rfl (by decide) (by decide) (by decide) fun cdv A outer s H E hr => ?_
  exact ⟨_, (pss_cons (ps_asg (pe_op op_addU (pe_ix ix_seq (pv 1) pe_int (fun _ _ => rfl)) pe_int) (pg_sub (pv 1) pe_int set_list))
      (pss_one (ps_ret (pe_call (ok_law_draw T) (hr.mono (by decide)) rfl T.d_law_draw.m T.d_law_draw.k T.d_law_draw.b .nil hxx (pa_cons (pv 0) (pa_cons (pe_op op_sub (pe_ix ix_seq (pv 1) pe_int (fun _ _ => rfl)) pe_int) (pa_cons (pv 2) pa_nil))))))), (rs_seq (rs_setIx (DF.di (df_op ox_add (SX.di (pl_ix pl_var sx_k).sx) di_k)) di_k)
      (rs_ret (df_call (daa_d di_var (daa_d (di_op os_sub.op (SX.di (pl_ix pl_var sx_k).sx) di_k) (daa_d di_var daa_nil))))))⟩
theorem ok_law_pick (T : Tx K mg) : FnOk P w K mg base (L2.CX P w) (3) T.f_law_pick T.fd_law_pick ["row", "spot", "things"] (spD K 3 [1] (phi_law_pick T.c)) := by
  refine fn_R (k := 2) T.d_law_pick.F sc_law_pick rfl rfl (by decide) (by decide) (by decide) fun cdv A outer s H E hr => ?_
  exact ⟨_, (pss_one (ps_ret (pe_ix ix_seq (pv 2) (pe_call (ok_law_take T) (hr.mono (by decide)) rfl T.d_law_take.m T.d_law_take.k T.d_law_take.b .nil hxx (pa_cons (pv 0) (pa_cons (pv 1) (pa_cons (pe_callB cr_len rfl T.n_len b_len (pa_cons (pv 2) pa_nil)) pa_nil)))) (fun _ _ => rfl)))), (rs_ret (DI.df (di_op os_ix.op di_var (DF.di (df_call (daa_d di_var (daa_al (daa_d (di_cb on_len (da_cons di_var da_nil)) daa_nil))))))))⟩
theorem st_law_pattern (T : Tx K mg) {k_law_pattern : Nat} {Φ : Ph} (hb : 3 ≤ k_law_pattern) (G_law_pattern : FnOk P w K mg base (L2.CX P w) (k_law_pattern) T.f_law_pattern T.fd_law_pattern ["row", "spot", "deep", "names"] (spD K 4 [1] Φ)) : FnOk P w K mg base (L2.CX P w) (k_law_pattern + 1) T.f_law_pattern T.fd_law_pattern ["row", "spot", "deep", "names"] (spD K 4 [1] (phi 7 4 [1] (run_law_pattern T.c Φ))) := by
  refine fn_R (k := k_law_pattern + 0) T.d_law_pattern.F sc_law_pattern rfl rfl (by decide) (by decide) (by decide) fun cdv A outer s H E hr => ?_
  exact ⟨_, (pss_cons (ps_set (i := 4) sc_law_pattern.nd rfl (by first | exact Or.inl rfl | exact Or.inr rfl) (pe_call (ok_law_take T) (hr.mono (by omega)) rfl T.d_law_take.m T.d_law_take.k T.d_law_take.b .nil hxx (pa_cons (pv 0) (pa_cons (pv 1) (pa_cons pe_int pa_nil)))))
      (pss_cons (ps_if (PW.pt (pw_or (pt_cmpR op_le (pv 2) pe_int (nomark _)) (pw_or1 (pt_cmpR op_le (pv 4) pe_int (nomark _))))) (pss_one (ps_ret (pe_ifExp (pt_cmpR op_eq (pe_call (ok_law_take T) (hr.mono (by omega)) rfl T.d_law_take.m T.d_law_take.k T.d_law_take.b .nil hxx (pa_cons (pv 0) (pa_cons (pv 1) (pa_cons pe_int pa_nil)))) pe_int (nomark _)) (pe_tup (pa_cons pe_str pa_nil)) (pe_tup (pa_cons pe_str (pa_cons (pe_call (ok_law_pick T) (hr.mono (by omega)) rfl T.d_law_pick.m T.d_law_pick.k T.d_law_pick.b .nil hxx (pa_cons (pv 0) (pa_cons (pv 1) (pa_cons (pv 3) pa_nil)))) pa_nil)))))) pss_nil)
      (pss_cons (ps_if (pt_cmpR op_le (pv 4) pe_int (nomark _)) (pss_one (ps_ret (pe_tup (pa_cons pe_str (pa_cons (pe_call G_law_pattern (hr.mono (by omega)) rfl T.d_law_pattern.m T.d_law_pattern.k T.d_law_pattern.b .nil hxx (pa_cons (pv 0) (pa_cons (pv 1) (pa_cons (pe_op op_sub (pv 2) pe_int) (pa_cons (pv 3) pa_nil))))) pa_nil))))) pss_nil)
      (pss_cons (ps_set (i := 5) sc_law_pattern.nd rfl (by first | exact Or.inl rfl | exact Or.inr rfl) (pe_callTy cr_tupOf rfl T.n_tuple b_tuple (pa_cons (pe_lc rfl sc_law_pattern.nd (pi_range1 rfl T.n_range (pa_cons (pe_op op_addU pe_int (pe_call (ok_law_take T) (hr.mono (by omega)) rfl T.d_law_take.m T.d_law_take.k T.d_law_take.b .nil hxx (pa_cons (pv 0) (pa_cons (pv 1) (pa_cons pe_int pa_nil))))) pa_nil)) (blkOk_by (N := ["row", "spot", "deep", "names", "kind", "members", "k"]) (sc := defScope s_law_pattern) (own := [("k", 6)]) (by decide +kernel)) (fun _ _ _ _ _ => (pg_name (i := 6) sc_law_pattern.nd rfl (by first | exact Or.inl rfl | exact Or.inr rfl))) (fun _ _ _ _ _ => pts_nil) (fun _ _ _ _ _ => (pe_call G_law_pattern (hr.mono (by omega)) rfl T.d_law_pattern.m T.d_law_pattern.k T.d_law_pattern.b .nil passL (pa_cons (pv 0) (pa_cons (pv 1) (pa_cons (pe_op op_sub (pv 2) pe_int) (pa_cons (pv 3) pa_nil))))))) pa_nil)))
      (pss_one (ps_ret (pe_tup (pa_cons (pe_ifExp (pt_cmpR op_le (pv 4) pe_int (nomark _)) pe_str pe_str) (pa_cons (pv 5) pa_nil))))))))), (rs_seq (rs_set (df_call (daa_d di_var (daa_al (daa_d di_k daa_nil)))) (by decide))
      (rs_seq (rs_if (dt_or (dt_test (di_op os_le.op di_var di_k)) (dt_test (di_op os_le.op di_var di_k))) (rs_ret (DI.df (di_if (dt_test (di_op os_eq.op (DF.di (df_call (daa_d di_var (daa_al (daa_d di_k daa_nil))))) di_k)) (di_tup (da_cons di_k da_nil)) (di_tup (da_cons di_k (da_cons (DF.di (df_call (daa_d di_var (daa_al (daa_d di_var daa_nil))))) da_nil)))))) rs_next)
      (rs_seq (rs_if (dt_test (di_op os_le.op di_var di_k)) (rs_ret (DI.df (di_tup (da_cons di_k (da_cons (DF.di (df_call (daa_d di_var (daa_al (daa_d (di_op os_sub.op di_var di_k) (daa_d di_var daa_nil)))))) da_nil))))) rs_next)
      (rs_seq (rs_set (DI.df (di_cb on_tupOf (da_cons (DF.di (df_lc (vs := [6]) (dw_range1 (da_cons (DF.di (df_op ox_add di_k (DF.di (df_call (daa_d di_var (daa_al (daa_d di_k daa_nil))))))) da_nil)) (dg_name (by decide)) gYes (df_call (daa_d di_var (daa_al (daa_d (di_op os_sub.op di_var di_k) (daa_d di_var daa_nil))))) (by decide))) da_nil))) (by decide))
      (rs_ret (DI.df (di_tup (da_cons (di_if (dt_test (di_op os_le.op di_var di_k)) di_k di_k) (da_cons di_var da_nil)))))))))⟩
theorem ok_law_pattern (T : Tx K mg) : ∀ n : Nat, FnOk P w K mg base (L2.CX P w) (n * 1 + 3) T.f_law_pattern T.fd_law_pattern ["row", "spot", "deep", "names"] (spD K 4 [1] (phi_law_pattern T.c n))
  | 0 => fn_no rfl
  | n + 1 => by
    have z := st_law_pattern T (k_law_pattern := n * 1 + 3) (Nat.le_add_left _ _) (ok_law_pattern T n)
    rw [show (n + 1) * 1 + 3 = n * 1 + 3 + 1 by omega]
    exact z
theorem st_law_p_count (T : Tx K mg) {k_law_p_count : Nat} {Φ : Ph} (hb : 0 ≤ k_law_p_count) (G_law_p_count : FnOk P w K mg base (L2.CX P w) (k_law_p_count) T.f_law_p_count T.fd_law_p_count ["pattern"] (spD K 1 [] Φ)) : FnOk P w K mg base (L2.CX P w) (k_law_p_count + 1) T.f_law_p_count T.fd_law_p_count ["pattern"] (spD K 1 [] (phi 2 1 [] (run_law_p_count T.c Φ))) := by
  refine fn_R (k := k_law_p_count + 0) T.d_law_p_count.F sc_law_p_count rfl rfl (by decide) (by decide) (by decide) fun cdv A outer s H E hr => ?_
  exact ⟨_, (pss_cons (ps_if (pt_cmpR op_in_seq (pe_ix ix_seq (pv 0) pe_int (fun _ _ => rfl)) (pe_lst (pa_cons pe_str (pa_cons pe_str pa_nil))) (by with_unfolding_all rfl)) (pss_one (ps_ret pe_int)) pss_nil)
      (pss_cons (ps_if (pt_cmpR op_eq (pe_ix ix_seq (pv 0) pe_int (fun _ _ => rfl)) pe_str (nomark _)) (pss_one (ps_ret (pe_op op_addU pe_int (pe_call G_law_p_count (hr.mono (by omega)) rfl T.d_law_p_count.m T.d_law_p_count.k T.d_law_p_count.b .nil hxx (pa_cons (pe_ix ix_seq (pv 0) pe_int (fun _ _ => rfl)) pa_nil))))) pss_nil)
      (pss_one (ps_ret (pe_op op_addU pe_int (pe_callB (cr_sum rfl) rfl T.n_sum b_sum (pa_cons (pe_lc rfl sc_law_p_count.nd (pi_any (pe_ix ix_seq (pv 0) pe_int (fun _ _ => rfl))) (blkOk_by (N := ["pattern", "one"]) (sc := defScope s_law_p_count) (own := [("one", 1)]) (by decide +kernel)) (fun _ _ _ _ _ => (pg_name (i := 1) sc_law_p_count.nd rfl (by first | exact Or.inl rfl | exact Or.inr rfl))) (fun _ _ _ _ _ => pts_nil) (fun _ _ _ _ _ => (pe_call G_law_p_count (hr.mono (by omega)) rfl T.d_law_p_count.m T.d_law_p_count.k T.d_law_p_count.b .nil passL (pa_cons (pv 1) pa_nil)))) pa_nil))))))), (rs_seq (rs_if (dt_test (di_op os_in.op (di_op os_ix.op di_var di_k) (DF.di (df_lst (da_cons di_k (da_cons di_k da_nil)))))) (rs_ret (DI.df di_k)) rs_next)
      (rs_seq (rs_if (dt_test (di_op os_eq.op (di_op os_ix.op di_var di_k) di_k)) (rs_ret (df_op ox_add di_k (DF.di (df_call (daa_d (di_op os_ix.op di_var di_k) daa_nil))))) rs_next)
      (rs_ret (df_op ox_add di_k (di_cb on_sum (da_cons (DF.di (df_lc (vs := [1]) (dw_any (di_op os_ix.op di_var di_k)) (dg_name (by decide)) gYes (df_call (daa_d di_var daa_nil)) (by decide))) da_nil))))))⟩
theorem ok_law_p_count (T : Tx K mg) : ∀ n : Nat, FnOk P w K mg base (L2.CX P w) (n * 1 + 0) T.f_law_p_count T.fd_law_p_count ["pattern"] (spD K 1 [] (phi_law_p_count T.c n))
  | 0 => fn_no rfl
  | n + 1 => by
    have z := st_law_p_count T (k_law_p_count := n * 1 + 0) (Nat.le_add_left _ _) (ok_law_p_count T n)
    rw [show (n + 1) * 1 + 0 = n * 1 + 0 + 1 by omega]
    exact z
theorem ok_law_small_pattern (T : Tx K mg) : FnOk P w K mg base (L2.CX P w) (10) T.f_law_small_pattern T.fd_law_small_pattern ["row", "spot", "names"] (spD K 3 [1] (phi_law_small_pattern T.c)) := by
  refine fn_R (k := 9) T.d_law_small_pattern.F sc_law_small_pattern rfl rfl (by decide) (by decide) (by decide) fun cdv A outer s H E hr => ?_
  exact ⟨_, (pss_cons (ps_for hpx rfl (pi_range1 rfl T.n_range (pa_cons pe_int pa_nil)) (pg_name (i := 3) sc_law_small_pattern.nd rfl (by first | exact Or.inl rfl | exact Or.inr rfl)) (pss_cons (ps_set (i := 4) sc_law_small_pattern.nd rfl (by first | exact Or.inl rfl | exact Or.inr rfl) (pe_call (ok_law_pattern T 6) (hr.mono (by decide)) rfl T.d_law_pattern.m T.d_law_pattern.k T.d_law_pattern.b .nil hxx (pa_cons (pv 0) (pa_cons (pv 1) (pa_cons (pe_op op_addU pe_int (pe_call (ok_law_take T) (hr.mono (by decide)) rfl T.d_law_take.m T.d_law_take.k T.d_law_take.b .nil hxx (pa_cons (pv 0) (pa_cons (pv 1) (pa_cons pe_int pa_nil))))) (pa_cons (pv 2) pa_nil))))))
      (pss_one (ps_if (pt_cmpR op_le (pe_call (ok_law_p_count T 6) (hr.mono (by decide)) rfl T.d_law_p_count.m T.d_law_p_count.k T.d_law_p_count.b .nil hxx (pa_cons (pv 4) pa_nil)) pe_int (nomark _)) (pss_one (ps_ret (pv 4))) pss_nil))))
      (pss_one (ps_ret (pe_tup (pa_cons pe_str (pa_cons (pe_ix ix_seq (pv 2) pe_int (fun _ _ => rfl)) pa_nil)))))), (rs_seq (rs_for (dw_range1 (da_cons di_k da_nil)) (dg_name (by decide)) (rs_seq (rs_set (df_call (daa_d di_var (daa_al (daa_d (DF.di (df_op ox_add di_k (DF.di (df_call (daa_d di_var (daa_al (daa_d di_k daa_nil))))))) (daa_d di_var daa_nil))))) (by decide))
      (rs_if (dt_test (di_op os_le.op (DF.di (df_call (daa_d di_var daa_nil))) di_k)) (rs_ret (DI.df di_var)) rs_next)))
      (rs_ret (DI.df (di_tup (da_cons di_k (da_cons (di_op os_ix.op di_var di_k) da_nil))))))⟩
theorem st_law_so (T : Tx K mg) {k_law_so : Nat} {Φ : Ph} (hb : 0 ≤ k_law_so) (G_law_so : FnOk P w K mg base (L2.CX P w) (k_law_so) T.f_law_so T.fd_law_so ["found", "meant"] (spD K 2 [] Φ)) : FnOk P w K mg base (L2.CX P w) (k_law_so + 1) T.f_law_so T.fd_law_so ["found", "meant"] (spD K 2 [] (phi 3 2 [] (run_law_so T.c Φ))) := by
  refine fn_R (k := k_law_so + 0) T.d_law_so.F sc_law_so rfl rfl (by decide) (by decide) (by decide) fun cdv A outer s H E hr => ?_
  exact ⟨_, (pss_cons (ps_if (pt_cmpR op_isN' (pv 1) pe_non (nomark _)) (pss_one (ps_ret (pe_cmpR op_isN' (pv 0) pe_non (nomark _)))) pss_nil)
      (pss_cons (ps_if (pt_val (pe_callB call_isi rfl T.n_isinstance b_isinstance (pa_cons (pv 1) (pa_cons (pe_bltn (v := .ty "tuple") rfl T.n_tuple b_tuple rfl) pa_nil)))) (pss_cons (ps_if (PW.pt (pw_or (pt_not (pt_val (pe_callB call_isi rfl T.n_isinstance b_isinstance (pa_cons (pv 0) (pa_cons (pe_bltn (v := .ty "tuple") rfl T.n_tuple b_tuple rfl) pa_nil))))) (pw_or1 (pt_cmpR op_ne (pe_callB cr_len rfl T.n_len b_len (pa_cons (pv 0) pa_nil)) (pe_callB cr_len rfl T.n_len b_len (pa_cons (pv 1) pa_nil)) (nomark _))))) (pss_one (ps_ret pe_bl)) pss_nil)
      (pss_cons (ps_for hpx rfl (pi_range1 rfl T.n_range (pa_cons (pe_callB cr_len rfl T.n_len b_len (pa_cons (pv 1) pa_nil)) pa_nil)) (pg_name (i := 2) sc_law_so.nd rfl (by first | exact Or.inl rfl | exact Or.inr rfl)) (pss_one (ps_if (pt_not (pt_val (pe_call G_law_so (hr.mono (by omega)) rfl T.d_law_so.m T.d_law_so.k T.d_law_so.b .nil hxx (pa_cons (pe_ix ix_seq (pv 0) (pv 2) (fun _ _ => rfl)) (pa_cons (pe_ix ix_seq (pv 1) (pv 2) (fun _ _ => rfl)) pa_nil))))) (pss_one (ps_ret pe_bl)) pss_nil)))
      (pss_one (ps_ret pe_bl)))) pss_nil)
      (pss_cons (ps_if (PW.pt (pw_or (pt_val (pe_callB call_isi rfl T.n_isinstance b_isinstance (pa_cons (pv 1) (pa_cons (pe_bltn (v := .ty "bool") rfl T.n_bool b_bool rfl) pa_nil)))) (pw_or1 (pt_val (pe_callB call_isi rfl T.n_isinstance b_isinstance (pa_cons (pv 0) (pa_cons (pe_bltn (v := .ty "bool") rfl T.n_bool b_bool rfl) pa_nil))))))) (pss_one (ps_ret (pe_and (pe_callB call_isi rfl T.n_isinstance b_isinstance (pa_cons (pv 1) (pa_cons (pe_bltn (v := .ty "bool") rfl T.n_bool b_bool rfl) pa_nil))) (pe_and (pe_callB call_isi rfl T.n_isinstance b_isinstance (pa_cons (pv 0) (pa_cons (pe_bltn (v := .ty "bool") rfl T.n_bool b_bool rfl) pa_nil))) (pe_one (pe_cmpR op_eq (pv 0) (pv 1) (nomark _))))))) pss_nil)
      (pss_cons (ps_if (pt_val (pe_callB call_isi rfl T.n_isinstance b_isinstance (pa_cons (pv 1) (pa_cons (pe_bltn (v := .ty "int") rfl T.n_int b_int rfl) pa_nil)))) (pss_one (ps_ret (pe_and (pe_callB call_isi rfl T.n_isinstance b_isinstance (pa_cons (pv 0) (pa_cons (pe_bltn (v := .ty "int") rfl T.n_int b_int rfl) pa_nil))) (pe_one (pe_cmpR op_eq (pv 0) (pv 1) (nomark _)))))) pss_nil)
      (pss_one (ps_ret (pe_and (pe_callB call_isi rfl T.n_isinstance b_isinstance (pa_cons (pv 1) (pa_cons (pe_bltn (v := .ty "str") rfl T.n_str b_str rfl) pa_nil))) (pe_and (pe_callB call_isi rfl T.n_isinstance b_isinstance (pa_cons (pv 0) (pa_cons (pe_bltn (v := .ty "str") rfl T.n_str b_str rfl) pa_nil))) (pe_one (pe_cmpR op_eq (pv 0) (pv 1) (nomark _))))))))))), (rs_seq (rs_if (dt_test (di_op os_isN.op di_var di_k)) (rs_ret (DI.df (di_op os_isN.op di_var di_k))) rs_next)
      (rs_seq (rs_if (dt_B (di_isi isTup_T di_var)) (rs_seq (rs_if (dt_or (dt_not (dt_B (di_isi isTup_T di_var))) (dt_test (di_op os_ne.op (di_cb on_len (da_cons di_var da_nil)) (di_cb on_len (da_cons di_var da_nil))))) (rs_ret (DI.df di_k)) rs_next)
      (rs_seq (rs_for (dw_range1 (da_cons (di_cb on_len (da_cons di_var da_nil)) da_nil)) (dg_name (by decide)) (rs_if (dt_not (dt_B (DF.di (df_call (daa_d (di_op os_ix.op di_var di_var) (daa_d (di_op os_ix.op di_var di_var) daa_nil)))))) (rs_ret (DI.df di_k)) rs_next))
      (rs_ret (DI.df di_k)))) rs_next)
      (rs_seq (rs_if (dt_or (dt_B (di_isi isBool_T di_var)) (dt_B (di_isi isBool_T di_var))) (rs_ret (DI.df (di_andV (di_isi isBool_T di_var) (di_andV (di_isi isBool_T di_var) (di_op os_eq.op di_var di_var))))) rs_next)
      (rs_seq (rs_if (dt_B (di_isi isInt_T di_var)) (rs_ret (DI.df (di_andV (di_isi isInt_T di_var) (di_op os_eq.op di_var di_var)))) rs_next)
      (rs_ret (DI.df (di_andV (di_isi isStr_T di_var) (di_andV (di_isi isStr_T di_var) (di_op os_eq.op di_var di_var)))))))))⟩
theorem ok_law_so (T : Tx K mg) : ∀ n : Nat, FnOk P w K mg base (L2.CX P w) (n * 1 + 0) T.f_law_so T.fd_law_so ["found", "meant"] (spD K 2 [] (phi_law_so T.c n))
  | 0 => fn_no rfl
  | n + 1 => by
    have z := st_law_so T (k_law_so := n * 1 + 0) (Nat.le_add_left _ _) (ok_law_so T n)
    rw [show (n + 1) * 1 + 0 = n * 1 + 0 + 1 by omega]
    exact z
theorem ok_is_sequence (T : Tx K mg) : FnOk P w K mg base (L2.CX P w) (1) T.f_is_sequence T.fd_is_sequence ["x"] (spD K 1 [] (phi_is_sequence T.c)) := by
  refine fn_R (k := 0) T.d_is_sequence.F sc_is_sequence rfl rfl (by decide) (by decide) (by decide) fun cdv A outer s H E hr => ?_
  exact ⟨_, (pss_one (ps_ret (pe_callB call_isiT rfl T.n_isinstance b_isinstance (pa_cons (pv 0) (pa_cons (pe_tup (pa_cons (pe_bltn (v := .ty "list") rfl T.n_list b_list rfl) (pa_cons (pe_bltn (v := .ty "tuple") rfl T.n_tuple b_tuple rfl) pa_nil))) pa_nil))))), (rs_ret (DI.df (di_isSeq di_var)))⟩
theorem ok_is_row (T : Tx K mg) : FnOk P w K mg base (L2.CX P w) (2) T.f_is_row T.fd_is_row ["x", "least", "most"] (spD K 3 [] (phi_is_row T.c)) := by
  refine fn_R (k := 1) T.d_is_row.F sc_is_row rfl rfl (by decide) (by decide) (by decide) fun cdv A outer s H E hr => ?_
  exact ⟨_, (pss_one (ps_ret (pe_and (pe_call (ok_is_sequence T) (hr.mono (by decide)) rfl T.d_is_sequence.m T.d_is_sequence.k T.d_is_sequence.b .nil hxx (pa_cons (pv 0) pa_nil)) (pe_and (pe_cmpR op_le (pv 1) (pe_callB cr_len rfl T.n_len b_len (pa_cons (pv 0) pa_nil)) (nomark _)) (pe_one (pe_cmpR op_le (pe_callB cr_len rfl T.n_len b_len (pa_cons (pv 0) pa_nil)) (pv 2) (nomark _))))))), (rs_ret (DI.df (di_andV (DF.di (df_call (daa_d di_var daa_nil))) (di_andV (di_op os_le.op di_var (di_cb on_len (da_cons di_var da_nil))) (di_op os_le.op (di_cb on_len (da_cons di_var da_nil)) di_var)))))⟩
theorem ok_is_name (T : Tx K mg) : FnOk P w K mg base (L2.CX P w) (1) T.f_is_name T.fd_is_name ["x"] (spD K 1 [] (phi_is_name T.c)) := by
  refine fn_R (k := 0) T.d_is_name.F sc_is_name rfl rfl (by decide) (by decide) (by decide) fun cdv A outer s H E hr => ?_
  exact ⟨_, (pss_cons (ps_if (PW.pt (pw_or (pt_not (pt_val (pe_callB call_isi rfl T.n_isinstance b_isinstance (pa_cons (pv 0) (pa_cons (pe_bltn (v := .ty "str") rfl T.n_str b_str rfl) pa_nil))))) (pw_or (pt_cmpR op_eq (pe_callB cr_len rfl T.n_len b_len (pa_cons (pv 0) pa_nil)) pe_int (nomark _)) (pw_or (pt_cmpR op_gt (pe_callB cr_len rfl T.n_len b_len (pa_cons (pv 0) pa_nil)) pe_int (nomark _)) (pw_or1 (pt_cmpR op_in_seq (pv 0) (pe_glob (v := .ref T.a_WORDS) rfl T.c_WORDS rfl) (by with_unfolding_all rfl))))))) (pss_one (ps_ret pe_bl)) pss_nil)
      (pss_one (ps_ret (pe_callB (cr_all rfl) rfl T.n_all b_all (pa_cons (pe_lc rfl sc_is_name.nd (pi_any (pv 0)) (blkOk_by (N := ["x", "sign"]) (sc := defScope s_is_name) (own := [("sign", 1)]) (by decide +kernel)) (fun _ _ _ _ _ => (pg_name (i := 1) sc_is_name.nd rfl (by first | exact Or.inl rfl | exact Or.inr rfl))) (fun _ _ _ _ _ => pts_nil) (fun _ _ _ _ _ => (pe_cmpR op_inSign (pv 1) (pe_glob (v := .str "abcdefghijklmnopqrstuvwxyz") rfl T.c_LETTERS ⟨_, rfl⟩) (by with_unfolding_all rfl)))) pa_nil))))), (rs_seq (rs_if (dt_or (dt_not (dt_B (di_isi isStr_T di_var))) (dt_or (dt_test (di_op os_eq.op (di_cb on_len (da_cons di_var da_nil)) di_k)) (dt_or (dt_test (di_op os_gt.op (di_cb on_len (da_cons di_var da_nil)) di_k)) (dt_test (di_op os_in.op di_var (di_c T.z_WORDS)))))) (rs_ret (DI.df di_k)) rs_next)
      (rs_ret (DI.df (di_cb on_all (da_cons (DF.di (df_lc (vs := [1]) (dw_any di_var) (dg_name (by decide)) gYes (DI.df (di_op os_inSign.op di_var di_k)) (by decide))) da_nil)))))⟩
theorem ok_is_outline (T : Tx K mg) : FnOk P w K mg base (L2.CX P w) (3) T.f_is_outline T.fd_is_outline ["x"] (spD K 1 [] (phi_is_outline T.c)) := by
  refine fn_R (k := 2) T.d_is_outline.F sc_is_outline rfl rfl (by decide) (by decide) (by decide) fun cdv A outer s H E hr => ?_
  exact ⟨_, (pss_cons (ps_if (PW.pt (pw_or (pt_not (pt_val (pe_call (ok_is_row T) (hr.mono (by decide)) rfl T.d_is_row.m T.d_is_row.k T.d_is_row.b .nil hxx (pa_cons (pv 0) (pa_cons pe_int (pa_cons pe_int pa_nil)))))) (pw_or1 (pt_not (pt_val (pe_callB call_isi rfl T.n_isinstance b_isinstance (pa_cons (pe_ix ix_seq (pv 0) pe_int (fun _ _ => rfl)) (pa_cons (pe_bltn (v := .ty "str") rfl T.n_str b_str rfl) pa_nil)))))))) (pss_one (ps_ret pe_bl)) pss_nil)
      (pss_cons (ps_if (pt_cmpR op_eq (pe_callB cr_len rfl T.n_len b_len (pa_cons (pv 0) pa_nil)) pe_int (nomark _)) (pss_one (ps_ret (pe_cmpR op_eq (pe_ix ix_seq (pv 0) pe_int (fun _ _ => rfl)) pe_str (nomark _)))) pss_nil)
      (pss_cons (ps_if (pt_cmpR op_eq (pe_ix ix_seq (pv 0) pe_int (fun _ _ => rfl)) pe_str (nomark _)) (pss_one (ps_ret (pe_call (ok_is_name T) (hr.mono (by decide)) rfl T.d_is_name.m T.d_is_name.k T.d_is_name.b .nil hxx (pa_cons (pe_ix ix_seq (pv 0) pe_int (fun _ _ => rfl)) pa_nil)))) pss_nil)
      (pss_cons (ps_if (PW.pt (pw_or (pt_cmpR op_eq (pe_ix ix_seq (pv 0) pe_int (fun _ _ => rfl)) pe_str (nomark _)) (pw_or1 (pt_cmpR op_eq (pe_ix ix_seq (pv 0) pe_int (fun _ _ => rfl)) pe_str (nomark _))))) (pss_one (ps_ret (pe_call (ok_is_row T) (hr.mono (by decide)) rfl T.d_is_row.m T.d_is_row.k T.d_is_row.b .nil hxx (pa_cons (pe_ix ix_seq (pv 0) pe_int (fun _ _ => rfl)) (pa_cons (pe_glob (v := .int 2) rfl T.c_LEAST_MEMBERS ⟨_, rfl⟩) (pa_cons (pe_glob (v := .int 5) rfl T.c_MOST_MEMBERS ⟨_, rfl⟩) pa_nil)))))) pss_nil)
      (pss_one (ps_ret (pe_cmpR op_eq (pe_ix ix_seq (pv 0) pe_int (fun _ _ => rfl)) pe_str (nomark _)))))))), (rs_seq (rs_if (dt_or (dt_not (dt_B (DF.di (df_call (daa_d di_var (daa_d di_k (daa_d di_k daa_nil))))))) (dt_not (dt_B (di_isi isStr_T (di_op os_ix.op di_var di_k))))) (rs_ret (DI.df di_k)) rs_next)
      (rs_seq (rs_if (dt_test (di_op os_eq.op (di_cb on_len (da_cons di_var da_nil)) di_k)) (rs_ret (DI.df (di_op os_eq.op (di_op os_ix.op di_var di_k) di_k))) rs_next)
      (rs_seq (rs_if (dt_test (di_op os_eq.op (di_op os_ix.op di_var di_k) di_k)) (rs_ret (df_call (daa_d (di_op os_ix.op di_var di_k) daa_nil))) rs_next)
      (rs_seq (rs_if (dt_or (dt_test (di_op os_eq.op (di_op os_ix.op di_var di_k) di_k)) (dt_test (di_op os_eq.op (di_op os_ix.op di_var di_k) di_k))) (rs_ret (df_call (daa_d (di_op os_ix.op di_var di_k) (daa_d di_k (daa_d di_k daa_nil))))) rs_next)
      (rs_ret (DI.df (di_op os_eq.op (di_op os_ix.op di_var di_k) di_k)))))))⟩
theorem ok_inner_patterns (T : Tx K mg) : FnOk P w K mg base (L2.CX P w) (1) T.f_inner_patterns T.fd_inner_patterns ["pattern"] (spD K 1 [] (phi_inner_patterns T.c)) := by
  refine fn_R (k := 0) T.d_inner_patterns.F sc_inner_patterns rfl rfl (by decide) (by decide) (by decide) fun cdv A outer s H E hr => ?_
  exact ⟨_, (pss_cons (ps_if (pt_cmpR op_eq (pe_ix ix_seq (pv 0) pe_int (fun _ _ => rfl)) pe_str (nomark _)) (pss_one (ps_ret (pe_lst (pa_cons (pe_ix ix_seq (pv 0) pe_int (fun _ _ => rfl)) pa_nil)))) pss_nil)
      (pss_cons (ps_if (PW.pt (pw_or (pt_cmpR op_eq (pe_ix ix_seq (pv 0) pe_int (fun _ _ => rfl)) pe_str (nomark _)) (pw_or1 (pt_cmpR op_eq (pe_ix ix_seq (pv 0) pe_int (fun _ _ => rfl)) pe_str (nomark _))))) (pss_one (ps_ret (pe_callTy cr_listOf rfl T.n_list b_list (pa_cons (pe_ix ix_seq (pv 0) pe_int (fun _ _ => rfl)) pa_nil)))) pss_nil)
      (pss_one (ps_ret (pe_lst pa_nil))))), (rs_seq (rs_if (dt_test (di_op os_eq.op (di_op os_ix.op di_var di_k) di_k)) (rs_ret (df_lst (da_cons (di_op os_ix.op di_var di_k) da_nil))) rs_next)
      (rs_seq (rs_if (dt_or (dt_test (di_op os_eq.op (di_op os_ix.op di_var di_k) di_k)) (dt_test (di_op os_eq.op (di_op os_ix.op di_var di_k) di_k))) (rs_ret (df_cb ox_listOf (da_cons (di_op os_ix.op di_var di_k) da_nil))) rs_next)
      (rs_ret (df_lst da_nil))))⟩
theorem ok_is_pattern (T : Tx K mg) : FnOk P w K mg base (L2.CX P w) (4) T.f_is_pattern T.fd_is_pattern ["x"] (spD K 1 [] (phi_is_pattern T.c)) := by
  refine fn_R (k := 3) T.d_is_pattern.F sc_is_pattern rfl rfl (by decide) (by decide) (by decide) fun cdv A outer s H E hr => ?_
  exact ⟨_, (pss_cons (ps_set (i := 1) sc_is_pattern.nd rfl (by first | exact Or.inl rfl | exact Or.inr rfl) pe_int)
      (pss_cons (ps_set (i := 2) sc_is_pattern.nd rfl (by first | exact Or.inl rfl | exact Or.inr rfl) (pe_lst (pa_cons (pe_tup (pa_cons (pv 0) (pa_cons pe_int pa_nil))) pa_nil)))
      (pss_cons (ps_while hpx (pt_truth (pv 2) (fun _ => rfl)) (pss_cons (ps_asg (pe_bm0 PySem.F.plainAttrs_list PySem.F.slot_list_pop PySem.F.type_list_pop mt_pop (pv 2)) (pg_tup rfl (pgs_cons (pg_name (i := 3) sc_is_pattern.nd rfl (by first | exact Or.inl rfl | exact Or.inr rfl)) (pgs_cons (pg_name (i := 4) sc_is_pattern.nd rfl (by first | exact Or.inl rfl | exact Or.inr rfl)) pgs_nil))))
      (pss_cons (ps_aug (i := 1) sc_is_pattern.nd rfl (by first | exact Or.inl rfl | exact Or.inr rfl) pe_int iop_add)
      (pss_cons (ps_if (PW.pt (pw_or (pt_cmpR op_gt (pv 1) (pe_glob (v := .int 12) rfl T.c_MOST_PATTERNS ⟨_, rfl⟩) (nomark _)) (pw_or (pt_cmpR op_gt (pv 4) (pe_glob (v := .int 5) rfl T.c_MOST_LEVELS ⟨_, rfl⟩) (nomark _)) (pw_or1 (pt_not (pt_val (pe_call (ok_is_outline T) (hr.mono (by decide)) rfl T.d_is_outline.m T.d_is_outline.k T.d_is_outline.b .nil hxx (pa_cons (pv 3) pa_nil)))))))) (pss_one (ps_ret pe_bl)) pss_nil)
      (pss_one (ps_for hpx rfl (pi_any (pe_call (ok_inner_patterns T) (hr.mono (by decide)) rfl T.d_inner_patterns.m T.d_inner_patterns.k T.d_inner_patterns.b .nil hxx (pa_cons (pv 3) pa_nil))) (pg_name (i := 5) sc_is_pattern.nd rfl (by first | exact Or.inl rfl | exact Or.inr rfl)) (pss_one (ps_expr (pe_bm PySem.F.plainAttrs_list PySem.F.slot_list_append PySem.F.type_list_append mt_append (pv 2) (pa_cons (pe_tup (pa_cons (pv 5) (pa_cons (pe_op op_addU (pv 4) pe_int) pa_nil))) pa_nil))))))))))
      (pss_one (ps_ret pe_bl))))), (rs_seq (rs_set (DI.df di_k) (by decide))
      (rs_seq (rs_set (df_lst (da_cons (di_tup (da_cons di_var (da_cons di_k da_nil))) da_nil)) (by decide))
      (rs_seq (rs_while (dt_truP pl_var) (rs_seq (rs_asg (di_pop pl_var) (dg_tup (dg_cons (dg_name (by decide)) (dg_cons (dg_name (by decide)) dg_nil))))
      (rs_seq (rs_aug os_add.op di_k (by decide))
      (rs_seq (rs_if (dt_or (dt_test (di_op os_gt.op di_var di_k)) (dt_or (dt_test (di_op os_gt.op di_var di_k)) (dt_not (dt_B (DF.di (df_call (daa_d di_var daa_nil))))))) (rs_ret (DI.df di_k)) rs_next)
      (rs_for (dw_any (DF.di (df_call (daa_d di_var daa_nil)))) (dg_name (by decide)) (rs_app (DI.df (di_tup (da_cons di_var (da_cons (DF.di (df_op ox_add di_var di_k)) da_nil))))))))))
      (rs_ret (DI.df di_k)))))⟩
theorem ok_check_diary (T : Tx K mg) : FnOk P w K mg base (L2.CX P w) (5) T.f_check_diary T.fd_check_diary ["pattern", "diary"] (spD K 2 [] (phi_check_diary T.c)) := by
  refine fn_R (k := 4) T.d_check_diary.F sc_check_diary rfl rfl (by decide) (by decide) (by decide) fun cdv A outer s H E hr => ?_
  exact ⟨_, (pss_cons (ps_if (pt_not (pt_val (pe_call (ok_is_pattern T) (hr.mono (by decide)) rfl T.d_is_pattern.m T.d_is_pattern.k T.d_is_pattern.b .nil hxx (pa_cons (pv 0) pa_nil)))) (pss_one ps_never) pss_nil)
      (pss_one (ps_if (PW.pt (pw_or (pt_not (pt_val (pe_call (ok_is_row T) (hr.mono (by decide)) rfl T.d_is_row.m T.d_is_row.k T.d_is_row.b .nil hxx (pa_cons (pv 1) (pa_cons pe_int (pa_cons (pe_glob (v := .int 30) rfl T.c_MOST_EVENTS ⟨_, rfl⟩) pa_nil)))))) (pw_or1 (pt_not (pt_val (pe_callB (cr_all rfl) rfl T.n_all b_all (pa_cons (pe_lc rfl sc_check_diary.nd (pi_any (pv 1)) (blkOk_by (N := ["pattern", "diary", "event"]) (sc := defScope s_check_diary) (own := [("event", 2)]) (by decide +kernel)) (fun _ _ _ _ _ => (pg_name (i := 2) sc_check_diary.nd rfl (by first | exact Or.inl rfl | exact Or.inr rfl))) (fun _ _ _ _ _ => pts_nil) (fun _ _ _ _ _ => (pe_call (ok_is_name T) (hr.mono (by decide)) rfl T.d_is_name.m T.d_is_name.k T.d_is_name.b .nil passL (pa_cons (pv 2) pa_nil)))) pa_nil))))))) (pss_one ps_never) pss_nil))), (rs_seq (rs_if (dt_not (dt_B (DF.di (df_call (daa_d di_var daa_nil))))) rs_never rs_next)
      (rs_if (dt_or (dt_not (dt_B (DF.di (df_call (daa_d di_var (daa_d di_k (daa_d di_k daa_nil))))))) (dt_not (dt_B (di_cb on_all (da_cons (DF.di (df_lc (vs := [2]) (dw_any di_var) (dg_name (by decide)) gYes (df_call (daa_d di_var daa_nil)) (by decide))) da_nil))))) rs_never rs_next))⟩
theorem ok_PatternNet_laid_event (T : Tx K mg) : FnOk P w K mg base (L2.CX P w) (1) T.f_PatternNet_laid_event T.fd_PatternNet_laid_event ["self", "name"] (spD K 2 [0] (phi_PatternNet_laid_event T.c)) := by
  refine fn_R (k := 0) T.d_PatternNet_laid_event.F sc_PatternNet_laid_event rfl rfl (by decide) (by decide) (by decide) fun cdv A outer s H E hr => ?_
  exact ⟨_, (pss_cons (ps_set (i := 2) sc_PatternNet_laid_event.nd rfl (by first | exact Or.inl rfl | exact Or.inr rfl) (pe_op op_shl pe_int (pe_callB cr_len rfl T.n_len b_len (pa_cons (pe_fld (pv 0) rfl) pa_nil))))
      (pss_cons (ps_expr (pe_bm PySem.F.plainAttrs_list PySem.F.slot_list_append PySem.F.type_list_append mt_append (pe_fld (pv 0) rfl) (pa_cons (pv 1) pa_nil)))
      (pss_cons (ps_expr (pe_bm PySem.F.plainAttrs_list PySem.F.slot_list_append PySem.F.type_list_append mt_append (pe_fld (pv 0) rfl) (pa_cons pe_int pa_nil)))
      (pss_one (ps_ret (pe_tup (pa_cons pe_bl (pa_cons (pv 2) (pa_cons (pv 2) pa_nil))))))))), (rs_seq (rs_set (DI.df (di_op os_shl.op di_k (SX.di (sx_lenP (pl_fld pl_var T.cl_PatternNet T.na_wanted))))) (by decide))
      (rs_seq (rs_appP (pl_fld pl_var T.cl_PatternNet T.na_wanted) pl_var.sx)
      (rs_seq (rs_appP (pl_fld pl_var T.cl_PatternNet T.na_behind) sx_k)
      (rs_ret (DI.df (di_tup (da_cons di_k (da_cons di_var (da_cons di_var da_nil)))))))))⟩
theorem ok_PatternNet_lead (T : Tx K mg) : FnOk P w K mg base (L2.CX P w) (1) T.f_PatternNet_lead T.fd_PatternNet_lead ["self", "places", "state"] (spD K 3 [0] (phi_PatternNet_lead T.c)) := by
  refine fn_R (k := 0) T.d_PatternNet_lead.F sc_PatternNet_lead rfl rfl (by decide) (by decide) (by decide) fun cdv A outer s H E hr => ?_
  exact ⟨_, (pss_one (ps_for hpx rfl (pi_range1 rfl T.n_range (pa_cons (pe_callB cr_len rfl T.n_len b_len (pa_cons (pe_fld (pv 0) rfl) pa_nil)) pa_nil)) (pg_name (i := 3) sc_PatternNet_lead.nd rfl (by first | exact Or.inl rfl | exact Or.inr rfl)) (pss_one (ps_if (pt_cmpR op_eq (pe_op op_and (pe_op op_shr (pv 1) (pv 3)) pe_int) pe_int (nomark _)) (pss_one (ps_augS (pe_fld (pv 0) rfl) (pv 3) pget_list (pv 2) iop_or set_list)) pss_nil)))), (rs_for (dw_range1 (da_cons (SX.di (sx_lenP (pl_fld pl_var T.cl_PatternNet T.na_behind))) da_nil)) (dg_name (by decide)) (rs_if (dt_test (di_op os_eq.op (di_op os_and.op (di_op os_shr.op di_var di_var) di_k) di_k)) (rs_augIx os_or (pl_fld pl_var T.cl_PatternNet T.na_behind) pl_var.sx pl_var.sx) rs_next))⟩
theorem ok_PatternNet_laid_either (T : Tx K mg) {k_PatternNet_laid : Nat} {Φ : Ph} (hb : 1 ≤ k_PatternNet_laid) (G_PatternNet_laid : FnOk P w K mg base (L2.CX P w) (k_PatternNet_laid) T.f_PatternNet_laid T.fd_PatternNet_laid ["self", "pattern"] (spD K 2 [0] Φ)) : FnOk P w K mg base (L2.CX P w) (k_PatternNet_laid + 1) T.f_PatternNet_laid_either T.fd_PatternNet_laid_either ["self", "members"] (spD K 2 [0] (phi_PatternNet_laid_either T.c Φ)) := by
  refine fn_R (k := k_PatternNet_laid + 0) T.d_PatternNet_laid_either.F sc_PatternNet_laid_either rfl rfl (by decide) (by decide) (by decide) fun cdv A outer s H E hr => ?_
  exact ⟨_, (pss_cons (ps_asg (pe_tup (pa_cons pe_bl (pa_cons pe_int (pa_cons pe_int pa_nil)))) (pg_tup rfl (pgs_cons (pg_name (i := 2) sc_PatternNet_laid_either.nd rfl (by first | exact Or.inl rfl | exact Or.inr rfl)) (pgs_cons (pg_name (i := 3) sc_PatternNet_laid_either.nd rfl (by first | exact Or.inl rfl | exact Or.inr rfl)) (pgs_cons (pg_name (i := 4) sc_PatternNet_laid_either.nd rfl (by first | exact Or.inl rfl | exact Or.inr rfl)) pgs_nil)))))
      (pss_cons (ps_for hpx rfl (pi_any (pv 1)) (pg_name (i := 5) sc_PatternNet_laid_either.nd rfl (by first | exact Or.inl rfl | exact Or.inr rfl)) (pss_cons (ps_asg (pe_meth (pv 0) T.cl_PatternNet T.d_PatternNet_laid.m G_PatternNet_laid (hr.mono (by omega)) T.d_PatternNet_laid.b .nil hxx (pa_cons (pv 5) pa_nil)) (pg_tup rfl (pgs_cons (pg_name (i := 6) sc_PatternNet_laid_either.nd rfl (by first | exact Or.inl rfl | exact Or.inr rfl)) (pgs_cons (pg_name (i := 7) sc_PatternNet_laid_either.nd rfl (by first | exact Or.inl rfl | exact Or.inr rfl)) (pgs_cons (pg_name (i := 8) sc_PatternNet_laid_either.nd rfl (by first | exact Or.inl rfl | exact Or.inr rfl)) pgs_nil)))))
      (pss_cons (ps_aug (i := 3) sc_PatternNet_laid_either.nd rfl (by first | exact Or.inl rfl | exact Or.inr rfl) (pv 7) iop_or)
      (pss_cons (ps_aug (i := 4) sc_PatternNet_laid_either.nd rfl (by first | exact Or.inl rfl | exact Or.inr rfl) (pv 8) iop_or)
      (pss_one (ps_set (i := 2) sc_PatternNet_laid_either.nd rfl (by first | exact Or.inl rfl | exact Or.inr rfl) (pe_or (pv 2) (pe_one (pv 6)))))))))
      (pss_one (ps_ret (pe_tup (pa_cons (pv 2) (pa_cons (pv 3) (pa_cons (pv 4) pa_nil)))))))), (rs_seq (rs_asg (di_tup (da_cons di_k (da_cons di_k (da_cons di_k da_nil)))) (dg_tup (dg_cons (dg_name (by decide)) (dg_cons (dg_name (by decide)) (dg_cons (dg_name (by decide)) dg_nil)))))
      (rs_seq (rs_for (dw_any di_var) (dg_name (by decide)) (rs_seq (rs_asg (DF.di (df_methA (daa_d di_var daa_nil))) (dg_tup (dg_cons (dg_name (by decide)) (dg_cons (dg_name (by decide)) (dg_cons (dg_name (by decide)) dg_nil)))))
      (rs_seq (rs_aug os_or.op di_var (by decide))
      (rs_seq (rs_aug os_or.op di_var (by decide))
      (rs_set (DI.df (di_orV di_var di_var)) (by decide))))))
      (rs_ret (DI.df (di_tup (da_cons di_var (da_cons di_var (da_cons di_var da_nil))))))))⟩
theorem ok_PatternNet_laid_row (T : Tx K mg) {k_PatternNet_laid : Nat} {Φ : Ph} (hb : 1 ≤ k_PatternNet_laid) (G_PatternNet_laid : FnOk P w K mg base (L2.CX P w) (k_PatternNet_laid) T.f_PatternNet_laid T.fd_PatternNet_laid ["self", "pattern"] (spD K 2 [0] Φ)) : FnOk P w K mg base (L2.CX P w) (k_PatternNet_laid + 1) T.f_PatternNet_laid_row T.fd_PatternNet_laid_row ["self", "members"] (spD K 2 [0] (phi_PatternNet_laid_row T.c Φ)) := by
  refine fn_R (k := k_PatternNet_laid + 0) T.d_PatternNet_laid_row.F sc_PatternNet_laid_row rfl rfl (by decide) (by decide) (by decide) fun cdv A outer s H E hr => ?_
  exact ⟨_, (pss_cons (ps_asg (pe_tup (pa_cons pe_bl (pa_cons pe_int (pa_cons pe_int pa_nil)))) (pg_tup rfl (pgs_cons (pg_name (i := 2) sc_PatternNet_laid_row.nd rfl (by first | exact Or.inl rfl | exact Or.inr rfl)) (pgs_cons (pg_name (i := 3) sc_PatternNet_laid_row.nd rfl (by first | exact Or.inl rfl | exact Or.inr rfl)) (pgs_cons (pg_name (i := 4) sc_PatternNet_laid_row.nd rfl (by first | exact Or.inl rfl | exact Or.inr rfl)) pgs_nil)))))
      (pss_cons (ps_for hpx rfl (pi_any (pv 1)) (pg_name (i := 5) sc_PatternNet_laid_row.nd rfl (by first | exact Or.inl rfl | exact Or.inr rfl)) (pss_cons (ps_asg (pe_meth (pv 0) T.cl_PatternNet T.d_PatternNet_laid.m G_PatternNet_laid (hr.mono (by omega)) T.d_PatternNet_laid.b .nil hxx (pa_cons (pv 5) pa_nil)) (pg_tup rfl (pgs_cons (pg_name (i := 6) sc_PatternNet_laid_row.nd rfl (by first | exact Or.inl rfl | exact Or.inr rfl)) (pgs_cons (pg_name (i := 7) sc_PatternNet_laid_row.nd rfl (by first | exact Or.inl rfl | exact Or.inr rfl)) (pgs_cons (pg_name (i := 8) sc_PatternNet_laid_row.nd rfl (by first | exact Or.inl rfl | exact Or.inr rfl)) pgs_nil)))))
      (pss_cons (ps_expr (pe_meth (pv 0) T.cl_PatternNet T.d_PatternNet_lead.m (ok_PatternNet_lead T) (hr.mono (by omega)) T.d_PatternNet_lead.b .nil hxx (pa_cons (pv 4) (pa_cons (pv 7) pa_nil))))
      (pss_cons (ps_if (pt_truth (pv 2) (fun _ => rfl)) (pss_one (ps_aug (i := 3) sc_PatternNet_laid_row.nd rfl (by first | exact Or.inl rfl | exact Or.inr rfl) (pv 7) iop_or)) pss_nil)
      (pss_cons (ps_set (i := 4) sc_PatternNet_laid_row.nd rfl (by first | exact Or.inl rfl | exact Or.inr rfl) (pe_ifExp (pt_truth (pv 6) (fun _ => rfl)) (pe_op op_or (pv 4) (pv 8)) (pv 8)))
      (pss_one (ps_set (i := 2) sc_PatternNet_laid_row.nd rfl (by first | exact Or.inl rfl | exact Or.inr rfl) (pe_and (pv 2) (pe_one (pv 6))))))))))
      (pss_one (ps_ret (pe_tup (pa_cons (pv 2) (pa_cons (pv 3) (pa_cons (pv 4) pa_nil)))))))), (rs_seq (rs_asg (di_tup (da_cons di_k (da_cons di_k (da_cons di_k da_nil)))) (dg_tup (dg_cons (dg_name (by decide)) (dg_cons (dg_name (by decide)) (dg_cons (dg_name (by decide)) dg_nil)))))
      (rs_seq (rs_for (dw_any di_var) (dg_name (by decide)) (rs_seq (rs_asg (DF.di (df_methA (daa_d di_var daa_nil))) (dg_tup (dg_cons (dg_name (by decide)) (dg_cons (dg_name (by decide)) (dg_cons (dg_name (by decide)) dg_nil)))))
      (rs_seq (rs_drop (DF.di (df_methA (daa_d di_var (daa_d di_var daa_nil)))))
      (rs_seq (rs_if (dt_tru di_var) (rs_aug os_or.op di_var (by decide)) rs_next)
      (rs_seq (rs_set (DI.df (di_if (dt_tru di_var) (di_op os_or.op di_var di_var) di_var)) (by decide))
      (rs_set (DI.df (di_andV di_var di_var)) (by decide)))))))
      (rs_ret (DI.df (di_tup (da_cons di_var (da_cons di_var (da_cons di_var da_nil))))))))⟩
theorem st_PatternNet_laid (T : Tx K mg) {k_PatternNet_laid : Nat} {Φ : Ph} (hb : 1 ≤ k_PatternNet_laid) (G_PatternNet_laid : FnOk P w K mg base (L2.CX P w) (k_PatternNet_laid) T.f_PatternNet_laid T.fd_PatternNet_laid ["self", "pattern"] (spD K 2 [0] Φ)) : FnOk P w K mg base (L2.CX P w) (k_PatternNet_laid + 2) T.f_PatternNet_laid T.fd_PatternNet_laid ["self", "pattern"] (spD K 2 [0] (phi 6 2 [0] (run_PatternNet_laid T.c (phi_PatternNet_laid_row T.c Φ) (phi_PatternNet_laid_either T.c Φ) Φ))) := by
  have G_PatternNet_laid_row := ok_PatternNet_laid_row T hb G_PatternNet_laid
  have G_PatternNet_laid_either := ok_PatternNet_laid_either T hb G_PatternNet_laid
  refine fn_R (k := k_PatternNet_laid + 1) T.d_PatternNet_laid.F sc_PatternNet_laid rfl rfl (by decide) (by decide) (by decide) fun cdv A outer s H E hr => ?_
  exact ⟨_, (pss_cons (ps_set (i := 2) sc_PatternNet_laid.nd rfl (by first | exact Or.inl rfl | exact Or.inr rfl) (pe_ix ix_seq (pv 1) pe_int (fun _ _ => rfl)))
      (pss_cons (ps_if (pt_cmpR op_eq (pv 2) pe_str (nomark _)) (pss_one (ps_ret (pe_meth (pv 0) T.cl_PatternNet T.d_PatternNet_laid_event.m (ok_PatternNet_laid_event T) (hr.mono (by omega)) T.d_PatternNet_laid_event.b .nil hxx (pa_cons (pe_ix ix_seq (pv 1) pe_int (fun _ _ => rfl)) pa_nil)))) pss_nil)
      (pss_cons (ps_if (pt_cmpR op_eq (pv 2) pe_str (nomark _)) (pss_one (ps_ret (pe_meth (pv 0) T.cl_PatternNet T.d_PatternNet_laid_event.m (ok_PatternNet_laid_event T) (hr.mono (by omega)) T.d_PatternNet_laid_event.b .nil hxx (pa_cons pe_non pa_nil)))) pss_nil)
      (pss_cons (ps_if (pt_cmpR op_eq (pv 2) pe_str (nomark _)) (pss_one (ps_ret (pe_meth (pv 0) T.cl_PatternNet T.d_PatternNet_laid_row.m G_PatternNet_laid_row (hr.mono (by omega)) T.d_PatternNet_laid_row.b .nil hxx (pa_cons (pe_ix ix_seq (pv 1) pe_int (fun _ _ => rfl)) pa_nil)))) pss_nil)
      (pss_cons (ps_if (pt_cmpR op_eq (pv 2) pe_str (nomark _)) (pss_one (ps_ret (pe_meth (pv 0) T.cl_PatternNet T.d_PatternNet_laid_either.m G_PatternNet_laid_either (hr.mono (by omega)) T.d_PatternNet_laid_either.b .nil hxx (pa_cons (pe_ix ix_seq (pv 1) pe_int (fun _ _ => rfl)) pa_nil)))) pss_nil)
      (pss_cons (ps_asg (pe_meth (pv 0) T.cl_PatternNet T.d_PatternNet_laid.m G_PatternNet_laid (hr.mono (by omega)) T.d_PatternNet_laid.b .nil hxx (pa_cons (pe_ix ix_seq (pv 1) pe_int (fun _ _ => rfl)) pa_nil)) (pg_tup rfl (pgs_cons (pg_name (i := 3) sc_PatternNet_laid.nd rfl (by first | exact Or.inl rfl | exact Or.inr rfl)) (pgs_cons (pg_name (i := 4) sc_PatternNet_laid.nd rfl (by first | exact Or.inl rfl | exact Or.inr rfl)) (pgs_cons (pg_name (i := 5) sc_PatternNet_laid.nd rfl (by first | exact Or.inl rfl | exact Or.inr rfl)) pgs_nil)))))
      (pss_cons (ps_expr (pe_meth (pv 0) T.cl_PatternNet T.d_PatternNet_lead.m (ok_PatternNet_lead T) (hr.mono (by omega)) T.d_PatternNet_lead.b .nil hxx (pa_cons (pv 5) (pa_cons (pv 4) pa_nil))))
      (pss_one (ps_ret (pe_tup (pa_cons pe_bl (pa_cons (pv 4) (pa_cons (pv 5) pa_nil))))))))))))), (rs_seq (rs_set (DI.df (di_op os_ix.op di_var di_k)) (by decide))
      (rs_seq (rs_if (dt_test (di_op os_eq.op di_var di_k)) (rs_ret (df_methA (daa_d (di_op os_ix.op di_var di_k) daa_nil))) rs_next)
      (rs_seq (rs_if (dt_test (di_op os_eq.op di_var di_k)) (rs_ret (df_methA (daa_d di_k daa_nil))) rs_next)
      (rs_seq (rs_if (dt_test (di_op os_eq.op di_var di_k)) (rs_ret (df_methA (daa_d (di_op os_ix.op di_var di_k) daa_nil))) rs_next)
      (rs_seq (rs_if (dt_test (di_op os_eq.op di_var di_k)) (rs_ret (df_methA (daa_d (di_op os_ix.op di_var di_k) daa_nil))) rs_next)
      (rs_seq (rs_asg (DF.di (df_methA (daa_d (di_op os_ix.op di_var di_k) daa_nil))) (dg_tup (dg_cons (dg_name (by decide)) (dg_cons (dg_name (by decide)) (dg_cons (dg_name (by decide)) dg_nil)))))
      (rs_seq (rs_drop (DF.di (df_methA (daa_d di_var (daa_d di_var daa_nil)))))
      (rs_ret (DI.df (di_tup (da_cons di_k (da_cons di_var (da_cons di_var da_nil)))))))))))))⟩
theorem ok_PatternNet_laid (T : Tx K mg) : ∀ n : Nat, FnOk P w K mg base (L2.CX P w) (n * 2 + 1) T.f_PatternNet_laid T.fd_PatternNet_laid ["self", "pattern"] (spD K 2 [0] (phi_PatternNet_laid T.c n))
  | 0 => fn_no rfl
  | n + 1 => by
    have z := st_PatternNet_laid T (k_PatternNet_laid := n * 2 + 1) (Nat.le_add_left _ _) (ok_PatternNet_laid T n)
    rw [show (n + 1) * 2 + 1 = n * 2 + 1 + 2 by omega]
    exact z
theorem ok_PatternNet_init (T : Tx K mg) : FnOk P w K mg base (L2.CX P w) (14) T.f_PatternNet_init T.fd_PatternNet_init ["self", "pattern"] (spD K 2 [0] (phi_PatternNet_init T.c)) := by
  refine fn_R (k := 13) T.d_PatternNet_init.F sc_PatternNet_init rfl rfl (by decide) (by decide) (by decide) fun cdv A outer s H E hr => ?_
  exact ⟨_, (pss_cons (ps_fld (pv 0) (pe_lst pa_nil) rfl)
      (pss_cons (ps_fld (pv 0) (pe_lst pa_nil) rfl)
      (pss_cons (ps_asg (pe_meth (pv 0) T.cl_PatternNet T.d_PatternNet_laid.m (ok_PatternNet_laid T 6) (hr.mono (by decide)) T.d_PatternNet_laid.b .nil hxx (pa_cons (pv 1) pa_nil)) (pg_tup rfl (pgs_cons (pg_name (i := 2) sc_PatternNet_init.nd rfl (by first | exact Or.inl rfl | exact Or.inr rfl)) (pgs_cons (pg_name (i := 3) sc_PatternNet_init.nd rfl (by first | exact Or.inl rfl | exact Or.inr rfl)) (pgs_cons (pg_name (i := 4) sc_PatternNet_init.nd rfl (by first | exact Or.inl rfl | exact Or.inr rfl)) pgs_nil)))))
      (pss_cons (ps_set (i := 5) sc_PatternNet_init.nd rfl (by first | exact Or.inl rfl | exact Or.inr rfl) (pe_op op_shl pe_int (pe_callB cr_len rfl T.n_len b_len (pa_cons (pe_fld (pv 0) rfl) pa_nil))))
      (pss_cons (ps_expr (pe_meth (pv 0) T.cl_PatternNet T.d_PatternNet_lead.m (ok_PatternNet_lead T) (hr.mono (by decide)) T.d_PatternNet_lead.b .nil hxx (pa_cons (pv 4) (pa_cons (pv 5) pa_nil))))
      (pss_one (ps_fld (pv 0) (pe_ifExp (pt_truth (pv 2) (fun _ => rfl)) (pe_op op_or (pv 3) (pv 5)) (pv 3)) rfl))))))), (rs_seq (rs_attr (df_lst da_nil) T.cl_PatternNet T.na_wanted)
      (rs_seq (rs_attr (df_lst da_nil) T.cl_PatternNet T.na_behind)
      (rs_seq (rs_asg (DF.di (df_methA (daa_d di_var daa_nil))) (dg_tup (dg_cons (dg_name (by decide)) (dg_cons (dg_name (by decide)) (dg_cons (dg_name (by decide)) dg_nil)))))
      (rs_seq (rs_set (DI.df (di_op os_shl.op di_k (SX.di (sx_lenP (pl_fld pl_var T.cl_PatternNet T.na_wanted))))) (by decide))
      (rs_seq (rs_drop (DF.di (df_methA (daa_d di_var (daa_d di_var daa_nil)))))
      (rs_attr (DI.df (di_if (dt_tru di_var) (di_op os_or.op di_var di_var) di_var)) T.cl_PatternNet T.na_start))))))⟩
theorem ok_PatternNet_after (T : Tx K mg) : FnOk P w K mg base (L2.CX P w) (1) T.f_PatternNet_after T.fd_PatternNet_after ["self", "state", "event"] (spD K 3 [] (phi_PatternNet_after T.c)) := by
  refine fn_R (k := 0) T.d_PatternNet_after.F sc_PatternNet_after rfl rfl (by decide) (by decide) (by decide) fun cdv A outer s H E hr => ?_
  exact ⟨_, (pss_cons (ps_set (i := 3) sc_PatternNet_after.nd rfl (by first | exact Or.inl rfl | exact Or.inr rfl) pe_int)
      (pss_cons (ps_for hpx rfl (pi_enA rfl T.n_enumerate (pa_cons (pe_fld (pv 0) rfl) pa_nil)) (pg_tup rfl (pgs_cons (pg_name (i := 4) sc_PatternNet_after.nd rfl (by first | exact Or.inl rfl | exact Or.inr rfl)) (pgs_cons (pg_name (i := 5) sc_PatternNet_after.nd rfl (by first | exact Or.inl rfl | exact Or.inr rfl)) pgs_nil))) (pss_one (ps_if (PW.pt (pw_and (pt_cmpR op_eq (pe_op op_and (pe_op op_shr (pv 1) (pv 4)) pe_int) pe_int (nomark _)) (pw_and1 (PW.pt (pw_or (pt_cmpR op_isN' (pv 5) pe_non (nomark _)) (pw_or1 (pt_cmpR op_eq (pv 5) (pv 2) (nomark _)))))))) (pss_one (ps_aug (i := 3) sc_PatternNet_after.nd rfl (by first | exact Or.inl rfl | exact Or.inr rfl) (pe_ix ix_seq (pe_fld (pv 0) rfl) (pv 4) (fun _ _ => rfl)) iop_or)) pss_nil)))
      (pss_one (ps_ret (pv 3))))), (rs_seq (rs_set (DI.df di_k) (by decide))
      (rs_seq (rs_for (dw_enA (da_cons (di_fld di_var T.cl_PatternNet T.na_wanted) da_nil)) (dg_tup (dg_cons (dg_name (by decide)) (dg_cons (dg_name (by decide)) dg_nil))) (rs_if (dt_and (dt_test (di_op os_eq.op (di_op os_and.op (di_op os_shr.op di_var di_var) di_k) di_k)) (dt_or (dt_test (di_op os_isN.op di_var di_k)) (dt_test (di_op os_eq.op di_var di_var)))) (rs_aug os_or.op (di_op os_ix.op (di_fld di_var T.cl_PatternNet T.na_behind) di_var) (by decide)) rs_next))
      (rs_ret (DI.df di_var))))⟩
theorem ok_PatternNet_ends (T : Tx K mg) : FnOk P w K mg base (L2.CX P w) (1) T.f_PatternNet_ends T.fd_PatternNet_ends ["self", "state"] (spD K 2 [] (phi_PatternNet_ends T.c)) := by
  refine fn_R (k := 0) T.d_PatternNet_ends.F sc_PatternNet_ends rfl rfl (by decide) (by decide) (by decide) fun cdv A outer s H E hr => ?_
  exact ⟨_, (pss_one (ps_ret (pe_cmpR op_eq (pe_op op_and (pe_op op_shr (pv 1) (pe_callB cr_len rfl T.n_len b_len (pa_cons (pe_fld (pv 0) rfl) pa_nil))) pe_int) pe_int (nomark _)))), (rs_ret (DI.df (di_op os_eq.op (di_op os_and.op (di_op os_shr.op di_var (di_cb on_len (da_cons (di_fld di_var T.cl_PatternNet T.na_wanted) da_nil))) di_k) di_k)))⟩
theorem ok_fits (T : Tx K mg) : FnOk P w K mg base (L2.CX P w) (16) T.f_fits T.fd_fits ["pattern", "diary"] (spD K 2 [] (phi_fits T.c)) := by
  refine fn_R (k := 15) T.d_fits.F sc_fits rfl rfl (by decide) (by decide) (by decide) fun cdv A outer s H E hr => ?_
  exact ⟨_, (pss_cons (ps_expr (pe_call (ok_check_diary T) (hr.mono (by decide)) rfl T.d_check_diary.m T.d_check_diary.k T.d_check_diary.b .nil hxx (pa_cons (pv 0) (pa_cons (pv 1) pa_nil))))
      (pss_cons (ps_set (i := 2) sc_fits.nd rfl (by first | exact Or.inl rfl | exact Or.inr rfl) (pe_make T.d_PatternNet_init.me (ok_PatternNet_init T) (hr.mono (by decide)) rfl T.d_PatternNet_init.mc T.d_PatternNet_init.b .nil hxx (pa_cons (pv 0) pa_nil)))
      (pss_cons (ps_set (i := 3) sc_fits.nd rfl (by first | exact Or.inl rfl | exact Or.inr rfl) (pe_fld (pv 2) rfl))
      (pss_cons (ps_for hpx rfl (pi_any (pv 1)) (pg_name (i := 4) sc_fits.nd rfl (by first | exact Or.inl rfl | exact Or.inr rfl)) (pss_one (ps_set (i := 3) sc_fits.nd rfl (by first | exact Or.inl rfl | exact Or.inr rfl) (pe_meth (pv 2) T.cl_PatternNet T.d_PatternNet_after.m (ok_PatternNet_after T) (hr.mono (by decide)) T.d_PatternNet_after.b .nil hxx (pa_cons (pv 3) (pa_cons (pv 4) pa_nil))))))
      (pss_one (ps_ret (pe_meth (pv 2) T.cl_PatternNet T.d_PatternNet_ends.m (ok_PatternNet_ends T) (hr.mono (by decide)) T.d_PatternNet_ends.b .nil hxx (pa_cons (pv 3) pa_nil)))))))), (rs_seq (rs_drop (DF.di (df_call (daa_d di_var (daa_d di_var daa_nil)))))
      (rs_seq (rs_set (df_make (da_cons di_var da_nil)) (by decide))
      (rs_seq (rs_set (DI.df (di_fld di_var T.cl_PatternNet T.na_start)) (by decide))
      (rs_seq (rs_for (dw_any di_var) (dg_name (by decide)) (rs_set (df_methD di_var (daa_d di_var (daa_d di_var daa_nil))) (by decide)))
      (rs_ret (df_methD di_var (daa_d di_var daa_nil)))))))⟩
theorem st_law_listed (T : Tx K mg) {k_law_listed : Nat} {Φ : Ph} (hb : 0 ≤ k_law_listed) (G_law_listed : FnOk P w K mg base (L2.CX P w) (k_law_listed) T.f_law_listed T.fd_law_listed ["value"] (spD K 1 [] Φ)) : FnOk P w K mg base (L2.CX P w) (k_law_listed + 1) T.f_law_listed T.fd_law_listed ["value"] (spD K 1 [] (phi 2 1 [] (run_law_listed T.c Φ))) := by
  refine fn_R (k := k_law_listed + 0) T.d_law_listed.F sc_law_listed rfl rfl (by decide) (by decide) (by decide) fun cdv A outer s H E hr => ?_
  exact ⟨_, (pss_cons (ps_if (pt_val (pe_callB call_isi rfl T.n_isinstance b_isinstance (pa_cons (pv 0) (pa_cons (pe_bltn (v := .ty "tuple") rfl T.n_tuple b_tuple rfl) pa_nil)))) (pss_one (ps_ret (pe_lc rfl sc_law_listed.nd (pi_any (pv 0)) (blkOk_by (N := ["value", "one"]) (sc := defScope s_law_listed) (own := [("one", 1)]) (by decide +kernel)) (fun _ _ _ _ _ => (pg_name (i := 1) sc_law_listed.nd rfl (by first | exact Or.inl rfl | exact Or.inr rfl))) (fun _ _ _ _ _ => pts_nil) (fun _ _ _ _ _ => (pe_call G_law_listed (hr.mono (by omega)) rfl T.d_law_listed.m T.d_law_listed.k T.d_law_listed.b .nil passL (pa_cons (pv 1) pa_nil)))))) pss_nil)
      (pss_one (ps_ret (pv 0)))), (rs_seq (rs_if (dt_B (di_isi isTup_T di_var)) (rs_ret (df_lc (vs := [1]) (dw_any di_var) (dg_name (by decide)) gYes (df_call (daa_d di_var daa_nil)) (by decide))) rs_next)
      (rs_ret (DI.df di_var)))⟩
theorem ok_law_listed (T : Tx K mg) : ∀ n : Nat, FnOk P w K mg base (L2.CX P w) (n * 1 + 0) T.f_law_listed T.fd_law_listed ["value"] (spD K 1 [] (phi_law_listed T.c n))
  | 0 => fn_no rfl
  | n + 1 => by
    have z := st_law_listed T (k_law_listed := n * 1 + 0) (Nat.le_add_left _ _) (ok_law_listed T n)
    rw [show (n + 1) * 1 + 0 = n * 1 + 0 + 1 by omega]
    exact z
theorem ok_law_handed (T : Tx K mg) : FnOk P w K mg base (L2.CX P w) (15) T.f_law_handed T.fd_law_handed ["row", "spot", "value"] (spD K 3 [1] (phi_law_handed T.c)) := by
  refine fn_R (k := 14) T.d_law_handed.F sc_law_handed rfl rfl (by decide) (by decide) (by decide) fun cdv A outer s H E hr => ?_
  exact ⟨_, (pss_one (ps_ret (pe_ifExp (pt_cmpR op_eq (pe_call (ok_law_take T) (hr.mono (by decide)) rfl T.d_law_take.m T.d_law_take.k T.d_law_take.b .nil hxx (pa_cons (pv 0) (pa_cons (pv 1) (pa_cons pe_int pa_nil)))) pe_int (nomark _)) (pe_call (ok_law_listed T 14) (hr.mono (by decide)) rfl T.d_law_listed.m T.d_law_listed.k T.d_law_listed.b .nil hxx (pa_cons (pv 2) pa_nil)) (pv 2)))), (rs_ret (DI.df (di_if (dt_test (di_op os_eq.op (DF.di (df_call (daa_d di_var (daa_al (daa_d di_k daa_nil))))) di_k)) (DF.di (df_call (daa_d di_var daa_nil))) di_var)))⟩
theorem st_law_p_ends (T : Tx K mg) {k_law_p_ends : Nat} {Φ : Ph} (hb : 0 ≤ k_law_p_ends) (G_law_p_ends : FnOk P w K mg base (L2.CX P w) (k_law_p_ends) T.f_law_p_ends T.fd_law_p_ends ["pattern", "diary", "start"] (spD K 3 [] Φ)) : FnOk P w K mg base (L2.CX P w) (k_law_p_ends + 1) T.f_law_p_ends T.fd_law_p_ends ["pattern", "diary", "start"] (spD K 3 [] (phi 12 3 [] (run_law_p_ends T.c Φ))) := by
  refine fn_R (k := k_law_p_ends + 0) T.d_law_p_ends.F sc_law_p_ends rfl rfl (by decide) (by decide) (by decide) fun cdv A outer s H E hr => ?_
  exact ⟨_, (pss_cons (ps_if (pt_cmpR op_in_seq (pe_ix ix_seq (pv 0) pe_int (fun _ _ => rfl)) (pe_lst (pa_cons pe_str (pa_cons pe_str pa_nil))) (by with_unfolding_all rfl)) (pss_cons (ps_set (i := 3) sc_law_p_ends.nd rfl (by first | exact Or.inl rfl | exact Or.inr rfl) (pe_and (pe_cmpR op_lt (pv 2) (pe_callB cr_len rfl T.n_len b_len (pa_cons (pv 1) pa_nil)) (nomark _)) (pe_one (pe_or (pe_cmpR op_eq (pe_ix ix_seq (pv 0) pe_int (fun _ _ => rfl)) pe_str (nomark _)) (pe_one (pe_cmpR op_eq (pe_ix ix_seq (pv 1) (pv 2) (fun _ _ => rfl)) (pe_ix ix_seq (pv 0) pe_int (fun _ _ => rfl)) (nomark _)))))))
      (pss_one (ps_ret (pe_ifExp (pt_truth (pv 3) (fun _ => rfl)) (pe_lst (pa_cons (pe_op op_addU (pv 2) pe_int) pa_nil)) (pe_lst pa_nil))))) pss_nil)
      (pss_cons (ps_if (pt_cmpR op_eq (pe_ix ix_seq (pv 0) pe_int (fun _ _ => rfl)) pe_str (nomark _)) (pss_cons (ps_set (i := 4) sc_law_p_ends.nd rfl (by first | exact Or.inl rfl | exact Or.inr rfl) (pe_lst pa_nil))
      (pss_cons (ps_for hpx rfl (pi_any (pe_ix ix_seq (pv 0) pe_int (fun _ _ => rfl))) (pg_name (i := 5) sc_law_p_ends.nd rfl (by first | exact Or.inl rfl | exact Or.inr rfl)) (pss_one (ps_set (i := 4) sc_law_p_ends.nd rfl (by first | exact Or.inl rfl | exact Or.inr rfl) (pe_op op_addU (pv 4) (pe_lc rfl sc_law_p_ends.nd (pi_any (pe_call G_law_p_ends (hr.mono (by omega)) rfl T.d_law_p_ends.m T.d_law_p_ends.k T.d_law_p_ends.b .nil hxx (pa_cons (pv 5) (pa_cons (pv 1) (pa_cons (pv 2) pa_nil))))) (blkOk_by (N := ["pattern", "diary", "start", "good", "made", "one", "now", "then", "place", "waiting", "k", "end"]) (sc := defScope s_law_p_ends) (own := [("end", 11)]) (by decide +kernel)) (fun _ _ _ _ _ => (pg_name (i := 11) sc_law_p_ends.nd rfl (by first | exact Or.inl rfl | exact Or.inr rfl))) (fun _ _ _ _ _ => (pts_one (pt_cmpR op_notIn_seq (pv 11) (pv 4) (by with_unfolding_all rfl)))) (fun _ _ _ _ _ => (pv 11)))))))
      (pss_one (ps_ret (pv 4))))) pss_nil)
      (pss_cons (ps_if (pt_cmpR op_eq (pe_ix ix_seq (pv 0) pe_int (fun _ _ => rfl)) pe_str (nomark _)) (pss_cons (ps_set (i := 6) sc_law_p_ends.nd rfl (by first | exact Or.inl rfl | exact Or.inr rfl) (pe_lst (pa_cons (pv 2) pa_nil)))
      (pss_cons (ps_for hpx rfl (pi_any (pe_ix ix_seq (pv 0) pe_int (fun _ _ => rfl))) (pg_name (i := 5) sc_law_p_ends.nd rfl (by first | exact Or.inl rfl | exact Or.inr rfl)) (pss_cons (ps_set (i := 7) sc_law_p_ends.nd rfl (by first | exact Or.inl rfl | exact Or.inr rfl) (pe_lst pa_nil))
      (pss_cons (ps_for hpx rfl (pi_any (pv 6)) (pg_name (i := 8) sc_law_p_ends.nd rfl (by first | exact Or.inl rfl | exact Or.inr rfl)) (pss_one (ps_set (i := 7) sc_law_p_ends.nd rfl (by first | exact Or.inl rfl | exact Or.inr rfl) (pe_op op_addU (pv 7) (pe_lc rfl sc_law_p_ends.nd (pi_any (pe_call G_law_p_ends (hr.mono (by omega)) rfl T.d_law_p_ends.m T.d_law_p_ends.k T.d_law_p_ends.b .nil hxx (pa_cons (pv 5) (pa_cons (pv 1) (pa_cons (pv 8) pa_nil))))) (blkOk_by (N := ["pattern", "diary", "start", "good", "made", "one", "now", "then", "place", "waiting", "k", "end"]) (sc := defScope s_law_p_ends) (own := [("end", 11)]) (by decide +kernel)) (fun _ _ _ _ _ => (pg_name (i := 11) sc_law_p_ends.nd rfl (by first | exact Or.inl rfl | exact Or.inr rfl))) (fun _ _ _ _ _ => (pts_one (pt_cmpR op_notIn_seq (pv 11) (pv 7) (by with_unfolding_all rfl)))) (fun _ _ _ _ _ => (pv 11)))))))
      (pss_one (ps_set (i := 6) sc_law_p_ends.nd rfl (by first | exact Or.inl rfl | exact Or.inr rfl) (pv 7))))))
      (pss_one (ps_ret (pv 6))))) pss_nil)
      (pss_cons (ps_set (i := 6) sc_law_p_ends.nd rfl (by first | exact Or.inl rfl | exact Or.inr rfl) (pe_lst (pa_cons (pv 2) pa_nil)))
      (pss_cons (ps_set (i := 9) sc_law_p_ends.nd rfl (by first | exact Or.inl rfl | exact Or.inr rfl) (pe_lst (pa_cons (pv 2) pa_nil)))
      (pss_cons (ps_for hpx rfl (pi_range1 rfl T.n_range (pa_cons (pe_op op_addU (pe_callB cr_len rfl T.n_len b_len (pa_cons (pv 1) pa_nil)) pe_int) pa_nil)) (pg_name (i := 10) sc_law_p_ends.nd rfl (by first | exact Or.inl rfl | exact Or.inr rfl)) (pss_cons (ps_set (i := 7) sc_law_p_ends.nd rfl (by first | exact Or.inl rfl | exact Or.inr rfl) (pe_lst pa_nil))
      (pss_cons (ps_for hpx rfl (pi_any (pv 9)) (pg_name (i := 8) sc_law_p_ends.nd rfl (by first | exact Or.inl rfl | exact Or.inr rfl)) (pss_one (ps_set (i := 7) sc_law_p_ends.nd rfl (by first | exact Or.inl rfl | exact Or.inr rfl) (pe_op op_addU (pv 7) (pe_lc rfl sc_law_p_ends.nd (pi_any (pe_call G_law_p_ends (hr.mono (by omega)) rfl T.d_law_p_ends.m T.d_law_p_ends.k T.d_law_p_ends.b .nil hxx (pa_cons (pe_ix ix_seq (pv 0) pe_int (fun _ _ => rfl)) (pa_cons (pv 1) (pa_cons (pv 8) pa_nil))))) (blkOk_by (N := ["pattern", "diary", "start", "good", "made", "one", "now", "then", "place", "waiting", "k", "end"]) (sc := defScope s_law_p_ends) (own := [("end", 11)]) (by decide +kernel)) (fun _ _ _ _ _ => (pg_name (i := 11) sc_law_p_ends.nd rfl (by first | exact Or.inl rfl | exact Or.inr rfl))) (fun _ _ _ _ _ => (pts_one (PW.pt (pw_and (pt_cmpR op_notIn_seq (pv 11) (pv 6) (by with_unfolding_all rfl)) (pw_and1 (pt_cmpR op_notIn_seq (pv 11) (pv 7) (by with_unfolding_all rfl))))))) (fun _ _ _ _ _ => (pv 11)))))))
      (pss_cons (ps_set (i := 6) sc_law_p_ends.nd rfl (by first | exact Or.inl rfl | exact Or.inr rfl) (pe_op op_addU (pv 6) (pv 7)))
      (pss_one (ps_set (i := 9) sc_law_p_ends.nd rfl (by first | exact Or.inl rfl | exact Or.inr rfl) (pv 7)))))))
      (pss_one (ps_ret (pv 6))))))))), (rs_seq (rs_if (dt_test (di_op os_in.op (di_op os_ix.op di_var di_k) (DF.di (df_lst (da_cons di_k (da_cons di_k da_nil)))))) (rs_seq (rs_set (DI.df (di_andV (di_op os_lt.op di_var (di_cb on_len (da_cons di_var da_nil))) (di_orV (di_op os_eq.op (di_op os_ix.op di_var di_k) di_k) (di_op os_eq.op (di_op os_ix.op di_var di_var) (di_op os_ix.op di_var di_k))))) (by decide))
      (rs_ret (DI.df (di_if (dt_tru di_var) (DF.di (df_lst (da_cons (DF.di (df_op ox_add di_var di_k)) da_nil))) (DF.di (df_lst da_nil)))))) rs_next)
      (rs_seq (rs_if (dt_test (di_op os_eq.op (di_op os_ix.op di_var di_k) di_k)) (rs_seq (rs_set (df_lst da_nil) (by decide))
      (rs_seq (rs_for (dw_any (di_op os_ix.op di_var di_k)) (dg_name (by decide)) (rs_set (df_op ox_add di_var (DF.di (df_lc (vs := [11]) (dw_any (DF.di (df_call (daa_d di_var (daa_d di_var (daa_d di_var daa_nil)))))) (dg_name (by decide)) (dt_test (di_op os_in.op di_var di_var)) (DI.df di_var) (by decide)))) (by decide)))
      (rs_ret (DI.df di_var)))) rs_next)
      (rs_seq (rs_if (dt_test (di_op os_eq.op (di_op os_ix.op di_var di_k) di_k)) (rs_seq (rs_set (df_lst (da_cons di_var da_nil)) (by decide))
      (rs_seq (rs_for (dw_any (di_op os_ix.op di_var di_k)) (dg_name (by decide)) (rs_seq (rs_set (df_lst da_nil) (by decide))
      (rs_seq (rs_for (dw_any di_var) (dg_name (by decide)) (rs_set (df_op ox_add di_var (DF.di (df_lc (vs := [11]) (dw_any (DF.di (df_call (daa_d di_var (daa_d di_var (daa_d di_var daa_nil)))))) (dg_name (by decide)) (dt_test (di_op os_in.op di_var di_var)) (DI.df di_var) (by decide)))) (by decide)))
      (rs_set (DI.df di_var) (by decide)))))
      (rs_ret (DI.df di_var)))) rs_next)
      (rs_seq (rs_set (df_lst (da_cons di_var da_nil)) (by decide))
      (rs_seq (rs_set (df_lst (da_cons di_var da_nil)) (by decide))
      (rs_seq (rs_for (dw_range1 (da_cons (DF.di (df_op ox_add (di_cb on_len (da_cons di_var da_nil)) di_k)) da_nil)) (dg_name (by decide)) (rs_seq (rs_set (df_lst da_nil) (by decide))
      (rs_seq (rs_for (dw_any di_var) (dg_name (by decide)) (rs_set (df_op ox_add di_var (DF.di (df_lc (vs := [11]) (dw_any (DF.di (df_call (daa_d (di_op os_ix.op di_var di_k) (daa_d di_var (daa_d di_var daa_nil)))))) (dg_name (by decide)) (dt_and (dt_test (di_op os_in.op di_var di_var)) (dt_test (di_op os_in.op di_var di_var))) (DI.df di_var) (by decide)))) (by decide)))
      (rs_seq (rs_set (df_op ox_add di_var di_var) (by decide))
      (rs_set (DI.df di_var) (by decide))))))
      (rs_ret (DI.df di_var))))))))⟩
theorem ok_law_p_ends (T : Tx K mg) : ∀ n : Nat, FnOk P w K mg base (L2.CX P w) (n * 1 + 0) T.f_law_p_ends T.fd_law_p_ends ["pattern", "diary", "start"] (spD K 3 [] (phi_law_p_ends T.c n))
  | 0 => fn_no rfl
  | n + 1 => by
    have z := st_law_p_ends T (k_law_p_ends := n * 1 + 0) (Nat.le_add_left _ _) (ok_law_p_ends T n)
    rw [show (n + 1) * 1 + 0 = n * 1 + 0 + 1 by omega]
    exact z
theorem ok_law_fits (T : Tx K mg) : FnOk P w K mg base (L2.CX P w) (7) T.f_law_fits T.fd_law_fits ["pattern", "diary"] (spD K 2 [] (phi_law_fits T.c)) := by
  refine fn_R (k := 6) T.d_law_fits.F sc_law_fits rfl rfl (by decide) (by decide) (by decide) fun cdv A outer s H E hr => ?_
  exact ⟨_, (pss_one (ps_ret (pe_cmpR op_in_seq (pe_callB cr_len rfl T.n_len b_len (pa_cons (pv 1) pa_nil)) (pe_call (ok_law_p_ends T 6) (hr.mono (by decide)) rfl T.d_law_p_ends.m T.d_law_p_ends.k T.d_law_p_ends.b .nil hxx (pa_cons (pv 0) (pa_cons (pv 1) (pa_cons pe_int pa_nil)))) (by with_unfolding_all rfl)))), (rs_ret (DI.df (di_op os_in.op (di_cb on_len (da_cons di_var da_nil)) (DF.di (df_call (daa_d di_var (daa_d di_var (daa_d di_k daa_nil))))))))⟩
theorem ok_first_end (T : Tx K mg) : FnOk P w K mg base (L2.CX P w) (16) T.f_first_end T.fd_first_end ["pattern", "diary"] (spD K 2 [] (phi_first_end T.c)) := by
  refine fn_R (k := 15) T.d_first_end.F sc_first_end rfl rfl (by decide) (by decide) (by decide) fun cdv A outer s H E hr => ?_
  exact ⟨_, (pss_cons (ps_expr (pe_call (ok_check_diary T) (hr.mono (by decide)) rfl T.d_check_diary.m T.d_check_diary.k T.d_check_diary.b .nil hxx (pa_cons (pv 0) (pa_cons (pv 1) pa_nil))))
      (pss_cons (ps_set (i := 2) sc_first_end.nd rfl (by first | exact Or.inl rfl | exact Or.inr rfl) (pe_make T.d_PatternNet_init.me (ok_PatternNet_init T) (hr.mono (by decide)) rfl T.d_PatternNet_init.mc T.d_PatternNet_init.b .nil hxx (pa_cons (pv 0) pa_nil)))
      (pss_cons (ps_set (i := 3) sc_first_end.nd rfl (by first | exact Or.inl rfl | exact Or.inr rfl) (pe_fld (pv 2) rfl))
      (pss_cons (ps_if (pt_val (pe_meth (pv 2) T.cl_PatternNet T.d_PatternNet_ends.m (ok_PatternNet_ends T) (hr.mono (by decide)) T.d_PatternNet_ends.b .nil hxx (pa_cons (pv 3) pa_nil))) (pss_one (ps_ret pe_int)) pss_nil)
      (pss_cons (ps_for hpx rfl (pi_enA rfl T.n_enumerate (pa_cons (pv 1) pa_nil)) (pg_tup rfl (pgs_cons (pg_name (i := 4) sc_first_end.nd rfl (by first | exact Or.inl rfl | exact Or.inr rfl)) (pgs_cons (pg_name (i := 5) sc_first_end.nd rfl (by first | exact Or.inl rfl | exact Or.inr rfl)) pgs_nil))) (pss_cons (ps_set (i := 3) sc_first_end.nd rfl (by first | exact Or.inl rfl | exact Or.inr rfl) (pe_op op_or (pe_meth (pv 2) T.cl_PatternNet T.d_PatternNet_after.m (ok_PatternNet_after T) (hr.mono (by decide)) T.d_PatternNet_after.b .nil hxx (pa_cons (pv 3) (pa_cons (pv 5) pa_nil))) (pe_fld (pv 2) rfl)))
      (pss_one (ps_if (pt_val (pe_meth (pv 2) T.cl_PatternNet T.d_PatternNet_ends.m (ok_PatternNet_ends T) (hr.mono (by decide)) T.d_PatternNet_ends.b .nil hxx (pa_cons (pv 3) pa_nil))) (pss_one (ps_ret (pe_op op_addU (pv 4) pe_int))) pss_nil))))
      (pss_one (ps_ret pe_non))))))), (rs_seq (rs_drop (DF.di (df_call (daa_d di_var (daa_d di_var daa_nil)))))
      (rs_seq (rs_set (df_make (da_cons di_var da_nil)) (by decide))
      (rs_seq (rs_set (DI.df (di_fld di_var T.cl_PatternNet T.na_start)) (by decide))
      (rs_seq (rs_if (dt_B (DF.di (df_methD di_var (daa_d di_var daa_nil)))) (rs_ret (DI.df di_k)) rs_next)
      (rs_seq (rs_for (dw_enA (da_cons di_var da_nil)) (dg_tup (dg_cons (dg_name (by decide)) (dg_cons (dg_name (by decide)) dg_nil))) (rs_seq (rs_set (DI.df (di_op os_or.op (DF.di (df_methD di_var (daa_d di_var (daa_d di_var daa_nil)))) (di_fld di_var T.cl_PatternNet T.na_start))) (by decide))
      (rs_if (dt_B (DF.di (df_methD di_var (daa_d di_var daa_nil)))) (rs_ret (df_op ox_add di_var di_k)) rs_next)))
      (rs_ret (DI.df di_k)))))))⟩
theorem ok_law (T : Tx K mg) : FnOk P w K mg base (L2.CX P w) (17) T.f_law T.fd_law ["script"] (spD K 1 [] (phi_law T.c)) := by
  refine fn_R (k := 16) T.d_law.F sc_law rfl rfl (by decide) (by decide) (by decide) fun cdv A outer s H E hr => ?_
  exact ⟨_, (pss_cons (ps_set (i := 1) sc_law.nd rfl (by first | exact Or.inl rfl | exact Or.inr rfl) (pe_call (ok_law_numbers T) (hr.mono (by decide)) rfl T.d_law_numbers.m T.d_law_numbers.k T.d_law_numbers.b .nil hxx (pa_cons (pv 0) pa_nil)))
      (pss_cons (ps_set (i := 2) sc_law.nd rfl (by first | exact Or.inl rfl | exact Or.inr rfl) (pe_lst (pa_cons pe_int pa_nil)))
      (pss_cons (ps_set (i := 3) sc_law.nd rfl (by first | exact Or.inl rfl | exact Or.inr rfl) (pe_lst (pa_cons pe_str (pa_cons pe_str (pa_cons pe_str pa_nil)))))
      (pss_cons (ps_for hpx rfl (pi_range1 rfl T.n_range (pa_cons pe_int pa_nil)) (pg_name (i := 4) sc_law.nd rfl (by first | exact Or.inl rfl | exact Or.inr rfl)) (pss_cons (ps_set (i := 5) sc_law.nd rfl (by first | exact Or.inl rfl | exact Or.inr rfl) (pe_call (ok_law_small_pattern T) (hr.mono (by decide)) rfl T.d_law_small_pattern.m T.d_law_small_pattern.k T.d_law_small_pattern.b .nil hxx (pa_cons (pv 1) (pa_cons (pv 2) (pa_cons (pv 3) pa_nil)))))
      (pss_one (ps_for hpx rfl (pi_range1 rfl T.n_range (pa_cons pe_int pa_nil)) (pg_name (i := 6) sc_law.nd rfl (by first | exact Or.inl rfl | exact Or.inr rfl)) (pss_cons (ps_set (i := 7) sc_law.nd rfl (by first | exact Or.inl rfl | exact Or.inr rfl) (pe_callTy cr_tupOf rfl T.n_tuple b_tuple (pa_cons (pe_lc rfl sc_law.nd (pi_range1 rfl T.n_range (pa_cons (pe_call (ok_law_take T) (hr.mono (by decide)) rfl T.d_law_take.m T.d_law_take.k T.d_law_take.b .nil hxx (pa_cons (pv 1) (pa_cons (pv 2) (pa_cons pe_int pa_nil)))) pa_nil)) (blkOk_by (N := ["script", "row", "spot", "names", "k", "pattern", "j", "diary", "ends_of", "start", "i"]) (sc := defScope s_law) (own := [("i", 10)]) (by decide +kernel)) (fun _ _ _ _ _ => (pg_name (i := 10) sc_law.nd rfl (by first | exact Or.inl rfl | exact Or.inr rfl))) (fun _ _ _ _ _ => pts_nil) (fun _ _ _ _ _ => (pe_call (ok_law_pick T) (hr.mono (by decide)) rfl T.d_law_pick.m T.d_law_pick.k T.d_law_pick.b .nil passL (pa_cons (pv 1) (pa_cons (pv 2) (pa_cons (pe_op op_addU (pv 3) (pe_lst (pa_cons pe_str pa_nil))) pa_nil)))))) pa_nil)))
      (pss_cons (ps_if (pt_not (pt_val (pe_call (ok_law_so T 2) (hr.mono (by decide)) rfl T.d_law_so.m T.d_law_so.k T.d_law_so.b .nil hxx (pa_cons (pe_call (ok_fits T) (hr.mono (by decide)) rfl T.d_fits.m T.d_fits.k T.d_fits.b .nil hxx (pa_cons (pe_call (ok_law_handed T) (hr.mono (by decide)) rfl T.d_law_handed.m T.d_law_handed.k T.d_law_handed.b .nil hxx (pa_cons (pv 1) (pa_cons (pv 2) (pa_cons (pv 5) pa_nil)))) (pa_cons (pe_call (ok_law_handed T) (hr.mono (by decide)) rfl T.d_law_handed.m T.d_law_handed.k T.d_law_handed.b .nil hxx (pa_cons (pv 1) (pa_cons (pv 2) (pa_cons (pv 7) pa_nil)))) pa_nil))) (pa_cons (pe_call (ok_law_fits T) (hr.mono (by decide)) rfl T.d_law_fits.m T.d_law_fits.k T.d_law_fits.b .nil hxx (pa_cons (pv 5) (pa_cons (pv 7) pa_nil))) pa_nil))))) (pss_one (ps_ret pe_bl)) pss_nil)
      (pss_cons (ps_set (i := 8) sc_law.nd rfl (by first | exact Or.inl rfl | exact Or.inr rfl) (pe_lst pa_nil))
      (pss_cons (ps_for hpx rfl (pi_range1 rfl T.n_range (pa_cons (pe_op op_addU (pe_callB cr_len rfl T.n_len b_len (pa_cons (pv 7) pa_nil)) pe_int) pa_nil)) (pg_name (i := 9) sc_law.nd rfl (by first | exact Or.inl rfl | exact Or.inr rfl)) (pss_one (ps_set (i := 8) sc_law.nd rfl (by first | exact Or.inl rfl | exact Or.inr rfl) (pe_op op_addU (pv 8) (pe_call (ok_law_p_ends T 6) (hr.mono (by decide)) rfl T.d_law_p_ends.m T.d_law_p_ends.k T.d_law_p_ends.b .nil hxx (pa_cons (pv 5) (pa_cons (pv 7) (pa_cons (pv 9) pa_nil))))))))
      (pss_one (ps_if (pt_not (pt_val (pe_call (ok_law_so T 2) (hr.mono (by decide)) rfl T.d_law_so.m T.d_law_so.k T.d_law_so.b .nil hxx (pa_cons (pe_call (ok_first_end T) (hr.mono (by decide)) rfl T.d_first_end.m T.d_first_end.k T.d_first_end.b .nil hxx (pa_cons (pe_call (ok_law_handed T) (hr.mono (by decide)) rfl T.d_law_handed.m T.d_law_handed.k T.d_law_handed.b .nil hxx (pa_cons (pv 1) (pa_cons (pv 2) (pa_cons (pv 5) pa_nil)))) (pa_cons (pe_call (ok_law_handed T) (hr.mono (by decide)) rfl T.d_law_handed.m T.d_law_handed.k T.d_law_handed.b .nil hxx (pa_cons (pv 1) (pa_cons (pv 2) (pa_cons (pv 7) pa_nil)))) pa_nil))) (pa_cons (pe_ifExp (pt_cmpR op_gt (pe_callB cr_len rfl T.n_len b_len (pa_cons (pv 8) pa_nil)) pe_int (nomark _)) (pe_callB (cr_min rfl) rfl T.n_min b_min (pa_cons (pv 8) pa_nil)) pe_non) pa_nil))))) (pss_one (ps_ret pe_bl)) pss_nil))))))))))
      (pss_one (ps_ret pe_bl)))))), (rs_seq (rs_set (df_call (daa_d di_var daa_nil)) (by decide))
      (rs_seq (rs_set (df_lst (da_cons di_k da_nil)) (by decide))
      (rs_seq (rs_set (df_lst (da_cons di_k (da_cons di_k (da_cons di_k da_nil)))) (by decide))
      (rs_seq (rs_for (dw_range1 (da_cons di_k da_nil)) (dg_name (by decide)) (rs_seq (rs_set (df_call (daa_d di_var (daa_al (daa_d di_var daa_nil)))) (by decide))
      (rs_for (dw_range1 (da_cons di_k da_nil)) (dg_name (by decide)) (rs_seq (rs_set (DI.df (di_cb on_tupOf (da_cons (DF.di (df_lc (vs := [10]) (dw_range1 (da_cons (DF.di (df_call (daa_d di_var (daa_al (daa_d di_k daa_nil))))) da_nil)) (dg_name (by decide)) gYes (df_call (daa_d di_var (daa_al (daa_d (DF.di (df_op ox_add di_var (DF.di (df_lst (da_cons di_k da_nil))))) daa_nil)))) (by decide))) da_nil))) (by decide))
      (rs_seq (rs_if (dt_not (dt_B (DF.di (df_call (daa_d (DF.di (df_call (daa_d (DF.di (df_call (daa_d di_var (daa_al (daa_d di_var daa_nil))))) (daa_d (DF.di (df_call (daa_d di_var (daa_al (daa_d di_var daa_nil))))) daa_nil)))) (daa_d (DF.di (df_call (daa_d di_var (daa_d di_var daa_nil)))) daa_nil)))))) (rs_ret (DI.df di_k)) rs_next)
      (rs_seq (rs_set (df_lst da_nil) (by decide))
      (rs_seq (rs_for (dw_range1 (da_cons (DF.di (df_op ox_add (di_cb on_len (da_cons di_var da_nil)) di_k)) da_nil)) (dg_name (by decide)) (rs_set (df_op ox_add di_var (DF.di (df_call (daa_d di_var (daa_d di_var (daa_d di_var daa_nil)))))) (by decide)))
      (rs_if (dt_not (dt_B (DF.di (df_call (daa_d (DF.di (df_call (daa_d (DF.di (df_call (daa_d di_var (daa_al (daa_d di_var daa_nil))))) (daa_d (DF.di (df_call (daa_d di_var (daa_al (daa_d di_var daa_nil))))) daa_nil)))) (daa_d (di_if (dt_test (di_op os_gt.op (di_cb on_len (da_cons di_var da_nil)) di_k)) (di_cb on_min (da_cons di_var da_nil)) di_k) daa_nil)))))) (rs_ret (DI.df di_k)) rs_next))))))))
      (rs_ret (DI.df di_k))))))⟩
end
end DL

/-! DLS: the combinators at work. -/
namespace DL
open PySem L2

@[simp] theorem e_gV (i : Nat) (x0 : Option O) (xs : DEnv) : gV i (x0 :: xs) = (match (x0 :: xs)[i]? with
  | some (some (.fz d)) => .ok (d, (x0 :: xs))
  | some (some o) => .ok (o.toD, (x0 :: xs).set i (some (.fz o.toD)))
  | _ => .no) := rfl
@[simp] theorem e_gC (d : D) (x0 : Option O) (xs : DEnv) : gC d (x0 :: xs) = (.ok (d, (x0 :: xs))) := rfl
@[simp] theorem e_gS (f : DEnv → Option D) (x0 : Option O) (xs : DEnv) : gS f (x0 :: xs) = ((Rz.of (f (x0 :: xs))).bind fun d => .ok (d, (x0 :: xs))) := rfl
@[simp] theorem e_gZ (g : DEnv → Rz (O × DEnv)) (x0 : Option O) (xs : DEnv) : gZ g (x0 :: xs) = ((g (x0 :: xs)).bind fun p => .ok (p.1.toD, p.2)) := rfl
@[simp] theorem e_gO (g : DEnv → Rz (D × DEnv)) (x0 : Option O) (xs : DEnv) : gO g (x0 :: xs) = ((g (x0 :: xs)).bind fun p => .ok (.fz p.1, p.2)) := rfl
@[simp] theorem e_pV (i : Nat) (x0 : Option O) (xs : DEnv) : pV i (x0 :: xs) = (match (x0 :: xs)[i]? with
  | some (some o) => some ([], o)
  | _ => none) := rfl
@[simp] theorem e_fP (p : DEnv → Option (List Step × O)) (x0 : Option O) (xs : DEnv) : fP p (x0 :: xs) = ((p (x0 :: xs)).bind fun x => match x.2 with
  | .fz d => some d
  | _ => none) := rfl
@[simp] theorem e_pF (C : Addr) (f : Str) (p : DEnv → Option (List Step × O)) (x0 : Option O) (xs : DEnv) : pF C f p (x0 :: xs) = ((p (x0 :: xs)).bind fun x => match x.2 with
  | .ins C' fs => if C' = C then (fs.lookup f).map fun y => (x.1 ++ [.at f], y) else none
  | _ => none) := rfl
@[simp] theorem e_pI (p : DEnv → Option (List Step × O)) (f : DEnv → Option D) (x0 : Option O) (xs : DEnv) : pI p f (x0 :: xs) = ((p (x0 :: xs)).bind fun x => match x.2, f (x0 :: xs) with
  | .lst os, some (.int k) => (ixN os.length k).bind fun j => (os[j]?).map fun y => (x.1 ++ [.ix j], y)
  | _, _ => none) := rfl
@[simp] theorem e_gaNil  (x0 : Option O) (xs : DEnv) : gaNil  (x0 :: xs) = (.ok ([], (x0 :: xs))) := rfl
@[simp] theorem e_gaCons (ga : DEnv → Rz (D × DEnv)) (gr : DEnv → Rz (List D × DEnv)) (x0 : Option O) (xs : DEnv) : gaCons ga gr (x0 :: xs) = ((ga (x0 :: xs)).bind fun p => (gr p.2).bind fun q => .ok (p.1 :: q.1, q.2)) := rfl
@[simp] theorem e_g1 (f : D → Option D) (ga : DEnv → Rz (D × DEnv)) (x0 : Option O) (xs : DEnv) : g1 f ga (x0 :: xs) = ((ga (x0 :: xs)).bind fun p => (Rz.of (f p.1)).bind fun x => .ok (x, p.2)) := rfl
@[simp] theorem e_g2 (f : D → D → Option D) (ga gb : DEnv → Rz (D × DEnv)) (x0 : Option O) (xs : DEnv) : g2 f ga gb (x0 :: xs) = ((ga (x0 :: xs)).bind fun p => (gb p.2).bind fun q => (Rz.of (f p.1 q.1)).bind fun x => .ok (x, q.2)) := rfl
@[simp] theorem e_gN (f : List D → Option D) (ga : DEnv → Rz (List D × DEnv)) (x0 : Option O) (xs : DEnv) : gN f ga (x0 :: xs) = ((ga (x0 :: xs)).bind fun p => (Rz.of (f p.1)).bind fun x => .ok (x, p.2)) := rfl
@[simp] theorem e_gX2 (f : D → D → Option Dx) (ga gb : DEnv → Rz (D × DEnv)) (x0 : Option O) (xs : DEnv) : gX2 f ga gb (x0 :: xs) = ((ga (x0 :: xs)).bind fun p => (gb p.2).bind fun q => (Rz.of (f p.1 q.1)).bind fun x => .ok (x.o, q.2)) := rfl
@[simp] theorem e_gXN (f : List D → Option Dx) (ga : DEnv → Rz (List D × DEnv)) (x0 : Option O) (xs : DEnv) : gXN f ga (x0 :: xs) = ((ga (x0 :: xs)).bind fun p => (Rz.of (f p.1)).bind fun x => .ok (x.o, p.2)) := rfl
@[simp] theorem e_gB (ga : DEnv → Rz (D × DEnv)) (x0 : Option O) (xs : DEnv) : gB ga (x0 :: xs) = ((ga (x0 :: xs)).bind fun p => (Rz.of (fBl p.1)).bind fun b => .ok (b, p.2)) := rfl
@[simp] theorem e_gTru (ga : DEnv → Rz (D × DEnv)) (x0 : Option O) (xs : DEnv) : gTru ga (x0 :: xs) = ((ga (x0 :: xs)).bind fun p => (Rz.of (truD p.1)).bind fun b => .ok (b, p.2)) := rfl
@[simp] theorem e_gAnd (ga gb : DEnv → Rz (Bool × DEnv)) (x0 : Option O) (xs : DEnv) : gAnd ga gb (x0 :: xs) = ((ga (x0 :: xs)).bind fun p => if p.1 = true then gb p.2 else .ok (false, p.2)) := rfl
@[simp] theorem e_gOr (ga gb : DEnv → Rz (Bool × DEnv)) (x0 : Option O) (xs : DEnv) : gOr ga gb (x0 :: xs) = ((ga (x0 :: xs)).bind fun p => if p.1 = true then .ok (true, p.2) else gb p.2) := rfl
@[simp] theorem e_gNot (ga : DEnv → Rz (Bool × DEnv)) (x0 : Option O) (xs : DEnv) : gNot ga (x0 :: xs) = ((ga (x0 :: xs)).bind fun p => .ok (!p.1, p.2)) := rfl
@[simp] theorem e_gIf (gt : DEnv → Rz (Bool × DEnv)) (ga gb : DEnv → Rz (D × DEnv)) (x0 : Option O) (xs : DEnv) : gIf gt ga gb (x0 :: xs) = ((gt (x0 :: xs)).bind fun p => if p.1 = true then ga p.2 else gb p.2) := rfl
@[simp] theorem e_gAndV (ga gb : DEnv → Rz (D × DEnv)) (x0 : Option O) (xs : DEnv) : gAndV ga gb (x0 :: xs) = ((ga (x0 :: xs)).bind fun p => (Rz.of (fBl p.1)).bind fun b => if b = true then gb p.2 else .ok (.bl false, p.2)) := rfl
@[simp] theorem e_gOrV (ga gb : DEnv → Rz (D × DEnv)) (x0 : Option O) (xs : DEnv) : gOrV ga gb (x0 :: xs) = ((ga (x0 :: xs)).bind fun p => (Rz.of (fBl p.1)).bind fun b => if b = true then .ok (.bl true, p.2) else gb p.2) := rfl
@[simp] theorem e_gNotV (ga : DEnv → Rz (D × DEnv)) (x0 : Option O) (xs : DEnv) : gNotV ga (x0 :: xs) = ((ga (x0 :: xs)).bind fun p => (Rz.of (fBl p.1)).bind fun b => .ok (.bl (!b), p.2)) := rfl
@[simp] theorem e_gaTup (ga : DEnv → Rz (List D × DEnv)) (x0 : Option O) (xs : DEnv) : gaTup ga (x0 :: xs) = ((ga (x0 :: xs)).bind fun p => if p.1.length ≤ 100000 then .ok (.tup p.1, p.2) else .no) := rfl
@[simp] theorem e_gaLst (ga : DEnv → Rz (List D × DEnv)) (x0 : Option O) (xs : DEnv) : gaLst ga (x0 :: xs) = ((ga (x0 :: xs)).bind fun p => if p.1.length ≤ 100000 then .ok (.lst (p.1.map .fz), p.2) else .no) := rfl
@[simp] theorem e_gIs (f : D → Option Bool) (ga : DEnv → Rz (D × DEnv)) (x0 : Option O) (xs : DEnv) : gIs f ga (x0 :: xs) = ((ga (x0 :: xs)).bind fun p => (Rz.of (f p.1)).bind fun b => .ok (.bl b, p.2)) := rfl
@[simp] theorem e_gFld (C : Addr) (f : Str) (ga : DEnv → Rz (D × DEnv)) (x0 : Option O) (xs : DEnv) : gFld C f ga (x0 :: xs) = ((ga (x0 :: xs)).bind fun p => match p.1 with
  | .obj C' fs => if C' = C then (Rz.of (fs.lookup f)).bind fun x => .ok (x, p.2) else .no
  | _ => .no) := rfl
@[simp] theorem e_gSlL (ga : DEnv → Rz (D × DEnv)) (gl gh : DEnv → Rz (Option Int × DEnv)) (x0 : Option O) (xs : DEnv) : gSlL ga gl gh (x0 :: xs) = ((ga (x0 :: xs)).bind fun p => (gl p.2).bind fun q => (gh q.2).bind fun r => match p.1 with
  | .lst ds => .ok (.lst ((cutD ds q.1 r.1).map .fz), r.2)
  | .scr ds => .ok (.lst ((cutD ds q.1 r.1).map .fz), r.2)
  | _ => .no) := rfl
@[simp] theorem e_gPart (ga : DEnv → Rz (D × DEnv)) (x0 : Option O) (xs : DEnv) : gPart ga (x0 :: xs) = ((ga (x0 :: xs)).bind fun p => match p.1 with
  | .int i => .ok (some i, p.2)
  | _ => .no) := rfl
@[simp] theorem e_gANil  (x0 : Option O) (xs : DEnv) : gANil  (x0 :: xs) = (.ok ([], (x0 :: xs))) := rfl
@[simp] theorem e_gAD (ga : DEnv → Rz (D × DEnv)) (gr : DEnv → Rz (List Arg × DEnv)) (x0 : Option O) (xs : DEnv) : gAD ga gr (x0 :: xs) = ((ga (x0 :: xs)).bind fun p => (gr p.2).bind fun q => .ok (.d p.1 :: q.1, q.2)) := rfl
@[simp] theorem e_gAA (i : Nat) (gr : DEnv → Rz (List Arg × DEnv)) (x0 : Option O) (xs : DEnv) : gAA i gr (x0 :: xs) = (match (x0 :: xs)[i]? with
  | some (some _) => (gr (x0 :: xs)).bind fun q => .ok (.al i :: q.1, q.2)
  | _ => .no) := rfl
@[simp] theorem e_gCall (n : Nat) (cp : List Nat) (Φ : List O → Rz (O × List O)) (ga : DEnv → Rz (List Arg × DEnv)) (x0 : Option O) (xs : DEnv) : gCall n cp Φ ga (x0 :: xs) = ((ga (x0 :: xs)).bind fun p => gCallV n cp Φ p.1 p.2) := rfl
@[simp] theorem e_gMethA (C : Addr) (m : Str) (i n : Nat) (cp : List Nat) (Φ : List O → Rz (O × List O)) (ga : DEnv → Rz (List Arg × DEnv)) (x0 : Option O) (xs : DEnv) : gMethA C m i n cp Φ ga (x0 :: xs) = (match (x0 :: xs)[i]? with
  | some (some (.ins C' fs)) => if C' = C ∧ fs.lookup m = none then (ga (x0 :: xs)).bind fun p => gCallV n cp Φ (.al i :: p.1) p.2 else .no
  | _ => .no) := rfl
@[simp] theorem e_gMethD (C : Addr) (m : Str) (n : Nat) (cp : List Nat) (Φ : List O → Rz (O × List O)) (go : DEnv → Rz (D × DEnv)) (ga : DEnv → Rz (List Arg × DEnv)) (x0 : Option O) (xs : DEnv) : gMethD C m n cp Φ go ga (x0 :: xs) = ((go (x0 :: xs)).bind fun r => match r.1 with
  | .obj C' fs => if C' = C ∧ fs.lookup m = none then (ga r.2).bind fun p => gCallV n cp Φ (.d r.1 :: p.1) p.2 else .no
  | _ => .no) := rfl
@[simp] theorem e_gMake (C : Addr) (n : Nat) (Φ : List O → Rz (O × List O)) (ga : DEnv → Rz (List D × DEnv)) (x0 : Option O) (xs : DEnv) : gMake C n Φ ga (x0 :: xs) = ((ga (x0 :: xs)).bind fun p =>
  if p.1.length + 1 = n then (Φ (.ins C [] :: p.1.map .fz)).bind fun q => match q with
    | (.fz .non, [o]) => .ok (o, p.2)
    | _ => .no else .no) := rfl
@[simp] theorem e_gLc (gi : DEnv → Rz (List D × DEnv)) (tg : D → DEnv → Option DEnv) (gt : DEnv → Rz (Bool × DEnv)) (ge : DEnv → Rz (O × DEnv)) (vs : List Nat) (x0 : Option O) (xs : DEnv) : gLc gi tg gt ge vs (x0 :: xs) = ((gi (x0 :: xs)).bind fun p =>
  if p.1.length ≤ 100000 ∧ plainAt p.2 vs = true then (lcL tg gt ge vs p.1 (wipeD p.2 vs)).bind fun x => .ok (.lst x.1, backD p.2 x.2 vs) else .no) := rfl
@[simp] theorem e_gPop (i : Nat) (p : DEnv → Option (List Step × O)) (x0 : Option O) (xs : DEnv) : gPop i p (x0 :: xs) = (match p (x0 :: xs) with
  | some (π, .lst os) => match os[os.length - 1]? with
    | some (.fz d) => .ok (d, putAt (x0 :: xs) i π (.lst os.dropLast))
    | _ => .no
  | _ => .no) := rfl
@[simp] theorem e_fTruP (p : DEnv → Option (List Step × O)) (x0 : Option O) (xs : DEnv) : fTruP p (x0 :: xs) = (match p (x0 :: xs) with
  | some (_, .lst os) => .ok (!os.isEmpty, (x0 :: xs))
  | _ => .no) := rfl
@[simp] theorem e_fLenP (p : DEnv → Option (List Step × O)) (x0 : Option O) (xs : DEnv) : fLenP p (x0 :: xs) = ((p (x0 :: xs)).bind fun x => match x.2 with
  | .lst os => some (.int (os.length : Int))
  | .fz (.lst ds) => some (.int (ds.length : Int))
  | .fz (.tup ds) => some (.int (ds.length : Int))
  | _ => none) := rfl
@[simp] theorem e_rSeq (f g : Run) (x0 : Option O) (xs : DEnv) : rSeq f g (x0 :: xs) = ((f (x0 :: xs)).bind fun o => match o with
  | .nx δ' => g δ'
  | .rt o δ' => .ok (.rt o δ')
  | .bk δ' => .ok (.bk δ')
  | .ct δ' => .ok (.ct δ')) := rfl
@[simp] theorem e_rIf (g : DEnv → Rz (Bool × DEnv)) (f u : Run) (x0 : Option O) (xs : DEnv) : rIf g f u (x0 :: xs) = ((g (x0 :: xs)).bind fun p => if p.1 = true then f p.2 else u p.2) := rfl
@[simp] theorem e_rRet (g : DEnv → Rz (O × DEnv)) (x0 : Option O) (xs : DEnv) : rRet g (x0 :: xs) = ((g (x0 :: xs)).bind fun p => .ok (.rt p.1 p.2)) := rfl
@[simp] theorem e_rRetN  (x0 : Option O) (xs : DEnv) : rRetN  (x0 :: xs) = (.ok (.rt (.fz .non) (x0 :: xs))) := rfl
@[simp] theorem e_rSet (i : Nat) (g : DEnv → Rz (O × DEnv)) (x0 : Option O) (xs : DEnv) : rSet i g (x0 :: xs) = ((g (x0 :: xs)).bind fun p => .ok (.nx (p.2.set i (some p.1)))) := rfl
@[simp] theorem e_rAsg (g : DEnv → Rz (D × DEnv)) (t : D → DEnv → Option DEnv) (x0 : Option O) (xs : DEnv) : rAsg g t (x0 :: xs) = ((g (x0 :: xs)).bind fun p => (Rz.of (t p.1 p.2)).bind fun δ' => .ok (.nx δ')) := rfl
@[simp] theorem e_rFor (g : DEnv → Rz (List D × DEnv)) (t : D → DEnv → Option DEnv) (f : Run) (x0 : Option O) (xs : DEnv) : rFor g t f (x0 :: xs) = ((g (x0 :: xs)).bind fun p => forR t f p.1 p.2) := rfl
@[simp] theorem e_rAug (i : Nat) (f : D → D → Option D) (g : DEnv → Rz (D × DEnv)) (x0 : Option O) (xs : DEnv) : rAug i f g (x0 :: xs) = (match (x0 :: xs)[i]? with
  | some (some (.fz d)) => (g (x0 :: xs)).bind fun p => (Rz.of (f d p.1)).bind fun x => .ok (.nx (p.2.set i (some (.fz x))))
  | _ => .no) := rfl
@[simp] theorem e_rAugIx (i : Nat) (p : DEnv → Option (List Step × O)) (fi f : DEnv → Option D) (op : D → D → Option D) (x0 : Option O) (xs : DEnv) : rAugIx i p fi f op (x0 :: xs) = (match p (x0 :: xs), fi (x0 :: xs), f (x0 :: xs) with
  | some (π, .lst os), some (.int k), some e => match ixN os.length k with
    | some j => match os[j]? with
      | some (.fz d) => (Rz.of (op d e)).bind fun x => .ok (.nx (putAt (x0 :: xs) i π (.lst (os.set j (.fz x)))))
      | _ => .no
    | none => .no
  | _, _, _ => .no) := rfl
@[simp] theorem e_rSetIx (i : Nat) (g gi : DEnv → Rz (D × DEnv)) (x0 : Option O) (xs : DEnv) : rSetIx i g gi (x0 :: xs) = ((g (x0 :: xs)).bind fun p => match p.2[i]? with
  | some (some (.lst _)) => (gi p.2).bind fun q => match q.2[i]?, q.1 with
    | some (some (.lst os)), .int k => match ixN os.length k with
      | some j => .ok (.nx (q.2.set i (some (.lst (os.set j (.fz p.1))))))
      | none => .no
    | _, _ => .no
  | _ => .no) := rfl
@[simp] theorem e_rApp (i : Nat) (g : DEnv → Rz (O × DEnv)) (x0 : Option O) (xs : DEnv) : rApp i g (x0 :: xs) = (match (x0 :: xs)[i]? with
  | some (some (.lst _)) => (g (x0 :: xs)).bind fun p => appR i p.1 p.2
  | _ => .no) := rfl
@[simp] theorem e_rAppP (i : Nat) (p : DEnv → Option (List Step × O)) (f : DEnv → Option D) (x0 : Option O) (xs : DEnv) : rAppP i p f (x0 :: xs) = (match p (x0 :: xs), f (x0 :: xs) with
  | some (π, .lst os), some d => if os.length < 100000 then .ok (.nx (putAt (x0 :: xs) i π (.lst (os ++ [.fz d])))) else .no
  | _, _ => .no) := rfl
@[simp] theorem e_rAttr (C : Addr) (f : Str) (i : Nat) (g : DEnv → Rz (O × DEnv)) (x0 : Option O) (xs : DEnv) : rAttr C f i g (x0 :: xs) = ((g (x0 :: xs)).bind fun p => attrR C f i p.1 p.2) := rfl
@[simp] theorem e_rDrop (g : DEnv → Rz (D × DEnv)) (x0 : Option O) (xs : DEnv) : rDrop g (x0 :: xs) = ((g (x0 :: xs)).bind fun p => .ok (.nx p.2)) := rfl
@[simp] theorem e_rNext  (x0 : Option O) (xs : DEnv) : rNext  (x0 :: xs) = (.ok (.nx (x0 :: xs))) := rfl
@[simp] theorem e_rBreak  (x0 : Option O) (xs : DEnv) : rBreak  (x0 :: xs) = (.ok (.bk (x0 :: xs))) := rfl
@[simp] theorem e_rCont  (x0 : Option O) (xs : DEnv) : rCont  (x0 :: xs) = (.ok (.ct (x0 :: xs))) := rfl
@[simp] theorem e_rNever  (x0 : Option O) (xs : DEnv) : rNever  (x0 :: xs) = (.no) := rfl
@[simp] theorem e_wL (g : DEnv → Rz (D × DEnv)) (x0 : Option O) (xs : DEnv) : wL g (x0 :: xs) = ((g (x0 :: xs)).bind fun p => match p.1 with
  | .lst l => .ok (l, p.2)
  | .scr l => .ok (l, p.2)
  | _ => .no) := rfl
@[simp] theorem e_wT (g : DEnv → Rz (D × DEnv)) (x0 : Option O) (xs : DEnv) : wT g (x0 :: xs) = ((g (x0 :: xs)).bind fun p => match p.1 with
  | .tup l => .ok (l, p.2)
  | _ => .no) := rfl
@[simp] theorem e_wA (g : DEnv → Rz (D × DEnv)) (x0 : Option O) (xs : DEnv) : wA g (x0 :: xs) = ((g (x0 :: xs)).bind fun p => (Rz.of (anyD p.1)).bind fun l => .ok (l, p.2)) := rfl
@[simp] theorem e_wS (g : DEnv → Rz (D × DEnv)) (x0 : Option O) (xs : DEnv) : wS g (x0 :: xs) = ((g (x0 :: xs)).bind fun p => match p.1 with
  | .str z => .ok (signsD z, p.2)
  | _ => .no) := rfl
@[simp] theorem e_wE (g : DEnv → Rz (List D × DEnv)) (x0 : Option O) (xs : DEnv) : wE g (x0 :: xs) = ((g (x0 :: xs)).bind fun p => match p.1 with
  | [.lst l] => .ok (enumD 0 l, p.2)
  | [.tup l] => .ok (enumD 0 l, p.2)
  | _ => .no) := rfl
@[simp] theorem e_wR1 (g : DEnv → Rz (List D × DEnv)) (x0 : Option O) (xs : DEnv) : wR1 g (x0 :: xs) = ((g (x0 :: xs)).bind fun p => match p.1 with
  | [.int j] => if -(2 ^ 62) ≤ j ∧ j < 2 ^ 62 then .ok (rangeD 0 j.toNat, p.2) else .no
  | _ => .no) := rfl
@[simp] theorem e_wR2 (g : DEnv → Rz (List D × DEnv)) (x0 : Option O) (xs : DEnv) : wR2 g (x0 :: xs) = ((g (x0 :: xs)).bind fun p => match p.1 with
  | [.int i, .int j] => if -(2 ^ 62) ≤ i ∧ i < 2 ^ 62 ∧ -(2 ^ 62) ≤ j ∧ j < 2 ^ 62 then .ok (rangeD i (j - i).toNat, p.2) else .no
  | _ => .no) := rfl
@[simp] theorem e_fS2 (f : D → D → Option D) (fa fb : DEnv → Option D) (x0 : Option O) (xs : DEnv) : fS2 f fa fb (x0 :: xs) = ((fa (x0 :: xs)).bind fun a => (fb (x0 :: xs)).bind fun b => f a b) := rfl
@[simp] theorem e_fBl_1  : fBl  (.bl b) = (some b) := rfl
@[simp] theorem e_fI2_1 (g : Int → Int → D) : fI2 g (.int a) (.int b) = (some (g a b)) := rfl
@[simp] theorem e_fI2c_1 (C : Int → Int → Prop) [∀ a b, Decidable (C a b)] (g : Int → Int → D) : fI2c C g (.int a) (.int b) = (if C a b then some (g a b) else none) := rfl
@[simp] theorem e_fIx_1  : fIx  (.lst ds) (.int k) = (atI ds k) := rfl
@[simp] theorem e_fIx_2  : fIx  (.tup ds) (.int k) = (atI ds k) := rfl
@[simp] theorem e_fIx_3  : fIx  (.str z) (.int k) = (if z.length ≤ 100000 then (atI z.cps.toList k).map fun c => .str ⟨#[c]⟩ else none) := rfl
@[simp] theorem e_fLen_1  : fLen  ([.lst ds]) = (some (.int (ds.length : Int))) := rfl
@[simp] theorem e_fLen_2  : fLen  ([.tup ds]) = (some (.int (ds.length : Int))) := rfl
@[simp] theorem e_fLen_3  : fLen  ([.str z]) = (if z.length ≤ 100000 then some (.int (z.length : Int)) else none) := rfl
@[simp] theorem e_fInt_1  : fInt  ([.int i]) = (some (.int i)) := rfl
@[simp] theorem e_fInt_2  : fInt  ([.bl b]) = (some (.int (if b then 1 else 0))) := rfl
@[simp] theorem e_fListOf_1  : fListOf  ([.lst ds]) = (some (.new ds)) := rfl
@[simp] theorem e_fListOf_2  : fListOf  ([.tup ds]) = (some (.new ds)) := rfl
@[simp] theorem e_fTupOf_1  : fTupOf  ([.lst ds]) = (some (.tup ds)) := rfl
@[simp] theorem e_fTupOf_2  : fTupOf  ([.tup ds]) = (some (.tup ds)) := rfl
@[simp] theorem e_fAdd_1  : fAdd  (.int a) (.int b) = (some (.dat (.int (a + b)))) := rfl
@[simp] theorem e_fAdd_2  : fAdd  (.lst a) (.lst b) = (if a.length + b.length ≤ 100000 then some (.new (a ++ b)) else none) := rfl
@[simp] theorem e_fAdd_3  : fAdd  (.str a) (.str b) = (if a.length + b.length ≤ 100000 then some (.dat (.str (a ++ b))) else none) := rfl
@[simp] theorem e_fAdd_4  : fAdd  (.tup a) (.tup b) = (if a.length + b.length ≤ 100000 ∧ a ≠ [] then some (.dat (.tup (a ++ b))) else none) := rfl
@[simp] theorem e_tgTup_1 (n : Nat) (u : List D → DEnv → Option DEnv) : tgTup n u (.tup ds) (δ) = (if ds.length = n then u ds δ else none) := rfl
@[simp] theorem e_tgCons_1 (t : D → DEnv → Option DEnv) (u : List D → DEnv → Option DEnv) : tgCons t u ([]) (u0) = (none) := rfl
@[simp] theorem e_tgCons_2 (t : D → DEnv → Option DEnv) (u : List D → DEnv → Option DEnv) : tgCons t u (d :: r) (δ) = ((t d δ).bind (u r)) := rfl
@[simp] theorem e_tgNil_1  : tgNil  ([]) (δ) = (some δ) := rfl
@[simp] theorem e_finR_1 (pin : List Nat) : finR pin (.nx δ) = ((Rz.of (alO δ pin)).bind fun ps => .ok (.fz .non, ps)) := rfl
@[simp] theorem e_finR_2 (pin : List Nat) : finR pin (.rt o δ) = ((Rz.of (alO δ pin)).bind fun ps => .ok (o, ps)) := rfl
@[simp] theorem e_isInt_1  : isInt  (.int u0) = (some true) := rfl
@[simp] theorem e_isInt_2  : isInt  (.bl u0) = (some true) := rfl
@[simp] theorem e_isInt_3  : isInt  (.non) = (some false) := rfl
@[simp] theorem e_isInt_4  : isInt  (.str u0) = (some false) := rfl
@[simp] theorem e_isInt_5  : isInt  (.lst u0) = (some false) := rfl
@[simp] theorem e_isInt_6  : isInt  (.tup u0) = (some false) := rfl
@[simp] theorem e_isBool_1  : isBool  (.bl u0) = (some true) := rfl
@[simp] theorem e_isBool_2  : isBool  (.int u0) = (some false) := rfl
@[simp] theorem e_isBool_3  : isBool  (.non) = (some false) := rfl
@[simp] theorem e_isBool_4  : isBool  (.str u0) = (some false) := rfl
@[simp] theorem e_isBool_5  : isBool  (.lst u0) = (some false) := rfl
@[simp] theorem e_isBool_6  : isBool  (.tup u0) = (some false) := rfl
@[simp] theorem e_isStr_1  : isStr  (.str u0) = (some true) := rfl
@[simp] theorem e_isStr_2  : isStr  (.bl u0) = (some false) := rfl
@[simp] theorem e_isStr_3  : isStr  (.int u0) = (some false) := rfl
@[simp] theorem e_isStr_4  : isStr  (.non) = (some false) := rfl
@[simp] theorem e_isStr_5  : isStr  (.lst u0) = (some false) := rfl
@[simp] theorem e_isStr_6  : isStr  (.tup u0) = (some false) := rfl
@[simp] theorem e_isTup_1  : isTup  (.tup u0) = (some true) := rfl
@[simp] theorem e_isTup_2  : isTup  (.str u0) = (some false) := rfl
@[simp] theorem e_isTup_3  : isTup  (.bl u0) = (some false) := rfl
@[simp] theorem e_isTup_4  : isTup  (.int u0) = (some false) := rfl
@[simp] theorem e_isTup_5  : isTup  (.non) = (some false) := rfl
@[simp] theorem e_isTup_6  : isTup  (.lst u0) = (some false) := rfl
@[simp] theorem e_isSeq_1  : isSeq  (.tup u0) = (some true) := rfl
@[simp] theorem e_isSeq_2  : isSeq  (.lst u0) = (some true) := rfl
@[simp] theorem e_isSeq_3  : isSeq  (.str u0) = (some false) := rfl
@[simp] theorem e_isSeq_4  : isSeq  (.bl u0) = (some false) := rfl
@[simp] theorem e_isSeq_5  : isSeq  (.int u0) = (some false) := rfl
@[simp] theorem e_isSeq_6  : isSeq  (.non) = (some false) := rfl
@[simp] theorem e_truD_1  : truD  (.non) = (some false) := rfl
@[simp] theorem e_truD_2  : truD  (.bl b) = (some b) := rfl
@[simp] theorem e_truD_3  : truD  (.int i) = (some (i != 0)) := rfl
@[simp] theorem e_truD_4  : truD  (.lst ds) = (some (!ds.isEmpty)) := rfl
@[simp] theorem e_truD_5  : truD  (.tup ds) = (some (!ds.isEmpty)) := rfl
@[simp] theorem e_anyD_1  : anyD  (.lst l) = (some l) := rfl
@[simp] theorem e_anyD_2  : anyD  (.scr l) = (some l) := rfl
@[simp] theorem e_anyD_3  : anyD  (.tup l) = (some l) := rfl
@[simp] theorem e_anyD_4  : anyD  (.str z) = (some (signsD z)) := rfl
@[simp] theorem e_boolsD_1  : boolsD  ([]) = (some []) := rfl
@[simp] theorem e_boolsD_2  : boolsD  (.bl b :: r) = ((boolsD r).map (b :: ·)) := rfl
@[simp] theorem e_intsD_1  : intsD  ([]) = (some []) := rfl
@[simp] theorem e_intsD_2  : intsD  (.int i :: r) = ((intsD r).map (i :: ·)) := rfl
@[simp] theorem e_fAll_1  : fAll  ([.lst ds]) = ((boolsD ds).map fun bs => .bl (bs.all id)) := rfl
@[simp] theorem e_fAny_1  : fAny  ([.lst ds]) = ((boolsD ds).map fun bs => .bl (bs.any id)) := rfl
@[simp] theorem e_fSum_1  : fSum  ([.lst ds]) = ((intsD ds).map fun ns => .int ns.sum) := rfl
@[simp] theorem e_Dx_o_1  : Dx.o  (.dat x) = (.fz x) := rfl
@[simp] theorem e_Dx_o_2  : Dx.o  (.new xs) = (.lst (xs.map .fz)) := rfl
@[simp] theorem e_O_toD_1  : O.toD  (.fz d) = (d) := rfl
@[simp] theorem e_O_toD_2  : O.toD  (.lst l) = (.lst (O.toDL l)) := rfl
@[simp] theorem e_O_toD_3  : O.toD  (.dk k) = (.dk k) := rfl
@[simp] theorem e_O_toD_4  : O.toD  (.dt k) = (.dt k) := rfl
@[simp] theorem e_O_toD_5  : O.toD  (.ins C fs) = (.obj C (O.toDF fs)) := rfl
@[simp] theorem e_O_toDL_1  : O.toDL  ([]) = ([]) := rfl
@[simp] theorem e_O_toDL_2  : O.toDL  (o :: r) = (o.toD :: O.toDL r) := rfl
@[simp] theorem e_O_toDF_1  : O.toDF  ([]) = ([]) := rfl
@[simp] theorem e_O_toDF_2  : O.toDF  ((f, o) :: r) = ((f, o.toD) :: O.toDF r) := rfl
@[simp] theorem e_alI_1  : alI  ([]) = ([]) := rfl
@[simp] theorem e_alI_2  : alI  (.d u0 :: r) = (alI r) := rfl
@[simp] theorem e_alI_3  : alI  (.al i :: r) = (i :: alI r) := rfl
@[simp] theorem e_alP_1 (k : Nat) : alP k ([]) = ([]) := rfl
@[simp] theorem e_alP_2 (k : Nat) : alP k (.d u0 :: r) = (alP (k + 1) r) := rfl
@[simp] theorem e_alP_3 (k : Nat) : alP k (.al u0 :: r) = (k :: alP (k + 1) r) := rfl
@[simp] theorem e_isNonD_1  : isNonD  (.non) = (true) := rfl
@[simp] theorem e_fIsN_1 (d : D) : fIsN d (.non) = (some (.bl (isNonD d))) := rfl
@[simp] theorem e_fNotN_1 (d : D) : fNotN d (.non) = (some (.bl (!isNonD d))) := rfl
@[simp] theorem e_fIn_1 (neg : Bool) (x : D) : fIn neg x (.lst ds) = (if x.flat = true ∧ ds.all D.flat = true then some (.bl (if neg then !inD x ds else inD x ds)) else none) := rfl
@[simp] theorem e_fIn_2 (neg : Bool) (x : D) : fIn neg x (.tup ds) = (if x.flat = true ∧ ds.all D.flat = true then some (.bl (if neg then !inD x ds else inD x ds)) else none) := rfl
@[simp] theorem e_forR_1 (t : D → DEnv → Option DEnv) (f : Run) : forR t f ([]) (δ) = (.ok (.nx δ)) := rfl
@[simp] theorem e_forR_2 (t : D → DEnv → Option DEnv) (f : Run) : forR t f (d :: r) (δ) = ((Rz.of (t d δ)).bind fun δ' => (f δ').bind fun o => loopR o (forR t f r)) := rfl
@[simp] theorem e_loop1 (k : Run) (δ : DEnv) : loopR (.nx δ) k = k δ := rfl
@[simp] theorem e_loop2 (k : Run) (δ : DEnv) : loopR (.ct δ) k = k δ := rfl
@[simp] theorem e_loop3 (k : Run) (δ : DEnv) : loopR (.bk δ) k = .ok (.nx δ) := rfl
@[simp] theorem e_loop4 (k : Run) (o : O) (δ : DEnv) : loopR (.rt o δ) k = .ok (.rt o δ) := rfl
@[simp] theorem e_mix1 (l : List O) : mixO [] l = [] := rfl
@[simp] theorem e_mix2 (d : D) (r : List Arg) (l : List O) : mixO (.d d :: r) l = .fz d :: mixO r l := rfl
@[simp] theorem e_mix3 (i : Nat) (r : List Arg) (o : O) (l : List O) : mixO (.al i :: r) (o :: l) = o :: mixO r l := rfl
@[simp] theorem e_setS1 (δ : DEnv) (l : List O) : setS δ [] l = δ := by cases l <;> rfl
@[simp] theorem e_setS2 (x0 : Option O) (xs : DEnv) (i : Nat) (r : List Nat) (o : O) (l : List O) : setS (x0 :: xs) (i :: r) (o :: l) = setS ((x0 :: xs).set i (some o)) r l := rfl
@[simp] theorem e_appR (i : Nat) (o : O) (x0 : Option O) (xs : DEnv) : appR i o (x0 :: xs) = (match (x0 :: xs)[i]? with
  | some (some (.lst l)) => if l.length < 100000 then .ok (.nx ((x0 :: xs).set i (some (.lst (l ++ [o]))))) else .no
  | _ => .no) := rfl
@[simp] theorem e_attrR (C : Addr) (f : Str) (i : Nat) (o : O) (x0 : Option O) (xs : DEnv) : attrR C f i o (x0 :: xs) = (match (x0 :: xs)[i]? with
  | some (some (.ins C' fs)) => if C' = C ∧ fs.length < 1000 then .ok (.nx ((x0 :: xs).set i (some (.ins C' (putA f o fs))))) else .no
  | _ => .no) := rfl
@[simp] theorem e_gCallV (n : Nat) (cp : List Nat) (Φ : List O → Rz (O × List O)) (as : List Arg) (x0 : Option O) (xs : DEnv) : gCallV n cp Φ as (x0 :: xs) =
  (if as.length = n ∧ alP 0 as = cp ∧ (alI as).Nodup then (Rz.of (alO (x0 :: xs) (alI as))).bind fun l => (Φ (mixO as l)).bind fun q => if q.2.length = cp.length then .ok (q.1, setS (x0 :: xs) (alI as) q.2) else .no else .no) := rfl
@[simp] theorem e_putAt (x0 : Option O) (xs : DEnv) (i : Nat) (π : List Step) (o' : O) : putAt (x0 :: xs) i π o' = (match (x0 :: xs)[i]? with
  | some (some o) => (x0 :: xs).set i (some (O.put o' π o))
  | _ => (x0 :: xs)) := rfl
@[simp] theorem e_tgN (i : Nat) (d : D) (x0 : Option O) (xs : DEnv) : tgN i d (x0 :: xs) = some ((x0 :: xs).set i (some (.fz d))) := rfl
@[simp] theorem e_alO1 (δ : DEnv) : alO δ [] = some [] := rfl
@[simp] theorem e_alO2 (x0 : Option O) (xs : DEnv) (i : Nat) (r : List Nat) : alO (x0 :: xs) (i :: r) = (match (x0 :: xs)[i]? with
  | some (some o) => (alO (x0 :: xs) r).map (o :: ·)
  | _ => none) := rfl
@[simp] theorem e_backD1 (δ δ' : DEnv) : backD δ δ' [] = δ' := rfl
@[simp] theorem e_backD2 (δ δ' : DEnv) (v : Nat) (r : List Nat) : backD δ δ' (v :: r) = (backD δ δ' r).set v ((δ[v]?).getD none) := rfl
@[simp] theorem e_wipeD1 (δ : DEnv) : wipeD δ [] = δ := rfl
@[simp] theorem e_wipeD2 (x0 : Option O) (xs : DEnv) (v : Nat) (r : List Nat) : wipeD (x0 :: xs) (v :: r) = (wipeD (x0 :: xs) r).set v none := rfl
@[simp] theorem e_plain1 (δ : DEnv) : plainAt δ [] = true := rfl
@[simp] theorem e_plain2 (x0 : Option O) (xs : DEnv) (v : Nat) (r : List Nat) : plainAt (x0 :: xs) (v :: r) = ((match (x0 :: xs)[v]? with
  | some (some (.fz _)) => true
  | some none => true
  | _ => false) && plainAt (x0 :: xs) r) := rfl
@[simp] theorem e_fEq (d e : D) : fEq d e = (fEqB d e).map .bl := rfl
@[simp] theorem e_fNe (d e : D) : fNe d e = (fEqB d e).map fun b => .bl (!b) := rfl
@[simp] theorem e_eqI (a b : Int) : fEqB (.int a) (.int b) = some (decide (a = b)) := rfl
@[simp] theorem e_eqB (a b : Bool) : fEqB (.bl a) (.bl b) = some (decide (a = b)) := rfl
@[simp] theorem e_eqS (a b : Str) : fEqB (.str a) (.str b) = some (decide (a = b)) := rfl
@[simp] theorem e_eqNN : fEqB .non .non = some true := rfl
@[simp] theorem e_eqNS (a : Str) : fEqB .non (.str a) = some false := rfl
@[simp] theorem e_eqSN (a : Str) : fEqB (.str a) .non = some false := rfl
@[simp] theorem e_eqNI (a : Int) : fEqB .non (.int a) = some false := rfl
@[simp] theorem e_eqIN (a : Int) : fEqB (.int a) .non = some false := rfl
@[simp] theorem e_nox1 {α : Type} (a : α) : (Rz.ok a).nox = .ok a := rfl
@[simp] theorem e_get (o : O) : O.get [] o = some o := rfl
@[simp] theorem e_put (o' o : O) : O.put o' [] o = o' := rfl
@[simp] theorem e_putF (o' : O) (f : Str) (π : List Step) (C : Addr) (fs : List (Str × O)) : O.put o' (.at f :: π) (.ins C fs) = (fs.lookup f).elim (.ins C fs) fun x => .ins C (putA f (O.put o' π x) fs) := rfl
@[simp] theorem e_putI (o' : O) (n : Nat) (π : List Step) (l : List O) : O.put o' (.ix n :: π) (.lst l) = (l[n]?).elim (.lst l) fun x => .lst (l.set n (O.put o' π x)) := rfl
@[simp] theorem e_putA1 {α : Type} (f : Str) (v : α) : putA f v [] = [(f, v)] := rfl
@[simp] theorem e_putA2 {α : Type} (f g : Str) (v x : α) (r : List (Str × α)) : putA f v ((g, x) :: r) = if g = f then (g, v) :: r else (g, x) :: putA f v r := rfl

end DL

/-! DLW: evaluation from the head. -/
namespace DL
open PySem L2
theorem if_y {α : Type} {p : Prop} [Decidable p] (a b : α) (h : p) : (if p then a else b) = a := if_pos h
/-- the item at a place that is there -/
theorem atI_of {α : Type} {xs : List α} {i : Int} {v : α} (h0 : 0 ≤ i) (h : xs[i.toNat]? = some v) : atI xs i = some v := by
  have := atI_nat h
  rwa [Int.toNat_of_nonneg h0] at this
theorem atI_at {α : Type} {xs : List α} {i : Int} (h0 : 0 ≤ i) (h : i < xs.length) : ∃ v, atI xs i = some v ∧ v ∈ xs := by
  have hl : i.toNat < xs.length := by omega
  exact ⟨xs[i.toNat], atI_of h0 (by simp [hl]), List.getElem_mem hl⟩
theorem atI_int {row : List Int} {i : Int} (h0 : 0 ≤ i) (h : i < row.length) : ∃ n, atI (row.map D.int) i = some (.int n) := by
  obtain ⟨v, h1, h2⟩ := atI_at (xs := row.map D.int) h0 (by simpa using h)
  obtain ⟨n, _, rfl⟩ := List.mem_map.mp h2
  exact ⟨n, h1⟩
@[simp] theorem e_ixN0 (n : Nat) (i : Int) : ixN n i = if 0 ≤ i then (if i < n then some i.toNat else none) else if -(n : Int) ≤ i then some (i + n).toNat else none := rfl
/-- range(n) -/
theorem rng1 {g : DEnv → Rz (D × DEnv)} {n : Nat} {x : Option O} {xs δ' : DEnv} (h : g (x :: xs) = .ok (.int (n : Int), δ')) (hx : ∃ y ys, δ' = y :: ys) (hn : n ≤ 1000000) : wR1 (gaCons g gaNil) (x :: xs) = .ok (rangeD 0 n, δ') := by
  obtain ⟨y, ys, rfl⟩ := hx
  have e : gaCons g gaNil (x :: xs) = .ok ([.int (n : Int)], y :: ys) := by
    rw [e_gaCons, h]; rfl
  have c : -(2 ^ 62) ≤ (n : Int) ∧ (n : Int) < 2 ^ 62 := by
    have : (2 : Int) ^ 62 = 4611686018427387904 := by decide
    rw [this]; omega
  rw [e_wR1, e, Rz.bind_ok]
  show (if -(2 ^ 62) ≤ (n : Int) ∧ (n : Int) < 2 ^ 62 then Rz.ok (rangeD 0 (n : Int).toNat, y :: ys) else .no) = _
  rw [if_pos c, Int.toNat_natCast]
/-! ### loops -/
def stepOk (I : DEnv → Prop) (P : Out → Prop) : Out → Prop
  | .nx δ => I δ
  | .ct δ => I δ
  | .bk δ => P (.nx δ)
  | .rt o δ => P (.rt o δ)
theorem forR_gen {t : D → DEnv → Option DEnv} {f : Run} {P : Out → Prop} : ∀ (ds : List D) (I : Nat → DEnv → Prop) (δ : DEnv), (∀ δ, I ds.length δ → P (.nx δ)) →
    (∀ i d δ, ds[i]? = some d → I i δ → ∃ δ1, t d δ = some δ1 ∧ ∃ o, f δ1 = .ok o ∧ stepOk (I (i + 1)) P o) → I 0 δ → ∃ o, forR t f ds δ = .ok o ∧ P o
  | [], I, δ, he, _, h0 => ⟨.nx δ, rfl, he δ h0⟩
  | d :: r, I, δ, he, hs, h0 => by
    obtain ⟨δ1, e1, o, e2, k⟩ := hs 0 d δ rfl h0
    have go : ∀ δ2, I 1 δ2 → ∃ o, forR t f r δ2 = .ok o ∧ P o := fun δ2 h => forR_gen r (fun i => I (i + 1)) δ2 he (fun i d δ h => hs (i + 1) d δ (by simpa using h)) h
    unfold forR
    rw [e1, Rz.of_some, Rz.bind_ok, e2, Rz.bind_ok]
    cases o with
    | nx δ2 => exact go δ2 k
    | ct δ2 => exact go δ2 k
    | bk δ2 => exact ⟨_, rfl, k⟩
    | rt u δ2 => exact ⟨_, rfl, k⟩
/-- a loop that runs to its end -/
theorem forR_inv {t : D → DEnv → Option DEnv} {f : Run} (ds : List D) (I : Nat → DEnv → Prop) (δ : DEnv)
    (hs : ∀ i d δ, ds[i]? = some d → I i δ → ∃ δ1, t d δ = some δ1 ∧ ∃ δ2, f δ1 = .ok (.nx δ2) ∧ I (i + 1) δ2) (h0 : I 0 δ) : ∃ δ', forR t f ds δ = .ok (.nx δ') ∧ I ds.length δ' := by
  obtain ⟨o, e, δ', rfl, h⟩ := forR_gen (P := fun o => ∃ δ', o = .nx δ' ∧ I ds.length δ') ds I δ (fun δ h => ⟨δ, rfl, h⟩) (fun i d δ h h' => by
    obtain ⟨δ1, a, δ2, b, k⟩ := hs i d δ h h'
    exact ⟨δ1, a, _, b, k⟩) h0
  exact ⟨δ', e, h⟩
theorem rWhile_gen {g : DEnv → Rz (Bool × DEnv)} {f : Run} {P : Out → Prop} (μ : DEnv → Nat) (I : DEnv → Prop)
    (hs : ∀ δ, I δ → ∃ b δ1, g δ = .ok (b, δ1) ∧ (b = false → P (.nx δ1)) ∧ (b = true → ∃ o, f δ1 = .ok o ∧ stepOk (fun δ2 => I δ2 ∧ μ δ2 < μ δ) P o)) :
    ∀ (n : Nat) (δ : DEnv), μ δ ≤ n → I δ → ∃ o, rWhile g f δ = .ok o ∧ P o
  | n, δ, hn, h => by
    obtain ⟨b, δ1, e1, k1, k2⟩ := hs δ h
    rw [rWhile_eq, e1, Rz.bind_ok]
    cases b with
    | false => exact ⟨_, rfl, k1 rfl⟩
    | true =>
      obtain ⟨o, e2, k⟩ := k2 rfl
      rw [if_pos rfl, e2, Rz.bind_ok]
      cases o with
      | nx δ2 =>
        cases n with
        | zero => have := k.2; omega
        | succ m => exact rWhile_gen μ I hs m δ2 (by have := k.2; omega) k.1
      | ct δ2 =>
        cases n with
        | zero => have := k.2; omega
        | succ m => exact rWhile_gen μ I hs m δ2 (by have := k.2; omega) k.1
      | bk δ2 => exact ⟨_, rfl, k⟩
      | rt u δ2 => exact ⟨_, rfl, k⟩
theorem lcL_gen {tg : D → DEnv → Option DEnv} {gt : DEnv → Rz (Bool × DEnv)} {ge : DEnv → Rz (O × DEnv)} {vs : List Nat} : ∀ (ds : List D) (I : Nat → List O → DEnv → Prop) (acc : List O) (δ : DEnv),
    (∀ i d acc δ, ds[i]? = some d → I i acc δ → ∃ δ1 b δ2, tg d δ = some δ1 ∧ gt δ1 = .ok (b, δ2) ∧ (b = false → I (i + 1) acc (wipeD δ2 vs)) ∧ (b = true → ∃ o δ3, ge δ2 = .ok (o, δ3) ∧ I (i + 1) (acc ++ [o]) (wipeD δ3 vs))) →
    I 0 acc δ → ∃ l δ', lcL tg gt ge vs ds δ = .ok (l, δ') ∧ I ds.length (acc ++ l) δ'
  | [], I, acc, δ, _, h0 => ⟨[], δ, rfl, by rw [List.append_nil]; exact h0⟩
  | d :: r, I, acc, δ, hs, h0 => by
    obtain ⟨δ1, b, δ2, e1, e2, k1, k2⟩ := hs 0 d acc δ rfl h0
    have go : ∀ acc' δ', I 1 acc' δ' → ∃ l δ'', lcL tg gt ge vs r δ' = .ok (l, δ'') ∧ I (r.length + 1) (acc' ++ l) δ'' := fun acc' δ' h =>
      lcL_gen r (fun i => I (i + 1)) acc' δ' (fun i d acc δ h => hs (i + 1) d acc δ (by simpa using h)) h
    unfold lcL
    rw [e1, Rz.of_some, Rz.bind_ok, e2, e_nox1, Rz.bind_ok]
    cases b with
    | false =>
      obtain ⟨l, δ', e, k⟩ := go acc _ (k1 rfl)
      exact ⟨l, δ', by simpa using e, k⟩
    | true =>
      obtain ⟨o, δ3, e3, k3⟩ := k2 rfl
      obtain ⟨l, δ', e, k⟩ := go _ _ k3
      refine ⟨o :: l, δ', ?_, ?_⟩
      · simp only [if_pos, e3, e_nox1, Rz.bind_ok, e]
      · rw [List.append_assoc] at k; exact k
/-- a comprehension that touches nothing -/
theorem lcL_map {tg : D → DEnv → Option DEnv} {gt : DEnv → Rz (Bool × DEnv)} {ge : DEnv → Rz (O × DEnv)} {vs : List Nat} (G : D → Bool) (E : D → O) (δ : DEnv) : ∀ ds : List D,
    (∀ d ∈ ds, ∃ δ1 δ2, tg d δ = some δ1 ∧ gt δ1 = .ok (G d, δ2) ∧ (G d = false → wipeD δ2 vs = δ) ∧ (G d = true → ∃ δ3, ge δ2 = .ok (E d, δ3) ∧ wipeD δ3 vs = δ)) → lcL tg gt ge vs ds δ = .ok ((ds.filter G).map E, δ)
  | [], _ => rfl
  | d :: r, h => by
    obtain ⟨δ1, δ2, e1, e2, k1, k2⟩ := h d (by simp)
    have ih := lcL_map G E δ r fun d hd => h d (by simp [hd])
    unfold lcL
    rw [e1, Rz.of_some, Rz.bind_ok, e2, e_nox1, Rz.bind_ok]
    cases hb : G d with
    | false =>
      rw [List.filter_cons_of_neg (by simp [hb])]
      simp only [k1 hb, ih]
      rfl
    | true =>
      obtain ⟨δ3, e3, k3⟩ := k2 hb
      rw [List.filter_cons_of_pos (by simp [hb])]
      simp only [if_pos, e3, e_nox1, Rz.bind_ok, k3, ih, List.map_cons]
end DL

namespace DL
open PySem L2

/-! ### the numbers, the draws -/
abbrev ints_ (row : List Int) : D := .lst (row.map D.int)
abbrev intsO (row : List Int) : O := .lst (row.map fun n => .fz (.int n))
theorem intsO_snoc (row : List Int) (n : Int) : O.lst ((row.map fun n => O.fz (.int n)) ++ [.fz (.int n)]) = intsO (row ++ [n]) := by simp [intsO]
theorem intsO_toD (row : List Int) : (intsO row).toD = ints_ row := by
  simp [intsO, ints_, toDL_map, Function.comp_def]
theorem rangeD_get {lo : Int} {n i : Nat} {d : D} (h : (rangeD lo n)[i]? = some d) : i < n ∧ d = .int (lo + (i : Nat)) := by
  unfold rangeD at h
  rw [List.getElem?_map] at h
  cases q : (List.range n)[i]? with
  | none => rw [q] at h; cases h
  | some j =>
    rw [q] at h
    obtain ⟨hk, e2⟩ := List.getElem?_eq_some_iff.mp q
    rw [List.getElem_range] at e2
    subst e2
    cases h
    exact ⟨by simpa using hk, rfl⟩
theorem rangeD_len (lo : Int) (n : Nat) : (rangeD lo n).length = n := by simp [rangeD]
theorem b1_numbers (c : Cs) (s : O) (row : List Int) (x n k : Int) (w : Option O) (h : row.length < 100000) :
    body1_law_numbers c [some s, some (intsO row), some (.fz (.int x)), some (.fz (.int n)), some (.fz (.int k)), w] =
      if n = 0 then .ok (.bk [some s, some (intsO row), some (.fz (.int x)), some (.fz (.int n)), some (.fz (.int k)), w])
      else .ok (.nx [some s, some (intsO (row ++ [n % 997])), some (.fz (.int x)), some (.fz (.int (n / 997))), some (.fz (.int k)), w]) := by
  by_cases hn : n = 0
  · subst hn; simp [body1_law_numbers]
  · simp [body1_law_numbers, hn, h]
theorem b2_numbers (c : Cs) (s : O) (row : List Int) (x k : Int) (v w : Option O) (h : row.length < 100000) :
    ∃ m r : Int, body2_law_numbers c [some s, some (intsO row), some (.fz (.int x)), v, some (.fz (.int k)), w] =
      .ok (.nx [some s, some (intsO (row ++ [r])), some (.fz (.int x)), v, some (.fz (.int k)), some (.fz (.int m))]) := by
  refine ⟨(x * 48271 + k * 69621 + 11) % 2147483647, ((x * 48271 + k * 69621 + 11) % 2147483647 * 16807 + k) % 2147483629, ?_⟩
  simp [body2_law_numbers, h]
def NumI (s : O) (m : Nat) (δ : DEnv) : Prop := ∃ (row : List Int) (a b d e : Option O), δ = [some s, some (intsO row), a, b, d, e] ∧ row.length ≤ m
theorem b3_numbers (c : Cs) (s : O) (m : Nat) (hm : m ≤ 5000) (z : Int) (δ : DEnv) (h : NumI s m δ) : ∃ δ', body3_law_numbers c (δ.set 2 (some (.fz (.int z)))) = .ok (.nx δ') ∧ NumI s (m + 60) δ' := by
  obtain ⟨row, a, b, d, e, rfl, hr⟩ := h
  by_cases hz : (1000000000000000000 : Int) ≤ z
  · have L := forR_gen (t := tgN 4) (f := body1_law_numbers c) (P := fun o => ∃ δ', o = .nx δ' ∧ NumI s (m + 60) δ') (rangeD 0 60)
      (fun i δ => ∃ (row : List Int) (n : Int) (d : Option O), δ = [some s, some (intsO row), some (.fz (.int z)), some (.fz (.int n)), d, e] ∧ row.length ≤ m + i)
      [some s, some (intsO row), some (.fz (.int z)), some (.fz (.int z)), d, e]
      (fun δ h => by
        obtain ⟨row, n, d, rfl, h⟩ := h
        rw [rangeD_len] at h
        exact ⟨_, rfl, row, _, _, _, _, rfl, h⟩)
      (fun i x δ hx h => by
        obtain ⟨row, n, d, rfl, h⟩ := h
        obtain ⟨hi, rfl⟩ := rangeD_get hx
        refine ⟨_, rfl, ?_⟩
        show ∃ o, body1_law_numbers c [_, _, _, _, some (.fz (.int _)), _] = _ ∧ _
        rw [b1_numbers _ _ _ _ _ _ _ (by omega)]
        by_cases hn : n = 0
        · rw [if_pos hn]
          exact ⟨_, rfl, _, rfl, row, _, _, _, _, rfl, by omega⟩
        · rw [if_neg hn]
          exact ⟨_, rfl, _, n / 997, _, rfl, by simp; omega⟩) ⟨row, z, d, rfl, by omega⟩
    obtain ⟨o, e1, δ', rfl, k⟩ := L
    refine ⟨δ', ?_, k⟩
    simp [body3_law_numbers, hz, e1]
  · have L := forR_inv (t := tgN 4) (f := body2_law_numbers c) (rangeD 0 4)
      (fun i δ => ∃ (row : List Int) (d e : Option O), δ = [some s, some (intsO row), some (.fz (.int z)), b, d, e] ∧ row.length ≤ m + i)
      [some s, some (intsO row), some (.fz (.int z)), b, d, e]
      (fun i x δ hx h => by
        obtain ⟨row, d, e, rfl, h⟩ := h
        obtain ⟨hi, rfl⟩ := rangeD_get hx
        refine ⟨_, rfl, ?_⟩
        obtain ⟨u, r, q⟩ := b2_numbers c s row z (0 + (i : Nat)) b e (by omega)
        exact ⟨_, q, _, _, _, rfl, by simp; omega⟩) ⟨row, d, e, rfl, by omega⟩
    obtain ⟨δ', e1, row', d', e', rfl, k⟩ := L
    rw [rangeD_len] at k
    refine ⟨[some s, some (intsO row'), some (.fz (.int z)), b, d', e'], ?_, row', _, _, _, _, rfl, by omega⟩
    simp [body3_law_numbers, hz, e1]
theorem numbers_ok (c : Cs) (ns : List Int) (hs : ns.length ≤ 63) : ∃ row : List Int, row ≠ [] ∧ phi_law_numbers c [scrO ns] = .ok (.fz (ints_ row), []) := by
  have L := forR_inv (t := tgN 2) (f := body3_law_numbers c) (ns.map D.int) (fun i δ => NumI (scrO ns) (60 * i) δ) [some (scrO ns), some (intsO []), none, none, none, none]
    (fun i d δ hd h => by
      refine ⟨_, rfl, ?_⟩
      rw [List.getElem?_map] at hd
      cases q : ns[i]? with
      | none => rw [q] at hd; cases hd
      | some z =>
        rw [q] at hd; cases hd
        have hi := (List.getElem?_eq_some_iff.mp q).1
        obtain ⟨δ', e, k⟩ := b3_numbers c (scrO ns) (60 * i) (by omega) z δ h
        exact ⟨δ', e, by rw [Nat.mul_add]; exact k⟩) ⟨[], _, _, _, _, rfl, by simp⟩
  obtain ⟨δ', e, row, a, b, d, f, rfl, hr⟩ := L
  have ec : cutD (ns.map D.int) none (some 63) = ns.map D.int := by
    unfold cutD HT.sIx
    simp
    rw [List.take_of_length_le (by simp; omega)]
  rw [List.length_map] at hr
  refine ⟨if row = [] then [0] else row, by split <;> simp_all, ?_⟩
  rw [go_law_numbers]
  by_cases h0 : row = []
  · subst h0
    simp [run_law_numbers, ec, toDL_map, Function.comp_def, e, intsO] at e ⊢
    simp [e]
  · simp [run_law_numbers, ec, toDL_map, Function.comp_def, h0, intsO] at e ⊢
    simp [e, h0, toDL_map, Function.comp_def]
theorem draw_ok (c : Cs) (row : List Int) (hr : row ≠ []) (at_ : Int) (h0 : 0 ≤ at_) (lim : Int) (hl : 0 < lim) :
    ∃ r, 0 ≤ r ∧ r < lim ∧ phi_law_draw c [.fz (ints_ row), .fz (.int at_), .fz (.int lim)] = .ok (.fz (.int r), []) := by
  have hp : 0 < row.length := List.length_pos_iff.mpr hr
  have bd : ∀ x : Int, 0 ≤ x % lim ∧ x % lim < lim := fun x => ⟨Int.emod_nonneg _ (by omega), Int.emod_lt_of_pos _ hl⟩
  rw [go_law_draw]
  by_cases h : at_ < (row.length : Int)
  · obtain ⟨n, hn⟩ := atI_int h0 h
    refine ⟨n % lim, (bd _).1, (bd _).2, ?_⟩
    simp [run_law_draw, h, hn, hl]
  · obtain ⟨n, hn⟩ := atI_int (row := row) (i := at_ % (row.length : Int)) (Int.emod_nonneg _ (by omega)) (Int.emod_lt_of_pos _ (by omega))
    refine ⟨((n * 40692 + at_ * 7919 + 3) % 2147483399 * 48271 + at_) % 2147483647 % lim, (bd _).1, (bd _).2, ?_⟩
    simp [run_law_draw, h, hn, hl, hp]
abbrev spotO (p : Nat) : O := .lst [.fz (.int (p : Int))]
theorem take_ok (c : Cs) (row : List Int) (hr : row ≠ []) (p : Nat) (lim : Int) (hl : 0 < lim) :
    ∃ r, 0 ≤ r ∧ r < lim ∧ phi_law_take c [.fz (ints_ row), spotO p, .fz (.int lim)] = .ok (.fz (.int r), [spotO (p + 1)]) := by
  obtain ⟨r, h1, h2, h3⟩ := draw_ok c row hr p (by omega) lim hl
  refine ⟨r, h1, h2, ?_⟩
  have e : ((p : Int) + 1 - 1) = p := by omega
  rw [go_law_take]
  simp [run_law_take, e, h3]
theorem pick_ok (c : Cs) (row : List Int) (hr : row ≠ []) (p : Nat) (things : List D) (ht : things ≠ []) :
    ∃ x ∈ things, phi_law_pick c [.fz (ints_ row), spotO p, .fz (.lst things)] = .ok (.fz x, [spotO (p + 1)]) := by
  have hp : 0 < things.length := List.length_pos_iff.mpr ht
  obtain ⟨r, h1, h2, h3⟩ := take_ok c row hr p things.length (by omega)
  obtain ⟨x, e1, e2⟩ := atI_at h1 h2
  refine ⟨x, e2, ?_⟩
  rw [go_law_pick]
  simp [run_law_pick, h3, e1]
end DL

namespace DL
open PySem L2

/-! ### patterns -/
inductive Pat where
  | any | one (s : Str) | many (p : Pat) | row (l : List Pat) | eit (l : List Pat)
/-- a list or a tuple -/
def sq (b : Bool) (l : List D) : D := if b then .lst l else .tup l
mutual
def Pat.toD (b : Bool) : Pat → D
  | .any => sq b [.str "any"]
  | .one s => sq b [.str "one", .str s]
  | .many p => sq b [.str "many", p.toD b]
  | .row l => sq b [.str "row", sq b (Pat.toDL b l)]
  | .eit l => sq b [.str "either", sq b (Pat.toDL b l)]
def Pat.toDL (b : Bool) : List Pat → List D
  | [] => []
  | p :: r => p.toD b :: Pat.toDL b r
end
theorem Pat.toDL_map (b : Bool) : ∀ l : List Pat, Pat.toDL b l = l.map (Pat.toD b)
  | [] => rfl
  | p :: r => by rw [Pat.toDL, Pat.toDL_map b r, List.map_cons]
mutual
def Pat.cnt : Pat → Nat
  | .any => 1
  | .one _ => 1
  | .many p => 1 + p.cnt
  | .row l => 1 + Pat.cntL l
  | .eit l => 1 + Pat.cntL l
def Pat.cntL : List Pat → Nat
  | [] => 0
  | p :: r => p.cnt + Pat.cntL r
end
mutual
def Pat.hgt : Pat → Nat
  | .any => 1
  | .one _ => 1
  | .many p => 1 + p.hgt
  | .row l => 1 + Pat.hgtL l
  | .eit l => 1 + Pat.hgtL l
def Pat.hgtL : List Pat → Nat
  | [] => 0
  | p :: r => max p.hgt (Pat.hgtL r)
end
mutual
/-- as documented: names of a set, two to five members -/
def Pat.Wf (nm : Str → Prop) : Pat → Prop
  | .any => True
  | .one s => nm s
  | .many p => p.Wf nm
  | .row l => 2 ≤ l.length ∧ l.length ≤ 5 ∧ Pat.WfL nm l
  | .eit l => 2 ≤ l.length ∧ l.length ≤ 5 ∧ Pat.WfL nm l
def Pat.WfL (nm : Str → Prop) : List Pat → Prop
  | [] => True
  | p :: r => p.Wf nm ∧ Pat.WfL nm r
end
theorem Pat.wfL_mem {nm : Str → Prop} : ∀ {l : List Pat}, Pat.WfL nm l ↔ ∀ p ∈ l, p.Wf nm
  | [] => by simp [Pat.WfL]
  | p :: r => by rw [Pat.WfL, Pat.wfL_mem (l := r)]; simp
theorem Pat.hgtL_le {n : Nat} : ∀ {l : List Pat}, (∀ p ∈ l, p.hgt ≤ n) → Pat.hgtL l ≤ n
  | [], _ => Nat.zero_le _
  | p :: r, h => by
    rw [Pat.hgtL]
    exact Nat.max_le.mpr ⟨h p (by simp), Pat.hgtL_le fun q hq => h q (by simp [hq])⟩
theorem Pat.hgt_mem : ∀ {l : List Pat} {p : Pat}, p ∈ l → p.hgt ≤ Pat.hgtL l
  | q :: r, p, h => by
    rw [Pat.hgtL]
    rcases List.mem_cons.mp h with rfl | h
    · exact Nat.le_max_left _ _
    · exact Nat.le_trans (Pat.hgt_mem h) (Nat.le_max_right _ _)
theorem Pat.cnt_mem : ∀ {l : List Pat} {p : Pat}, p ∈ l → p.cnt ≤ Pat.cntL l
  | q :: r, p, h => by
    rw [Pat.cntL]
    rcases List.mem_cons.mp h with rfl | h
    · exact Nat.le_add_right _ _
    · exact Nat.le_trans (Pat.cnt_mem h) (Nat.le_add_left _ _)
abbrev namesD (nm : List Str) : D := .lst (nm.map D.str)

theorem pattern_ok (c : Cs) (row : List Int) (hr : row ≠ []) (nm : List Str) (hn : nm ≠ []) : ∀ (n : Nat) (deep : Int) (p : Nat), 0 < n → deep ≤ n →
    ∃ (pt : Pat) (p' : Nat), pt.Wf (· ∈ nm) ∧ pt.hgt ≤ max 1 deep.toNat ∧ phi_law_pattern c n [.fz (ints_ row), spotO p, .fz (.int deep), .fz (namesD nm)] = .ok (.fz (pt.toD false), [spotO p'])
  | 0, _, _, h, _ => absurd h (by omega)
  | n + 1, deep, p, _, hd => by
    obtain ⟨kind, k0, k1, e1⟩ := take_ok c row hr p 9 (by omega)
    rw [go_law_pattern]
    by_cases hs : deep ≤ 1 ∨ kind ≤ 2
    · obtain ⟨r, r0, r1, e2⟩ := take_ok c row hr (p + 1) 4 (by omega)
      by_cases h0 : r = 0
      · subst h0
        refine ⟨.any, p + 1 + 1, trivial, by simp [Pat.hgt]; omega, ?_⟩
        rcases hs with h | h
        · simp [run_law_pattern, e1, e2, h, Pat.toD, sq]
        · by_cases h' : deep ≤ 1 <;> simp [run_law_pattern, e1, e2, h, h', Pat.toD, sq]
      · obtain ⟨x, hx, e3⟩ := pick_ok c row hr (p + 1 + 1) (nm.map D.str) (by simpa using hn)
        obtain ⟨s, hs', rfl⟩ := List.mem_map.mp hx
        refine ⟨.one s, p + 1 + 1 + 1, hs', by simp [Pat.hgt]; omega, ?_⟩
        rcases hs with h | h
        · simp [run_law_pattern, e1, e2, e3, h, h0, Pat.toD, sq]
        · by_cases h' : deep ≤ 1 <;> simp [run_law_pattern, e1, e2, e3, h, h', h0, Pat.toD, sq]
    · have h1 : ¬ deep ≤ 1 := fun z => hs (.inl z)
      have h2 : ¬ kind ≤ 2 := fun z => hs (.inr z)
      by_cases h4 : kind ≤ 4
      · obtain ⟨pt, p', w1, w2, e2⟩ := pattern_ok c row hr nm hn n (deep - 1) (p + 1) (by omega) (by omega)
        refine ⟨.many pt, p', w1, by simp only [Pat.hgt]; omega, ?_⟩
        simp [run_law_pattern, e1, e2, h1, h2, h4, Pat.toD, sq]
      · obtain ⟨r, r0, r1, e2⟩ := take_ok c row hr (p + 1) 2 (by omega)
        have L := lcL_gen (tg := tgN 6) (gt := fun δ => .ok (true, δ)) (ge := elt1_law_pattern c (phi_law_pattern c n)) (vs := [6]) (rangeD 0 (2 + r).toNat)
          (fun i acc δ => ∃ (l : List Pat) (p' : Nat), acc = l.map (fun q => O.fz (q.toD false)) ∧ l.length = i ∧ (∀ q ∈ l, q.Wf (· ∈ nm) ∧ q.hgt ≤ max 1 (deep - 1).toNat) ∧
            δ = [some (.fz (ints_ row)), some (spotO p'), some (.fz (.int deep)), some (.fz (namesD nm)), some (.fz (.int kind)), none, none]) []
          [some (.fz (ints_ row)), some (spotO (p + 1 + 1)), some (.fz (.int deep)), some (.fz (namesD nm)), some (.fz (.int kind)), none, none]
          (fun i d acc δ hd' h => by
            obtain ⟨l, p', rfl, hl, hw, rfl⟩ := h
            obtain ⟨hi, rfl⟩ := rangeD_get hd'
            obtain ⟨pt, p'', w1, w2, e3⟩ := pattern_ok c row hr nm hn n (deep - 1) p' (by omega) (by omega)
            refine ⟨_, true, _, rfl, rfl, nofun, fun _ => ⟨.fz (pt.toD false), [some (.fz (ints_ row)), some (spotO p''), some (.fz (.int deep)), some (.fz (namesD nm)), some (.fz (.int kind)), none, some (.fz (.int (0 + (i : Nat))))], ?_, l ++ [pt], p'', by simp, by simp [hl], ?_, rfl⟩⟩
            · simp [elt1_law_pattern, e3]
            · intro q hq
              rcases List.mem_append.mp hq with h | h
              · exact hw q h
              · rw [List.mem_singleton] at h; subst h; exact ⟨w1, w2⟩) ⟨[], p + 1 + 1, rfl, rfl, by simp, rfl⟩
        obtain ⟨acc, δ', e3, l, p', e4, hl, hw, rfl⟩ := L
        rw [List.nil_append] at e4
        subst e4
        rw [rangeD_len] at hl
        have hl2 : 2 ≤ l.length ∧ l.length ≤ 5 := by omega
        have hwf : Pat.WfL (· ∈ nm) l := Pat.wfL_mem.mpr fun q hq => (hw q hq).1
        have hh : Pat.hgtL l ≤ max 1 (deep - 1).toNat := Pat.hgtL_le fun q hq => (hw q hq).2
        have hb : -4611686018427387904 ≤ 2 + r ∧ 2 + r < 4611686018427387904 := by omega
        have ml : l.map (O.toD ∘ fun q => O.fz (q.toD false)) = Pat.toDL false l := by rw [Pat.toDL_map]; rfl
        have h5 : (2 + r).toNat ≤ 100000 := by omega
        by_cases h6 : kind ≤ 6
        · refine ⟨.row l, p', ⟨hl2.1, hl2.2, hwf⟩, by simp only [Pat.hgt]; omega, ?_⟩
          simp [run_law_pattern, e1, e2, e3, h1, h2, h4, h6, Pat.toD, sq, hb, rangeD_len, toDL_map, ml, h5]
        · refine ⟨.eit l, p', ⟨hl2.1, hl2.2, hwf⟩, by simp only [Pat.hgt]; omega, ?_⟩
          simp [run_law_pattern, e1, e2, e3, h1, h2, h4, h6, Pat.toD, sq, hb, rangeD_len, toDL_map, ml, h5]
end DL

namespace DL
open PySem L2

@[simp] theorem w_any_one : (("any" : Str) = "one") = False := eq_false (by decide +kernel)
@[simp] theorem w_any_many : (("any" : Str) = "many") = False := eq_false (by decide +kernel)
@[simp] theorem w_any_row : (("any" : Str) = "row") = False := eq_false (by decide +kernel)
@[simp] theorem w_any_either : (("any" : Str) = "either") = False := eq_false (by decide +kernel)
@[simp] theorem w_one_any : (("one" : Str) = "any") = False := eq_false (by decide +kernel)
@[simp] theorem w_one_many : (("one" : Str) = "many") = False := eq_false (by decide +kernel)
@[simp] theorem w_one_row : (("one" : Str) = "row") = False := eq_false (by decide +kernel)
@[simp] theorem w_one_either : (("one" : Str) = "either") = False := eq_false (by decide +kernel)
@[simp] theorem w_many_any : (("many" : Str) = "any") = False := eq_false (by decide +kernel)
@[simp] theorem w_many_one : (("many" : Str) = "one") = False := eq_false (by decide +kernel)
@[simp] theorem w_many_row : (("many" : Str) = "row") = False := eq_false (by decide +kernel)
@[simp] theorem w_many_either : (("many" : Str) = "either") = False := eq_false (by decide +kernel)
@[simp] theorem w_row_any : (("row" : Str) = "any") = False := eq_false (by decide +kernel)
@[simp] theorem w_row_one : (("row" : Str) = "one") = False := eq_false (by decide +kernel)
@[simp] theorem w_row_many : (("row" : Str) = "many") = False := eq_false (by decide +kernel)
@[simp] theorem w_row_either : (("row" : Str) = "either") = False := eq_false (by decide +kernel)
@[simp] theorem w_either_any : (("either" : Str) = "any") = False := eq_false (by decide +kernel)
@[simp] theorem w_either_one : (("either" : Str) = "one") = False := eq_false (by decide +kernel)
@[simp] theorem w_either_many : (("either" : Str) = "many") = False := eq_false (by decide +kernel)
@[simp] theorem w_either_row : (("either" : Str) = "row") = False := eq_false (by decide +kernel)
@[simp] theorem e_sqL (l : List D) : sq true l = .lst l := rfl
@[simp] theorem e_sqT (l : List D) : sq false l = .tup l := rfl
@[simp] theorem e_ix0 (b : Bool) (a : D) (l : List D) : fIx (sq b (a :: l)) (.int 0) = some a := by
  cases b <;> simp [sq, atI]
@[simp] theorem e_ix1 (b : Bool) (a d : D) (l : List D) : fIx (sq b (a :: d :: l)) (.int 1) = some d := by
  cases b
  · show atI _ _ = _
    exact atI_nat (j := 1) rfl
  · show atI _ _ = _
    exact atI_nat (j := 1) rfl
@[simp] theorem e_anyD (b : Bool) (l : List D) : anyD (sq b l) = some l := by cases b <;> rfl
@[simp] theorem e_lenS (b : Bool) (l : List D) : fLen [sq b l] = some (.int (l.length : Int)) := by cases b <;> rfl
@[simp] theorem e_isSeqS (b : Bool) (l : List D) : isSeq (sq b l) = some true := by cases b <;> rfl
@[simp] theorem e_isStrS (b : Bool) (l : List D) : isStr (sq b l) = some false := by cases b <;> rfl
@[simp] theorem e_listOfS (b : Bool) (l : List D) : fListOf [sq b l] = some (.new l) := by cases b <;> rfl
def leafD : D := .lst [.str "one", .str "any"]
theorem in_one : fIn false (.str "one") leafD = some (.bl true) := by simp [fIn, leafD, inD, D.eqf, D.flat]
theorem in_any : fIn false (.str "any") leafD = some (.bl true) := by simp [fIn, leafD, inD, D.eqf, D.flat]
theorem in_many : fIn false (.str "many") leafD = some (.bl false) := by simp [fIn, leafD, inD, D.eqf, D.flat]
theorem in_row : fIn false (.str "row") leafD = some (.bl false) := by simp [fIn, leafD, inD, D.eqf, D.flat]
theorem in_eit : fIn false (.str "either") leafD = some (.bl false) := by simp [fIn, leafD, inD, D.eqf, D.flat]
theorem intsD_map (l : List Int) : intsD (l.map D.int) = some l := by
  induction l with
  | nil => rfl
  | cons a r ih => rw [List.map_cons, e_intsD_2, ih]; rfl
theorem count_ok (c : Cs) (b : Bool) (nm : Str → Prop) : ∀ (n : Nat) (pt : Pat), pt.hgt ≤ n → pt.Wf nm → phi_law_p_count c n [.fz (pt.toD b)] = .ok (.fz (.int (pt.cnt : Int)), [])
  | 0, pt, h, _ => by cases pt <;> simp [Pat.hgt] at h
  | n + 1, .any, _, _ => by
    rw [go_law_p_count]
    have := in_any
    unfold leafD at this
    simp [run_law_p_count, Pat.toD, this, Pat.cnt]
  | n + 1, .one s, _, _ => by
    rw [go_law_p_count]
    have := in_one
    unfold leafD at this
    simp [run_law_p_count, Pat.toD, this, Pat.cnt]
  | n + 1, .many p, h, w => by
    rw [go_law_p_count]
    have := in_many
    unfold leafD at this
    have ih := count_ok c b nm n p (by simp [Pat.hgt] at h; omega) w
    simp [run_law_p_count, Pat.toD, this, Pat.cnt, ih]
  | n + 1, .row l, h, w => by
    rw [go_law_p_count]
    have := in_row
    unfold leafD at this
    have hl : l.length ≤ 5 := w.2.1
    have L := lcL_gen (tg := tgN 1) (gt := fun δ => .ok (true, δ)) (ge := elt1_law_p_count c (phi_law_p_count c n)) (vs := [1]) (Pat.toDL b l)
      (fun i acc δ => acc = (l.take i).map (fun q => O.fz (.int (q.cnt : Int))) ∧ δ = [some (.fz ((Pat.row l).toD b)), none]) [] [some (.fz ((Pat.row l).toD b)), none]
      (fun i d acc δ hd h' => by
        obtain ⟨rfl, rfl⟩ := h'
        rw [Pat.toDL_map, List.getElem?_map] at hd
        cases q : l[i]? with
        | none => rw [q] at hd; cases hd
        | some p =>
          rw [q] at hd; cases hd
          obtain ⟨hi, e⟩ := List.getElem?_eq_some_iff.mp q
          have hp : p ∈ l := List.mem_of_getElem? q
          have ih := count_ok c b nm n p (by have := Pat.hgt_mem hp; simp [Pat.hgt] at h; omega) (Pat.wfL_mem.mp w.2.2 p hp)
          refine ⟨_, true, _, rfl, rfl, nofun, fun _ => ⟨.fz (.int (p.cnt : Int)), [some (.fz ((Pat.row l).toD b)), some (.fz (p.toD b))], by simp [elt1_law_p_count, ih], ?_, rfl⟩⟩
          rw [List.take_succ, q]; simp) ⟨rfl, rfl⟩
    obtain ⟨acc, δ', e1, e2, rfl⟩ := L
    rw [List.nil_append] at e2
    have hm : l.take (Pat.toDL b l).length = l := by rw [Pat.toDL_map, List.length_map, List.take_length]
    rw [hm] at e2
    subst e2
    have hs : ∀ l : List Pat, (l.map fun q => (q.cnt : Int)).sum = (Pat.cntL l : Int) := by
      intro l
      induction l with
      | nil => rfl
      | cons p r ih => rw [List.map_cons, List.sum_cons, ih, Pat.cntL]; omega
    have hi : intsD (l.map (O.toD ∘ fun q => O.fz (.int (q.cnt : Int)))) = some (l.map fun q => (q.cnt : Int)) := by
      rw [← intsD_map, List.map_map]; rfl
    have hl' : (Pat.toDL b l).length ≤ 100000 := by rw [Pat.toDL_map, List.length_map]; omega
    simp only [Pat.toD] at e1
    simp [run_law_p_count, Pat.toD, this, Pat.cnt, e1, hl', toDL_map, hi, hs]
  | n + 1, .eit l, h, w => by
    rw [go_law_p_count]
    have := in_eit
    unfold leafD at this
    have hl : l.length ≤ 5 := w.2.1
    have L := lcL_gen (tg := tgN 1) (gt := fun δ => .ok (true, δ)) (ge := elt1_law_p_count c (phi_law_p_count c n)) (vs := [1]) (Pat.toDL b l)
      (fun i acc δ => acc = (l.take i).map (fun q => O.fz (.int (q.cnt : Int))) ∧ δ = [some (.fz ((Pat.eit l).toD b)), none]) [] [some (.fz ((Pat.eit l).toD b)), none]
      (fun i d acc δ hd h' => by
        obtain ⟨rfl, rfl⟩ := h'
        rw [Pat.toDL_map, List.getElem?_map] at hd
        cases q : l[i]? with
        | none => rw [q] at hd; cases hd
        | some p =>
          rw [q] at hd; cases hd
          obtain ⟨hi, e⟩ := List.getElem?_eq_some_iff.mp q
          have hp : p ∈ l := List.mem_of_getElem? q
          have ih := count_ok c b nm n p (by have := Pat.hgt_mem hp; simp [Pat.hgt] at h; omega) (Pat.wfL_mem.mp w.2.2 p hp)
          refine ⟨_, true, _, rfl, rfl, nofun, fun _ => ⟨.fz (.int (p.cnt : Int)), [some (.fz ((Pat.eit l).toD b)), some (.fz (p.toD b))], by simp [elt1_law_p_count, ih], ?_, rfl⟩⟩
          rw [List.take_succ, q]; simp) ⟨rfl, rfl⟩
    obtain ⟨acc, δ', e1, e2, rfl⟩ := L
    rw [List.nil_append] at e2
    have hm : l.take (Pat.toDL b l).length = l := by rw [Pat.toDL_map, List.length_map, List.take_length]
    rw [hm] at e2
    subst e2
    have hs : ∀ l : List Pat, (l.map fun q => (q.cnt : Int)).sum = (Pat.cntL l : Int) := by
      intro l
      induction l with
      | nil => rfl
      | cons p r ih => rw [List.map_cons, List.sum_cons, ih, Pat.cntL]; omega
    have hi : intsD (l.map (O.toD ∘ fun q => O.fz (.int (q.cnt : Int)))) = some (l.map fun q => (q.cnt : Int)) := by
      rw [← intsD_map, List.map_map]; rfl
    have hl' : (Pat.toDL b l).length ≤ 100000 := by rw [Pat.toDL_map, List.length_map]; omega
    simp only [Pat.toD] at e1
    simp [run_law_p_count, Pat.toD, this, Pat.cnt, e1, hl', toDL_map, hi, hs]
theorem small_ok (c : Cs) (row : List Int) (hr : row ≠ []) (nm : List Str) (hn : nm ≠ []) (p : Nat) :
    ∃ (pt : Pat) (p' : Nat), pt.Wf (· ∈ nm) ∧ pt.hgt ≤ 4 ∧ pt.cnt ≤ 12 ∧ phi_law_small_pattern c [.fz (ints_ row), spotO p, .fz (namesD nm)] = .ok (.fz (pt.toD false), [spotO p']) := by
  have L := forR_gen (t := tgN 3) (f := body1_law_small_pattern c) (P := fun o => (∃ (pt : Pat) (p' : Nat) (x y : Option O), pt.Wf (· ∈ nm) ∧ pt.hgt ≤ 4 ∧ pt.cnt ≤ 12 ∧ o = .rt (.fz (pt.toD false)) [some (.fz (ints_ row)), some (spotO p'), some (.fz (namesD nm)), x, y]) ∨
      ∃ (p' : Nat) (x y : Option O), o = .nx [some (.fz (ints_ row)), some (spotO p'), some (.fz (namesD nm)), x, y]) (rangeD 0 8)
    (fun i δ => ∃ (p' : Nat) (x y : Option O), δ = [some (.fz (ints_ row)), some (spotO p'), some (.fz (namesD nm)), x, y]) [some (.fz (ints_ row)), some (spotO p), some (.fz (namesD nm)), none, none]
    (fun δ h => by obtain ⟨p', x, y, rfl⟩ := h; exact .inr ⟨p', x, y, rfl⟩)
    (fun i d δ hd h => by
      obtain ⟨p', x, y, rfl⟩ := h
      obtain ⟨r, r0, r1, e1⟩ := take_ok c row hr p' 4 (by omega)
      obtain ⟨pt, p'', w1, w2, e2⟩ := pattern_ok c row hr nm hn 6 (1 + r) (p' + 1) (by omega) (by omega)
      have w3 : pt.hgt ≤ 4 := by omega
      have e3 := count_ok c false (· ∈ nm) 6 pt (by omega) w1
      refine ⟨_, rfl, ?_⟩
      by_cases h12 : pt.cnt ≤ 12
      · exact ⟨.rt (.fz (pt.toD false)) [some (.fz (ints_ row)), some (spotO p''), some (.fz (namesD nm)), some (.fz d), some (.fz (pt.toD false))], by simp [body1_law_small_pattern, e1, e2, e3]; omega, .inl ⟨pt, p'', _, _, w1, w3, h12, rfl⟩⟩
      · exact ⟨.nx [some (.fz (ints_ row)), some (spotO p''), some (.fz (namesD nm)), some (.fz d), some (.fz (pt.toD false))], by simp [body1_law_small_pattern, e1, e2, e3]; omega, p'', _, _, rfl⟩) ⟨p, none, none, rfl⟩
  obtain ⟨o, e, ⟨pt, p', x, y, w1, w2, w3, rfl⟩ | ⟨p', x, y, rfl⟩⟩ := L
  · refine ⟨pt, p', w1, w2, w3, ?_⟩
    rw [go_law_small_pattern]
    simp [run_law_small_pattern, e]
  · obtain ⟨s, r, rfl⟩ := List.exists_cons_of_ne_nil hn
    refine ⟨.one s, p', by simp [Pat.Wf], by simp [Pat.hgt], by simp [Pat.cnt], ?_⟩
    rw [go_law_small_pattern]
    simp [run_law_small_pattern, e, Pat.toD, atI]
end DL

namespace DL
open PySem L2

/-! ### tuples as lists -/
mutual
def D.tl : D → D
  | .tup l => .lst (D.tlL l)
  | .non => .non
  | .bl b => .bl b
  | .int i => .int i
  | .str s => .str s
  | .ty n => .ty n
  | .lst l => .lst l
  | .dk k => .dk k
  | .dt k => .dt k
  | .obj C f => .obj C f
  | .scr l => .scr l
def D.tlL : List D → List D
  | [] => []
  | d :: r => d.tl :: D.tlL r
end
mutual
/-- plain: tuples of plain things, texts, whole numbers, None -/
def D.pl : D → Nat → Prop
  | .tup l, n => 0 < n ∧ l.length ≤ 100000 ∧ D.plL l (n - 1)
  | .non, n => 0 < n
  | .bl _, n => 0 < n
  | .int _, n => 0 < n
  | .str _, n => 0 < n
  | _, _ => False
def D.plL : List D → Nat → Prop
  | [], _ => True
  | d :: r, n => d.pl n ∧ D.plL r n
end
theorem D.plL_mem {n : Nat} : ∀ {l : List D}, D.plL l n ↔ ∀ d ∈ l, d.pl n
  | [] => by simp [D.plL]
  | d :: r => by rw [D.plL, D.plL_mem (l := r)]; simp
theorem D.tlL_map : ∀ l : List D, D.tlL l = l.map D.tl
  | [] => rfl
  | d :: r => by rw [D.tlL, D.tlL_map r, List.map_cons]
theorem listed_ok (c : Cs) : ∀ (n : Nat) (d : D), d.pl n → ∃ o, phi_law_listed c n [.fz d] = .ok (o, []) ∧ o.toD = d.tl
  | 0, d, h => by cases d <;> simp [D.pl] at h
  | n + 1, .non, _ => ⟨.fz .non, by rw [go_law_listed]; simp [run_law_listed], rfl⟩
  | n + 1, .bl b, _ => ⟨.fz (.bl b), by rw [go_law_listed]; simp [run_law_listed], rfl⟩
  | n + 1, .int i, _ => ⟨.fz (.int i), by rw [go_law_listed]; simp [run_law_listed], rfl⟩
  | n + 1, .str s, _ => ⟨.fz (.str s), by rw [go_law_listed]; simp [run_law_listed], rfl⟩
  | n + 1, .tup l, h => by
    obtain ⟨_, hl, hp⟩ := h
    have L := lcL_gen (tg := tgN 1) (gt := fun δ => .ok (true, δ)) (ge := elt1_law_listed c (phi_law_listed c n)) (vs := [1]) l
      (fun i acc δ => acc.map O.toD = (l.take i).map D.tl ∧ δ = [some (.fz (.tup l)), none]) [] [some (.fz (.tup l)), none]
      (fun i d acc δ hd h' => by
        obtain ⟨h', rfl⟩ := h'
        obtain ⟨o, e1, e2⟩ := listed_ok c n d (D.plL_mem.mp hp d (List.mem_of_getElem? hd))
        refine ⟨_, true, _, rfl, rfl, nofun, fun _ => ⟨o, [some (.fz (.tup l)), some (.fz d)], by simp [elt1_law_listed, e1], ?_, rfl⟩⟩
        rw [List.take_succ, hd, List.map_append, h', List.map_append]
        simp [e2]) ⟨rfl, rfl⟩
    obtain ⟨acc, δ', e1, e2, rfl⟩ := L
    rw [List.nil_append, List.take_length] at e2
    refine ⟨.lst acc, ?_, by rw [O.toD, toDL_map, e2, D.tl, D.tlL_map]⟩
    rw [go_law_listed]
    simp [run_law_listed, e1, hl]
  | n + 1, .ty _, h => by simp [D.pl] at h
  | n + 1, .lst _, h => by simp [D.pl] at h
  | n + 1, .dk _, h => by simp [D.pl] at h
  | n + 1, .dt _, h => by simp [D.pl] at h
  | n + 1, .obj _ _, h => by simp [D.pl] at h
  | n + 1, .scr _, h => by simp [D.pl] at h
mutual
theorem Pat.tl (p : Pat) : (p.toD false).tl = p.toD true := by
  cases p with
  | any => rfl
  | one s => rfl
  | many p => simp [Pat.toD, D.tl, D.tlL, Pat.tl p]
  | row l => simp [Pat.toD, D.tl, D.tlL, Pat.tlL l]
  | eit l => simp [Pat.toD, D.tl, D.tlL, Pat.tlL l]
theorem Pat.tlL (l : List Pat) : D.tlL (Pat.toDL false l) = Pat.toDL true l := by
  cases l with
  | nil => rfl
  | cons p r => simp [Pat.toDL, D.tlL, Pat.tl p, Pat.tlL r]
end
mutual
theorem Pat.pl {nm : Str → Prop} (p : Pat) (n : Nat) (w : p.Wf nm) (h : 2 * p.hgt ≤ n) : (p.toD false).pl n := by
  cases p with
  | any => simp [Pat.toD, D.pl, D.plL, Pat.hgt] at h ⊢; omega
  | one s => simp [Pat.toD, D.pl, D.plL, Pat.hgt] at h ⊢; omega
  | many p =>
    have := Pat.pl p (n - 1) w (by simp [Pat.hgt] at h; omega)
    simp [Pat.toD, D.pl, D.plL, Pat.hgt] at h ⊢
    exact ⟨by omega, by omega, this⟩
  | row l =>
    have := Pat.plL l (n - 1 - 1) w.2.2 (by simp [Pat.hgt] at h; omega)
    have hl : l.length ≤ 5 := w.2.1
    simp [Pat.hgt] at h
    exact ⟨by omega, by simp, show 0 < n - 1 by omega, ⟨by omega, by rw [Pat.toDL_map, List.length_map]; omega, this⟩, trivial⟩
  | eit l =>
    have := Pat.plL l (n - 1 - 1) w.2.2 (by simp [Pat.hgt] at h; omega)
    have hl : l.length ≤ 5 := w.2.1
    simp [Pat.hgt] at h
    exact ⟨by omega, by simp, show 0 < n - 1 by omega, ⟨by omega, by rw [Pat.toDL_map, List.length_map]; omega, this⟩, trivial⟩
theorem Pat.plL {nm : Str → Prop} (l : List Pat) (n : Nat) (w : Pat.WfL nm l) (h : 2 * Pat.hgtL l ≤ n) : D.plL (Pat.toDL false l) n := by
  cases l with
  | nil => trivial
  | cons p r =>
    have h1 : p.hgt ≤ Pat.hgtL (p :: r) := Pat.hgt_mem (by simp)
    have h2 : Pat.hgtL r ≤ Pat.hgtL (p :: r) := by rw [Pat.hgtL]; exact Nat.le_max_right _ _
    exact ⟨Pat.pl p n w.1 (by omega), Pat.plL r n w.2 (by omega)⟩
end
/-- handed as it is, or as lists -/
theorem handed_ok (c : Cs) (row : List Int) (hr : row ≠ []) (p : Nat) (d : D) (h : d.pl 14) :
    ∃ d', (d' = d ∨ d' = d.tl) ∧ phi_law_handed c [.fz (ints_ row), spotO p, .fz d] = .ok (.fz d', [spotO (p + 1)]) := by
  obtain ⟨r, r0, r1, e1⟩ := take_ok c row hr p 2 (by omega)
  rw [go_law_handed]
  by_cases h0 : r = 0
  · subst h0
    obtain ⟨o, e2, e3⟩ := listed_ok c 14 d h
    exact ⟨d.tl, .inr rfl, by simp [run_law_handed, e1, e2, e3]⟩
  · exact ⟨d, .inl rfl, by simp [run_law_handed, e1, h0]⟩
theorem handed_pat (c : Cs) (row : List Int) (hr : row ≠ []) {nm : Str → Prop} (p : Nat) (pt : Pat) (w : pt.Wf nm) (h : pt.hgt ≤ 7) :
    ∃ b, phi_law_handed c [.fz (ints_ row), spotO p, .fz (pt.toD false)] = .ok (.fz (pt.toD b), [spotO (p + 1)]) := by
  obtain ⟨d', h1, h2⟩ := handed_ok c row hr p (pt.toD false) (Pat.pl pt 14 w (by omega))
  rcases h1 with rfl | rfl
  · exact ⟨false, h2⟩
  · rw [Pat.tl] at h2; exact ⟨true, h2⟩
/-- a diary -/
def diD (b : Bool) (l : List Str) : D := sq b (l.map D.str)
theorem handed_dia (c : Cs) (row : List Int) (hr : row ≠ []) (p : Nat) (l : List Str) (h : l.length ≤ 100000) :
    ∃ b, phi_law_handed c [.fz (ints_ row), spotO p, .fz (diD false l)] = .ok (.fz (diD b l), [spotO (p + 1)]) := by
  have hp : (diD false l).pl 14 := ⟨by omega, by simpa using h, D.plL_mem.mpr fun d hd => by
    obtain ⟨s, _, rfl⟩ := List.mem_map.mp hd
    show 0 < 13
    omega⟩
  obtain ⟨d', h1, h2⟩ := handed_ok c row hr p _ hp
  rcases h1 with rfl | rfl
  · exact ⟨false, h2⟩
  · refine ⟨true, ?_⟩
    have : (diD false l).tl = diD true l := by
      show D.lst (D.tlL _) = D.lst _
      rw [D.tlL_map, List.map_map]; rfl
    rw [this] at h2; exact h2
end DL

namespace DL
open PySem L2

theorem rWhile_meas {g : DEnv → Rz (Bool × DEnv)} {f : Run} {P : Out → Prop} (I : Nat → DEnv → Prop)
    (hs : ∀ n δ, I n δ → ∃ b δ1, g δ = .ok (b, δ1) ∧ (b = false → P (.nx δ1)) ∧ (b = true → ∃ o, f δ1 = .ok o ∧ stepOk (fun δ2 => ∃ m, m < n ∧ I m δ2) P o)) (n : Nat) (δ : DEnv) (h : I n δ) : ∃ o, rWhile g f δ = .ok o ∧ P o := by
  induction n using Nat.strongRecOn generalizing δ with
  | _ n ih =>
    obtain ⟨b, δ1, e1, k1, k2⟩ := hs n δ h
    rw [rWhile_eq, e1, Rz.bind_ok]
    cases b with
    | false => exact ⟨_, rfl, k1 rfl⟩
    | true =>
      obtain ⟨o, e2, k⟩ := k2 rfl
      rw [if_pos rfl, e2, Rz.bind_ok]
      cases o with
      | nx δ2 => obtain ⟨m, h1, h2⟩ := k; exact ih m h1 δ2 h2
      | ct δ2 => obtain ⟨m, h1, h2⟩ := k; exact ih m h1 δ2 h2
      | bk δ2 => exact ⟨_, rfl, k⟩
      | rt u δ2 => exact ⟨_, rfl, k⟩
/-! ### what is a name -/
abbrev wordsD : D := .tup [.str "and", .str "or", .str "of", .str "always", .str "never"]
abbrev lettersS : Str := "abcdefghijklmnopqrstuvwxyz"
structure NameOk (s : Str) : Prop where
  lo : 0 < s.length
  hi : s.length ≤ 8
  nw : inD (.str s) [.str "and", .str "or", .str "of", .str "always", .str "never"] = false
  az : ∀ ch ∈ s.cps.toList, ch ∈ lettersS.cps.toList
theorem row_is (c : Cs) (b : Bool) (l : List D) (lo hi : Int) : phi_is_row c [.fz (sq b l), .fz (.int lo), .fz (.int hi)] = .ok (.fz (.bl (decide (lo ≤ (l.length : Int)) && decide ((l.length : Int) ≤ hi))), []) := by
  have h : phi_is_sequence c [.fz (sq b l)] = .ok (.fz (.bl true), []) := by
    rw [go_is_sequence]
    simp [run_is_sequence]
  rw [go_is_row]
  by_cases h1 : lo ≤ (l.length : Int) <;> simp [run_is_row, h, h1]
theorem str_len (s : Str) : s.length = s.cps.toList.length := by simp [Str.length]
theorem name_is (c : Cs) (s : Str) (h : NameOk s) : phi_is_name c [.fz (.str s)] = .ok (.fz (.bl true), []) := by
  have h1 := h.lo
  have h2 := h.hi
  have L := lcL_map (tg := tgN 1) (gt := fun δ => .ok (true, δ)) (ge := elt1_is_name c) (vs := [1]) (fun _ => true) (fun _ => .fz (.bl true)) [some (.fz (.str s)), none] (signsD s) (fun d hd => by
    unfold signsD at hd
    obtain ⟨ch, hc, rfl⟩ := List.mem_map.mp hd
    have hz := h.az ch hc
    refine ⟨[some (.fz (.str s)), some (.fz (.str ⟨#[ch]⟩))], _, rfl, rfl, nofun, fun _ => ⟨[some (.fz (.str s)), some (.fz (.str ⟨#[ch]⟩))], ?_, rfl⟩⟩
    simp [elt1_is_name, fInSign]
    simpa using hz)
  have hl : (signsD s).length = s.length := by simp [signsD, Str.length]
  have hb : ∀ n : Nat, boolsD (List.replicate n (D.bl true)) = some (List.replicate n true) := by
    intro n
    induction n with
    | zero => rfl
    | succ n ih => rw [List.replicate_succ, e_boolsD_2, ih]; rfl
  have hm : (signsD s).map (O.toD ∘ fun _ => O.fz (.bl true)) = List.replicate (signsD s).length (D.bl true) := by
    rw [← List.map_const']; rfl
  have hin : fIn false (.str s) (.tup [.str "and", .str "or", .str "of", .str "always", .str "never"]) = some (.bl false) := by
    simp [fIn, D.flat, h.nw]
  rw [go_is_name]
  have e0 : s.length ≤ 100000 := by omega
  have e1 : ¬ s.length = 0 := by omega
  have e2 : ¬ (8 : Int) < (s.length : Int) := by omega
  have e3 : (signsD s).length ≤ 100000 := by omega
  simp [List.filter_eq_self.mpr] at L
  simp [run_is_name, e0, e1, e2, hin, L, e3, toDL_map, hm, hb]
theorem outline_is (c : Cs) (b : Bool) (nm : Str → Prop) (hn : ∀ s, nm s → NameOk s) (pt : Pat) (w : pt.Wf nm) : phi_is_outline c [.fz (pt.toD b)] = .ok (.fz (.bl true), []) := by
  rw [go_is_outline]
  cases pt with
  | any => simp [run_is_outline, Pat.toD, row_is]
  | one s => simp [run_is_outline, Pat.toD, row_is, name_is c s (hn s w)]
  | many p => simp [run_is_outline, Pat.toD, row_is]
  | row l =>
    have h1 : (2 : Int) ≤ (l.length : Int) := by have := w.1; omega
    have h2 : (l.length : Int) ≤ 5 := by have := w.2.1; omega
    simp [run_is_outline, Pat.toD, row_is, Pat.toDL_map, h1, h2]
  | eit l =>
    have h1 : (2 : Int) ≤ (l.length : Int) := by have := w.1; omega
    have h2 : (l.length : Int) ≤ 5 := by have := w.2.1; omega
    simp [run_is_outline, Pat.toD, row_is, Pat.toDL_map, h1, h2]
def Pat.inner : Pat → List Pat
  | .any => []
  | .one _ => []
  | .many p => [p]
  | .row l => l
  | .eit l => l
theorem Pat.cnt_inner (p : Pat) : p.cnt = 1 + Pat.cntL p.inner := by cases p <;> simp [Pat.cnt, Pat.inner, Pat.cntL]
theorem Pat.hgt_inner {p q : Pat} (h : q ∈ p.inner) : q.hgt + 1 ≤ p.hgt := by
  cases p with
  | any => simp [Pat.inner] at h
  | one s => simp [Pat.inner] at h
  | many p => simp [Pat.inner] at h; subst h; simp [Pat.hgt]; omega
  | row l => have := Pat.hgt_mem (l := l) h; simp [Pat.hgt]; omega
  | eit l => have := Pat.hgt_mem (l := l) h; simp [Pat.hgt]; omega
theorem Pat.wf_inner {nm : Str → Prop} {p q : Pat} (w : p.Wf nm) (h : q ∈ p.inner) : q.Wf nm := by
  cases p with
  | any => simp [Pat.inner] at h
  | one s => simp [Pat.inner] at h
  | many p => simp [Pat.inner] at h; subst h; exact w
  | row l => exact Pat.wfL_mem.mp w.2.2 q h
  | eit l => exact Pat.wfL_mem.mp w.2.2 q h
theorem Pat.len_inner {nm : Str → Prop} {p : Pat} (w : p.Wf nm) : p.inner.length ≤ 5 := by
  cases p with
  | any => simp [Pat.inner]
  | one s => simp [Pat.inner]
  | many p => simp [Pat.inner]
  | row l => exact w.2.1
  | eit l => exact w.2.1
theorem inner_is (c : Cs) (b : Bool) (nm : Str → Prop) (pt : Pat) (w : pt.Wf nm) : phi_inner_patterns c [.fz (pt.toD b)] = .ok (.lst (pt.inner.map fun q => .fz (q.toD b)), []) := by
  rw [go_inner_patterns]
  cases pt with
  | any => simp [run_inner_patterns, Pat.toD, Pat.inner]
  | one s => simp [run_inner_patterns, Pat.toD, Pat.inner]
  | many p => simp [run_inner_patterns, Pat.toD, Pat.inner]
  | row l => simp [run_inner_patterns, Pat.toD, Pat.inner, Pat.toDL_map, Function.comp_def]
  | eit l => simp [run_inner_patterns, Pat.toD, Pat.inner, Pat.toDL_map, Function.comp_def]
/-! ### what is a pattern -/
def waitO (b : Bool) (W : List (Pat × Nat)) : O := .lst (W.map fun p => .fz (.tup [p.1.toD b, .int (p.2 : Int)]))
def waitC (W : List (Pat × Nat)) : Nat := (W.map fun p => p.1.cnt).sum
theorem pattern_is (c : Cs) (b : Bool) (nm : Str → Prop) (hn : ∀ s, nm s → NameOk s) (pt : Pat) (w : pt.Wf nm) (hh : pt.hgt ≤ 5) (hc : pt.cnt ≤ 12) : phi_is_pattern c [.fz (pt.toD b)] = .ok (.fz (.bl true), []) := by
  have L := rWhile_meas (g := fTruP (pV 2)) (f := body2_is_pattern c) (P := fun o => ∃ (x1 x2 x3 x4 x5 : Option O), o = .nx [some (.fz (pt.toD b)), x1, x2, x3, x4, x5])
    (fun n δ => ∃ (W : List (Pat × Nat)) (k : Nat) (x3 x4 x5 : Option O), δ = [some (.fz (pt.toD b)), some (.fz (.int (k : Int))), some (waitO b W), x3, x4, x5] ∧ n = waitC W ∧ k + n ≤ 12 ∧ ∀ p ∈ W, p.1.Wf nm ∧ p.1.hgt + p.2 ≤ 6)
    (fun n δ h => by
      obtain ⟨W, k, x3, x4, x5, rfl, rfl, hk, hW⟩ := h
      rcases List.eq_nil_or_concat W with rfl | ⟨V, ⟨q, lv⟩, rfl⟩
      · exact ⟨false, _, rfl, fun _ => ⟨_, _, _, _, _, rfl⟩, nofun⟩
      · rw [List.concat_eq_append] at hk hW ⊢
        obtain ⟨wq, hq⟩ := hW (q, lv) (by simp)
        replace wq : q.Wf nm := wq
        replace hq : q.hgt + lv ≤ 6 := hq
        have cq := q.cnt_inner
        have hc' : waitC (V ++ [(q, lv)]) = waitC V + q.cnt := by simp [waitC]
        have hlv : 1 ≤ q.hgt := by cases q <;> simp [Pat.hgt]
        refine ⟨true, [some (.fz (pt.toD b)), some (.fz (.int (k : Int))), some (waitO b (V ++ [(q, lv)])), x3, x4, x5], by simp [waitO], nofun, fun _ => ?_⟩
        have hV : V.length ≤ 12 := by
          have : V.length ≤ waitC V := by
            clear hk hW hc'
            induction V with
            | nil => exact Nat.zero_le _
            | cons p r ih =>
              have : 1 ≤ p.1.cnt := by cases p.1 <;> simp [Pat.cnt]
              simp [waitC] at ih ⊢
              omega
          omega
        have L := forR_inv (t := tgN 5) (f := body1_is_pattern c) (q.inner.map (Pat.toD b))
          (fun i δ => ∃ x5 : Option O, δ = [some (.fz (pt.toD b)), some (.fz (.int (k + 1 : Int))), some (waitO b (V ++ (q.inner.take i).map fun r => (r, lv + 1))), some (.fz (q.toD b)), some (.fz (.int (lv : Int))), x5])
          [some (.fz (pt.toD b)), some (.fz (.int (k + 1 : Int))), some (waitO b V), some (.fz (q.toD b)), some (.fz (.int (lv : Int))), x5]
          (fun i d δ hd h => by
            obtain ⟨x5, rfl⟩ := h
            rw [List.getElem?_map] at hd
            cases e : q.inner[i]? with
            | none => rw [e] at hd; cases hd
            | some r =>
              rw [e] at hd; cases hd
              refine ⟨_, rfl, [some (.fz (pt.toD b)), some (.fz (.int (k + 1 : Int))), some (waitO b (V ++ (q.inner.take (i + 1)).map fun r => (r, lv + 1))), some (.fz (q.toD b)), some (.fz (.int (lv : Int))), some (.fz (r.toD b))], ?_, _, rfl⟩
              have hl := Pat.len_inner wq
              have h5 : V.length + min i q.inner.length < 100000 := by omega
              simp [body1_is_pattern, waitO, h5]
              simp [List.take_succ, e]) ⟨x5, by simp⟩
        obtain ⟨δ', e1, x5', rfl⟩ := L
        rw [List.length_map, List.take_length] at e1
        refine ⟨.nx [some (.fz (pt.toD b)), some (.fz (.int (k + 1 : Int))), some (waitO b (V ++ q.inner.map fun r => (r, lv + 1))), some (.fz (q.toD b)), some (.fz (.int (lv : Int))), x5'], ?_, waitC (V ++ q.inner.map fun r => (r, lv + 1)), ?_, _, k + 1, _, _, _, rfl, rfl, ?_, ?_⟩
        · have h12 : ¬ (12 : Int) < (k : Int) + 1 := by omega
          have h5 : ¬ (5 : Int) < (lv : Int) := by omega
          simp [body2_is_pattern, waitO, h12, h5, outline_is c b nm hn q wq, inner_is c b nm q wq, toDL_map, Function.comp_def] at e1 ⊢
          exact e1
        · have : waitC (V ++ q.inner.map fun r => (r, lv + 1)) = waitC V + Pat.cntL q.inner := by
            have : ∀ l : List Pat, ((l.map fun r => (r, lv + 1)).map fun p => p.1.cnt).sum = Pat.cntL l := by
              intro l
              induction l with
              | nil => rfl
              | cons p r ih => simp only [List.map_cons, List.sum_cons, Pat.cntL]; rw [← ih]
            simp only [waitC, List.map_append, List.sum_append, this]
          omega
        · have : waitC (V ++ q.inner.map fun r => (r, lv + 1)) = waitC V + Pat.cntL q.inner := by
            have : ∀ l : List Pat, ((l.map fun r => (r, lv + 1)).map fun p => p.1.cnt).sum = Pat.cntL l := by
              intro l
              induction l with
              | nil => rfl
              | cons p r ih => simp only [List.map_cons, List.sum_cons, Pat.cntL]; rw [← ih]
            simp only [waitC, List.map_append, List.sum_append, this]
          omega
        · intro p hp
          rcases List.mem_append.mp hp with h | h
          · exact hW p (by simp [h])
          · obtain ⟨r, hr, rfl⟩ := List.mem_map.mp h
            have := Pat.hgt_inner hr
            exact ⟨Pat.wf_inner wq hr, by show r.hgt + (lv + 1) ≤ 6; omega⟩)
    pt.cnt [some (.fz (pt.toD b)), some (.fz (.int 0)), some (waitO b [(pt, 1)]), none, none, none] ⟨[(pt, 1)], 0, _, _, _, rfl, by simp [waitC], by omega, by simp; exact ⟨w, by omega⟩⟩
  obtain ⟨o, e, x1, x2, x3, x4, x5, rfl⟩ := L
  rw [go_is_pattern]
  simp [run_is_pattern, waitO] at e ⊢
  simp [e]
/-- a diary of at most 30 names -/
theorem check_is (c : Cs) (b b' : Bool) (nm : Str → Prop) (hn : ∀ s, nm s → NameOk s) (pt : Pat) (w : pt.Wf nm) (hh : pt.hgt ≤ 5) (hc : pt.cnt ≤ 12) (l : List Str) (hl : l.length ≤ 30) (hd : ∀ s ∈ l, NameOk s) :
    phi_check_diary c [.fz (pt.toD b), .fz (diD b' l)] = .ok (.fz .non, []) := by
  have L := lcL_map (tg := tgN 2) (gt := fun δ => .ok (true, δ)) (ge := elt1_check_diary c) (vs := [2]) (fun _ => true) (fun _ => .fz (.bl true)) [some (.fz (pt.toD b)), some (.fz (diD b' l)), none] (l.map D.str) (fun d hd' => by
    obtain ⟨s, hs, rfl⟩ := List.mem_map.mp hd'
    refine ⟨[some (.fz (pt.toD b)), some (.fz (diD b' l)), some (.fz (.str s))], _, rfl, rfl, nofun, fun _ => ⟨[some (.fz (pt.toD b)), some (.fz (diD b' l)), some (.fz (.str s))], ?_, rfl⟩⟩
    simp [elt1_check_diary, name_is c s (hd s hs)])
  have hb : ∀ n : Nat, boolsD (List.replicate n (D.bl true)) = some (List.replicate n true) := by
    intro n
    induction n with
    | zero => rfl
    | succ n ih => rw [List.replicate_succ, e_boolsD_2, ih]; rfl
  have hm : l.map (O.toD ∘ (fun _ => O.fz (.bl true)) ∘ D.str) = List.replicate l.length (D.bl true) := by
    rw [← List.map_const']; rfl
  have h1 : (l.length : Int) ≤ 30 := by omega
  have h2 : l.length ≤ 100000 := by omega
  rw [go_check_diary]
  simp [List.filter_eq_self.mpr, diD] at L
  simp [run_check_diary, pattern_is c b nm hn pt w hh hc, diD, row_is, h1, h2, L, toDL_map, hm, hb]
end DL

/-! N1: nets of places, what they read. -/
namespace DL
inductive Star (R : Nat → Nat → Prop) : Nat → Nat → Prop
  | refl (s : Nat) : Star R s s
  | tail {s m e : Nat} (h : Star R s m) (r : R m e) : Star R s e
theorem Star.one {R : Nat → Nat → Prop} {s e : Nat} (h : R s e) : Star R s e := .tail (.refl s) h
theorem Star.mono {R R' : Nat → Nat → Prop} (h : ∀ s e, R s e → R' s e) {s e : Nat} (q : Star R s e) : Star R' s e := by
  induction q with
  | refl => exact .refl _
  | tail _ r ih => exact .tail ih (h _ _ r)
/-- from a at i to b behind j -/
inductive Pth (E lab : Nat → Nat → Prop) : Nat → Nat → Nat → Nat → Prop
  | one {a i : Nat} (h : lab a i) : Pth E lab a i a (i + 1)
  | snoc {a i b j b' : Nat} (p : Pth E lab a i b j) (e : E b b') (h : lab b' j) : Pth E lab a i b' (j + 1)
section
variable {E E1 E2 lab lab1 F F1 F2 L L1 L2 : Nat → Nat → Prop}
theorem Pth.join {a i m j a' b k : Nat} (p : Pth E lab a i m j) (e : E m a') (q : Pth E lab a' j b k) : Pth E lab a i b k := by
  induction q with
  | one h => exact .snoc p e h
  | snoc _ e' h ih => exact .snoc (ih) e' h
theorem Pth.lt {a i b j : Nat} (p : Pth E lab a i b j) : i < j := by
  induction p with
  | one _ => omega
  | snoc _ _ _ ih => omega
theorem Pth.mono {E' lab' : Nat → Nat → Prop} (he : ∀ a b, E a b → E' a b) {a i b j : Nat} {S : Nat → Prop} (hs : ∀ a b, S a → E a b → S b) (hl : ∀ a i, S a → lab a i → lab' a i) (ha : S a) (p : Pth E lab a i b j) : Pth E' lab' a i b j ∧ S b := by
  induction p with
  | one h => exact ⟨.one (hl _ _ ha h), ha⟩
  | snoc _ e h ih =>
    obtain ⟨q, sb⟩ := ih
    have := hs _ _ sb e
    exact ⟨.snoc q (he _ _ e) (hl _ _ this h), this⟩
end
section
variable {E E1 E2 lab lab1 : Nat → Nat → Prop} {e e1 e2 : Bool} {F F1 F2 L L1 L2 : Nat → Prop}
def Lg (e : Bool) (F L : Nat → Prop) (E lab : Nat → Nat → Prop) (s t : Nat) : Prop := (e = true ∧ t = s) ∨ ∃ a b, F a ∧ L b ∧ Pth E lab a s b t
/-- a block of places -/
structure Blk (n0 n1 : Nat) (F L : Nat → Prop) (E : Nat → Nat → Prop) : Prop where
  f : ∀ a, F a → n0 ≤ a ∧ a < n1
  l : ∀ a, L a → n0 ≤ a ∧ a < n1
  e : ∀ a b, E a b → (n0 ≤ a ∧ a < n1) ∧ n0 ≤ b ∧ b < n1
theorem lg_union {n0 n1 n2 : Nat} (B1 : Blk n0 n1 F1 L1 E1) (B2 : Blk n1 n2 F2 L2 E2) (hE : ∀ a b, E a b ↔ E1 a b ∨ E2 a b) (hl : ∀ a i, n0 ≤ a → a < n1 → (lab1 a i ↔ lab a i)) (he : e = (e1 || e2)) (s t : Nat) :
    Lg e (fun a => F1 a ∨ F2 a) (fun a => L1 a ∨ L2 a) E lab s t ↔ Lg e1 F1 L1 E1 lab1 s t ∨ Lg e2 F2 L2 E2 lab s t := by
  subst he
  constructor
  · rintro (⟨h, rfl⟩ | ⟨a, b, hF, hL, p⟩)
    · rw [Bool.or_eq_true] at h
      exact h.elim (fun h => .inl (.inl ⟨h, rfl⟩)) fun h => .inr (.inl ⟨h, rfl⟩)
    · rcases hF with hF | hF
      · have hs : ∀ a b, (n0 ≤ a ∧ a < n1) → E a b → E1 a b ∧ (n0 ≤ b ∧ b < n1) := fun a b h z => by
          rcases (hE a b).mp z with z | z
          · exact ⟨z, (B1.e a b z).2⟩
          · have := (B2.e a b z).1; omega
        have key : ∀ {a i b j : Nat}, (n0 ≤ a ∧ a < n1) → Pth E lab a i b j → Pth E1 lab1 a i b j ∧ (n0 ≤ b ∧ b < n1) := by
          intro a i b j ha p
          induction p with
          | one h => exact ⟨.one ((hl _ _ ha.1 ha.2).mpr h), ha⟩
          | snoc _ z h ih =>
            obtain ⟨q, hb⟩ := ih
            obtain ⟨z1, hb'⟩ := hs _ _ hb z
            exact ⟨.snoc q z1 ((hl _ _ hb'.1 hb'.2).mpr h), hb'⟩
        obtain ⟨q, hb⟩ := key (B1.f a hF) p
        rcases hL with hL | hL
        · exact .inl (.inr ⟨a, b, hF, hL, q⟩)
        · have := B2.l b hL; omega
      · have key : ∀ {a i b j : Nat}, (n1 ≤ a ∧ a < n2) → Pth E lab a i b j → Pth E2 lab a i b j ∧ (n1 ≤ b ∧ b < n2) := by
          intro a i b j ha p
          induction p with
          | one h => exact ⟨.one h, ha⟩
          | snoc _ z h ih =>
            obtain ⟨q, hb⟩ := ih
            rcases (hE _ _).mp z with z | z
            · have := (B1.e _ _ z).1; omega
            · exact ⟨.snoc q z h, (B2.e _ _ z).2⟩
        obtain ⟨q, hb⟩ := key (B2.f a hF) p
        rcases hL with hL | hL
        · have := B1.l b hL; omega
        · exact .inr (.inr ⟨a, b, hF, hL, q⟩)
  · rintro ((⟨h, rfl⟩ | ⟨a, b, hF, hL, p⟩) | (⟨h, rfl⟩ | ⟨a, b, hF, hL, p⟩))
    · exact .inl ⟨by rw [h]; rfl, rfl⟩
    · obtain ⟨q, _⟩ := p.mono (E' := E) (lab' := lab) (S := fun a => n0 ≤ a ∧ a < n1) (fun a b z => (hE a b).mpr (.inl z)) (fun a b _ z => (B1.e a b z).2) (fun a i h z => (hl a i h.1 h.2).mp z) (B1.f a hF)
      exact .inr ⟨a, b, .inl hF, .inl hL, q⟩
    · exact .inl ⟨by rw [h, Bool.or_true], rfl⟩
    · obtain ⟨q, _⟩ := p.mono (E' := E) (lab' := lab) (S := fun _ => True) (fun a b z => (hE a b).mpr (.inr z)) (fun _ _ _ _ => trivial) (fun _ _ _ z => z) trivial
      exact .inr ⟨a, b, .inr hF, .inr hL, q⟩
theorem lg_concat {n0 n1 n2 : Nat} (B1 : Blk n0 n1 F1 L1 E1) (B2 : Blk n1 n2 F2 L2 E2) (hE : ∀ a b, E a b ↔ E1 a b ∨ E2 a b ∨ (L1 a ∧ F2 b)) (hl : ∀ a i, n0 ≤ a → a < n1 → (lab1 a i ↔ lab a i)) (he : e = (e1 && e2))
    (hF : ∀ a, F a ↔ F1 a ∨ (e1 = true ∧ F2 a)) (hL : ∀ a, L a ↔ L2 a ∨ (e2 = true ∧ L1 a)) (s t : Nat) :
    Lg e F L E lab s t ↔ ∃ m, Lg e1 F1 L1 E1 lab1 s m ∧ Lg e2 F2 L2 E2 lab m t := by
  subst he
  have up1 : ∀ {a i b j : Nat}, (n0 ≤ a ∧ a < n1) → Pth E1 lab1 a i b j → Pth E lab a i b j := fun h p =>
    (p.mono (E' := E) (lab' := lab) (S := fun a => n0 ≤ a ∧ a < n1) (fun a b z => (hE a b).mpr (.inl z)) (fun a b _ z => (B1.e a b z).2) (fun a i h z => (hl a i h.1 h.2).mp z) h).1
  have up2 : ∀ {a i b j : Nat}, Pth E2 lab a i b j → Pth E lab a i b j := fun p =>
    (p.mono (E' := E) (lab' := lab) (S := fun _ => True) (fun a b z => (hE a b).mpr (.inr (.inl z))) (fun _ _ _ _ => trivial) (fun _ _ _ z => z) trivial).1
  have in2 : ∀ {a i b j : Nat}, (n1 ≤ a ∧ a < n2) → Pth E lab a i b j → Pth E2 lab a i b j ∧ (n1 ≤ b ∧ b < n2) := by
    intro a i b j ha p
    induction p with
    | one h => exact ⟨.one h, ha⟩
    | snoc _ z h ih =>
      obtain ⟨q, hb⟩ := ih
      rcases (hE _ _).mp z with z | z | z
      · have := (B1.e _ _ z).1; omega
      · exact ⟨.snoc q z h, (B2.e _ _ z).2⟩
      · have := B1.l _ z.1; omega
  have in1 : ∀ {a i b j : Nat}, (n0 ≤ a ∧ a < n1) → Pth E lab a i b j → ((n0 ≤ b ∧ b < n1) ∧ Pth E1 lab1 a i b j) ∨ ((n1 ≤ b ∧ b < n2) ∧ ∃ x y m, L1 x ∧ F2 y ∧ Pth E1 lab1 a i x m ∧ Pth E2 lab y m b j) := by
    intro a i b j ha p
    induction p with
    | one h => exact .inl ⟨ha, .one ((hl _ _ ha.1 ha.2).mpr h)⟩
    | snoc _ z h ih =>
      rcases ih with ⟨hb, q⟩ | ⟨hb, x, y, m, hx, hy, q1, q2⟩
      · rcases (hE _ _).mp z with z | z | z
        · have hb' := (B1.e _ _ z).2
          exact .inl ⟨hb', .snoc q z ((hl _ _ hb'.1 hb'.2).mpr h)⟩
        · have := (B2.e _ _ z).1; omega
        · exact .inr ⟨B2.f _ z.2, _, _, _, z.1, z.2, q, .one h⟩
      · rcases (hE _ _).mp z with z | z | z
        · have := (B1.e _ _ z).1; omega
        · exact .inr ⟨(B2.e _ _ z).2, x, y, m, hx, hy, q1, .snoc q2 z h⟩
        · have := B1.l _ z.1; omega
  constructor
  · rintro (⟨h, rfl⟩ | ⟨a, b, ha, hb, p⟩)
    · rw [Bool.and_eq_true] at h
      exact ⟨t, .inl ⟨h.1, rfl⟩, .inl ⟨h.2, rfl⟩⟩
    · rcases (hF a).mp ha with ha | ⟨h1, ha⟩
      · rcases in1 (B1.f a ha) p with ⟨rb, q⟩ | ⟨rb, x, y, m, hx, hy, q1, q2⟩
        · rcases (hL b).mp hb with hb | ⟨h2, hb⟩
          · have := B2.l b hb; omega
          · exact ⟨t, .inr ⟨a, b, ha, hb, q⟩, .inl ⟨h2, rfl⟩⟩
        · rcases (hL b).mp hb with hb | ⟨h2, hb⟩
          · exact ⟨m, .inr ⟨a, x, ha, hx, q1⟩, .inr ⟨y, b, hy, hb, q2⟩⟩
          · have := B1.l b hb; omega
      · obtain ⟨q, rb⟩ := in2 (B2.f a ha) p
        rcases (hL b).mp hb with hb | ⟨h2, hb⟩
        · exact ⟨s, .inl ⟨h1, rfl⟩, .inr ⟨a, b, ha, hb, q⟩⟩
        · have := B1.l b hb; omega
  · rintro ⟨m, (⟨h1, rfl⟩ | ⟨a, b, ha, hb, p⟩), (⟨h2, rfl⟩ | ⟨a', b', ha', hb', p'⟩)⟩
    · exact .inl ⟨by rw [h1, h2]; rfl, rfl⟩
    · exact .inr ⟨a', b', (hF _).mpr (.inr ⟨h1, ha'⟩), (hL _).mpr (.inl hb'), up2 p'⟩
    · exact .inr ⟨a, b, (hF _).mpr (.inl ha), (hL _).mpr (.inr ⟨h2, hb⟩), up1 (B1.f a ha) p⟩
    · exact .inr ⟨a, b', (hF _).mpr (.inl ha), (hL _).mpr (.inl hb'), (up1 (B1.f a ha) p).join ((hE _ _).mpr (.inr (.inr ⟨hb, ha'⟩))) (up2 p')⟩
theorem lg_star {n0 n1 : Nat} (B : Blk n0 n1 F1 L1 E1) (hE : ∀ a b, E a b ↔ E1 a b ∨ (L1 a ∧ F1 b)) (s t : Nat) : Lg true F1 L1 E lab s t ↔ Star (Lg e1 F1 L1 E1 lab) s t := by
  have up : ∀ {a i b j : Nat}, Pth E1 lab a i b j → Pth E lab a i b j := fun p =>
    (p.mono (E' := E) (lab' := lab) (S := fun _ => True) (fun a b z => (hE a b).mpr (.inl z)) (fun _ _ _ _ => trivial) (fun _ _ _ z => z) trivial).1
  have cut : ∀ {a i b j : Nat}, F1 a → Pth E lab a i b j → ∃ a' m, Star (Lg e1 F1 L1 E1 lab) i m ∧ F1 a' ∧ Pth E1 lab a' m b j := by
    intro a i b j ha p
    induction p with
    | one h => exact ⟨_, _, .refl _, ha, .one h⟩
    | snoc _ z h ih =>
      obtain ⟨a', m, st, ha', q⟩ := ih
      rcases (hE _ _).mp z with z | z
      · exact ⟨a', m, st, ha', .snoc q z h⟩
      · exact ⟨_, _, .tail st (.inr ⟨a', _, ha', z.1, q⟩), z.2, .one h⟩
  constructor
  · rintro (⟨_, rfl⟩ | ⟨a, b, ha, hb, p⟩)
    · exact .refl _
    · obtain ⟨a', m, st, ha', q⟩ := cut ha p
      exact .tail st (.inr ⟨a', b, ha', hb, q⟩)
  · intro st
    induction st with
    | refl => exact .inl ⟨rfl, rfl⟩
    | tail _ r ih =>
      rcases r with ⟨_, rfl⟩ | ⟨a, b, ha, hb, p⟩
      · exact ih
      · rcases ih with ⟨_, rfl⟩ | ⟨a', b', ha', hb', p'⟩
        · exact .inr ⟨a, b, ha, hb, up p⟩
        · exact .inr ⟨a', b, ha', hb, p'.join ((hE _ _).mpr (.inr ⟨hb', ha⟩)) (up p)⟩
end
end DL

/-! N2: nets by masks. -/
namespace DL
open PySem L2
/-! ### which diaries fit -/
mutual
/-- p fits the events from s up to t -/
def Mt (d : List Str) : Pat → Nat → Nat → Prop
  | .any => fun s t => s < d.length ∧ t = s + 1
  | .one a => fun s t => d[s]? = some a ∧ t = s + 1
  | .many p => Star (Mt d p)
  | .row l => MtR d l
  | .eit l => MtE d l
def MtR (d : List Str) : List Pat → Nat → Nat → Prop
  | [] => fun s t => t = s
  | p :: r => fun s t => ∃ m, Mt d p s m ∧ MtR d r m t
def MtE (d : List Str) : List Pat → Nat → Nat → Prop
  | [] => fun _ _ => False
  | p :: r => fun s t => Mt d p s t ∨ MtE d r s t
end
theorem mtR_snoc (d : List Str) (p : Pat) : ∀ (l : List Pat) (s t : Nat), MtR d (l ++ [p]) s t ↔ ∃ m, MtR d l s m ∧ Mt d p m t
  | [], s, t => by
    rw [List.nil_append]
    simp only [MtR]
    exact ⟨fun ⟨m, h, e⟩ => ⟨s, rfl, by subst e; exact h⟩, fun ⟨m, e, h⟩ => ⟨t, by subst e; exact h, rfl⟩⟩
  | q :: l, s, t => by
    rw [List.cons_append]
    simp only [MtR]
    constructor
    · rintro ⟨m, h, k⟩
      obtain ⟨m', k1, k2⟩ := (mtR_snoc d p l m t).mp k
      exact ⟨m', ⟨m, h, k1⟩, k2⟩
    · rintro ⟨m', ⟨m, h, k1⟩, k2⟩
      exact ⟨m, h, (mtR_snoc d p l m t).mpr ⟨m', k1, k2⟩⟩
theorem mtE_snoc (d : List Str) (p : Pat) : ∀ (l : List Pat) (s t : Nat), MtE d (l ++ [p]) s t ↔ MtE d l s t ∨ Mt d p s t
  | [], s, t => by simp [MtE]
  | q :: l, s, t => by
    rw [List.cons_append]
    simp only [MtE, mtE_snoc d p l s t, or_assoc]
/-! ### masks -/
abbrev Wn := List (Option Str)
def labO (d : List Str) (w : Wn) (a i : Nat) : Prop := ∃ x ev, w[a]? = some x ∧ d[i]? = some ev ∧ (x = none ∨ x = some ev)
def Tb (m : Nat) (a : Nat) : Prop := m.testBit a = true
def Eb (n0 : Nat) (bh : List Nat) (a b : Nat) : Prop := n0 ≤ a ∧ ∃ x, bh[a]? = some x ∧ Tb x b
def leadL (m s : Nat) (bh : List Nat) : List Nat := bh.mapIdx fun i x => if m.testBit i then x ||| s else x
theorem leadL_len (m s : Nat) (bh : List Nat) : (leadL m s bh).length = bh.length := by simp [leadL]
theorem leadL_get (m s : Nat) (bh : List Nat) (a : Nat) : (leadL m s bh)[a]? = (bh[a]?).map fun x => if m.testBit a then x ||| s else x := by
  simp [leadL, List.getElem?_mapIdx]
theorem Tb.or {x y b : Nat} : Tb (x ||| y) b ↔ Tb x b ∨ Tb y b := by simp [Tb, Nat.testBit_or]
structure NetOk (d : List Str) (n0 : Nat) (w : Wn) (bh : List Nat) (e : Bool) (f l : Nat) (R : Nat → Nat → Prop) : Prop where
  len : w.length = bh.length
  lo : n0 ≤ w.length
  blk : Blk n0 w.length (Tb f) (Tb l) (Eb n0 bh)
  lg : ∀ s t, Lg e (Tb f) (Tb l) (Eb n0 bh) (labO d w) s t ↔ R s t
theorem labO_app {d : List Str} {w u : Wn} {a i : Nat} (h : a < w.length) : labO d w a i ↔ labO d (w ++ u) a i := by
  unfold labO
  rw [List.getElem?_append_left h]
theorem eb_leadL {n0 m s : Nat} {bh : List Nat} {a b : Nat} (hm : ∀ x, Tb m x → n0 ≤ x ∧ x < bh.length) : Eb n0 (leadL m s bh) a b ↔ Eb n0 bh a b ∨ (Tb m a ∧ Tb s b) := by
  unfold Eb
  rw [leadL_get]
  constructor
  · rintro ⟨h, x, e, t⟩
    cases q : bh[a]? with
    | none => rw [q] at e; cases e
    | some y =>
      rw [q] at e
      simp only [Option.map_some, Option.some.injEq] at e
      subst e
      by_cases hb : m.testBit a = true
      · rw [if_pos hb] at t
        exact (Tb.or.mp t).elim (fun t => .inl ⟨h, y, rfl, t⟩) fun t => .inr ⟨hb, t⟩
      · rw [if_neg hb] at t
        exact .inl ⟨h, y, rfl, t⟩
  · rintro (⟨h, x, e, t⟩ | ⟨h, t⟩)
    · rw [e]
      refine ⟨h, _, rfl, ?_⟩
      split
      · exact Tb.or.mpr (.inl t)
      · exact t
    · obtain ⟨h1, h2⟩ := hm a h
      refine ⟨h1, _, by rw [List.getElem?_eq_getElem h2]; rfl, ?_⟩
      show Tb (if m.testBit a = true then bh[a] ||| s else bh[a]) b
      rw [if_pos (show m.testBit a = true from h)]
      exact Tb.or.mpr (.inr t)
theorem eb_app {n0 : Nat} {bh v : List Nat} {a b : Nat} (hl : n0 ≤ bh.length) : Eb n0 (bh ++ v) a b ↔ Eb n0 bh a b ∨ Eb bh.length (bh ++ v) a b := by
  unfold Eb
  constructor
  · rintro ⟨h, x, e, t⟩
    by_cases q : a < bh.length
    · rw [List.getElem?_append_left q] at e
      exact .inl ⟨h, x, e, t⟩
    · exact .inr ⟨by omega, x, e, t⟩
  · rintro (⟨h, x, e, t⟩ | ⟨h, x, e, t⟩)
    · exact ⟨h, x, by rw [List.getElem?_append_left (List.getElem?_eq_some_iff.mp e).1]; exact e, t⟩
    · exact ⟨by omega, x, e, t⟩
section
variable {d : List Str} {n0 : Nat} {w u : Wn} {bh v : List Nat} {e1 e2 : Bool} {f1 l1 f2 l2 : Nat} {R1 R2 : Nat → Nat → Prop}
theorem Tb.ite {b : Bool} {x y a : Nat} : Tb (if b then x ||| y else x) a ↔ Tb x a ∨ (b = true ∧ Tb y a) := by
  cases b
  · simp
  · simp [Tb.or]
theorem Tb.ite' {b : Bool} {x y a : Nat} : Tb (if b then x ||| y else y) a ↔ Tb y a ∨ (b = true ∧ Tb x a) := by
  cases b
  · simp
  · simp [Tb.or, or_comm]
theorem NetOk.concat (N1 : NetOk d n0 w bh e1 f1 l1 R1) (N2 : NetOk d w.length (w ++ u) (bh ++ v) e2 f2 l2 R2) :
    NetOk d n0 (w ++ u) (leadL l1 f2 (bh ++ v)) (e1 && e2) (if e1 then f1 ||| f2 else f1) (if e2 then l1 ||| l2 else l2) (fun s t => ∃ m, R1 s m ∧ R2 m t) := by
  have hlen := N2.len
  have hl1 := N1.len
  have hlo := N1.lo
  have hw : w.length ≤ (w ++ u).length := by simp
  have hE : ∀ a b, Eb n0 (leadL l1 f2 (bh ++ v)) a b ↔ Eb n0 bh a b ∨ Eb w.length (bh ++ v) a b ∨ (Tb l1 a ∧ Tb f2 b) := fun a b => by
    rw [eb_leadL (fun x h => by have := N1.blk.l x h; rw [← hlen]; omega), eb_app (by omega), or_assoc, hl1]
  refine ⟨by rw [leadL_len]; exact hlen, by omega, ⟨fun a h => ?_, fun a h => ?_, fun a b h => ?_⟩, fun s t => ?_⟩
  · rcases Tb.ite.mp h with h | ⟨_, h⟩
    · have := N1.blk.f a h; omega
    · have := N2.blk.f a h; omega
  · rcases Tb.ite'.mp h with h | ⟨_, h⟩
    · have := N2.blk.l a h; omega
    · have := N1.blk.l a h; omega
  · rcases (hE a b).mp h with h | h | h
    · have := N1.blk.e a b h; omega
    · have := N2.blk.e a b h; omega
    · have := N1.blk.l a h.1; have := N2.blk.f b h.2; omega
  · rw [lg_concat (lab1 := labO d w) N1.blk N2.blk hE (fun a i _ h => labO_app h) rfl (fun a => Tb.ite) (fun a => Tb.ite') s t]
    exact ⟨fun ⟨m, h1, h2⟩ => ⟨m, (N1.lg s m).mp h1, (N2.lg m t).mp h2⟩, fun ⟨m, h1, h2⟩ => ⟨m, (N1.lg s m).mpr h1, (N2.lg m t).mpr h2⟩⟩
theorem NetOk.union (N1 : NetOk d n0 w bh e1 f1 l1 R1) (N2 : NetOk d w.length (w ++ u) (bh ++ v) e2 f2 l2 R2) :
    NetOk d n0 (w ++ u) (bh ++ v) (e1 || e2) (f1 ||| f2) (l1 ||| l2) (fun s t => R1 s t ∨ R2 s t) := by
  have hlen := N2.len
  have hl1 := N1.len
  have hlo := N1.lo
  have hw : w.length ≤ (w ++ u).length := by simp
  have hE : ∀ a b, Eb n0 (bh ++ v) a b ↔ Eb n0 bh a b ∨ Eb w.length (bh ++ v) a b := fun a b => by rw [eb_app (by omega), hl1]
  have q : ∀ x y : Nat, Tb (x ||| y) = fun a => Tb x a ∨ Tb y a := fun x y => funext fun a => propext Tb.or
  refine ⟨hlen, by omega, ⟨fun a h => ?_, fun a h => ?_, fun a b h => ?_⟩, fun s t => ?_⟩
  · rcases Tb.or.mp h with h | h
    · have := N1.blk.f a h; omega
    · have := N2.blk.f a h; omega
  · rcases Tb.or.mp h with h | h
    · have := N1.blk.l a h; omega
    · have := N2.blk.l a h; omega
  · rcases (hE a b).mp h with h | h
    · have := N1.blk.e a b h; omega
    · have := N2.blk.e a b h; omega
  · rw [q, q, lg_union (lab1 := labO d w) N1.blk N2.blk hE (fun a i _ h => labO_app h) rfl s t]
    exact or_congr (N1.lg s t) (N2.lg s t)
theorem NetOk.star (N1 : NetOk d n0 w bh e1 f1 l1 R1) : NetOk d n0 w (leadL l1 f1 bh) true f1 l1 (Star R1) := by
  have hl1 := N1.len
  have hE : ∀ a b, Eb n0 (leadL l1 f1 bh) a b ↔ Eb n0 bh a b ∨ (Tb l1 a ∧ Tb f1 b) := fun a b => eb_leadL fun x h => by have := N1.blk.l x h; omega
  refine ⟨by rw [leadL_len]; exact hl1, N1.lo, ⟨N1.blk.f, N1.blk.l, fun a b h => ?_⟩, fun s t => ?_⟩
  · rcases (hE a b).mp h with h | h
    · exact N1.blk.e a b h
    · exact ⟨N1.blk.l a h.1, N1.blk.f b h.2⟩
  · rw [lg_star (e1 := e1) N1.blk hE s t]
    exact ⟨Star.mono fun s t => (N1.lg s t).mp, Star.mono fun s t => (N1.lg s t).mpr⟩
/-- nothing yet, for a row -/
theorem NetOk.nil (h : w.length = bh.length) (e : Bool) : NetOk d w.length w bh e 0 0 (fun s t => e = true ∧ t = s) := by
  refine ⟨h, Nat.le_refl _, ⟨fun a h => by simp [Tb] at h, fun a h => by simp [Tb] at h, fun a b q => ?_⟩, fun s t => ?_⟩
  · obtain ⟨h1, x, h2, _⟩ := q
    have := (List.getElem?_eq_some_iff.mp h2).1
    omega
  · refine ⟨fun q => ?_, .inl⟩
    rcases q with q | ⟨a, b, h, _⟩
    · exact q
    · simp [Tb] at h
theorem tb_one {n a : Nat} : Tb (2 ^ n) a ↔ a = n := by
  simp [Tb, Nat.testBit_two_pow]
  exact ⟨fun h => h.symm, fun h => h.symm⟩
/-- one event -/
theorem NetOk.event (h : w.length = bh.length) (x : Option Str) : NetOk d w.length (w ++ [x]) (bh ++ [0]) false (2 ^ w.length) (2 ^ w.length) (fun s t => (∃ ev, d[s]? = some ev ∧ (x = none ∨ x = some ev)) ∧ t = s + 1) := by
  have noE : ∀ a b, ¬ Eb w.length (bh ++ [0]) a b := fun a b q => by
    obtain ⟨h1, y, h2, h3⟩ := q
    have hl := (List.getElem?_eq_some_iff.mp h2).1
    have e : a = bh.length := by simp at hl; omega
    subst e
    simp at h2
    subst h2
    simp [Tb] at h3
  have hlab : ∀ i, labO d (w ++ [x]) w.length i ↔ ∃ ev, d[i]? = some ev ∧ (x = none ∨ x = some ev) := fun i => by
    unfold labO
    constructor
    · rintro ⟨y, ev, h1, h2, h3⟩
      simp at h1
      subst h1
      exact ⟨ev, h2, h3⟩
    · rintro ⟨ev, h2, h3⟩
      exact ⟨x, ev, by simp, h2, h3⟩
  refine ⟨by simp [h], by simp, ⟨fun a q => ?_, fun a q => ?_, fun a b q => (noE a b q).elim⟩, fun s t => ?_⟩
  · rw [tb_one] at q; subst q; simp
  · rw [tb_one] at q; subst q; simp
  · constructor
    · rintro (⟨q, _⟩ | ⟨a, b, ha, hb, p⟩)
      · cases q
      · rw [tb_one] at ha hb
        subst ha
        cases p with
        | one q => exact ⟨(hlab _).mp q, rfl⟩
        | snoc _ q _ => exact (noE _ _ q).elim
    · rintro ⟨q, rfl⟩
      exact .inr ⟨_, _, tb_one.mpr rfl, tb_one.mpr rfl, .one ((hlab s).mpr q)⟩
end
theorem NetOk.cast {d : List Str} {n0 : Nat} {w : Wn} {bh : List Nat} {e : Bool} {f l : Nat} {R R' : Nat → Nat → Prop} (N : NetOk d n0 w bh e f l R) (h : ∀ s t, R s t ↔ R' s t) : NetOk d n0 w bh e f l R' :=
  ⟨N.len, N.lo, N.blk, fun s t => (N.lg s t).trans (h s t)⟩
end DL

/-! N3: what the states are, event by event. -/
namespace DL
theorem sim {n T : Nat} {f l : Nat → Prop} {E lab : Nat → Nat → Prop} {e : Bool} {P0 : Nat → Prop} {S : Nat → Nat → Prop} (B : Blk 0 n f l E) (hlab : ∀ a i, lab a i → a < n) (h0 : P0 0)
    (s0 : ∀ x, S 0 x ↔ f x ∨ (e = true ∧ x = n)) (s1 : ∀ t, t < T → ∀ x, S (t + 1) x ↔ (P0 (t + 1) ∧ (f x ∨ (e = true ∧ x = n))) ∨ ∃ a, S t a ∧ lab a t ∧ (E a x ∨ (l a ∧ x = n))) :
    ∀ t, t ≤ T → (∀ x, x < n → (S t x ↔ (P0 t ∧ f x) ∨ ∃ s a b, P0 s ∧ f a ∧ Pth E lab a s b t ∧ E b x)) ∧ (S t n ↔ ∃ s, P0 s ∧ Lg e f l E lab s t)
  | 0, _ => by
    have no : ∀ {a s b : Nat}, ¬ Pth E lab a s b 0 := fun p => by have := p.lt; omega
    refine ⟨fun x hx => ?_, ?_⟩
    · rw [s0]
      constructor
      · rintro (h | ⟨_, h⟩)
        · exact .inl ⟨h0, h⟩
        · omega
      · rintro (⟨_, h⟩ | ⟨_, _, _, _, _, p, _⟩)
        · exact .inl h
        · exact (no p).elim
    · rw [s0]
      constructor
      · rintro (h | ⟨h, _⟩)
        · have := (B.f n h).2; omega
        · exact ⟨0, h0, .inl ⟨h, rfl⟩⟩
      · rintro ⟨s, _, ⟨h, _⟩ | ⟨_, _, _, _, p⟩⟩
        · exact .inr ⟨h, rfl⟩
        · exact (no p).elim
  | t + 1, ht => by
    obtain ⟨i1, _⟩ := sim B hlab h0 s0 s1 t (by omega)
    have act : ∀ a, (S t a ∧ lab a t) ↔ ∃ s a0, P0 s ∧ f a0 ∧ Pth E lab a0 s a (t + 1) := fun a => by
      constructor
      · rintro ⟨h, k⟩
        rcases (i1 a (hlab a t k)).mp h with ⟨p, q⟩ | ⟨s, a0, b, p, q, r, z⟩
        · exact ⟨t, a, p, q, .one k⟩
        · exact ⟨s, a0, p, q, .snoc r z k⟩
      · rintro ⟨s, a0, p, q, r⟩
        cases r with
        | one k => exact ⟨(i1 a (hlab a _ k)).mpr (.inl ⟨p, q⟩), k⟩
        | snoc r z k => exact ⟨(i1 a (hlab a _ k)).mpr (.inr ⟨s, a0, _, p, q, r, z⟩), k⟩
    refine ⟨fun x hx => ?_, ?_⟩
    · rw [s1 t (by omega)]
      constructor
      · rintro (⟨h, k | ⟨_, k⟩⟩ | ⟨a, h, k, z | ⟨_, z⟩⟩)
        · exact .inl ⟨h, k⟩
        · omega
        · obtain ⟨s, a0, p, q, r⟩ := (act a).mp ⟨h, k⟩
          exact .inr ⟨s, a0, a, p, q, r, z⟩
        · omega
      · rintro (⟨h, k⟩ | ⟨s, a0, b, p, q, r, z⟩)
        · exact .inl ⟨h, .inl k⟩
        · obtain ⟨h, k⟩ := (act b).mpr ⟨s, a0, p, q, r⟩
          exact .inr ⟨b, h, k, .inl z⟩
    · rw [s1 t (by omega)]
      constructor
      · rintro (⟨h, k | ⟨k, _⟩⟩ | ⟨a, h, k, z | ⟨z, _⟩⟩)
        · have := (B.f n k).2; omega
        · exact ⟨t + 1, h, .inl ⟨k, rfl⟩⟩
        · have := (B.e a n z).2.2; omega
        · obtain ⟨s, a0, p, q, r⟩ := (act a).mp ⟨h, k⟩
          exact ⟨s, p, .inr ⟨a0, a, q, z, r⟩⟩
      · rintro ⟨s, p, ⟨h, rfl⟩ | ⟨a0, b, q, z, r⟩⟩
        · exact .inl ⟨p, .inr ⟨h, rfl⟩⟩
        · obtain ⟨h, k⟩ := (act b).mpr ⟨s, a0, p, q, r⟩
          exact .inr ⟨b, h, k, .inr ⟨z, rfl⟩⟩
end DL

namespace DL
open PySem L2

@[simp] theorem q_lead_wanted : (("lead" : Str) == "wanted") = false := by decide +kernel
@[simp] theorem q_lead_behind : (("lead" : Str) == "behind") = false := by decide +kernel
@[simp] theorem q_lead_start : (("lead" : Str) == "start") = false := by decide +kernel
@[simp] theorem q_laid_wanted : (("laid" : Str) == "wanted") = false := by decide +kernel
@[simp] theorem q_laid_behind : (("laid" : Str) == "behind") = false := by decide +kernel
@[simp] theorem q_laid_start : (("laid" : Str) == "start") = false := by decide +kernel
@[simp] theorem q_laid_event_wanted : (("laid_event" : Str) == "wanted") = false := by decide +kernel
@[simp] theorem q_laid_event_behind : (("laid_event" : Str) == "behind") = false := by decide +kernel
@[simp] theorem q_laid_event_start : (("laid_event" : Str) == "start") = false := by decide +kernel
@[simp] theorem q_laid_row_wanted : (("laid_row" : Str) == "wanted") = false := by decide +kernel
@[simp] theorem q_laid_row_behind : (("laid_row" : Str) == "behind") = false := by decide +kernel
@[simp] theorem q_laid_row_start : (("laid_row" : Str) == "start") = false := by decide +kernel
@[simp] theorem q_laid_either_wanted : (("laid_either" : Str) == "wanted") = false := by decide +kernel
@[simp] theorem q_laid_either_behind : (("laid_either" : Str) == "behind") = false := by decide +kernel
@[simp] theorem q_laid_either_start : (("laid_either" : Str) == "start") = false := by decide +kernel
@[simp] theorem q_after_wanted : (("after" : Str) == "wanted") = false := by decide +kernel
@[simp] theorem q_after_behind : (("after" : Str) == "behind") = false := by decide +kernel
@[simp] theorem q_after_start : (("after" : Str) == "start") = false := by decide +kernel
@[simp] theorem q_ends_wanted : (("ends" : Str) == "wanted") = false := by decide +kernel
@[simp] theorem q_ends_behind : (("ends" : Str) == "behind") = false := by decide +kernel
@[simp] theorem q_ends_start : (("ends" : Str) == "start") = false := by decide +kernel
@[simp] theorem q_wanted_behind : (("wanted" : Str) == "behind") = false := by decide +kernel
@[simp] theorem n_wanted_behind : (("wanted" : Str) = "behind") = False := eq_false (by decide +kernel)
@[simp] theorem q_wanted_start : (("wanted" : Str) == "start") = false := by decide +kernel
@[simp] theorem n_wanted_start : (("wanted" : Str) = "start") = False := eq_false (by decide +kernel)
@[simp] theorem q_behind_wanted : (("behind" : Str) == "wanted") = false := by decide +kernel
@[simp] theorem n_behind_wanted : (("behind" : Str) = "wanted") = False := eq_false (by decide +kernel)
@[simp] theorem q_behind_start : (("behind" : Str) == "start") = false := by decide +kernel
@[simp] theorem n_behind_start : (("behind" : Str) = "start") = False := eq_false (by decide +kernel)
@[simp] theorem q_start_wanted : (("start" : Str) == "wanted") = false := by decide +kernel
@[simp] theorem n_start_wanted : (("start" : Str) = "wanted") = False := eq_false (by decide +kernel)
@[simp] theorem q_start_behind : (("start" : Str) == "behind") = false := by decide +kernel
@[simp] theorem n_start_behind : (("start" : Str) = "behind") = False := eq_false (by decide +kernel)
@[simp] theorem n_lead_wanted : (("lead" : Str) = "wanted") = False := eq_false (by decide +kernel)
@[simp] theorem n_lead_behind : (("lead" : Str) = "behind") = False := eq_false (by decide +kernel)
@[simp] theorem n_lead_start : (("lead" : Str) = "start") = False := eq_false (by decide +kernel)
@[simp] theorem n_laid_wanted : (("laid" : Str) = "wanted") = False := eq_false (by decide +kernel)
@[simp] theorem n_laid_behind : (("laid" : Str) = "behind") = False := eq_false (by decide +kernel)
@[simp] theorem n_laid_start : (("laid" : Str) = "start") = False := eq_false (by decide +kernel)
@[simp] theorem n_laid_event_wanted : (("laid_event" : Str) = "wanted") = False := eq_false (by decide +kernel)
@[simp] theorem n_laid_event_behind : (("laid_event" : Str) = "behind") = False := eq_false (by decide +kernel)
@[simp] theorem n_laid_event_start : (("laid_event" : Str) = "start") = False := eq_false (by decide +kernel)
@[simp] theorem n_laid_row_wanted : (("laid_row" : Str) = "wanted") = False := eq_false (by decide +kernel)
@[simp] theorem n_laid_row_behind : (("laid_row" : Str) = "behind") = False := eq_false (by decide +kernel)
@[simp] theorem n_laid_row_start : (("laid_row" : Str) = "start") = False := eq_false (by decide +kernel)
@[simp] theorem n_laid_either_wanted : (("laid_either" : Str) = "wanted") = False := eq_false (by decide +kernel)
@[simp] theorem n_laid_either_behind : (("laid_either" : Str) = "behind") = False := eq_false (by decide +kernel)
@[simp] theorem n_laid_either_start : (("laid_either" : Str) = "start") = False := eq_false (by decide +kernel)
@[simp] theorem n_after_wanted : (("after" : Str) = "wanted") = False := eq_false (by decide +kernel)
@[simp] theorem n_after_behind : (("after" : Str) = "behind") = False := eq_false (by decide +kernel)
@[simp] theorem n_after_start : (("after" : Str) = "start") = False := eq_false (by decide +kernel)
@[simp] theorem n_ends_wanted : (("ends" : Str) = "wanted") = False := eq_false (by decide +kernel)
@[simp] theorem n_ends_behind : (("ends" : Str) = "behind") = False := eq_false (by decide +kernel)
@[simp] theorem n_ends_start : (("ends" : Str) = "start") = False := eq_false (by decide +kernel)
theorem or_nat (a b : Nat) : Builtin.bitOr (a : Int) (b : Int) = ((a ||| b : Nat) : Int) := by
  have k : ∀ n : Nat, Builtin.bitNot (Builtin.bitNot (n : Int)) = n := fun n => by unfold Builtin.bitNot; omega
  have hn : ∀ n : Nat, decide (0 ≤ Builtin.bitNot (n : Int)) = false := fun n => by unfold Builtin.bitNot; simp; omega
  have e : Builtin.bitAnd (Builtin.bitNot (a : Int)) (Builtin.bitNot (b : Int)) = Builtin.bitNot (((Builtin.bitNot (Builtin.bitNot (a : Int))).toNat ||| (Builtin.bitNot (Builtin.bitNot (b : Int))).toNat : Nat) : Int) := by
    unfold Builtin.bitAnd
    rw [hn, hn]
  unfold Builtin.bitOr
  rw [e, k, k a, k b, Int.toNat_natCast, Int.toNat_natCast]
theorem bit_is (m i : Nat) : Builtin.bitAnd ((m : Int) / 2 ^ i) 1 = if m.testBit i then 1 else 0 := by
  rw [PyProof.Rows.bitAnd_m1]
  have e : ((m : Int) / 2 ^ i) = ((m / 2 ^ i : Nat) : Int) := by simp
  rw [e]
  have h : m.testBit i = decide (m / 2 ^ i % 2 = 1) := Nat.testBit_eq_decide_div_mod_eq
  rw [h]
  by_cases q : m / 2 ^ i % 2 = 1
  · simp [q]; omega
  · simp [q]; omega
def wD : Option Str → D
  | none => .non
  | some s => .str s
def wL_ (w : Wn) : List O := w.map fun x => .fz (wD x)
def bL_ (bh : List Nat) : List O := bh.map fun (n : Nat) => .fz (.int (n : Int))
def netF (w : Wn) (bh : List Nat) : List (Str × O) := [("wanted", .lst (wL_ w)), ("behind", .lst (bL_ bh))]
abbrev netO (C : Addr) (w : Wn) (bh : List Nat) : O := .ins C (netF w bh)
@[simp] theorem look_w (w : Wn) (bh : List Nat) : (netF w bh).lookup ("wanted" : Str) = some (.lst (wL_ w)) := by simp [netF]
@[simp] theorem look_b (w : Wn) (bh : List Nat) : (netF w bh).lookup ("behind" : Str) = some (.lst (bL_ bh)) := by simp [netF, List.lookup_cons]
@[simp] theorem look_1 (w : Wn) (bh : List Nat) : (netF w bh).lookup ("lead" : Str) = none := by simp [netF]
@[simp] theorem look_2 (w : Wn) (bh : List Nat) : (netF w bh).lookup ("laid" : Str) = none := by simp [netF]
@[simp] theorem look_3 (w : Wn) (bh : List Nat) : (netF w bh).lookup ("laid_event" : Str) = none := by simp [netF]
@[simp] theorem look_4 (w : Wn) (bh : List Nat) : (netF w bh).lookup ("laid_row" : Str) = none := by simp [netF]
@[simp] theorem look_5 (w : Wn) (bh : List Nat) : (netF w bh).lookup ("laid_either" : Str) = none := by simp [netF]
@[simp] theorem put_b (w : Wn) (bh b' : List Nat) : putA "behind" (.lst (bL_ b')) (netF w bh) = netF w b' := by simp [netF]
@[simp] theorem put_w (w w' : Wn) (bh : List Nat) : putA "wanted" (.lst (wL_ w')) (netF w bh) = netF w' bh := by simp [netF]
@[simp] theorem bL_len (bh : List Nat) : (bL_ bh).length = bh.length := by simp [bL_]
@[simp] theorem wL_len (w : Wn) : (wL_ w).length = w.length := by simp [wL_]
@[simp] theorem bL_at (bh : List Nat) (i : Nat) (h : i < (bL_ bh).length) : (bL_ bh)[i] = .fz (.int ((bh[i]'(by simpa using h) : Nat) : Int)) := by simp [bL_]
theorem bL_get {bh : List Nat} {i : Nat} {x : Nat} (h : bh[i]? = some x) : (bL_ bh)[i]? = some (.fz (.int (x : Int))) := by simp [bL_, h]
theorem bL_set (bh : List Nat) (i x : Nat) : (bL_ bh).set i (.fz (.int (x : Int))) = bL_ (bh.set i x) := by simp [bL_, List.map_set]
theorem bL_app (bh : List Nat) (x : Nat) : bL_ bh ++ [.fz (.int (x : Int))] = bL_ (bh ++ [x]) := by simp [bL_]
theorem wL_app (w : Wn) (x : Option Str) : wL_ w ++ [.fz (wD x)] = wL_ (w ++ [x]) := by simp [wL_]
theorem b1_lead (c : Cs) (w : Wn) (bh : List Nat) (m s i : Nat) (x : Nat) (h : bh[i]? = some x) :
    body1_PatternNet_lead c [some (netO c.PatternNet w bh), some (.fz (.int (m : Int))), some (.fz (.int (s : Int))), some (.fz (.int (i : Int)))] =
      .ok (.nx [some (netO c.PatternNet w (if m.testBit i then bh.set i (x ||| s) else bh)), some (.fz (.int (m : Int))), some (.fz (.int (s : Int))), some (.fz (.int (i : Int)))]) := by
  obtain ⟨hi, hx⟩ := List.getElem?_eq_some_iff.mp h
  subst hx
  by_cases hb : m.testBit i = true
  · simp [body1_PatternNet_lead, bit_is, hb, hi, or_nat, bL_set]
  · simp [body1_PatternNet_lead, bit_is, hb]
/-- the first k rows lead on -/
def leadK (m s : Nat) (bh : List Nat) (k : Nat) : List Nat := bh.mapIdx fun i x => if i < k ∧ m.testBit i then x ||| s else x
theorem leadK_get (m s : Nat) (bh : List Nat) (k a : Nat) : (leadK m s bh k)[a]? = (bh[a]?).map fun x => if a < k ∧ m.testBit a then x ||| s else x := by
  simp [leadK, List.getElem?_mapIdx]
theorem leadK_len (m s : Nat) (bh : List Nat) (k : Nat) : (leadK m s bh k).length = bh.length := by simp [leadK]
theorem lead_ok (c : Cs) (w : Wn) (bh : List Nat) (m s : Nat) (h : bh.length ≤ 1000) :
    phi_PatternNet_lead c [netO c.PatternNet w bh, .fz (.int (m : Int)), .fz (.int (s : Int))] = .ok (.fz .non, [netO c.PatternNet w (leadL m s bh)]) := by
  have L := forR_inv (t := tgN 3) (f := body1_PatternNet_lead c) (rangeD 0 bh.length)
    (fun i δ => ∃ x3 : Option O, δ = [some (netO c.PatternNet w (leadK m s bh i)), some (.fz (.int (m : Int))), some (.fz (.int (s : Int))), x3])
    [some (netO c.PatternNet w bh), some (.fz (.int (m : Int))), some (.fz (.int (s : Int))), none]
    (fun i d δ hd h' => by
      obtain ⟨x3, rfl⟩ := h'
      obtain ⟨hi, rfl⟩ := rangeD_get hd
      have hx : (leadK m s bh i)[i]? = some bh[i] := by rw [leadK_get, List.getElem?_eq_getElem hi]; simp
      have e := b1_lead c w (leadK m s bh i) m s i _ hx
      refine ⟨_, rfl, _, by rw [Int.zero_add]; exact e, some (.fz (.int (i : Int))), ?_⟩
      have : (if m.testBit i = true then (leadK m s bh i).set i (bh[i] ||| s) else leadK m s bh i) = leadK m s bh (i + 1) := by
        apply List.ext_getElem?
        intro a
        by_cases hb : m.testBit i = true
        · rw [if_pos hb]
          by_cases ha : i = a
          · subst ha
            rw [List.getElem?_set_self (by rw [leadK_len]; exact hi), leadK_get, List.getElem?_eq_getElem hi]
            simp [hb]
          · rw [List.getElem?_set_ne ha, leadK_get, leadK_get]
            have : (a < i ∧ m.testBit a = true) = (a < i + 1 ∧ m.testBit a = true) := propext ⟨fun h => ⟨by omega, h.2⟩, fun h => ⟨by omega, h.2⟩⟩
            simp only [this]
        · rw [if_neg hb, leadK_get, leadK_get]
          have : (a < i ∧ m.testBit a = true) = (a < i + 1 ∧ m.testBit a = true) := propext ⟨fun h => ⟨by omega, h.2⟩, fun h => ⟨by
            by_cases q : a = i
            · subst q; exact absurd h.2 hb
            · omega, h.2⟩⟩
          simp only [this]
      rw [this]) ⟨none, by
        have : leadK m s bh 0 = bh := by
          apply List.ext_getElem?
          intro a
          rw [leadK_get]; simp
        rw [this]⟩
  obtain ⟨δ', e, x3, rfl⟩ := L
  rw [rangeD_len] at e
  have : leadK m s bh bh.length = leadL m s bh := by
    apply List.ext_getElem?
    intro a
    rw [leadK_get, leadL_get]
    cases q : bh[a]? with
    | none => rfl
    | some x =>
      have := (List.getElem?_eq_some_iff.mp q).1
      simp [this]
  rw [this] at e
  have e0 : wR1 (gaCons (gS (fLenP (pF c.PatternNet "behind" (pV 0)))) gaNil) [some (netO c.PatternNet w bh), some (.fz (.int (m : Int))), some (.fz (.int (s : Int))), none] =
      .ok (rangeD 0 bh.length, [some (netO c.PatternNet w bh), some (.fz (.int (m : Int))), some (.fz (.int (s : Int))), none]) := rng1 (by simp) ⟨_, _, rfl⟩ (by omega)
  rw [go_PatternNet_lead]
  simp [run_PatternNet_lead, -e_wR1, e0, e]
end DL

namespace DL
open PySem L2

theorem bL_app0 (bh : List Nat) : bL_ bh ++ [.fz (.int 0)] = bL_ (bh ++ [0]) := by simp [bL_]
theorem event_ok (c : Cs) (w : Wn) (bh : List Nat) (x : Option Str) (h : w.length = bh.length) (hl : w.length ≤ 900) :
    phi_PatternNet_laid_event c [netO c.PatternNet w bh, .fz (wD x)] = .ok (.fz (.tup [.bl false, .int ((2 ^ w.length : Nat) : Int), .int ((2 ^ w.length : Nat) : Int)]), [netO c.PatternNet (w ++ [x]) (bh ++ [0])]) := by
  have e1 : (w.length : Int) ≤ 1000 := by omega
  have e2 : w.length < 100000 := by omega
  have e3 : bh.length < 100000 := by omega
  rw [go_PatternNet_laid_event]
  simp [run_PatternNet_laid_event, e1, e2, e3, wL_app, bL_app0]
theorem leadL_app {m s : Nat} {bh v : List Nat} (h : ∀ a, Tb m a → bh.length ≤ a) : ∃ v', leadL m s (bh ++ v) = bh ++ v' ∧ v'.length = v.length := by
  refine ⟨(leadL m s (bh ++ v)).drop bh.length, ?_, by rw [List.length_drop, leadL_len]; simp⟩
  conv => lhs; rw [← List.take_append_drop bh.length (leadL m s (bh ++ v))]
  congr 1
  apply List.ext_getElem?
  intro a
  rw [List.getElem?_take]
  by_cases ha : a < bh.length
  · rw [if_pos ha, leadL_get, List.getElem?_append_left ha, List.getElem?_eq_getElem ha]
    have : ¬ m.testBit a = true := fun z => by have := h a z; omega
    simp [this]
  · rw [if_neg ha, List.getElem?_eq_none (by omega)]
theorem b1_row (c : Cs) (Φ : Ph) (M : Option O) (w1 w2 : Wn) (bh1 bh2 : List Nat) (e e2 : Bool) (f l f2 l2 : Nat) (m : D) (x6 x7 x8 : Option O) (hb : bh2.length ≤ 1000)
    (hΦ : Φ [netO c.PatternNet w1 bh1, .fz m] = .ok (.fz (.tup [.bl e2, .int (f2 : Int), .int (l2 : Int)]), [netO c.PatternNet w2 bh2])) :
    body1_PatternNet_laid_row c Φ [some (netO c.PatternNet w1 bh1), M, some (.fz (.bl e)), some (.fz (.int (f : Int))), some (.fz (.int (l : Int))), some (.fz m), x6, x7, x8] =
      .ok (.nx [some (netO c.PatternNet w2 (leadL l f2 bh2)), M, some (.fz (.bl (e && e2))), some (.fz (.int ((if e then f ||| f2 else f : Nat) : Int))), some (.fz (.int ((if e2 then l ||| l2 else l2 : Nat) : Int))), some (.fz m), some (.fz (.bl e2)), some (.fz (.int (f2 : Int))), some (.fz (.int (l2 : Int)))]) := by
  have hL := lead_ok c w2 bh2 l f2 hb
  cases e <;> cases e2 <;> simp [body1_PatternNet_laid_row, hΦ, hL, or_nat]
theorem b1_eit (c : Cs) (Φ : Ph) (M : Option O) (w1 w2 : Wn) (bh1 bh2 : List Nat) (e e2 : Bool) (f l f2 l2 : Nat) (m : D) (x6 x7 x8 : Option O)
    (hΦ : Φ [netO c.PatternNet w1 bh1, .fz m] = .ok (.fz (.tup [.bl e2, .int (f2 : Int), .int (l2 : Int)]), [netO c.PatternNet w2 bh2])) :
    body1_PatternNet_laid_either c Φ [some (netO c.PatternNet w1 bh1), M, some (.fz (.bl e)), some (.fz (.int (f : Int))), some (.fz (.int (l : Int))), some (.fz m), x6, x7, x8] =
      .ok (.nx [some (netO c.PatternNet w2 bh2), M, some (.fz (.bl (e || e2))), some (.fz (.int ((f ||| f2 : Nat) : Int))), some (.fz (.int ((l ||| l2 : Nat) : Int))), some (.fz m), some (.fz (.bl e2)), some (.fz (.int (f2 : Int))), some (.fz (.int (l2 : Int)))]) := by
  cases e <;> cases e2 <;> simp [body1_PatternNet_laid_either, hΦ, or_nat]
theorem Pat.cntL_take (l : List Pat) (i : Nat) (p : Pat) (h : l[i]? = some p) : Pat.cntL (l.take (i + 1)) = Pat.cntL (l.take i) + p.cnt := by
  have app : ∀ a b : List Pat, Pat.cntL (a ++ b) = Pat.cntL a + Pat.cntL b := by
    intro a b
    induction a with
    | nil => simp [Pat.cntL]
    | cons q r ih => rw [List.cons_append, Pat.cntL, Pat.cntL, ih]; omega
  rw [List.take_succ, h, app]
  simp [Pat.cntL]
theorem Pat.cntL_le (l : List Pat) (i : Nat) : Pat.cntL (l.take i) ≤ Pat.cntL l := by
  induction l generalizing i with
  | nil => simp [Pat.cntL]
  | cons p r ih =>
    cases i with
    | zero => simp [Pat.cntL]
    | succ i => rw [List.take_succ_cons, Pat.cntL, Pat.cntL]; have := ih i; omega
theorem laid_ok (c : Cs) (b : Bool) (d : List Str) (nm : Str → Prop) : ∀ (n : Nat) (pt : Pat), pt.hgt ≤ n → pt.Wf nm → ∀ (w : Wn) (bh : List Nat), w.length = bh.length → w.length + pt.cnt ≤ 900 →
    ∃ (u : Wn) (v : List Nat) (e : Bool) (f l : Nat), NetOk d w.length (w ++ u) (bh ++ v) e f l (Mt d pt) ∧ u.length ≤ pt.cnt ∧
      phi_PatternNet_laid c n [netO c.PatternNet w bh, .fz (pt.toD b)] = .ok (.fz (.tup [.bl e, .int (f : Int), .int (l : Int)]), [netO c.PatternNet (w ++ u) (bh ++ v)])
  | 0, pt, h, _, _, _, _, _ => by cases pt <;> simp [Pat.hgt] at h
  | n + 1, .any, _, _, w, bh, hl, hs => by
    have e := event_ok c w bh none hl (by omega)
    refine ⟨[none], [0], false, _, _, (NetOk.event (d := d) hl none).cast fun s t => ?_, by simp [Pat.cnt], ?_⟩
    · simp only [Mt]
      constructor
      · rintro ⟨⟨ev, h, _⟩, rfl⟩
        exact ⟨(List.getElem?_eq_some_iff.mp h).1, rfl⟩
      · rintro ⟨h, rfl⟩
        exact ⟨⟨_, List.getElem?_eq_getElem h, .inl trivial⟩, rfl⟩
    · rw [go_PatternNet_laid]
      simp only [wD] at e
      simp [run_PatternNet_laid, Pat.toD, e]
  | n + 1, .one a, _, _, w, bh, hl, hs => by
    have e := event_ok c w bh (some a) hl (by omega)
    refine ⟨[some a], [0], false, _, _, (NetOk.event (d := d) hl (some a)).cast fun s t => ?_, by simp [Pat.cnt], ?_⟩
    · simp only [Mt]
      constructor
      · rintro ⟨⟨ev, h, h2⟩, rfl⟩
        rcases h2 with h2 | h2
        · cases h2
        · cases h2; exact ⟨h, rfl⟩
      · rintro ⟨h, rfl⟩
        exact ⟨⟨a, h, .inr rfl⟩, rfl⟩
    · rw [go_PatternNet_laid]
      simp only [wD] at e
      simp [run_PatternNet_laid, Pat.toD, e]
  | n + 1, .many p, h, wf, w, bh, hl, hs => by
    obtain ⟨u, v, e, f, l, N, hu, he⟩ := laid_ok c b d nm n p (by simp [Pat.hgt] at h; omega) wf w bh hl (by simp [Pat.cnt] at hs; omega)
    obtain ⟨v', ev, lv⟩ := leadL_app (m := l) (s := f) (bh := bh) (v := v) fun a z => by have := N.blk.l a z; omega
    have N' := N.star
    rw [ev] at N'
    have hlen := N.len
    have hL := lead_ok c (w ++ u) (bh ++ v) l f (by rw [← hlen]; simp [Pat.cnt] at hs ⊢; omega)
    rw [ev] at hL
    refine ⟨u, v', true, f, l, N', by simp [Pat.cnt]; omega, ?_⟩
    rw [go_PatternNet_laid]
    simp [run_PatternNet_laid, Pat.toD, he, hL]
  | n + 1, .row ps, h, wf, w, bh, hl, hs => by
    have L := forR_inv (t := tgN 5) (f := body1_PatternNet_laid_row c (phi_PatternNet_laid c n)) (Pat.toDL b ps)
      (fun i δ => ∃ (u : Wn) (v : List Nat) (e : Bool) (f l : Nat) (x5 x6 x7 x8 : Option O), NetOk d w.length (w ++ u) (bh ++ v) e f l (MtR d (ps.take i)) ∧ u.length ≤ Pat.cntL (ps.take i) ∧
        δ = [some (netO c.PatternNet (w ++ u) (bh ++ v)), some (.fz (sq b (Pat.toDL b ps))), some (.fz (.bl e)), some (.fz (.int (f : Int))), some (.fz (.int (l : Int))), x5, x6, x7, x8])
      [some (netO c.PatternNet w bh), some (.fz (sq b (Pat.toDL b ps))), some (.fz (.bl true)), some (.fz (.int 0)), some (.fz (.int 0)), none, none, none, none]
      (fun i dd δ hd h' => by
        obtain ⟨u, v, e, f, l, x5, x6, x7, x8, N, hu, rfl⟩ := h'
        rw [Pat.toDL_map, List.getElem?_map] at hd
        cases q : ps[i]? with
        | none => rw [q] at hd; cases hd
        | some p =>
          rw [q] at hd; cases hd
          have hp : p ∈ ps := List.mem_of_getElem? q
          have hc := Pat.cntL_take ps i p q
          have hc2 := Pat.cntL_le ps (i + 1)
          have hs' : w.length + (1 + Pat.cntL ps) ≤ 900 := hs
          obtain ⟨u2, v2, e2, f2, l2, N2, hu2, he2⟩ := laid_ok c b d nm n p (by have := Pat.hgt_mem hp; simp [Pat.hgt] at h; omega) (Pat.wfL_mem.mp wf.2.2 p hp) (w ++ u) (bh ++ v) N.len (by rw [List.length_append]; omega)
          have N3 := N.concat N2
          have hlen := N2.len
          have B := b1_row c (phi_PatternNet_laid c n) (some (.fz (sq b (Pat.toDL b ps)))) _ _ _ _ e e2 f l f2 l2 (p.toD b) x6 x7 x8 (by rw [← hlen]; simp; omega) he2
          obtain ⟨v', ev, lv⟩ := leadL_app (m := l) (s := f2) (bh := bh) (v := v ++ v2) fun a z => by have := N.blk.l a z; omega
          rw [List.append_assoc bh v v2, ev, List.append_assoc] at N3 B
          refine ⟨_, rfl, _, B, u ++ u2, v', _, _, _, _, _, _, _, N3.cast fun s t => ?_, by rw [List.length_append]; omega, rfl⟩
          rw [List.take_succ, q]
          exact (mtR_snoc d p (ps.take i) s t).symm) ⟨[], [], true, 0, 0, none, none, none, none, by
            have := NetOk.nil (d := d) hl true
            simp only [List.append_nil, List.take_zero]
            exact this.cast fun s t => by simp [MtR], by simp [Pat.cntL], by simp⟩
    obtain ⟨δ', e1, u, v, e, f, l, x5, x6, x7, x8, N, hu, rfl⟩ := L
    have hk : ps.take (Pat.toDL b ps).length = ps := by rw [Pat.toDL_map, List.length_map, List.take_length]
    rw [hk] at N hu
    refine ⟨u, v, e, f, l, N, by simp [Pat.cnt]; omega, ?_⟩
    have R : phi_PatternNet_laid_row c (phi_PatternNet_laid c n) [netO c.PatternNet w bh, .fz (sq b (Pat.toDL b ps))] = .ok (.fz (.tup [.bl e, .int (f : Int), .int (l : Int)]), [netO c.PatternNet (w ++ u) (bh ++ v)]) := by
      rw [go_PatternNet_laid_row]
      simp [run_PatternNet_laid_row, e1]
    rw [go_PatternNet_laid]
    simp [run_PatternNet_laid, Pat.toD, R]
  | n + 1, .eit ps, h, wf, w, bh, hl, hs => by
    have L := forR_inv (t := tgN 5) (f := body1_PatternNet_laid_either c (phi_PatternNet_laid c n)) (Pat.toDL b ps)
      (fun i δ => ∃ (u : Wn) (v : List Nat) (e : Bool) (f l : Nat) (x5 x6 x7 x8 : Option O), NetOk d w.length (w ++ u) (bh ++ v) e f l (MtE d (ps.take i)) ∧ u.length ≤ Pat.cntL (ps.take i) ∧
        δ = [some (netO c.PatternNet (w ++ u) (bh ++ v)), some (.fz (sq b (Pat.toDL b ps))), some (.fz (.bl e)), some (.fz (.int (f : Int))), some (.fz (.int (l : Int))), x5, x6, x7, x8])
      [some (netO c.PatternNet w bh), some (.fz (sq b (Pat.toDL b ps))), some (.fz (.bl false)), some (.fz (.int 0)), some (.fz (.int 0)), none, none, none, none]
      (fun i dd δ hd h' => by
        obtain ⟨u, v, e, f, l, x5, x6, x7, x8, N, hu, rfl⟩ := h'
        rw [Pat.toDL_map, List.getElem?_map] at hd
        cases q : ps[i]? with
        | none => rw [q] at hd; cases hd
        | some p =>
          rw [q] at hd; cases hd
          have hp : p ∈ ps := List.mem_of_getElem? q
          have hc := Pat.cntL_take ps i p q
          have hc2 := Pat.cntL_le ps (i + 1)
          have hs' : w.length + (1 + Pat.cntL ps) ≤ 900 := hs
          obtain ⟨u2, v2, e2, f2, l2, N2, hu2, he2⟩ := laid_ok c b d nm n p (by have := Pat.hgt_mem hp; simp [Pat.hgt] at h; omega) (Pat.wfL_mem.mp wf.2.2 p hp) (w ++ u) (bh ++ v) N.len (by rw [List.length_append]; omega)
          have N3 := N.union N2
          have B := b1_eit c (phi_PatternNet_laid c n) (some (.fz (sq b (Pat.toDL b ps)))) _ _ _ _ e e2 f l f2 l2 (p.toD b) x6 x7 x8 he2
          rw [List.append_assoc, List.append_assoc] at N3 B
          refine ⟨_, rfl, _, B, u ++ u2, v ++ v2, _, _, _, _, _, _, _, N3.cast fun s t => ?_, by rw [List.length_append]; omega, rfl⟩
          rw [List.take_succ, q]
          exact (mtE_snoc d p (ps.take i) s t).symm) ⟨[], [], false, 0, 0, none, none, none, none, by
            have := NetOk.nil (d := d) hl false
            simp only [List.append_nil, List.take_zero]
            exact this.cast fun s t => by simp [MtE], by simp [Pat.cntL], by simp⟩
    obtain ⟨δ', e1, u, v, e, f, l, x5, x6, x7, x8, N, hu, rfl⟩ := L
    have hk : ps.take (Pat.toDL b ps).length = ps := by rw [Pat.toDL_map, List.length_map, List.take_length]
    rw [hk] at N hu
    refine ⟨u, v, e, f, l, N, by simp [Pat.cnt]; omega, ?_⟩
    have R : phi_PatternNet_laid_either c (phi_PatternNet_laid c n) [netO c.PatternNet w bh, .fz (sq b (Pat.toDL b ps))] = .ok (.fz (.tup [.bl e, .int (f : Int), .int (l : Int)]), [netO c.PatternNet (w ++ u) (bh ++ v)]) := by
      rw [go_PatternNet_laid_either]
      simp [run_PatternNet_laid_either, e1]
    rw [go_PatternNet_laid]
    simp [run_PatternNet_laid, Pat.toD, R]
end DL

namespace DL
open PySem L2

@[simp] theorem fold_net : ([("wanted", O.lst []), ("behind", O.lst [])] : List (Str × O)) = netF [] [] := rfl
def iL (bh : List Nat) : List D := bh.map fun (n : Nat) => .int (n : Int)
/-- the finished net -/
def netH (w : Wn) (bh : List Nat) (st : Nat) : List (Str × O) := [("wanted", .lst (wL_ w)), ("behind", .lst (bL_ bh)), ("start", .fz (.int (st : Int)))]
def netG (w : Wn) (bh : List Nat) (st : Nat) : List (Str × D) := [("wanted", .lst (w.map wD)), ("behind", .lst (iL bh)), ("start", .int (st : Int))]
@[simp] theorem put_s (w : Wn) (bh : List Nat) (st : Nat) : putA "start" (.fz (.int (st : Int))) (netF w bh) = netH w bh st := by simp [netF, netH]
@[simp] theorem netF_len (w : Wn) (bh : List Nat) : (netF w bh).length = 2 := rfl
@[simp] theorem toDF_net (w : Wn) (bh : List Nat) (st : Nat) : O.toDF (netH w bh st) = netG w bh st := by
  simp [netH, netG, toDL_map, wL_, bL_, iL, Function.comp_def]
@[simp] theorem lookG_w (w : Wn) (bh : List Nat) (st : Nat) : (netG w bh st).lookup ("wanted" : Str) = some (.lst (w.map wD)) := by simp [netG]
@[simp] theorem lookG_b (w : Wn) (bh : List Nat) (st : Nat) : (netG w bh st).lookup ("behind" : Str) = some (.lst (iL bh)) := by simp [netG, List.lookup_cons]
@[simp] theorem lookG_s (w : Wn) (bh : List Nat) (st : Nat) : (netG w bh st).lookup ("start" : Str) = some (.int (st : Int)) := by simp [netG, List.lookup_cons]
@[simp] theorem lookG_1 (w : Wn) (bh : List Nat) (st : Nat) : (netG w bh st).lookup ("after" : Str) = none := by simp [netG]
@[simp] theorem lookG_2 (w : Wn) (bh : List Nat) (st : Nat) : (netG w bh st).lookup ("ends" : Str) = none := by simp [netG]
abbrev netD (C : Addr) (w : Wn) (bh : List Nat) (st : Nat) : D := .obj C (netG w bh st)
theorem init_ok (c : Cs) (b : Bool) (d : List Str) (nm : Str → Prop) (pt : Pat) (w0 : pt.Wf nm) (hh : pt.hgt ≤ 6) (hc : pt.cnt ≤ 900) :
    ∃ (w : Wn) (bh : List Nat) (e : Bool) (f l : Nat), NetOk d 0 w bh e f l (Mt d pt) ∧ w.length ≤ pt.cnt ∧
      phi_PatternNet_init c [.ins c.PatternNet [], .fz (pt.toD b)] = .ok (.fz .non, [.ins c.PatternNet (netH w (leadL l (2 ^ w.length) bh) (if e then f ||| 2 ^ w.length else f))]) := by
  obtain ⟨w, bh, e, f, l, N, hw, h⟩ := laid_ok c b d nm 6 pt hh w0 [] [] rfl (by simpa using hc)
  rw [List.nil_append, List.nil_append] at N h
  refine ⟨w, bh, e, f, l, N, hw, ?_⟩
  have hL := lead_ok c w bh l (2 ^ w.length) (by rw [← N.len]; omega)
  have e1 : (w.length : Int) ≤ 1000 := by omega
  have e2 : ((2 ^ w.length : Nat) : Int) = (2 : Int) ^ w.length := by simp
  rw [e2] at hL
  rw [go_PatternNet_init]
  cases e
  · simp [run_PatternNet_init, h, e1, hL]
  · have e3 : Builtin.bitOr (f : Int) ((2 : Int) ^ w.length) = ((f ||| 2 ^ w.length : Nat) : Int) := by rw [← e2, or_nat]
    simp [run_PatternNet_init, h, e1, hL, e3]
theorem after_ok (c : Cs) (w : Wn) (bh : List Nat) (st m : Nat) (ev : Str) (hl : w.length = bh.length) :
    ∃ r : Nat, phi_PatternNet_after c [.fz (netD c.PatternNet w bh st), .fz (.int (m : Int)), .fz (.str ev)] = .ok (.fz (.int (r : Int)), []) ∧
      ∀ x, Tb r x ↔ ∃ a, Tb m a ∧ (∃ y, w[a]? = some y ∧ (y = none ∨ y = some ev)) ∧ ∃ z, bh[a]? = some z ∧ Tb z x := by
  have L := forR_inv (t := tgTup 2 (tgCons (tgN 4) (tgCons (tgN 5) tgNil))) (f := body1_PatternNet_after c) (enumD 0 (w.map wD))
    (fun i δ => ∃ (r : Nat) (x4 x5 : Option O), δ = [some (.fz (netD c.PatternNet w bh st)), some (.fz (.int (m : Int))), some (.fz (.str ev)), some (.fz (.int (r : Int))), x4, x5] ∧
      ∀ x, Tb r x ↔ ∃ a, a < i ∧ Tb m a ∧ (∃ y, w[a]? = some y ∧ (y = none ∨ y = some ev)) ∧ ∃ z, bh[a]? = some z ∧ Tb z x)
    [some (.fz (netD c.PatternNet w bh st)), some (.fz (.int (m : Int))), some (.fz (.str ev)), some (.fz (.int 0)), none, none]
    (fun i dd δ hd h => by
      obtain ⟨r, x4, x5, rfl, hr⟩ := h
      obtain ⟨e, he, rfl⟩ := enumD_get hd
      rw [List.getElem?_map] at he
      cases q : w[i]? with
      | none => rw [q] at he; cases he
      | some y =>
        rw [q] at he; cases he
        have hi : i < w.length := (List.getElem?_eq_some_iff.mp q).1
        have hz : bh[i]? = some (bh[i]'(by omega)) := List.getElem?_eq_getElem (by omega)
        have ha : atI (iL bh) (i : Int) = some (.int ((bh[i]'(by omega) : Nat) : Int)) := atI_nat (by simp [iL, hz])
        have more : ∀ (x : Nat), (∃ a, a < i + 1 ∧ Tb m a ∧ (∃ y, w[a]? = some y ∧ (y = none ∨ y = some ev)) ∧ ∃ z, bh[a]? = some z ∧ Tb z x) ↔
            (∃ a, a < i ∧ Tb m a ∧ (∃ y, w[a]? = some y ∧ (y = none ∨ y = some ev)) ∧ ∃ z, bh[a]? = some z ∧ Tb z x) ∨ (Tb m i ∧ (y = none ∨ y = some ev) ∧ Tb (bh[i]'(by omega)) x) := fun x => by
          constructor
          · rintro ⟨a, h1, h2, ⟨y', h3, h4⟩, z, h5, h6⟩
            by_cases e : a = i
            · subst e
              rw [q] at h3; cases h3
              rw [hz] at h5; cases h5
              exact .inr ⟨h2, h4, h6⟩
            · exact .inl ⟨a, by omega, h2, ⟨y', h3, h4⟩, z, h5, h6⟩
          · rintro (⟨a, h1, h2⟩ | ⟨h1, h2, h3⟩)
            · exact ⟨a, by omega, h2⟩
            · exact ⟨i, by omega, h1, ⟨y, q, h2⟩, _, hz, h3⟩
        refine ⟨_, rfl, ?_⟩
        by_cases hb : m.testBit i = true
        · by_cases hy : y = none ∨ y = some ev
          · refine ⟨[some (.fz (netD c.PatternNet w bh st)), some (.fz (.int (m : Int))), some (.fz (.str ev)), some (.fz (.int ((r ||| bh[i]'(by omega) : Nat) : Int))), some (.fz (.int (0 + (i : Nat)))), some (.fz (wD y))], ?_, _, _, _, rfl, fun x => ?_⟩
            · rcases hy with rfl | rfl
              · simp [body1_PatternNet_after, bit_is, hb, ha, or_nat, wD]
              · simp [body1_PatternNet_after, bit_is, hb, ha, or_nat, wD]
            · rw [more, Tb.or, hr x]
              exact or_congr Iff.rfl ⟨fun h => ⟨hb, hy, h⟩, fun h => h.2.2⟩
          · refine ⟨[some (.fz (netD c.PatternNet w bh st)), some (.fz (.int (m : Int))), some (.fz (.str ev)), some (.fz (.int (r : Int))), some (.fz (.int (0 + (i : Nat)))), some (.fz (wD y))], ?_, _, _, _, rfl, fun x => ?_⟩
            · cases y with
              | none => exact absurd (.inl rfl) hy
              | some s =>
                have : ¬ s = ev := fun z => hy (.inr (by rw [z]))
                simp [body1_PatternNet_after, bit_is, hb, wD, this, isNonD]
            · rw [more, hr x]
              exact ⟨.inl, fun h => h.elim id fun h => absurd h.2.1 hy⟩
        · refine ⟨[some (.fz (netD c.PatternNet w bh st)), some (.fz (.int (m : Int))), some (.fz (.str ev)), some (.fz (.int (r : Int))), some (.fz (.int (0 + (i : Nat)))), some (.fz (wD y))], ?_, _, _, _, rfl, fun x => ?_⟩
          · simp [body1_PatternNet_after, bit_is, hb]
          · rw [more, hr x]
            exact ⟨.inl, fun h => h.elim id fun h => absurd h.1 hb⟩) ⟨0, none, none, rfl, fun x => by simp [Tb]⟩
  obtain ⟨δ', e, r, x4, x5, rfl, hr⟩ := L
  refine ⟨r, ?_, fun x => ?_⟩
  · rw [go_PatternNet_after]
    simp [run_PatternNet_after, e]
  · rw [hr x, enumD_len, List.length_map]
    constructor
    · rintro ⟨a, _, h⟩; exact ⟨a, h⟩
    · rintro ⟨a, h⟩
      obtain ⟨_, ⟨y, h3, _⟩, _⟩ := id h
      exact ⟨a, (List.getElem?_eq_some_iff.mp h3).1, h⟩
theorem ends_ok (c : Cs) (w : Wn) (bh : List Nat) (st m : Nat) :
    phi_PatternNet_ends c [.fz (netD c.PatternNet w bh st), .fz (.int (m : Int))] = .ok (.fz (.bl (m.testBit w.length)), []) := by
  rw [go_PatternNet_ends]
  cases h : m.testBit w.length <;> simp [run_PatternNet_ends, bit_is, h]
/-! ### fits, first_end -/
theorem netOk_lab {d : List Str} {w : Wn} {a i : Nat} (h : labO d w a i) : a < w.length := by
  obtain ⟨x, ev, h, _⟩ := h
  exact (List.getElem?_eq_some_iff.mp h).1
/-- one event: what the next state holds -/
theorem after_rel {d : List Str} {w : Wn} {bh : List Nat} {e : Bool} {f l : Nat} {R : Nat → Nat → Prop} (N : NetOk d 0 w bh e f l R) {m r t : Nat} {ev : Str} (ht : d[t]? = some ev)
    (h : ∀ x, Tb r x ↔ ∃ a, Tb m a ∧ (∃ y, w[a]? = some y ∧ (y = none ∨ y = some ev)) ∧ ∃ z, (leadL l (2 ^ w.length) bh)[a]? = some z ∧ Tb z x) (x : Nat) :
    Tb r x ↔ ∃ a, Tb m a ∧ labO d w a t ∧ (Eb 0 bh a x ∨ (Tb l a ∧ x = w.length)) := by
  rw [h x]
  have hE : ∀ a, (∃ z, (leadL l (2 ^ w.length) bh)[a]? = some z ∧ Tb z x) ↔ Eb 0 bh a x ∨ (Tb l a ∧ x = w.length) := fun a => by
    have := eb_leadL (n0 := 0) (m := l) (s := 2 ^ w.length) (bh := bh) (a := a) (b := x) fun y hy => by have := N.blk.l y hy; rw [← N.len]; omega
    rw [tb_one] at this
    rw [← this]
    exact ⟨fun h => ⟨Nat.zero_le _, h⟩, fun h => h.2⟩
  constructor
  · rintro ⟨a, h1, ⟨y, h2, h3⟩, h4⟩
    exact ⟨a, h1, ⟨y, ev, h2, ht, h3⟩, (hE a).mp h4⟩
  · rintro ⟨a, h1, ⟨y, ev', h2, h3, h4⟩, h5⟩
    rw [ht] at h3; cases h3
    exact ⟨a, h1, ⟨y, h2, h4⟩, (hE a).mpr h5⟩
theorem fits_ok (c : Cs) (b b' : Bool) (nm : Str → Prop) (hn : ∀ s, nm s → NameOk s) (pt : Pat) (wf : pt.Wf nm) (hh : pt.hgt ≤ 5) (hc : pt.cnt ≤ 12) (d : List Str) (hl : d.length ≤ 30) (hd : ∀ s ∈ d, NameOk s) :
    ∃ r : Bool, phi_fits c [.fz (pt.toD b), .fz (diD b' d)] = .ok (.fz (.bl r), []) ∧ (r = true ↔ Mt d pt 0 d.length) := by
  obtain ⟨w, bh, e, f, l, N, hw, hi⟩ := init_ok c b d nm pt wf (by omega) (by omega)
  have hch := check_is c b b' nm hn pt wf hh hc d hl hd
  generalize hst : (if e = true then f ||| 2 ^ w.length else f) = st at hi
  generalize hb2 : leadL l (2 ^ w.length) bh = bh2 at hi
  have hlen : w.length = bh2.length := by rw [← hb2, leadL_len]; exact N.len
  have st0 : ∀ x, Tb st x ↔ Tb f x ∨ (e = true ∧ x = w.length) := fun x => by rw [← hst, Tb.ite, tb_one]
  have L := forR_inv (t := tgN 4) (f := body1_fits c) (d.map D.str)
    (fun i δ => ∃ (S : Nat → Nat → Prop) (m : Nat) (x4 : Option O), δ = [some (.fz (pt.toD b)), some (.fz (diD b' d)), some (.fz (netD c.PatternNet w bh2 st)), some (.fz (.int (m : Int))), x4] ∧
      (∀ x, S 0 x ↔ Tb f x ∨ (e = true ∧ x = w.length)) ∧ (∀ t, t < i → ∀ x, S (t + 1) x ↔ ∃ a, S t a ∧ labO d w a t ∧ (Eb 0 bh a x ∨ (Tb l a ∧ x = w.length))) ∧ ∀ x, S i x ↔ Tb m x)
    [some (.fz (pt.toD b)), some (.fz (diD b' d)), some (.fz (netD c.PatternNet w bh2 st)), some (.fz (.int (st : Int))), none]
    (fun i dd δ hd h => by
      obtain ⟨S, m, x4, rfl, h1, h2, h3⟩ := h
      rw [List.getElem?_map] at hd
      cases q : d[i]? with
      | none => rw [q] at hd; cases hd
      | some ev =>
        rw [q] at hd; cases hd
        obtain ⟨r, e1, e2⟩ := after_ok c w bh2 st m ev hlen
        rw [← hb2] at e2
        have e3 := after_rel N q e2
        refine ⟨_, rfl, [some (.fz (pt.toD b)), some (.fz (diD b' d)), some (.fz (netD c.PatternNet w bh2 st)), some (.fz (.int (r : Int))), some (.fz (.str ev))], by simp [body1_fits, e1], fun t x => if t = i + 1 then Tb r x else S t x, r, _, rfl, fun x => ?_, fun t ht x => ?_, fun x => ?_⟩
        · simp [h1 x]
        · by_cases hti : t = i
          · subst hti
            simp only [if_pos, if_neg (show ¬ t = t + 1 by omega)]
            rw [e3 x]
            exact exists_congr fun a => by rw [h3 a]
          · simp only [if_neg (show ¬ t + 1 = i + 1 by omega), if_neg (show ¬ t = i + 1 by omega)]
            exact h2 t (by omega) x
        · simp) ⟨fun t x => Tb st x, st, none, rfl, st0, fun t ht => by omega, fun x => Iff.rfl⟩
  obtain ⟨δ', e1, S, m, x4, rfl, h1, h2, h3⟩ := L
  rw [List.length_map] at h2 h3
  have K := sim (T := d.length) (P0 := fun s => s = 0) (S := S) N.blk (fun a i h => netOk_lab h) rfl h1 (fun t ht x => by
    rw [h2 t ht x]
    exact ⟨.inr, fun h => h.elim (fun h => by have := h.1; omega) id⟩) d.length (Nat.le_refl _)
  refine ⟨m.testBit w.length, ?_, ?_⟩
  · rw [go_fits]
    have hz := ends_ok c w bh2 st m
    have ha : anyD (diD b' d) = some (d.map D.str) := by simp [diD]
    simp [run_fits, hch, hi, e1, hz, ha]
  · have := K.2
    rw [h3] at this
    rw [show (m.testBit w.length = true) = Tb m w.length from rfl, this]
    constructor
    · rintro ⟨s, rfl, h⟩; exact (N.lg _ _).mp h
    · intro h; exact ⟨0, rfl, (N.lg _ _).mpr h⟩
theorem first_ok (c : Cs) (b b' : Bool) (nm : Str → Prop) (hn : ∀ s, nm s → NameOk s) (pt : Pat) (wf : pt.Wf nm) (hh : pt.hgt ≤ 5) (hc : pt.cnt ≤ 12) (d : List Str) (hl : d.length ≤ 30) (hd : ∀ s ∈ d, NameOk s) :
    ∃ r : D, phi_first_end c [.fz (pt.toD b), .fz (diD b' d)] = .ok (.fz r, []) ∧
      ((r = .non ∧ ∀ t, t ≤ d.length → ∀ s, ¬ Mt d pt s t) ∨ ∃ t : Nat, r = .int (t : Int) ∧ t ≤ d.length ∧ (∃ s, Mt d pt s t) ∧ ∀ t', t' < t → ∀ s, ¬ Mt d pt s t') := by
  obtain ⟨w, bh, e, f, l, N, hw, hi⟩ := init_ok c b d nm pt wf (by omega) (by omega)
  have hch := check_is c b b' nm hn pt wf hh hc d hl hd
  generalize hst : (if e = true then f ||| 2 ^ w.length else f) = st at hi
  generalize hb2 : leadL l (2 ^ w.length) bh = bh2 at hi
  have hlen : w.length = bh2.length := by rw [← hb2, leadL_len]; exact N.len
  have st0 : ∀ x, Tb st x ↔ Tb f x ∨ (e = true ∧ x = w.length) := fun x => by rw [← hst, Tb.ite, tb_one]
  -- what a state tells, given the states up to it
  have tell : ∀ (T : Nat) (S : Nat → Nat → Prop), (∀ x, S 0 x ↔ Tb f x ∨ (e = true ∧ x = w.length)) →
      (∀ t, t < T → ∀ x, S (t + 1) x ↔ (Tb f x ∨ (e = true ∧ x = w.length)) ∨ ∃ a, S t a ∧ labO d w a t ∧ (Eb 0 bh a x ∨ (Tb l a ∧ x = w.length))) → (S T w.length ↔ ∃ s, Mt d pt s T) := fun T S h1 h2 => by
    have K := (sim (T := T) (P0 := fun _ => True) (S := S) N.blk (fun a i h => netOk_lab h) trivial h1 (fun t ht x => by
      rw [h2 t ht x]
      exact or_congr ⟨fun h => ⟨trivial, h⟩, fun h => h.2⟩ Iff.rfl) T (Nat.le_refl _)).2
    rw [K]
    exact ⟨fun ⟨s, _, h⟩ => ⟨s, (N.lg _ _).mp h⟩, fun ⟨s, h⟩ => ⟨s, trivial, (N.lg _ _).mpr h⟩⟩
  have hz := ends_ok c w bh2 st
  have t0 : st.testBit w.length = true ↔ ∃ s, Mt d pt s 0 := by
    have := tell 0 (fun _ x => Tb st x) st0 (fun t ht => by omega)
    exact this
  by_cases hs0 : st.testBit w.length = true
  · refine ⟨.int 0, ?_, .inr ⟨0, rfl, Nat.zero_le _, t0.mp hs0, fun t' h => by omega⟩⟩
    rw [go_first_end]
    simp [run_first_end, hch, hi, hz, hs0]
  · have L := forR_gen (t := tgTup 2 (tgCons (tgN 4) (tgCons (tgN 5) tgNil))) (f := body1_first_end c)
      (P := fun o => (∃ y ys, o = .nx (y :: ys) ∧ ∀ t, t ≤ d.length → ∀ s, ¬ Mt d pt s t) ∨ ∃ (t : Nat) (δ : DEnv), o = .rt (.fz (.int (t : Int))) δ ∧ t ≤ d.length ∧ (∃ s, Mt d pt s t) ∧ ∀ t', t' < t → ∀ s, ¬ Mt d pt s t') (enumD 0 (d.map D.str))
      (fun i δ => ∃ (S : Nat → Nat → Prop) (m : Nat) (x4 x5 : Option O), δ = [some (.fz (pt.toD b)), some (.fz (diD b' d)), some (.fz (netD c.PatternNet w bh2 st)), some (.fz (.int (m : Int))), x4, x5] ∧
        (∀ x, S 0 x ↔ Tb f x ∨ (e = true ∧ x = w.length)) ∧ (∀ t, t < i → ∀ x, S (t + 1) x ↔ (Tb f x ∨ (e = true ∧ x = w.length)) ∨ ∃ a, S t a ∧ labO d w a t ∧ (Eb 0 bh a x ∨ (Tb l a ∧ x = w.length))) ∧ (∀ x, S i x ↔ Tb m x) ∧
        ∀ t, t ≤ i → ∀ s, ¬ Mt d pt s t)
      [some (.fz (pt.toD b)), some (.fz (diD b' d)), some (.fz (netD c.PatternNet w bh2 st)), some (.fz (.int (st : Int))), none, none]
      (fun δ h => by
        obtain ⟨S, m, x4, x5, rfl, h1, h2, h3, h4⟩ := h
        rw [enumD_len, List.length_map] at h4
        exact .inl ⟨_, _, rfl, h4⟩)
      (fun i dd δ hd h => by
        obtain ⟨S, m, x4, x5, rfl, h1, h2, h3, h4⟩ := h
        obtain ⟨y, he, rfl⟩ := enumD_get hd
        rw [List.getElem?_map] at he
        cases q : d[i]? with
        | none => rw [q] at he; cases he
        | some ev =>
          rw [q] at he; cases he
          have hil := (List.getElem?_eq_some_iff.mp q).1
          obtain ⟨r, e1, e2⟩ := after_ok c w bh2 st m ev hlen
          rw [← hb2] at e2
          have e3 := after_rel N q e2
          have e4 : ∀ x, Tb (r ||| st) x ↔ (Tb f x ∨ (e = true ∧ x = w.length)) ∨ ∃ a, Tb m a ∧ labO d w a i ∧ (Eb 0 bh a x ∨ (Tb l a ∧ x = w.length)) := fun x => by
            rw [Tb.or, e3 x, st0 x, or_comm]
          have g1 : ∀ x, (fun t x => if t = i + 1 then Tb (r ||| st) x else S t x) 0 x ↔ Tb f x ∨ (e = true ∧ x = w.length) := fun x => by simp [h1 x]
          have g2 : ∀ t, t < i + 1 → ∀ x, (fun t x => if t = i + 1 then Tb (r ||| st) x else S t x) (t + 1) x ↔ (Tb f x ∨ (e = true ∧ x = w.length)) ∨ ∃ a, (fun t x => if t = i + 1 then Tb (r ||| st) x else S t x) t a ∧ labO d w a t ∧ (Eb 0 bh a x ∨ (Tb l a ∧ x = w.length)) := fun t ht x => by
            by_cases hti : t = i
            · subst hti
              simp only [if_pos, if_neg (show ¬ t = t + 1 by omega)]
              rw [e4 x]
              exact or_congr Iff.rfl (exists_congr fun a => by rw [h3 a])
            · simp only [if_neg (show ¬ t + 1 = i + 1 by omega), if_neg (show ¬ t = i + 1 by omega)]
              exact h2 t (by omega) x
          have g3 := tell (i + 1) (fun t x => if t = i + 1 then Tb (r ||| st) x else S t x) g1 g2
          simp only [if_pos] at g3
          refine ⟨[some (.fz (pt.toD b)), some (.fz (diD b' d)), some (.fz (netD c.PatternNet w bh2 st)), some (.fz (.int (m : Int))), some (.fz (.int (0 + (i : Nat)))), some (.fz (.str ev))], rfl, ?_⟩
          have g4 := hz (r ||| st)
          by_cases hb : (r ||| st).testBit w.length = true
          · refine ⟨.rt (.fz (.int ((i + 1 : Nat) : Int))) [some (.fz (pt.toD b)), some (.fz (diD b' d)), some (.fz (netD c.PatternNet w bh2 st)), some (.fz (.int ((r ||| st : Nat) : Int))), some (.fz (.int (0 + (i : Nat)))), some (.fz (.str ev))], ?_, .inr ⟨i + 1, _, rfl, by omega, g3.mp hb, fun t' ht' => h4 t' (by omega)⟩⟩
            rw [hb] at g4
            simp [body1_first_end, e1, or_nat, g4]
          · refine ⟨.nx [some (.fz (pt.toD b)), some (.fz (diD b' d)), some (.fz (netD c.PatternNet w bh2 st)), some (.fz (.int ((r ||| st : Nat) : Int))), some (.fz (.int (0 + (i : Nat)))), some (.fz (.str ev))], ?_, fun t x => if t = i + 1 then Tb (r ||| st) x else S t x, r ||| st, _, _, rfl, g1, g2, fun x => by simp, fun t ht s hm => ?_⟩
            · rw [Bool.eq_false_iff.mpr hb] at g4
              simp [body1_first_end, e1, or_nat, g4]
            · by_cases hti : t = i + 1
              · subst hti; exact hb (g3.mpr ⟨s, hm⟩)
              · exact h4 t (by omega) s hm)
      ⟨fun _ x => Tb st x, st, none, none, rfl, st0, fun t ht => by omega, fun x => Iff.rfl, fun t ht s hm => by
        have : t = 0 := by omega
        subst this
        exact hs0 (t0.mpr ⟨s, hm⟩)⟩
    have hw' : wE (gaCons (gV 1) gaNil) [some (.fz (pt.toD b)), some (.fz (diD b' d)), some (.fz (netD c.PatternNet w bh2 st)), some (.fz (.int (st : Int))), none, none] =
        .ok (enumD 0 (d.map D.str), [some (.fz (pt.toD b)), some (.fz (diD b' d)), some (.fz (netD c.PatternNet w bh2 st)), some (.fz (.int (st : Int))), none, none]) := by
      cases b' <;> simp [diD]
    have hz' := hz st
    rw [Bool.eq_false_iff.mpr hs0] at hz'
    obtain ⟨o, e1, ⟨y, ys, rfl, h⟩ | ⟨t, δ, rfl, h1, h2, h3⟩⟩ := L
    · refine ⟨.non, ?_, .inl ⟨rfl, h⟩⟩
      rw [go_first_end]
      simp [run_first_end, hch, hi, hz', -e_wE, hw', e1]
    · refine ⟨.int (t : Int), ?_, .inr ⟨t, rfl, h1, h2, h3⟩⟩
      rw [go_first_end]
      simp [run_first_end, hch, hi, hz', -e_wE, hw', e1]
end DL

namespace DL
open PySem L2

/-! ### the law's own reading -/
def natD (L : List Nat) : List D := L.map fun (n : Nat) => .int (n : Int)
def natO (L : List Nat) : List O := L.map fun (n : Nat) => .fz (.int (n : Int))
@[simp] theorem natO_toD (L : List Nat) : O.toDL (natO L) = natD L := by simp [natO, natD, toDL_map, Function.comp_def]
@[simp] theorem natD_len (L : List Nat) : (natD L).length = L.length := by simp [natD]
@[simp] theorem natO_len (L : List Nat) : (natO L).length = L.length := by simp [natO]
@[simp] theorem natD_app (L M : List Nat) : natD L ++ natD M = natD (L ++ M) := by simp [natD]
theorem natD_fz (L : List Nat) : (natD L).map O.fz = natO L := by simp [natO, natD, Function.comp_def]
theorem in_nat (neg : Bool) (e : Nat) (M : List Nat) : fIn neg (.int (e : Int)) (.lst (natD M)) = some (.bl (if neg then !decide (e ∈ M) else decide (e ∈ M))) := by
  have h1 : (natD M).all D.flat = true := by simp [natD, D.flat]
  have h2 : inD (.int (e : Int)) (natD M) = decide (e ∈ M) := by
    unfold inD natD
    clear h1
    induction M with
    | nil => simp
    | cons a r ih =>
      rw [List.map_cons, List.any_cons, ih]
      by_cases q : a = e
      · subst q; simp [D.eqf]
      · have : ¬ e = a := fun z => q z.symm
        have h3 : D.eqf (.int (a : Int)) (.int (e : Int)) = false := by simp [D.eqf]; omega
        simp [h3, this]
  simp [fIn, D.flat, h1, h2]
theorem lc_nat {tst : DEnv → Rz (Bool × DEnv)} {elt : DEnv → Rz (O × DEnv)} {δ : DEnv} (g : Nat → Bool) (ht : ∀ e : Nat, tst (δ.set 11 (some (.fz (.int (e : Int))))) = .ok (g e, δ.set 11 (some (.fz (.int (e : Int))))))
    (he : ∀ e : Nat, elt (δ.set 11 (some (.fz (.int (e : Int))))) = .ok (.fz (.int (e : Int)), δ.set 11 (some (.fz (.int (e : Int)))))) (hw : δ.set 11 none = δ) : ∀ L : List Nat, lcL (tgN 11) tst elt [11] (natD L) δ = .ok (natO (L.filter g), δ)
  | [] => rfl
  | e :: r => by
    have ih := lc_nat g ht he hw r
    have hw' : ∀ x, wipeD (δ.set 11 x) [11] = δ := fun x => by
      show (δ.set 11 x).set 11 none = δ
      rw [List.set_set, hw]
    show lcL _ _ _ _ (.int (e : Int) :: natD r) _ = _
    unfold lcL
    have h0 : tgN 11 (.int (e : Int)) δ = some (δ.set 11 (some (.fz (.int (e : Int))))) := rfl
    rw [h0, Rz.of_some, Rz.bind_ok, ht, e_nox1, Rz.bind_ok]
    cases hg : g e with
    | false =>
      rw [List.filter_cons_of_neg (by simp [hg])]
      simp only [hw', ih]
      rfl
    | true =>
      rw [List.filter_cons_of_pos (by simp [hg])]
      simp only [if_pos, he, e_nox1, Rz.bind_ok, hw', ih]
      rfl
theorem lc1 (c : Cs) (Φ : Ph) (M : List Nat) (a0 a1 a2 a3 a5 a6 a7 a8 a9 a10 : Option O) (L : List Nat) :
    lcL (tgN 11) (tst1_law_p_ends c Φ) (elt2_law_p_ends c Φ) [11] (natD L) [a0, a1, a2, a3, some (.fz (.lst (natD M))), a5, a6, a7, a8, a9, a10, none] =
      .ok (natO (L.filter fun e => decide (e ∉ M)), [a0, a1, a2, a3, some (.fz (.lst (natD M))), a5, a6, a7, a8, a9, a10, none]) :=
  lc_nat _ (fun e => by have hi := in_nat true e M; simp [tst1_law_p_ends, -e_fIn_1, hi]) (fun e => by simp [elt2_law_p_ends]) rfl L
theorem lc4 (c : Cs) (Φ : Ph) (M : List Nat) (a0 a1 a2 a3 a4 a5 a6 a8 a9 a10 : Option O) (L : List Nat) :
    lcL (tgN 11) (tst4_law_p_ends c Φ) (elt5_law_p_ends c Φ) [11] (natD L) [a0, a1, a2, a3, a4, a5, a6, some (.fz (.lst (natD M))), a8, a9, a10, none] =
      .ok (natO (L.filter fun e => decide (e ∉ M)), [a0, a1, a2, a3, a4, a5, a6, some (.fz (.lst (natD M))), a8, a9, a10, none]) :=
  lc_nat _ (fun e => by have hi := in_nat true e M; simp [tst4_law_p_ends, -e_fIn_1, hi]) (fun e => by simp [elt5_law_p_ends]) rfl L
theorem lc8 (c : Cs) (Φ : Ph) (N M : List Nat) (a0 a1 a2 a3 a4 a5 a8 a9 a10 : Option O) (L : List Nat) :
    lcL (tgN 11) (tst8_law_p_ends c Φ) (elt9_law_p_ends c Φ) [11] (natD L) [a0, a1, a2, a3, a4, a5, some (.fz (.lst (natD N))), some (.fz (.lst (natD M))), a8, a9, a10, none] =
      .ok (natO (L.filter fun e => decide (e ∉ N) && decide (e ∉ M)), [a0, a1, a2, a3, a4, a5, some (.fz (.lst (natD N))), some (.fz (.lst (natD M))), a8, a9, a10, none]) :=
  lc_nat _ (fun e => by
    have h1 := in_nat true e N
    have h2 := in_nat true e M
    by_cases q : e ∈ N <;> simp [tst8_law_p_ends, -e_fIn_1, h1, h2, q]) (fun e => by simp [elt9_law_p_ends]) rfl L
theorem nodup_len : ∀ (n : Nat) (L : List Nat), L.Nodup → (∀ x ∈ L, x < n) → L.length ≤ n
  | 0, L, _, h => by
    cases L with
    | nil => exact Nat.le_refl _
    | cons a r => have := h a (by simp); omega
  | n + 1, L, nd, h => by
    have ih := nodup_len n (L.erase n) (nd.erase n) fun x hx => by
      have h1 := h x (List.mem_of_mem_erase hx)
      have h2 : x ≠ n := fun e => by subst e; exact (List.Nodup.not_mem_erase nd) hx
      omega
    by_cases hm : n ∈ L
    · have := List.length_erase_of_mem hm
      omega
    · rw [List.erase_of_not_mem hm] at ih
      omega
/-- what is found so far, and what comes to it -/
theorem grow_nd {A E : List Nat} {p : Nat → Bool} (ha : A.Nodup) (he : E.Nodup) : (A ++ E.filter fun e => p e && decide (e ∉ A)).Nodup := by
  rw [List.nodup_append]
  refine ⟨ha, he.filter _, fun a h1 b h2 e => ?_⟩
  subst e
  have := (List.mem_filter.mp h2).2
  simp at this
  exact this.2 h1
theorem grow_mem {A E : List Nat} {p : Nat → Bool} {x : Nat} : x ∈ A ++ (E.filter fun e => p e && decide (e ∉ A)) ↔ x ∈ A ∨ (x ∈ E ∧ p x = true) := by
  rw [List.mem_append, List.mem_filter]
  simp only [Bool.and_eq_true, decide_eq_true_eq]
  constructor
  · rintro (h | ⟨h1, h2, _⟩)
    · exact .inl h
    · exact .inr ⟨h1, h2⟩
  · rintro (h | ⟨h1, h2⟩)
    · exact .inl h
    · by_cases q : x ∈ A
      · exact .inl q
      · exact .inr ⟨h1, h2, q⟩
/-- Φ finds what P says -/
def Finds (Φ : Ph) (pd : D) (bd : Bool) (d : List Str) (P : Nat → Nat → Prop) : Prop := ∀ x, x ≤ d.length → ∃ L : List Nat, Φ [.fz pd, .fz (diD bd d), .fz (.int (x : Int))] = .ok (.fz (.lst (natD L)), []) ∧ L.Nodup ∧ ∀ e, e ∈ L ↔ P x e
theorem mt_le (d : List Str) (nm : Str → Prop) : ∀ (n : Nat) (pt : Pat), pt.hgt ≤ n → ∀ s t, s ≤ d.length → Mt d pt s t → s ≤ t ∧ t ≤ d.length
  | 0, pt, h, _, _, _, _ => by cases pt <;> simp [Pat.hgt] at h
  | n + 1, .any, _, s, t, hs, m => by simp only [Mt] at m; omega
  | n + 1, .one a, _, s, t, hs, m => by
    simp only [Mt] at m
    have := (List.getElem?_eq_some_iff.mp m.1).1
    omega
  | n + 1, .many p, h, s, t, hs, m => by
    simp only [Mt] at m
    induction m with
    | refl => omega
    | tail _ r ih => have := mt_le d nm n p (by simp [Pat.hgt] at h; omega) _ _ (by omega) r; omega
  | n + 1, .row l, h, s, t, hs, m => by
    simp only [Mt] at m
    have hl : ∀ p ∈ l, p.hgt ≤ n := fun p hp => by have := Pat.hgt_mem hp; simp [Pat.hgt] at h; omega
    clear h
    induction l generalizing s with
    | nil => simp only [MtR] at m; omega
    | cons p r ih =>
      simp only [MtR] at m
      obtain ⟨k, m1, m2⟩ := m
      have h1 := mt_le d nm n p (hl p (by simp)) s k hs m1
      have h2 := ih k (by omega) m2 fun q hq => hl q (by simp [hq])
      omega
  | n + 1, .eit l, h, s, t, hs, m => by
    simp only [Mt] at m
    have hl : ∀ p ∈ l, p.hgt ≤ n := fun p hp => by have := Pat.hgt_mem hp; simp [Pat.hgt] at h; omega
    clear h
    induction l with
    | nil => exact m.elim
    | cons p r ih =>
      simp only [MtE] at m
      rcases m with m | m
      · exact mt_le d nm n p (hl p (by simp)) s t hs m
      · exact ih m fun q hq => hl q (by simp [hq])
end DL

namespace DL
open PySem L2

theorem lc_len (p : Nat → Bool) (L : List Nat) : (L.filter p).length ≤ L.length := List.length_filter_le _ _
theorem b3_ends (c : Cs) (Φ : Ph) (M L : List Nat) (a0 : Option O) (di st pd : D) (a3 a6 a7 a8 a9 a10 : Option O) (hM : M.length ≤ 1000) (hL : L.length ≤ 1000)
    (h : Φ [.fz pd, .fz di, .fz st] = .ok (.fz (.lst (natD L)), [])) :
    body3_law_p_ends c Φ [a0, some (.fz di), some (.fz st), a3, some (.lst (natO M)), some (.fz pd), a6, a7, a8, a9, a10, none] =
      .ok (.nx [a0, some (.fz di), some (.fz st), a3, some (.lst (natO (M ++ L.filter fun e => decide (e ∉ M)))), some (.fz pd), a6, a7, a8, a9, a10, none]) := by
  have h1 : L.length ≤ 100000 := by omega
  have h2 : M.length + (L.filter fun e => !decide (e ∈ M)).length ≤ 100000 := by have := lc_len (fun e => !decide (e ∈ M)) L; omega
  have hl := lc1 c Φ M a0 (some (.fz di)) (some (.fz st)) a3 (some (.fz pd)) a6 a7 a8 a9 a10 L
  simp at hl
  simp [body3_law_p_ends, h, hl, h1, h2, natD_fz]
theorem b6_ends (c : Cs) (Φ : Ph) (M L : List Nat) (a0 : Option O) (di pl pd : D) (a2 a3 a4 a6 a9 a10 : Option O) (x7 : O) (hx : x7 = .lst (natO M) ∨ x7 = .fz (.lst (natD M))) (hM : M.length ≤ 1000) (hL : L.length ≤ 1000)
    (h : Φ [.fz pd, .fz di, .fz pl] = .ok (.fz (.lst (natD L)), [])) :
    body6_law_p_ends c Φ [a0, some (.fz di), a2, a3, a4, some (.fz pd), a6, some x7, some (.fz pl), a9, a10, none] =
      .ok (.nx [a0, some (.fz di), a2, a3, a4, some (.fz pd), a6, some (.lst (natO (M ++ L.filter fun e => decide (e ∉ M)))), some (.fz pl), a9, a10, none]) := by
  have h1 : L.length ≤ 100000 := by omega
  have h2 : M.length + (L.filter fun e => !decide (e ∈ M)).length ≤ 100000 := by have := lc_len (fun e => !decide (e ∈ M)) L; omega
  have hl := lc4 c Φ M a0 (some (.fz di)) a2 a3 a4 (some (.fz pd)) a6 (some (.fz pl)) a9 a10 L
  simp at hl
  rcases hx with rfl | rfl <;> simp [body6_law_p_ends, h, hl, h1, h2, natD_fz]
/-- a list of whole numbers in a slot, read or not -/
def IsL (x : O) (N : List Nat) : Prop := x = .lst (natO N) ∨ x = .fz (.lst (natD N))
theorem lc8u (c : Cs) (Φ : Ph) (N M : List Nat) (x6 : O) (h6 : IsL x6 N) (a0 a1 a2 a3 a4 a5 a8 a9 a10 : Option O) (L : List Nat) : ∃ x6', IsL x6' N ∧
    lcL (tgN 11) (tst8_law_p_ends c Φ) (elt9_law_p_ends c Φ) [11] (natD L) [a0, a1, a2, a3, a4, a5, some x6, some (.fz (.lst (natD M))), a8, a9, a10, none] =
      .ok (natO (L.filter fun e => decide (e ∉ N) && decide (e ∉ M)), [a0, a1, a2, a3, a4, a5, some x6', some (.fz (.lst (natD M))), a8, a9, a10, none]) := by
  rcases h6 with rfl | rfl
  · cases L with
    | nil => exact ⟨_, .inl rfl, rfl⟩
    | cons e r =>
      refine ⟨_, .inr rfl, ?_⟩
      rw [← lc8 c Φ N M a0 a1 a2 a3 a4 a5 a8 a9 a10 (e :: r)]
      show lcL _ _ _ _ (.int (e : Int) :: natD r) _ = lcL _ _ _ _ (.int (e : Int) :: natD r) _
      have hi := in_nat true e N
      have e1 : tst8_law_p_ends c Φ [a0, a1, a2, a3, a4, a5, some (.lst (natO N)), some (.fz (.lst (natD M))), a8, a9, a10, some (.fz (.int (e : Int)))] =
          tst8_law_p_ends c Φ [a0, a1, a2, a3, a4, a5, some (.fz (.lst (natD N))), some (.fz (.lst (natD M))), a8, a9, a10, some (.fz (.int (e : Int)))] := by
        simp [tst8_law_p_ends, -e_fIn_1, hi]
      unfold lcL
      have t1 : tgN 11 (.int (e : Int)) [a0, a1, a2, a3, a4, a5, some (.lst (natO N)), some (.fz (.lst (natD M))), a8, a9, a10, none] = some [a0, a1, a2, a3, a4, a5, some (.lst (natO N)), some (.fz (.lst (natD M))), a8, a9, a10, some (.fz (.int (e : Int)))] := rfl
      have t2 : tgN 11 (.int (e : Int)) [a0, a1, a2, a3, a4, a5, some (.fz (.lst (natD N))), some (.fz (.lst (natD M))), a8, a9, a10, none] = some [a0, a1, a2, a3, a4, a5, some (.fz (.lst (natD N))), some (.fz (.lst (natD M))), a8, a9, a10, some (.fz (.int (e : Int)))] := rfl
      rw [t1, t2, Rz.of_some, Rz.bind_ok, Rz.of_some, Rz.bind_ok, e1]
  · exact ⟨_, .inr rfl, lc8 c Φ N M a0 a1 a2 a3 a4 a5 a8 a9 a10 L⟩
theorem b10_ends (c : Cs) (Φ : Ph) (N M L : List Nat) (b : Bool) (q : List D) (pd di pl : D) (a2 a3 a4 a5 a9 a10 : Option O) (x6 x7 : O) (h6 : IsL x6 N) (hx : IsL x7 M) (hM : M.length ≤ 1000) (hL : L.length ≤ 1000)
    (hp : fIx (sq b q) (.int 1) = some pd) (h : Φ [.fz pd, .fz di, .fz pl] = .ok (.fz (.lst (natD L)), [])) : ∃ x6', IsL x6' N ∧
    body10_law_p_ends c Φ [some (.fz (sq b q)), some (.fz di), a2, a3, a4, a5, some x6, some x7, some (.fz pl), a9, a10, none] =
      .ok (.nx [some (.fz (sq b q)), some (.fz di), a2, a3, a4, a5, some x6', some (.lst (natO (M ++ L.filter fun e => decide (e ∉ N) && decide (e ∉ M)))), some (.fz pl), a9, a10, none]) := by
  have h1 : L.length ≤ 100000 := by omega
  have h2 : M.length + (L.filter fun e => !decide (e ∈ N) && !decide (e ∈ M)).length ≤ 100000 := by have := lc_len (fun e => !decide (e ∈ N) && !decide (e ∈ M)) L; omega
  obtain ⟨x6', k, hl⟩ := lc8u c Φ N M x6 h6 (some (.fz (sq b q))) (some (.fz di)) a2 a3 a4 a5 (some (.fz pl)) a9 a10 L
  refine ⟨x6', k, ?_⟩
  simp at hl
  rcases hx with rfl | rfl <;> simp [body10_law_p_ends, h, hl, h1, h2, natD_fz, hp]
/-- what is found from the places W -/
def Fnd (P : Nat → Nat → Prop) (No W : List Nat) (A : List Nat) : Prop := A.Nodup ∧ ∀ e, e ∈ A ↔ e ∉ No ∧ ∃ x ∈ W, P x e
theorem Fnd.step {P : Nat → Nat → Prop} {No W A L : List Nat} {x : Nat} (h : Fnd P No W A) (nd : L.Nodup) (hL : ∀ e, e ∈ L ↔ P x e) : Fnd P No (W ++ [x]) (A ++ L.filter fun e => decide (e ∉ No) && decide (e ∉ A)) := by
  refine ⟨grow_nd (p := fun e => decide (e ∉ No)) h.1 nd, fun e => ?_⟩
  rw [grow_mem (p := fun e => decide (e ∉ No)), h.2 e, hL e]
  simp only [decide_eq_true_eq, List.mem_append, List.mem_singleton]
  constructor
  · rintro (⟨h1, y, h2, h3⟩ | ⟨h1, h2⟩)
    · exact ⟨h1, y, .inl h2, h3⟩
    · exact ⟨h2, x, .inr rfl, h1⟩
  · rintro ⟨h1, y, h2 | h2, h3⟩
    · exact .inl ⟨h1, y, h2, h3⟩
    · subst h2; exact .inr ⟨h3, h1⟩
/-- the loop over the places, in a row -/
theorem loop6 (c : Cs) (Φ : Ph) (bd : Bool) (d : List Str) (hd : d.length ≤ 900) (P : Nat → Nat → Prop) (hP : ∀ x t, x ≤ d.length → P x t → t ≤ d.length) (pd : D) (F : Finds Φ pd bd d P) (W : List Nat) (hW : ∀ x ∈ W, x ≤ d.length)
    (a0 a2 a3 a4 a6 a9 a10 a8 : Option O) : ∃ (A : List Nat) (x7 : O) (x8 : Option O), IsL x7 A ∧ Fnd P [] W A ∧
    forR (tgN 8) (body6_law_p_ends c Φ) (natD W) [a0, some (.fz (diD bd d)), a2, a3, a4, some (.fz pd), a6, some (.lst []), a8, a9, a10, none] =
      .ok (.nx [a0, some (.fz (diD bd d)), a2, a3, a4, some (.fz pd), a6, some x7, x8, a9, a10, none]) := by
  have L := forR_inv (t := tgN 8) (f := body6_law_p_ends c Φ) (natD W)
    (fun i δ => ∃ (A : List Nat) (x7 : O) (x8 : Option O), IsL x7 A ∧ Fnd P [] (W.take i) A ∧ δ = [a0, some (.fz (diD bd d)), a2, a3, a4, some (.fz pd), a6, some x7, x8, a9, a10, none])
    [a0, some (.fz (diD bd d)), a2, a3, a4, some (.fz pd), a6, some (.lst []), a8, a9, a10, none]
    (fun i dd δ hdd h => by
      obtain ⟨A, x7, x8, h7, hA, rfl⟩ := h
      unfold natD at hdd
      rw [List.getElem?_map] at hdd
      cases q : W[i]? with
      | none => rw [q] at hdd; cases hdd
      | some x =>
        rw [q] at hdd; cases hdd
        have hx := hW x (List.mem_of_getElem? q)
        obtain ⟨L, e1, nd, hL⟩ := F x hx
        have hLl : L.length ≤ 1000 := by have := nodup_len (d.length + 1) L nd fun y hy => by have := hP x y hx ((hL y).mp hy); omega
                                         omega
        have hAl : A.length ≤ 1000 := by
          have := nodup_len (d.length + 1) A hA.1 fun y hy => by
            obtain ⟨_, z, hz, hz2⟩ := (hA.2 y).mp hy
            have := hP z y (hW z (List.mem_of_mem_take hz)) hz2
            omega
          omega
        refine ⟨_, rfl, _, b6_ends c Φ A L a0 (diD bd d) (.int (x : Int)) pd a2 a3 a4 a6 a9 a10 x7 h7 hAl hLl e1, _, _, _, .inl rfl, ?_, rfl⟩
        rw [List.take_succ, q]
        have := hA.step nd hL
        simpa using this) ⟨[], .lst [], a8, .inl rfl, ⟨by simp, fun e => by simp⟩, rfl⟩
  obtain ⟨δ', e, A, x7, x8, h7, hA, rfl⟩ := L
  rw [natD_len, List.take_length] at hA
  exact ⟨A, x7, x8, h7, hA, e⟩
/-- the loop over the places that wait, in a many -/
theorem loop10 (c : Cs) (Φ : Ph) (bd : Bool) (d : List Str) (hd : d.length ≤ 900) (P : Nat → Nat → Prop) (hP : ∀ x t, x ≤ d.length → P x t → t ≤ d.length) (b : Bool) (q : List D) (pd : D) (hp : fIx (sq b q) (.int 1) = some pd) (F : Finds Φ pd bd d P) (N W : List Nat) (hW : ∀ x ∈ W, x ≤ d.length)
    (x6 : O) (h6 : IsL x6 N) (a2 a3 a4 a5 a9 a10 a8 : Option O) : ∃ (A : List Nat) (x6' x7 : O) (x8 : Option O), IsL x6' N ∧ IsL x7 A ∧ Fnd P N W A ∧
    forR (tgN 8) (body10_law_p_ends c Φ) (natD W) [some (.fz (sq b q)), some (.fz (diD bd d)), a2, a3, a4, a5, some x6, some (.lst []), a8, a9, a10, none] =
      .ok (.nx [some (.fz (sq b q)), some (.fz (diD bd d)), a2, a3, a4, a5, some x6', some x7, x8, a9, a10, none]) := by
  have L := forR_inv (t := tgN 8) (f := body10_law_p_ends c Φ) (natD W)
    (fun i δ => ∃ (A : List Nat) (x6' x7 : O) (x8 : Option O), IsL x6' N ∧ IsL x7 A ∧ Fnd P N (W.take i) A ∧ δ = [some (.fz (sq b q)), some (.fz (diD bd d)), a2, a3, a4, a5, some x6', some x7, x8, a9, a10, none])
    [some (.fz (sq b q)), some (.fz (diD bd d)), a2, a3, a4, a5, some x6, some (.lst []), a8, a9, a10, none]
    (fun i dd δ hdd h => by
      obtain ⟨A, x6', x7, x8, h6', h7, hA, rfl⟩ := h
      unfold natD at hdd
      rw [List.getElem?_map] at hdd
      cases q : W[i]? with
      | none => rw [q] at hdd; cases hdd
      | some x =>
        rw [q] at hdd; cases hdd
        have hx := hW x (List.mem_of_getElem? q)
        obtain ⟨L, e1, nd, hL⟩ := F x hx
        have hLl : L.length ≤ 1000 := by have := nodup_len (d.length + 1) L nd fun y hy => by have := hP x y hx ((hL y).mp hy); omega
                                         omega
        have hAl : A.length ≤ 1000 := by
          have := nodup_len (d.length + 1) A hA.1 fun y hy => by
            obtain ⟨_, z, hz, hz2⟩ := (hA.2 y).mp hy
            have := hP z y (hW z (List.mem_of_mem_take hz)) hz2
            omega
          omega
        obtain ⟨x6'', k6, B⟩ := b10_ends c Φ N A L b _ pd (diD bd d) (.int (x : Int)) a2 a3 a4 a5 a9 a10 x6' x7 h6' h7 hAl hLl hp e1
        refine ⟨_, rfl, _, B, _, _, _, _, k6, .inl rfl, ?_, rfl⟩
        rw [List.take_succ, q]
        exact hA.step nd hL) ⟨[], x6, .lst [], a8, h6, .inl rfl, ⟨by simp, fun e => by simp⟩, rfl⟩
  obtain ⟨δ', e, A, x6', x7, x8, h6', h7, hA, rfl⟩ := L
  rw [natD_len, List.take_length] at hA
  exact ⟨A, x6', x7, x8, h6', h7, hA, e⟩
end DL

namespace DL
open PySem L2

def Stp (R : Nat → Nat → Prop) : Nat → Nat → Nat → Prop
  | 0, s, e => e = s
  | k + 1, s, e => ∃ m, Stp R k s m ∧ R m e
theorem Stp.star {R : Nat → Nat → Prop} : ∀ {k s e : Nat}, Stp R k s e → Star R s e
  | 0, s, e, h => by cases h; exact .refl _
  | k + 1, s, e, ⟨m, h, r⟩ => .tail (Stp.star h) r
theorem star_stp {R : Nat → Nat → Prop} (hR : ∀ x y, R x y → x ≤ y) {s e : Nat} (h : Star R s e) : s ≤ e ∧ ∃ j, j ≤ e - s ∧ Stp R j s e := by
  induction h with
  | refl => exact ⟨Nat.le_refl _, 0, by omega, rfl⟩
  | @tail m e _ r ih =>
    obtain ⟨h1, j, h2, h3⟩ := ih
    have h4 := hR _ _ r
    by_cases q : m = e
    · subst q; exact ⟨h1, j, h2, h3⟩
    · exact ⟨by omega, j + 1, by omega, m, h3, r⟩
/-- after k rounds -/
structure Rnd (R : Nat → Nat → Prop) (s k : Nat) (N W : List Nat) : Prop where
  nd : N.Nodup
  sub : ∀ x ∈ W, x ∈ N
  snd : ∀ x ∈ N, Star R s x
  cl : ∀ x ∈ N, x ∈ W ∨ ∀ e, R x e → e ∈ N
  all : ∀ j, j ≤ k → ∀ e, Stp R j s e → e ∈ N
theorem Rnd.next {R : Nat → Nat → Prop} {s k : Nat} {N W A : List Nat} (h : Rnd R s k N W) (hA : Fnd R N W A) : Rnd R s (k + 1) (N ++ A) A where
  nd := by
    rw [List.nodup_append]
    refine ⟨h.nd, hA.1, fun a h1 b h2 e => ?_⟩
    subst e
    exact ((hA.2 a).mp h2).1 h1
  sub := fun x hx => List.mem_append_right _ hx
  snd := fun x hx => by
    rcases List.mem_append.mp hx with hx | hx
    · exact h.snd x hx
    · obtain ⟨_, y, h1, h2⟩ := (hA.2 x).mp hx
      exact .tail (h.snd y (h.sub y h1)) h2
  cl := fun x hx => by
    rcases List.mem_append.mp hx with hx | hx
    · refine .inr fun e r => ?_
      rw [List.mem_append]
      rcases h.cl x hx with q | q
      · by_cases z : e ∈ N
        · exact .inl z
        · exact .inr ((hA.2 e).mpr ⟨z, x, q, r⟩)
      · exact .inl (q e r)
    · exact .inl hx
  all := fun j hj e st => by
    cases j with
    | zero => exact List.mem_append_left _ (h.all 0 (by omega) e st)
    | succ j =>
      obtain ⟨m, h1, r⟩ := st
      have hm := h.all j (by omega) m h1
      rw [List.mem_append]
      rcases h.cl m hm with q | q
      · by_cases z : e ∈ N
        · exact .inl z
        · exact .inr ((hA.2 e).mpr ⟨z, m, q, r⟩)
      · exact .inl (q e r)
@[simp] theorem len_dia (bd : Bool) (d : List Str) : fLen [diD bd d] = some (.int (d.length : Int)) := by simp [diD]
theorem atI_dia (bd : Bool) (d : List Str) (s : Nat) (h : s < d.length) : fIx (diD bd d) (.int (s : Int)) = some (.str (d[s])) := by
  cases bd
  · show atI (d.map D.str) (s : Int) = _
    exact atI_nat (by simp [h])
  · show atI (d.map D.str) (s : Int) = _
    exact atI_nat (by simp [h])
theorem ends_any (c : Cs) (b bd : Bool) (d : List Str) (hd : d.length ≤ 900) (nm : Str → Prop) (n : Nat) (IH : ∀ p : Pat, p.hgt ≤ n → p.Wf nm → Finds (phi_law_p_ends c n) (p.toD b) bd d (Mt d p)) (h : Pat.any.hgt ≤ n + 1) (wf : Pat.any.Wf nm) :
    Finds (phi_law_p_ends c (n + 1)) (Pat.any.toD b) bd d (Mt d Pat.any) := fun x hx => by
  have hi := in_any
  unfold leafD at hi
  rw [go_law_p_ends]
  by_cases q : x < d.length
  · refine ⟨[x + 1], ?_, by simp, fun e => by simp only [Mt]; simp; omega⟩
    simp [run_law_p_ends, Pat.toD, hi, q, natD]
  · refine ⟨[], ?_, by simp, fun e => by simp only [Mt]; simp; omega⟩
    simp [run_law_p_ends, Pat.toD, hi, q, natD]
theorem ends_one (c : Cs) (b bd : Bool) (d : List Str) (hd : d.length ≤ 900) (nm : Str → Prop) (n : Nat) (IH : ∀ p : Pat, p.hgt ≤ n → p.Wf nm → Finds (phi_law_p_ends c n) (p.toD b) bd d (Mt d p)) (a : Str) (h : (Pat.one a).hgt ≤ n + 1) (wf : (Pat.one a).Wf nm) :
    Finds (phi_law_p_ends c (n + 1)) ((Pat.one a).toD b) bd d (Mt d (Pat.one a)) := fun x hx => by
  have hi := in_one
  unfold leafD at hi
  rw [go_law_p_ends]
  by_cases q : x < d.length
  · have ha := atI_dia bd d x q
    by_cases z : d[x] = a
    · refine ⟨[x + 1], ?_, by simp, fun e => by simp only [Mt]; simp [q, z]⟩
      simp [run_law_p_ends, Pat.toD, hi, q, natD, ha, z]
    · refine ⟨[], ?_, by simp, fun e => by simp only [Mt]; simp [q, z]⟩
      simp [run_law_p_ends, Pat.toD, hi, q, natD, ha, z]
  · refine ⟨[], ?_, by simp, fun e => by simp only [Mt]; simp [q]⟩
    simp [run_law_p_ends, Pat.toD, hi, q, natD]
theorem ends_eit (c : Cs) (b bd : Bool) (d : List Str) (hd : d.length ≤ 900) (nm : Str → Prop) (n : Nat) (IH : ∀ p : Pat, p.hgt ≤ n → p.Wf nm → Finds (phi_law_p_ends c n) (p.toD b) bd d (Mt d p)) (l : List Pat) (h : (Pat.eit l).hgt ≤ n + 1) (wf : (Pat.eit l).Wf nm) :
    Finds (phi_law_p_ends c (n + 1)) ((Pat.eit l).toD b) bd d (Mt d (Pat.eit l)) := fun x hx => by
  have hi := in_eit
  unfold leafD at hi
  have hg : ∀ p ∈ l, p.hgt ≤ n := fun p hp => by have := Pat.hgt_mem hp; simp [Pat.hgt] at h; omega
  have hle : ∀ p ∈ l, ∀ s t, s ≤ d.length → Mt d p s t → s ≤ t ∧ t ≤ d.length := fun p hp => mt_le d nm n p (hg p hp)
  have L := forR_inv (t := tgN 5) (f := body3_law_p_ends c (phi_law_p_ends c n)) (Pat.toDL b l)
    (fun i δ => ∃ (M : List Nat) (x5 : Option O), M.Nodup ∧ (∀ e, e ∈ M ↔ MtE d (l.take i) x e) ∧
      δ = [some (.fz ((Pat.eit l).toD b)), some (.fz (diD bd d)), some (.fz (.int (x : Int))), none, some (.lst (natO M)), x5, none, none, none, none, none, none])
    [some (.fz ((Pat.eit l).toD b)), some (.fz (diD bd d)), some (.fz (.int (x : Int))), none, some (.lst []), none, none, none, none, none, none, none]
    (fun i dd δ hdd h' => by
      obtain ⟨M, x5, nd, hM, rfl⟩ := h'
      rw [Pat.toDL_map, List.getElem?_map] at hdd
      cases q : l[i]? with
      | none => rw [q] at hdd; cases hdd
      | some p =>
        rw [q] at hdd; cases hdd
        have hp : p ∈ l := List.mem_of_getElem? q
        obtain ⟨L, e1, ndL, hL⟩ := IH p (hg p hp) (Pat.wfL_mem.mp wf.2.2 p hp) x hx
        have mtE_mem : ∀ (r : List Pat) (t : Nat), MtE d r x t → ∃ p ∈ r, Mt d p x t := by
          intro r t
          induction r with
          | nil => intro z; exact z.elim
          | cons p r ih =>
            intro z
            rcases z with z | z
            · exact ⟨p, by simp, z⟩
            · obtain ⟨p', a, b⟩ := ih z; exact ⟨p', by simp [a], b⟩
        have hMl : M.length ≤ 1000 := by
          have := nodup_len (d.length + 1) M nd fun y hy => by
            obtain ⟨p', hp', m⟩ := mtE_mem _ _ ((hM y).mp hy)
            have := (hle p' (List.mem_of_mem_take hp') x y hx m).2
            omega
          omega
        have hLl : L.length ≤ 1000 := by
          have := nodup_len (d.length + 1) L ndL fun y hy => by have := (hle p hp x y hx ((hL y).mp hy)).2; omega
          omega
        refine ⟨_, rfl, _, b3_ends c _ M L _ (diD bd d) (.int (x : Int)) (p.toD b) none none none none none none hMl hLl e1, _, _, ?_, fun e => ?_, rfl⟩
        · have := grow_nd (p := fun _ => true) nd ndL
          simpa using this
        · have := grow_mem (A := M) (E := L) (p := fun _ => true) (x := e)
          simp only [Bool.true_and] at this
          rw [this, hM e, hL e, List.take_succ, q]
          simp only [Option.toList_some, and_true]
          exact (mtE_snoc d p (l.take i) x e).symm) ⟨[], none, by simp, fun e => by simp [MtE], by simp [natO]⟩
  obtain ⟨δ', e1, M, x5, nd, hM, rfl⟩ := L
  have hk : l.take (Pat.toDL b l).length = l := by rw [Pat.toDL_map, List.length_map, List.take_length]
  rw [hk] at hM
  refine ⟨M, ?_, nd, fun e => by rw [hM e]; simp only [Mt]⟩
  rw [go_law_p_ends]
  simp only [Pat.toD] at e1
  simp [run_law_p_ends, Pat.toD, hi, e1]
theorem ends_row (c : Cs) (b bd : Bool) (d : List Str) (hd : d.length ≤ 900) (nm : Str → Prop) (n : Nat) (IH : ∀ p : Pat, p.hgt ≤ n → p.Wf nm → Finds (phi_law_p_ends c n) (p.toD b) bd d (Mt d p)) (l : List Pat) (h : (Pat.row l).hgt ≤ n + 1) (wf : (Pat.row l).Wf nm) :
    Finds (phi_law_p_ends c (n + 1)) ((Pat.row l).toD b) bd d (Mt d (Pat.row l)) := fun x hx => by
  have hi := in_row
  unfold leafD at hi
  have hg : ∀ p ∈ l, p.hgt ≤ n := fun p hp => by have := Pat.hgt_mem hp; simp [Pat.hgt] at h; omega
  have hle : ∀ p ∈ l, ∀ s t, s ≤ d.length → Mt d p s t → s ≤ t ∧ t ≤ d.length := fun p hp => mt_le d nm n p (hg p hp)
  have L := forR_inv (t := tgN 5) (f := body7_law_p_ends c (phi_law_p_ends c n)) (Pat.toDL b l)
    (fun i δ => ∃ (N : List Nat) (x6 : O) (x5 x7 x8 : Option O), IsL x6 N ∧ N.Nodup ∧ (∀ e, e ∈ N ↔ MtR d (l.take i) x e) ∧ (∀ e ∈ N, e ≤ d.length) ∧
      δ = [some (.fz ((Pat.row l).toD b)), some (.fz (diD bd d)), some (.fz (.int (x : Int))), none, none, x5, some x6, x7, x8, none, none, none])
    [some (.fz ((Pat.row l).toD b)), some (.fz (diD bd d)), some (.fz (.int (x : Int))), none, none, none, some (.lst (natO [x])), none, none, none, none, none]
    (fun i dd δ hdd h' => by
      obtain ⟨N, x6, x5, x7, x8, h6, nd, hN, hb, rfl⟩ := h'
      rw [Pat.toDL_map, List.getElem?_map] at hdd
      cases q : l[i]? with
      | none => rw [q] at hdd; cases hdd
      | some p =>
        rw [q] at hdd; cases hdd
        have hp : p ∈ l := List.mem_of_getElem? q
        have F := IH p (hg p hp) (Pat.wfL_mem.mp wf.2.2 p hp)
        obtain ⟨A, x7', x8', h7, hA, e1⟩ := loop6 c (phi_law_p_ends c n) bd d hd (Mt d p) (fun x t h m => (hle p hp x t h m).2) (p.toD b) F N hb (some (.fz ((Pat.row l).toD b))) (some (.fz (.int (x : Int)))) none none (some (.fz (.lst (natD N)))) none none x8
        refine ⟨_, rfl, [some (.fz ((Pat.row l).toD b)), some (.fz (diD bd d)), some (.fz (.int (x : Int))), none, none, some (.fz (p.toD b)), some (.fz (.lst (natD A))), some (.fz (.lst (natD A))), x8', none, none, none], ?_, A, _, _, _, _, .inr rfl, hA.1, fun e => ?_, fun e he => ?_, rfl⟩
        · rcases h6 with rfl | rfl <;> rcases h7 with rfl | rfl <;> simp [body7_law_p_ends, e1]
        · rw [hA.2 e, List.take_succ, q]
          simp only [Option.toList_some]
          rw [mtR_snoc d p (l.take i) x e]
          simp only [List.not_mem_nil, not_false_eq_true, true_and]
          exact exists_congr fun m => by rw [hN m]
        · obtain ⟨_, y, hy, m⟩ := (hA.2 e).mp he
          exact (hle p hp y e (hb y hy) m).2) ⟨[x], _, none, none, none, .inl rfl, by simp, fun e => by simp [MtR], fun e he => by simp at he; omega, rfl⟩
  obtain ⟨δ', e1, N, x6, x5, x7, x8, h6, nd, hN, hb, rfl⟩ := L
  have hk : l.take (Pat.toDL b l).length = l := by rw [Pat.toDL_map, List.length_map, List.take_length]
  rw [hk] at hN
  refine ⟨N, ?_, nd, fun e => by rw [hN e]; simp only [Mt]⟩
  rw [go_law_p_ends]
  simp only [Pat.toD, natO, List.map_cons, List.map_nil] at e1
  rcases h6 with rfl | rfl <;> simp [run_law_p_ends, Pat.toD, hi, e1]
theorem ends_many (c : Cs) (b bd : Bool) (d : List Str) (hd : d.length ≤ 900) (nm : Str → Prop) (n : Nat) (IH : ∀ p : Pat, p.hgt ≤ n → p.Wf nm → Finds (phi_law_p_ends c n) (p.toD b) bd d (Mt d p)) (p : Pat) (h : (Pat.many p).hgt ≤ n + 1) (wf : (Pat.many p).Wf nm) :
    Finds (phi_law_p_ends c (n + 1)) ((Pat.many p).toD b) bd d (Mt d (Pat.many p)) := fun x hx => by
  have hi := in_many
  unfold leafD at hi
  have hg : p.hgt ≤ n := by simp [Pat.hgt] at h; omega
  have hle := mt_le d nm n p hg
  have F := IH p hg wf
  have L := forR_inv (t := tgN 10) (f := body11_law_p_ends c (phi_law_p_ends c n)) (rangeD 0 (d.length + 2))
    (fun i δ => ∃ (N W : List Nat) (x6 x9 : O) (x7 x8 x10 : Option O), IsL x6 N ∧ IsL x9 W ∧ Rnd (fun s t => s ≤ d.length ∧ Mt d p s t) x i N W ∧ (∀ e ∈ N, e ≤ d.length) ∧
      δ = [some (.fz (sq b [.str "many", p.toD b])), some (.fz (diD bd d)), some (.fz (.int (x : Int))), none, none, none, some x6, x7, x8, some x9, x10, none])
    [some (.fz (sq b [.str "many", p.toD b])), some (.fz (diD bd d)), some (.fz (.int (x : Int))), none, none, none, some (.lst (natO [x])), none, none, some (.lst (natO [x])), none, none]
    (fun i dd δ hdd h' => by
      obtain ⟨N, W, x6, x9, x7, x8, x10, h6, h9, hR, hb, rfl⟩ := h'
      obtain ⟨hil, rfl⟩ := rangeD_get hdd
      obtain ⟨A, x6', x7', x8', h6', h7', hA, e1⟩ := loop10 c (phi_law_p_ends c n) bd d hd (Mt d p) (fun x t h m => (hle x t h m).2) b [.str "many", p.toD b] (p.toD b) (e_ix1 b _ _ _) F N W (fun y hy => hb y (hR.sub y hy)) x6 h6
        (some (.fz (.int (x : Int)))) none none none (some (.fz (.lst (natD W)))) (some (.fz (.int (0 + (i : Nat))))) x8
      have hA' : Fnd (fun s t => s ≤ d.length ∧ Mt d p s t) N W A := ⟨hA.1, fun e => by
        rw [hA.2 e]
        exact and_congr_right fun _ => exists_congr fun y => and_congr_right fun hy => ⟨fun m => ⟨hb y (hR.sub y hy), m⟩, fun m => m.2⟩⟩
      have hbA : ∀ e ∈ A, e ≤ d.length := fun e he => by
        obtain ⟨_, y, hy, m⟩ := (hA.2 e).mp he
        exact (hle y e (hb y (hR.sub y hy)) m).2
      have hn := hR.next hA'
      have hl : N.length + A.length ≤ 100000 := by
        have := nodup_len (d.length + 1) (N ++ A) hn.nd fun y hy => by
          rcases List.mem_append.mp hy with z | z
          · have := hb y z; omega
          · have := hbA y z; omega
        rw [List.length_append] at this
        omega
      refine ⟨_, rfl, [some (.fz (sq b [.str "many", p.toD b])), some (.fz (diD bd d)), some (.fz (.int (x : Int))), none, none, none, some (.lst (natO (N ++ A))), some (.fz (.lst (natD A))), x8', some (.fz (.lst (natD A))), some (.fz (.int (0 + (i : Nat)))), none], ?_, N ++ A, A, _, _, _, _, _, .inl rfl, .inr rfl, hn, fun e he => ?_, rfl⟩
      · simp only [Int.zero_add] at e1
        rcases h9 with rfl | rfl <;> rcases h6' with rfl | rfl <;> rcases h7' with rfl | rfl <;> simp [body11_law_p_ends, e1, hl, natD_fz]
      · rcases List.mem_append.mp he with z | z
        · exact hb e z
        · exact hbA e z)
    ⟨[x], [x], _, _, none, none, none, .inl rfl, .inl rfl, ⟨by simp, fun y hy => hy, fun y hy => by simp at hy; subst hy; exact .refl _, fun y hy => .inl hy, fun j hj e st => by
      have : j = 0 := by omega
      subst this
      simp [Stp] at st
      simp [st]⟩, fun e he => by simp at he; omega, rfl⟩
  obtain ⟨δ', e1, N, W, x6, x9, x7, x8, x10, h6, h9, hR, hb, rfl⟩ := L
  rw [rangeD_len] at hR
  refine ⟨N, ?_, hR.nd, fun e => ⟨fun he => ?_, fun m => ?_⟩⟩
  · have e0 : ∀ x3 x4 x5 x7 x8 x10 x11 : Option O, wR1 (gaCons (gZ (gX2 fAdd (gN fLen (gaCons (gV 1) gaNil)) (gC (D.int 2)))) gaNil) [some (.fz (sq b [.str "many", p.toD b])), some (.fz (diD bd d)), some (.fz (.int (x : Int))), x3, x4, x5, some (.lst [.fz (.int (x : Int))]), x7, x8, some (.lst [.fz (.int (x : Int))]), x10, x11] =
        .ok (rangeD 0 (d.length + 2), [some (.fz (sq b [.str "many", p.toD b])), some (.fz (diD bd d)), some (.fz (.int (x : Int))), x3, x4, x5, some (.lst [.fz (.int (x : Int))]), x7, x8, some (.lst [.fz (.int (x : Int))]), x10, x11]) :=
      fun x3 x4 x5 x7 x8 x10 x11 => rng1 (by simp) ⟨_, _, rfl⟩ (by omega)
    rw [go_law_p_ends]
    simp only [natO, List.map_cons, List.map_nil] at e1
    rcases h6 with rfl | rfl <;> simp [run_law_p_ends, Pat.toD, hi, -e_wR1, e0, e1]
  · have := hR.snd e he
    simp only [Mt]
    exact this.mono fun s t h => h.2
  · simp only [Mt] at m
    have key : ∀ t, Star (Mt d p) x t → Star (fun s t => s ≤ d.length ∧ Mt d p s t) x t ∧ t ≤ d.length := fun t z => by
      induction z with
      | refl => exact ⟨.refl _, hx⟩
      | tail _ r ih =>
        have ih := ih
        exact ⟨.tail ih.1 ⟨ih.2, r⟩, (hle _ _ ih.2 r).2⟩
    obtain ⟨k1, k2⟩ := key e m
    obtain ⟨k3, j, k4, k5⟩ := star_stp (fun a b h => (hle a b h.1 h.2).1) k1
    exact hR.all j (by omega) e k5
theorem ends_ok' (c : Cs) (b bd : Bool) (d : List Str) (hd : d.length ≤ 900) (nm : Str → Prop) : ∀ (n : Nat) (pt : Pat), pt.hgt ≤ n → pt.Wf nm → Finds (phi_law_p_ends c n) (pt.toD b) bd d (Mt d pt)
  | 0, pt, h, _ => by cases pt <;> simp [Pat.hgt] at h
  | n + 1, .any, h, wf => ends_any c b bd d hd nm n (ends_ok' c b bd d hd nm n) h wf
  | n + 1, .one a, h, wf => ends_one c b bd d hd nm n (ends_ok' c b bd d hd nm n) a h wf
  | n + 1, .eit l, h, wf => ends_eit c b bd d hd nm n (ends_ok' c b bd d hd nm n) l h wf
  | n + 1, .row l, h, wf => ends_row c b bd d hd nm n (ends_ok' c b bd d hd nm n) l h wf
  | n + 1, .many p, h, wf => ends_many c b bd d hd nm n (ends_ok' c b bd d hd nm n) p h wf
theorem law_fits_ok (c : Cs) (b bd : Bool) (d : List Str) (hd : d.length ≤ 900) (nm : Str → Prop) (pt : Pat) (hh : pt.hgt ≤ 6) (wf : pt.Wf nm) :
    ∃ r : Bool, phi_law_fits c [.fz (pt.toD b), .fz (diD bd d)] = .ok (.fz (.bl r), []) ∧ (r = true ↔ Mt d pt 0 d.length) := by
  obtain ⟨L, e1, nd, hL⟩ := ends_ok' c b bd d hd nm 6 pt hh wf 0 (by omega)
  refine ⟨decide (d.length ∈ L), ?_, by rw [decide_eq_true_eq]; exact hL _⟩
  have hi := in_nat false d.length L
  have e1' : phi_law_p_ends c 6 [.fz (pt.toD b), .fz (diD bd d), .fz (.int 0)] = .ok (.fz (.lst (natD L)), []) := e1
  rw [go_law_fits]
  simp [run_law_fits, e1', -e_fIn_1, hi]
end DL

namespace DL
open PySem L2

theorem so_bl (c : Cs) (x : Bool) : phi_law_so c 2 [.fz (.bl x), .fz (.bl x)] = .ok (.fz (.bl true), []) := by
  rw [go_law_so]; simp [run_law_so, isNonD]
theorem so_int (c : Cs) (x : Int) : phi_law_so c 2 [.fz (.int x), .fz (.int x)] = .ok (.fz (.bl true), []) := by
  rw [go_law_so]; simp [run_law_so, isNonD]
theorem so_non (c : Cs) : phi_law_so c 2 [.fz .non, .fz .non] = .ok (.fz (.bl true), []) := by
  rw [go_law_so]; simp [run_law_so, isNonD]
abbrev nm3 : List Str := ["a", "b", "cc"]
abbrev nm4 : List Str := ["a", "b", "cc", "zz"]
theorem nm3_ok : ∀ s ∈ nm3, NameOk s := by
  intro s hs
  simp at hs
  rcases hs with rfl | rfl | rfl <;> exact ⟨by decide +kernel, by decide +kernel, by decide +kernel, by decide +kernel⟩
theorem nm4_ok : ∀ s ∈ nm4, NameOk s := by
  intro s hs
  simp at hs
  rcases hs with rfl | rfl | rfl | rfl <;> exact ⟨by decide +kernel, by decide +kernel, by decide +kernel, by decide +kernel⟩
/-- the names, as the law has them -/
def nD3 : D := namesD nm3
def nD4 : List D := nm4.map D.str
theorem add_nm : fAdd nD3 (.lst [.str "zz"]) = some (.new nD4) := rfl
@[simp] theorem toDL_fz (l : List D) : O.toDL (l.map O.fz) = l := by rw [toDL_map, List.map_map]; exact List.map_id l
/-- the diary's events are drawn -/
theorem draw_dia (c : Cs) (row : List Int) (hr : row ≠ []) (a0 a4 a5 a6 a7 a8 a9 : Option O) (n p : Nat) : ∃ (d : List Str) (p' : Nat), d.length = n ∧ (∀ s ∈ d, s ∈ nm4) ∧
    lcL (tgN 10) (fun δ => .ok (true, δ)) (elt1_law c) [10] (rangeD 0 n) [a0, some (.fz (ints_ row)), some (spotO p), some (.fz (nD3)), a4, a5, a6, a7, a8, a9, none] =
      .ok (d.map fun s => .fz (.str s), [a0, some (.fz (ints_ row)), some (spotO p'), some (.fz (nD3)), a4, a5, a6, a7, a8, a9, none]) := by
  have L := lcL_gen (tg := tgN 10) (gt := fun δ => .ok (true, δ)) (ge := elt1_law c) (vs := [10]) (rangeD 0 n)
    (fun i acc δ => ∃ (d : List Str) (p' : Nat), d.length = i ∧ (∀ s ∈ d, s ∈ nm4) ∧ acc = d.map (fun s => O.fz (.str s)) ∧ δ = [a0, some (.fz (ints_ row)), some (spotO p'), some (.fz (nD3)), a4, a5, a6, a7, a8, a9, none]) []
    [a0, some (.fz (ints_ row)), some (spotO p), some (.fz (nD3)), a4, a5, a6, a7, a8, a9, none]
    (fun i dd acc δ hdd h => by
      obtain ⟨d, p', hl, hd, rfl, rfl⟩ := h
      obtain ⟨x, hx, e⟩ := pick_ok c row hr p' nD4 (by simp [nD4])
      obtain ⟨s, hs, rfl⟩ := List.mem_map.mp hx
      refine ⟨_, true, _, rfl, rfl, nofun, fun _ => ⟨.fz (.str s), [a0, some (.fz (ints_ row)), some (spotO (p' + 1)), some (.fz (nD3)), a4, a5, a6, a7, a8, a9, some (.fz dd)], ?_, d ++ [s], p' + 1, by simp [hl], ?_, by simp, rfl⟩⟩
      · have := add_nm
        simp [elt1_law, -e_fAdd_2, this, e]
      · intro y hy
        rcases List.mem_append.mp hy with h | h
        · exact hd y h
        · rw [List.mem_singleton] at h; subst h; exact hs) ⟨[], p, rfl, by simp, rfl, rfl⟩
  obtain ⟨l, δ', e, d, p', hl, hd, h1, rfl⟩ := L
  rw [rangeD_len] at hl
  rw [List.nil_append] at h1
  subst h1
  exact ⟨d, p', hl, hd, e⟩
/-- all the ends -/
theorem loop2 (c : Cs) (pt : Pat) (wf : pt.Wf (· ∈ nm3)) (hh : pt.hgt ≤ 6) (d : List Str) (hd : d.length ≤ 30) (a0 a1 a2 a3 a4 a6 a9 a10 : Option O) : ∃ (A : List Nat) (x8 : O) (x9 : Option O), IsL x8 A ∧ A.length ≤ 100000 ∧ (∀ e, e ∈ A ↔ ∃ s, s ≤ d.length ∧ Mt d pt s e) ∧
    forR (tgN 9) (body2_law c) (rangeD 0 (d.length + 1)) [a0, a1, a2, a3, a4, some (.fz (pt.toD false)), a6, some (.fz (diD false d)), some (.lst []), a9, a10] =
      .ok (.nx [a0, a1, a2, a3, a4, some (.fz (pt.toD false)), a6, some (.fz (diD false d)), some x8, x9, a10]) := by
  have L := forR_inv (t := tgN 9) (f := body2_law c) (rangeD 0 (d.length + 1))
    (fun i δ => ∃ (A : List Nat) (x8 : O) (x9 : Option O), IsL x8 A ∧ A.length ≤ i * 40 ∧ (∀ e, e ∈ A ↔ ∃ s, s < i ∧ Mt d pt s e) ∧ δ = [a0, a1, a2, a3, a4, some (.fz (pt.toD false)), a6, some (.fz (diD false d)), some x8, x9, a10])
    [a0, a1, a2, a3, a4, some (.fz (pt.toD false)), a6, some (.fz (diD false d)), some (.lst []), a9, a10]
    (fun i dd δ hdd h => by
      obtain ⟨A, x8, x9, h8, hl, hA, rfl⟩ := h
      obtain ⟨hi, rfl⟩ := rangeD_get hdd
      obtain ⟨L, e1, nd, hL⟩ := ends_ok' c false false d (by omega) (· ∈ nm3) 6 pt hh wf i (by omega)
      have hle := mt_le d (· ∈ nm3) 6 pt hh
      have hLl := nodup_len (d.length + 1) L nd fun y hy => by have := (hle i y (by omega) ((hL y).mp hy)).2; omega
      have hs : A.length + L.length ≤ 100000 := by
        have : i * 40 ≤ 31 * 40 := Nat.mul_le_mul_right _ (by omega)
        omega
      refine ⟨_, rfl, [a0, a1, a2, a3, a4, some (.fz (pt.toD false)), a6, some (.fz (diD false d)), some (.lst (natO (A ++ L))), some (.fz (.int (0 + (i : Nat)))), a10], ?_, A ++ L, _, _, .inl rfl, by rw [List.length_append]; omega, fun e => ?_, rfl⟩
      · rcases h8 with rfl | rfl <;> simp [body2_law, e1, hs, natD_fz]
      · rw [List.mem_append, hA e, hL e]
        constructor
        · rintro (⟨s, h1, h2⟩ | h)
          · exact ⟨s, by omega, h2⟩
          · exact ⟨i, by omega, h⟩
        · rintro ⟨s, h1, h2⟩
          by_cases q : s = i
          · subst q; exact .inr h2
          · exact .inl ⟨s, by omega, h2⟩) ⟨[], _, a9, .inl rfl, by simp, fun e => by simp, rfl⟩
  obtain ⟨δ', e, A, x8, x9, h8, hl, hA, rfl⟩ := L
  rw [rangeD_len] at hl hA
  refine ⟨A, x8, x9, h8, by omega, fun e => ?_, e⟩
  rw [hA e]
  exact exists_congr fun s => and_congr_left fun _ => by omega
def minD (A : List Nat) : D := if A = [] then .non else .int (minL (A.map fun (n : Nat) => (n : Int)))
theorem ints_nat (A : List Nat) : intsD (natD A) = some (A.map fun (n : Nat) => (n : Int)) := by
  have := intsD_map (A.map fun (n : Nat) => (n : Int))
  rw [List.map_map] at this
  exact this
theorem mt_mono (d : List Str) : ∀ (n : Nat) (q : Pat), q.hgt ≤ n → ∀ s t, Mt d q s t → s ≤ t := by
  intro n
  induction n with
  | zero => intro q hq; cases q <;> simp [Pat.hgt] at hq
  | succ n ih =>
    intro q hq s t m
    cases q with
    | any => simp only [Mt] at m; omega
    | one a => simp only [Mt] at m; omega
    | many q =>
      simp only [Mt] at m
      exact (star_stp (fun x y h => ih q (by simp [Pat.hgt] at hq; omega) x y h) m).1
    | row l =>
      simp only [Mt] at m
      have hl : ∀ p ∈ l, p.hgt ≤ n := fun p hp => by have := Pat.hgt_mem hp; simp [Pat.hgt] at hq; omega
      clear hq
      induction l generalizing s with
      | nil => simp only [MtR] at m; omega
      | cons p r ih2 =>
        obtain ⟨k, k1, k2⟩ := m
        have g1 := ih p (hl p (by simp)) s k k1
        have g2 := ih2 k k2 fun q hq => hl q (by simp [hq])
        omega
    | eit l =>
      simp only [Mt] at m
      have hl : ∀ p ∈ l, p.hgt ≤ n := fun p hp => by have := Pat.hgt_mem hp; simp [Pat.hgt] at hq; omega
      clear hq
      induction l with
      | nil => exact m.elim
      | cons p r ih2 =>
        rcases m with m | m
        · exact ih p (hl p (by simp)) s t m
        · exact ih2 m fun q hq => hl q (by simp [hq])
theorem min_is (d : List Str) (pt : Pat) (hh : pt.hgt ≤ 4) (A : List Nat) (hA : ∀ e, e ∈ A ↔ ∃ s, s ≤ d.length ∧ Mt d pt s e) (r : D)
    (m3 : (r = .non ∧ ∀ t, t ≤ d.length → ∀ s, ¬ Mt d pt s t) ∨ ∃ t : Nat, r = .int (t : Int) ∧ t ≤ d.length ∧ (∃ s, Mt d pt s t) ∧ ∀ t', t' < t → ∀ s, ¬ Mt d pt s t') : r = minD A := by
  have hle := mt_le d (· ∈ nm3) 6 pt (by omega)
  rcases m3 with ⟨rfl, h⟩ | ⟨t, rfl, h1, ⟨s, h2⟩, h3⟩
  · have : A = [] := by
      cases hA' : A with
      | nil => rfl
      | cons a l =>
        obtain ⟨s, hs, m⟩ := (hA a).mp (by rw [hA']; simp)
        exact (h a (hle s a hs m).2 s m).elim
    rw [minD, if_pos this]
  · have hs : s ≤ d.length := by
      by_cases q : s ≤ d.length
      · exact q
      · exfalso
        have := mt_mono d 6 pt (by omega) s t h2
        omega
    have hmem : t ∈ A := (hA t).mpr ⟨s, hs, h2⟩
    have hne : A ≠ [] := fun z => by rw [z] at hmem; simp at hmem
    rw [minD, if_neg hne]
    obtain ⟨g1, g2⟩ := minL_spec (l := A.map fun (n : Nat) => (n : Int)) (by simpa using hne)
    obtain ⟨u, hu, eu⟩ := List.mem_map.mp g1
    have h4 := g2 (t : Int) (List.mem_map.mpr ⟨t, hmem, rfl⟩)
    obtain ⟨s', hs', m'⟩ := (hA u).mp hu
    have h5 : ¬ u < t := fun z => h3 u z s' m'
    congr 1
    omega
theorem min_step (c : Cs) (A : List Nat) (x8 : O) (h8 : IsL x8 A) (a0 a1 a2 a3 a4 a5 a6 a7 a9 a10 : Option O) :
    gIf (gB (g2 fGt (gN fLen (gaCons (gV 8) gaNil)) (gC (D.int 0)))) (gN fMin (gaCons (gV 8) gaNil)) (gC D.non) [a0, a1, a2, a3, a4, a5, a6, a7, some x8, a9, a10] =
      .ok (minD A, [a0, a1, a2, a3, a4, a5, a6, a7, some (.fz (.lst (natD A))), a9, a10]) := by
  cases A with
  | nil => rcases h8 with rfl | rfl <;> simp [minD]
  | cons a l =>
    have hi := ints_nat (a :: l)
    have hf : fMin [.lst (natD (a :: l))] = some (minD (a :: l)) := by
      show (match intsD (natD (a :: l)) with
        | some (a :: r) => some (D.int (minL (a :: r)))
        | _ => none) = _
      rw [hi]
      rfl
    have hpos : (0 : Int) < (l.length : Int) + 1 := by omega
    rcases h8 with rfl | rfl <;> simp [hf, hpos]
theorem dia_step (c : Cs) (row : List Int) (p p1 n : Nat) (d : List Str) (a0 a4 a5 a6 a7 a8 a9 : Option O) (hn : n ≤ 100) (e1 : phi_law_take c [.fz (ints_ row), spotO p, .fz (.int 7)] = .ok (.fz (.int (n : Int)), [spotO (p + 1)]))
    (e2 : lcL (tgN 10) (fun δ => .ok (true, δ)) (elt1_law c) [10] (rangeD 0 n) [a0, some (.fz (ints_ row)), some (spotO (p + 1)), some (.fz nD3), a4, a5, a6, a7, a8, a9, none] =
      .ok (d.map fun s => .fz (.str s), [a0, some (.fz (ints_ row)), some (spotO p1), some (.fz nD3), a4, a5, a6, a7, a8, a9, none])) :
    rSet 7 (gO (gN fTupOf (gaCons (gZ (gLc (wR1 (gaCons (gZ (gCall 3 [1] (phi_law_take c) (gAD (gV 1) (gAA 2 (gAD (gC (D.int 7)) gANil))))) gaNil)) (tgN 10) (fun δ => .ok (true, δ)) (elt1_law c) [10])) gaNil))) [a0, some (.fz (ints_ row)), some (spotO p), some (.fz nD3), a4, a5, a6, a7, a8, a9, none] =
      .ok (.nx [a0, some (.fz (ints_ row)), some (spotO p1), some (.fz nD3), a4, a5, a6, some (.fz (diD false d)), a8, a9, none]) := by
  have hm : d.map (O.toD ∘ fun s => O.fz (.str s)) = d.map D.str := rfl
  have R1 : wR1 (gaCons (gZ (gCall 3 [1] (phi_law_take c) (gAD (gV 1) (gAA 2 (gAD (gC (D.int 7)) gANil))))) gaNil) [a0, some (.fz (ints_ row)), some (spotO p), some (.fz nD3), a4, a5, a6, a7, a8, a9, none] =
      .ok (rangeD 0 n, [a0, some (.fz (ints_ row)), some (spotO (p + 1)), some (.fz nD3), a4, a5, a6, a7, a8, a9, none]) := rng1 (by simp [e1]) ⟨_, _, rfl⟩ (by omega)
  have hn1 : (rangeD 0 n).length ≤ 100000 := by rw [rangeD_len]; omega
  simp [-e_wR1, R1, e2, hn1, toDL_map, hm, diD]
theorem body3_ok (c : Cs) (row : List Int) (hr : row ≠ []) (pt : Pat) (wf : pt.Wf (· ∈ nm3)) (hh : pt.hgt ≤ 4) (hc : pt.cnt ≤ 12) (p : Nat) (a0 a4 a6 a7 a8 a9 : Option O) : ∃ (p' : Nat) (x7 x8 x9 : Option O),
    body3_law c [a0, some (.fz (ints_ row)), some (spotO p), some (.fz (nD3)), a4, some (.fz (pt.toD false)), a6, a7, a8, a9, none] =
      .ok (.nx [a0, some (.fz (ints_ row)), some (spotO p'), some (.fz (nD3)), a4, some (.fz (pt.toD false)), a6, x7, x8, x9, none]) := by
  obtain ⟨r, r0, r1, e1⟩ := take_ok c row hr p 7 (by omega)
  obtain ⟨n, rfl⟩ := Int.eq_ofNat_of_zero_le r0
  obtain ⟨d, p1, hl, hd, e2⟩ := draw_dia c row hr a0 a4 (some (.fz (pt.toD false))) a6 a7 a8 a9 n (p + 1)
  have hdl : d.length ≤ 6 := by omega
  have hdn : ∀ s ∈ d, NameOk s := fun s hs => nm4_ok s (hd s hs)
  obtain ⟨b1, e3⟩ := handed_pat c row hr p1 pt wf (by omega)
  obtain ⟨b2, e4⟩ := handed_dia c row hr (p1 + 1) d (by omega)
  obtain ⟨q1, e5, m1⟩ := fits_ok c b1 b2 (· ∈ nm3) nm3_ok pt wf (by omega) hc d (by omega) hdn
  obtain ⟨q2, e6, m2⟩ := law_fits_ok c false false d (by omega) (· ∈ nm3) pt (by omega) wf
  have hq : q1 = q2 := by
    cases q1 <;> cases q2 <;> simp_all
  subst hq
  have e7 := so_bl c q1
  obtain ⟨A, x8, x9, h8, hA1, hA, e8⟩ := loop2 c pt wf (by omega) d (by omega) a0 (some (.fz (ints_ row))) (some (spotO (p1 + 1 + 1))) (some (.fz (nD3))) a4 a6 a9 none
  obtain ⟨b3, e9⟩ := handed_pat c row hr (p1 + 1 + 1) pt wf (by omega)
  obtain ⟨b4, e10⟩ := handed_dia c row hr (p1 + 1 + 1 + 1) d (by omega)
  obtain ⟨r, e11, m3⟩ := first_ok c b3 b4 (· ∈ nm3) nm3_ok pt wf (by omega) hc d (by omega) hdn
  have hr' : r = minD A := min_is d pt hh A hA r m3
  have e12 : phi_law_so c 2 [.fz r, .fz r] = .ok (.fz (.bl true), []) := by
    rcases m3 with ⟨rfl, _⟩ | ⟨t, rfl, _⟩
    · exact so_non c
    · exact so_int c _
  have R2 : ∀ sp y8 : Option O, wR1 (gaCons (gZ (gX2 fAdd (gN fLen (gaCons (gV 7) gaNil)) (gC (D.int 1)))) gaNil) [a0, some (.fz (ints_ row)), sp, some (.fz (nD3)), a4, some (.fz (pt.toD false)), a6, some (.fz (diD false d)), y8, a9, none] =
      .ok (rangeD 0 (d.length + 1), [a0, some (.fz (ints_ row)), sp, some (.fz (nD3)), a4, some (.fz (pt.toD false)), a6, some (.fz (diD false d)), y8, a9, none]) := fun sp y8 => rng1 (by simp) ⟨_, _, rfl⟩ (by omega)
  refine ⟨p1 + 1 + 1 + 1 + 1, some (.fz (diD false d)), some (.fz (.lst (natD A))), x9, ?_⟩
  have hx := min_step c A x8 h8 a0 (some (.fz (ints_ row))) (some (spotO (p1 + 1 + 1 + 1 + 1))) (some (.fz nD3)) a4 (some (.fz (pt.toD false))) a6 (some (.fz (diD false d))) x9 none
  rw [← hr'] at hx
  have S1 := dia_step c row p p1 n d a0 a4 (some (.fz (pt.toD false))) a6 a7 a8 a9 (by omega) e1 e2
  have S2 : ∀ y8 : Option O, rIf (gNot (gB (gZ (gCall 2 [] (phi_law_so c 2) (gAD (gZ (gCall 2 [] (phi_fits c) (gAD (gZ (gCall 3 [1] (phi_law_handed c) (gAD (gV 1) (gAA 2 (gAD (gV 5) gANil))))) (gAD (gZ (gCall 3 [1] (phi_law_handed c) (gAD (gV 1) (gAA 2 (gAD (gV 7) gANil))))) gANil)))) (gAD (gZ (gCall 2 [] (phi_law_fits c) (gAD (gV 5) (gAD (gV 7) gANil)))) gANil)))))) (rRet (gO (gC (D.bl false)))) rNext
      [a0, some (.fz (ints_ row)), some (spotO p1), some (.fz nD3), a4, some (.fz (pt.toD false)), a6, some (.fz (diD false d)), y8, a9, none] =
      .ok (.nx [a0, some (.fz (ints_ row)), some (spotO (p1 + 1 + 1)), some (.fz nD3), a4, some (.fz (pt.toD false)), a6, some (.fz (diD false d)), y8, a9, none]) := fun y8 => by
    simp [e3, e4, e5, e6, e7]
  have S3 : rSet 8 (gaLst gaNil) [a0, some (.fz (ints_ row)), some (spotO (p1 + 1 + 1)), some (.fz nD3), a4, some (.fz (pt.toD false)), a6, some (.fz (diD false d)), a8, a9, none] =
      .ok (.nx [a0, some (.fz (ints_ row)), some (spotO (p1 + 1 + 1)), some (.fz nD3), a4, some (.fz (pt.toD false)), a6, some (.fz (diD false d)), some (.lst []), a9, none]) := by simp
  have S4 : rFor (wR1 (gaCons (gZ (gX2 fAdd (gN fLen (gaCons (gV 7) gaNil)) (gC (D.int 1)))) gaNil)) (tgN 9) (body2_law c) [a0, some (.fz (ints_ row)), some (spotO (p1 + 1 + 1)), some (.fz nD3), a4, some (.fz (pt.toD false)), a6, some (.fz (diD false d)), some (.lst []), a9, none] =
      .ok (.nx [a0, some (.fz (ints_ row)), some (spotO (p1 + 1 + 1)), some (.fz nD3), a4, some (.fz (pt.toD false)), a6, some (.fz (diD false d)), some x8, x9, none]) := by
    rw [e_rFor, R2, Rz.bind_ok]
    exact e8
  have S5 : rIf (gNot (gB (gZ (gCall 2 [] (phi_law_so c 2) (gAD (gZ (gCall 2 [] (phi_first_end c) (gAD (gZ (gCall 3 [1] (phi_law_handed c) (gAD (gV 1) (gAA 2 (gAD (gV 5) gANil))))) (gAD (gZ (gCall 3 [1] (phi_law_handed c) (gAD (gV 1) (gAA 2 (gAD (gV 7) gANil))))) gANil)))) (gAD (gIf (gB (g2 fGt (gN fLen (gaCons (gV 8) gaNil)) (gC (D.int 0)))) (gN fMin (gaCons (gV 8) gaNil)) (gC D.non)) gANil)))))) (rRet (gO (gC (D.bl false)))) rNext
      [a0, some (.fz (ints_ row)), some (spotO (p1 + 1 + 1)), some (.fz nD3), a4, some (.fz (pt.toD false)), a6, some (.fz (diD false d)), some x8, x9, none] =
      .ok (.nx [a0, some (.fz (ints_ row)), some (spotO (p1 + 1 + 1 + 1 + 1)), some (.fz nD3), a4, some (.fz (pt.toD false)), a6, some (.fz (diD false d)), some (.fz (.lst (natD A))), x9, none]) := by
    simp [-e_gIf, e9, e10, e11, e12, hx]
  unfold body3_law
  rw [e_rSeq, S1, Rz.bind_ok]
  show rSeq _ _ _ = _
  rw [e_rSeq, S2, Rz.bind_ok]
  show rSeq _ _ _ = _
  rw [e_rSeq, S3, Rz.bind_ok]
  show rSeq _ _ _ = _
  rw [e_rSeq, S4, Rz.bind_ok]
  exact S5
theorem fold_nD : D.lst [.str "a", .str "b", .str "cc"] = nD3 := rfl
theorem body4_ok (c : Cs) (row : List Int) (hr : row ≠ []) (p : Nat) (x3 : O) (h3 : x3 = .lst [.fz (.str "a"), .fz (.str "b"), .fz (.str "cc")] ∨ x3 = .fz nD3) (a0 a4 a5 a6 a7 a8 a9 : Option O) : ∃ (p' : Nat) (x5 x6 x7 x8 x9 : Option O),
    body4_law c [a0, some (.fz (ints_ row)), some (spotO p), some x3, a4, a5, a6, a7, a8, a9, none] =
      .ok (.nx [a0, some (.fz (ints_ row)), some (spotO p'), some (.fz nD3), a4, x5, x6, x7, x8, x9, none]) := by
  obtain ⟨pt, p1, wf, hh, hc, e1⟩ := small_ok c row hr nm3 (by simp) p
  have e1' : phi_law_small_pattern c [.fz (ints_ row), spotO p, .fz nD3] = .ok (.fz (pt.toD false), [spotO p1]) := e1
  have L := forR_inv (t := tgN 6) (f := body3_law c) (rangeD 0 4)
    (fun i δ => ∃ (p' : Nat) (x6 x7 x8 x9 : Option O), δ = [a0, some (.fz (ints_ row)), some (spotO p'), some (.fz nD3), a4, some (.fz (pt.toD false)), x6, x7, x8, x9, none])
    [a0, some (.fz (ints_ row)), some (spotO p1), some (.fz nD3), a4, some (.fz (pt.toD false)), a6, a7, a8, a9, none]
    (fun i dd δ hdd h => by
      obtain ⟨p', x6, x7, x8, x9, rfl⟩ := h
      obtain ⟨p'', y7, y8, y9, e⟩ := body3_ok c row hr pt wf hh hc p' a0 a4 (some (.fz dd)) x7 x8 x9
      exact ⟨_, rfl, _, e, _, _, _, _, _, rfl⟩) ⟨p1, _, _, _, _, rfl⟩
  obtain ⟨δ', e2, p', x6, x7, x8, x9, rfl⟩ := L
  refine ⟨p', some (.fz (pt.toD false)), x6, x7, x8, x9, ?_⟩
  have S1 : rSet 5 (gCall 3 [1] (phi_law_small_pattern c) (gAD (gV 1) (gAA 2 (gAD (gV 3) gANil)))) [a0, some (.fz (ints_ row)), some (spotO p), some x3, a4, a5, a6, a7, a8, a9, none] =
      .ok (.nx [a0, some (.fz (ints_ row)), some (spotO p1), some (.fz nD3), a4, some (.fz (pt.toD false)), a6, a7, a8, a9, none]) := by
    rcases h3 with rfl | rfl
    · simp [fold_nD, e1']
    · simp [e1']
  have R : wR1 (gaCons (gC (D.int 4)) gaNil) [a0, some (.fz (ints_ row)), some (spotO p1), some (.fz nD3), a4, some (.fz (pt.toD false)), a6, a7, a8, a9, none] = .ok (rangeD 0 4, [a0, some (.fz (ints_ row)), some (spotO p1), some (.fz nD3), a4, some (.fz (pt.toD false)), a6, a7, a8, a9, none]) :=
    rng1 rfl ⟨_, _, rfl⟩ (by omega)
  unfold body4_law
  rw [e_rSeq, S1, Rz.bind_ok]
  show rFor _ _ _ _ = _
  rw [e_rFor, R, Rz.bind_ok]
  exact e2
theorem law_true (c : Cs) (ns : List Int) (hs : Small ns) : phi_law c [scrO ns] = .ok (.fz (.bl true), []) := by
  obtain ⟨row, hr, e1⟩ := numbers_ok c ns hs.1
  have L := forR_inv (t := tgN 4) (f := body4_law c) (rangeD 0 4)
    (fun i δ => ∃ (p' : Nat) (x3 : O) (x4 x5 x6 x7 x8 x9 : Option O), (x3 = .lst [.fz (.str "a"), .fz (.str "b"), .fz (.str "cc")] ∨ x3 = .fz nD3) ∧ δ = [some (scrO ns), some (.fz (ints_ row)), some (spotO p'), some x3, x4, x5, x6, x7, x8, x9, none])
    [some (scrO ns), some (.fz (ints_ row)), some (spotO 0), some (.lst [.fz (.str "a"), .fz (.str "b"), .fz (.str "cc")]), none, none, none, none, none, none, none]
    (fun i dd δ hdd h => by
      obtain ⟨p', x3, x4, x5, x6, x7, x8, x9, h3, rfl⟩ := h
      obtain ⟨p'', y5, y6, y7, y8, y9, e⟩ := body4_ok c row hr p' x3 h3 (some (scrO ns)) (some (.fz dd)) x5 x6 x7 x8 x9
      exact ⟨_, rfl, _, e, _, _, _, _, _, _, _, _, .inr rfl, rfl⟩) ⟨0, _, _, _, _, _, _, _, .inl rfl, rfl⟩
  obtain ⟨δ', e2, p', x3, x4, x5, x6, x7, x8, x9, h3, rfl⟩ := L
  have S1 : rSet 1 (gCall 1 [] (phi_law_numbers c) (gAD (gV 0) gANil)) [some (scrO ns), none, none, none, none, none, none, none, none, none, none] = .ok (.nx [some (scrO ns), some (.fz (ints_ row)), none, none, none, none, none, none, none, none, none]) := by simp [e1]
  have S2 : rSet 2 (gaLst (gaCons (gC (D.int 0)) gaNil)) [some (scrO ns), some (.fz (ints_ row)), none, none, none, none, none, none, none, none, none] = .ok (.nx [some (scrO ns), some (.fz (ints_ row)), some (spotO 0), none, none, none, none, none, none, none, none]) := by simp
  have S3 : rSet 3 (gaLst (gaCons (gC (D.str "a")) (gaCons (gC (D.str "b")) (gaCons (gC (D.str "cc")) gaNil)))) [some (scrO ns), some (.fz (ints_ row)), some (spotO 0), none, none, none, none, none, none, none, none] = .ok (.nx [some (scrO ns), some (.fz (ints_ row)), some (spotO 0), some (.lst [.fz (.str "a"), .fz (.str "b"), .fz (.str "cc")]), none, none, none, none, none, none, none]) := by simp
  have R : wR1 (gaCons (gC (D.int 4)) gaNil) [some (scrO ns), some (.fz (ints_ row)), some (spotO 0), some (.lst [.fz (.str "a"), .fz (.str "b"), .fz (.str "cc")]), none, none, none, none, none, none, none] = .ok (rangeD 0 4, [some (scrO ns), some (.fz (ints_ row)), some (spotO 0), some (.lst [.fz (.str "a"), .fz (.str "b"), .fz (.str "cc")]), none, none, none, none, none, none, none]) :=
    rng1 rfl ⟨_, _, rfl⟩ (by omega)
  have S4 : rFor (wR1 (gaCons (gC (D.int 4)) gaNil)) (tgN 4) (body4_law c) [some (scrO ns), some (.fz (ints_ row)), some (spotO 0), some (.lst [.fz (.str "a"), .fz (.str "b"), .fz (.str "cc")]), none, none, none, none, none, none, none] =
      .ok (.nx [some (scrO ns), some (.fz (ints_ row)), some (spotO p'), some x3, x4, x5, x6, x7, x8, x9, none]) := by
    rw [e_rFor, R, Rz.bind_ok]
    exact e2
  have E : run_law c [some (scrO ns), none, none, none, none, none, none, none, none, none, none] = .ok (.rt (.fz (.bl true)) [some (scrO ns), some (.fz (ints_ row)), some (spotO p'), some x3, x4, x5, x6, x7, x8, x9, none]) := by
    unfold run_law
    rw [e_rSeq, S1, Rz.bind_ok]
    show rSeq _ _ _ = _
    rw [e_rSeq, S2, Rz.bind_ok]
    show rSeq _ _ _ = _
    rw [e_rSeq, S3, Rz.bind_ok]
    show rSeq _ _ _ = _
    rw [e_rSeq, S4, Rz.bind_ok]
    simp
  rw [go_law, E]
  rfl
end DL

namespace DL
open PySem L2
theorem all_mk {l : PySem.W.OpenLaw} {w : World} {K : PySem.W.Frag} {h : Heap} {mg : Str → Option Value} {fa : Addr} (X : K.In h) (G : h.Ns mainGlobals mg) (hfa : mg "law" = some (.ref fa))
    {C_PatternNet f_law_numbers f_law_draw f_law_take f_law_pick f_law_pattern f_law_p_count f_law_small_pattern f_law_so f_is_sequence f_is_row f_is_name f_is_outline f_inner_patterns f_is_pattern f_check_diary f_PatternNet_laid_event f_PatternNet_lead f_PatternNet_laid_either f_PatternNet_laid_row f_PatternNet_laid f_PatternNet_init f_PatternNet_after f_PatternNet_ends f_fits f_law_listed f_law_handed f_law_p_ends f_law_fits f_first_end f_law a_WORDS : Addr} {od0 an0 od1 an1 od2 an2 od3 an3 od4 an4 od5 an5 od6 an6 od7 an7 od8 an8 od9 an9 od10 an10 od11 an11 od12 an12 od13 an13 od14 an14 od15 an15 od16 an16 od17 an17 od18 an18 od19 an19 od20 an20 od21 an21 od22 an22 od23 an23 od24 an24 od25 an25 od26 an26 od27 an27 od28 an28 od29 an29 ot_WORDS : Option Addr} {sl0 sl1 sl2 sl3 sl4 sl5 sl6 sl7 sl8 sl9 sl10 sl11 sl12 sl13 sl14 sl15 sl16 sl17 sl18 sl19 sl20 sl21 sl22 sl23 sl24 sl25 sl26 sl27 sl28 sl29 st_WORDS : Array (Option Value)} {oc0 kV0 dc0 pm0 cd0 ct0 oc1 kV1 dc1 pm1 cd1 ct1 oc2 kV2 dc2 pm2 cd2 ct2 oc3 kV3 dc3 pm3 cd3 ct3 oc4 kV4 dc4 pm4 cd4 ct4 oc5 kV5 dc5 pm5 cd5 ct5 oc6 kV6 dc6 pm6 cd6 ct6 oc7 kV7 dc7 pm7 cd7 ct7 oc8 kV8 dc8 pm8 cd8 ct8 oc9 kV9 dc9 pm9 cd9 ct9 oc10 kV10 dc10 pm10 cd10 ct10 oc11 kV11 dc11 pm11 cd11 ct11 oc12 kV12 dc12 pm12 cd12 ct12 oc13 kV13 dc13 pm13 cd13 ct13 oc14 kV14 dc14 pm14 cd14 ct14 oc15 kV15 dc15 pm15 cd15 ct15 oc16 kV16 dc16 pm16 cd16 ct16 oc17 kV17 dc17 pm17 cd17 ct17 oc18 kV18 dc18 pm18 cd18 ct18 oc19 kV19 dc19 pm19 cd19 ct19 oc20 kV20 dc20 pm20 cd20 ct20 oc21 kV21 dc21 pm21 cd21 ct21 oc22 kV22 dc22 pm22 cd22 ct22 oc23 kV23 dc23 pm23 cd23 ct23 oc24 kV24 dc24 pm24 cd24 ct24 oc25 kV25 dc25 pm25 cd25 ct25 oc26 kV26 dc26 pm26 cd26 ct26 oc27 kV27 dc27 pm27 cd27 ct27 oc28 kV28 dc28 pm28 cd28 ct28 oc29 kV29 dc29 pm29 cd29 ct29 : Value} {t_WORDS0 t_WORDS1 t_WORDS2 t_WORDS3 t_WORDS4 t_LETTERS t_LEAST_MEMBERS t_MOST_MEMBERS t_MOST_PATTERNS t_MOST_LEVELS t_MOST_EVENTS : Tok} {nt_WORDS : Nat}
    (aC_PatternNet : PySem.W.nsIn K mainGlobals "PatternNet" = some (some (.ref C_PatternNet)))
    (a0 : PySem.W.nsIn K mainGlobals "_law_numbers" = some (some (.ref f_law_numbers)))
    (l0 : K.lookup f_law_numbers = some ⟨oc0, od0, .func (PySem.W.fnOf "_law_numbers" "_law_numbers" (defArgs s_law_numbers) (defBody s_law_numbers) (defScope s_law_numbers) .none kV0 dc0 pm0 an0 cd0 ct0), sl0⟩)
    (c0 : PySem.W.codeIn K cd0 "_law_numbers" = true)
    (k0 : PySem.W.keepIn K (.ref f_law_numbers) = true)
    (a1 : PySem.W.nsIn K mainGlobals "_law_draw" = some (some (.ref f_law_draw)))
    (l1 : K.lookup f_law_draw = some ⟨oc1, od1, .func (PySem.W.fnOf "_law_draw" "_law_draw" (defArgs s_law_draw) (defBody s_law_draw) (defScope s_law_draw) .none kV1 dc1 pm1 an1 cd1 ct1), sl1⟩)
    (c1 : PySem.W.codeIn K cd1 "_law_draw" = true)
    (k1 : PySem.W.keepIn K (.ref f_law_draw) = true)
    (a2 : PySem.W.nsIn K mainGlobals "_law_take" = some (some (.ref f_law_take)))
    (l2 : K.lookup f_law_take = some ⟨oc2, od2, .func (PySem.W.fnOf "_law_take" "_law_take" (defArgs s_law_take) (defBody s_law_take) (defScope s_law_take) .none kV2 dc2 pm2 an2 cd2 ct2), sl2⟩)
    (c2 : PySem.W.codeIn K cd2 "_law_take" = true)
    (k2 : PySem.W.keepIn K (.ref f_law_take) = true)
    (a3 : PySem.W.nsIn K mainGlobals "_law_pick" = some (some (.ref f_law_pick)))
    (l3 : K.lookup f_law_pick = some ⟨oc3, od3, .func (PySem.W.fnOf "_law_pick" "_law_pick" (defArgs s_law_pick) (defBody s_law_pick) (defScope s_law_pick) .none kV3 dc3 pm3 an3 cd3 ct3), sl3⟩)
    (c3 : PySem.W.codeIn K cd3 "_law_pick" = true)
    (k3 : PySem.W.keepIn K (.ref f_law_pick) = true)
    (a4 : PySem.W.nsIn K mainGlobals "_law_pattern" = some (some (.ref f_law_pattern)))
    (l4 : K.lookup f_law_pattern = some ⟨oc4, od4, .func (PySem.W.fnOf "_law_pattern" "_law_pattern" (defArgs s_law_pattern) (defBody s_law_pattern) (defScope s_law_pattern) .none kV4 dc4 pm4 an4 cd4 ct4), sl4⟩)
    (c4 : PySem.W.codeIn K cd4 "_law_pattern" = true)
    (k4 : PySem.W.keepIn K (.ref f_law_pattern) = true)
    (a5 : PySem.W.nsIn K mainGlobals "_law_p_count" = some (some (.ref f_law_p_count)))
    (l5 : K.lookup f_law_p_count = some ⟨oc5, od5, .func (PySem.W.fnOf "_law_p_count" "_law_p_count" (defArgs s_law_p_count) (defBody s_law_p_count) (defScope s_law_p_count) .none kV5 dc5 pm5 an5 cd5 ct5), sl5⟩)
    (c5 : PySem.W.codeIn K cd5 "_law_p_count" = true)
    (k5 : PySem.W.keepIn K (.ref f_law_p_count) = true)
    (a6 : PySem.W.nsIn K mainGlobals "_law_small_pattern" = some (some (.ref f_law_small_pattern)))
    (l6 : K.lookup f_law_small_pattern = some ⟨oc6, od6, .func (PySem.W.fnOf "_law_small_pattern" "_law_small_pattern" (defArgs s_law_small_pattern) (defBody s_law_small_pattern) (defScope s_law_small_pattern) .none kV6 dc6 pm6 an6 cd6 ct6), sl6⟩)
    (c6 : PySem.W.codeIn K cd6 "_law_small_pattern" = true)
    (k6 : PySem.W.keepIn K (.ref f_law_small_pattern) = true)
    (a7 : PySem.W.nsIn K mainGlobals "_law_so" = some (some (.ref f_law_so)))
    (l7 : K.lookup f_law_so = some ⟨oc7, od7, .func (PySem.W.fnOf "_law_so" "_law_so" (defArgs s_law_so) (defBody s_law_so) (defScope s_law_so) .none kV7 dc7 pm7 an7 cd7 ct7), sl7⟩)
    (c7 : PySem.W.codeIn K cd7 "_law_so" = true)
    (k7 : PySem.W.keepIn K (.ref f_law_so) = true)
    (a8 : PySem.W.nsIn K mainGlobals "is_sequence" = some (some (.ref f_is_sequence)))
    (l8 : K.lookup f_is_sequence = some ⟨oc8, od8, .func (PySem.W.fnOf "is_sequence" "is_sequence" (defArgs s_is_sequence) (defBody s_is_sequence) (defScope s_is_sequence) .none kV8 dc8 pm8 an8 cd8 ct8), sl8⟩)
    (c8 : PySem.W.codeIn K cd8 "is_sequence" = true)
    (k8 : PySem.W.keepIn K (.ref f_is_sequence) = true)
    (a9 : PySem.W.nsIn K mainGlobals "is_row" = some (some (.ref f_is_row)))
    (l9 : K.lookup f_is_row = some ⟨oc9, od9, .func (PySem.W.fnOf "is_row" "is_row" (defArgs s_is_row) (defBody s_is_row) (defScope s_is_row) .none kV9 dc9 pm9 an9 cd9 ct9), sl9⟩)
    (c9 : PySem.W.codeIn K cd9 "is_row" = true)
    (k9 : PySem.W.keepIn K (.ref f_is_row) = true)
    (a10 : PySem.W.nsIn K mainGlobals "is_name" = some (some (.ref f_is_name)))
    (l10 : K.lookup f_is_name = some ⟨oc10, od10, .func (PySem.W.fnOf "is_name" "is_name" (defArgs s_is_name) (defBody s_is_name) (defScope s_is_name) .none kV10 dc10 pm10 an10 cd10 ct10), sl10⟩)
    (c10 : PySem.W.codeIn K cd10 "is_name" = true)
    (k10 : PySem.W.keepIn K (.ref f_is_name) = true)
    (a11 : PySem.W.nsIn K mainGlobals "_is_outline" = some (some (.ref f_is_outline)))
    (l11 : K.lookup f_is_outline = some ⟨oc11, od11, .func (PySem.W.fnOf "_is_outline" "_is_outline" (defArgs s_is_outline) (defBody s_is_outline) (defScope s_is_outline) .none kV11 dc11 pm11 an11 cd11 ct11), sl11⟩)
    (c11 : PySem.W.codeIn K cd11 "_is_outline" = true)
    (k11 : PySem.W.keepIn K (.ref f_is_outline) = true)
    (a12 : PySem.W.nsIn K mainGlobals "inner_patterns" = some (some (.ref f_inner_patterns)))
    (l12 : K.lookup f_inner_patterns = some ⟨oc12, od12, .func (PySem.W.fnOf "inner_patterns" "inner_patterns" (defArgs s_inner_patterns) (defBody s_inner_patterns) (defScope s_inner_patterns) .none kV12 dc12 pm12 an12 cd12 ct12), sl12⟩)
    (c12 : PySem.W.codeIn K cd12 "inner_patterns" = true)
    (k12 : PySem.W.keepIn K (.ref f_inner_patterns) = true)
    (a13 : PySem.W.nsIn K mainGlobals "is_pattern" = some (some (.ref f_is_pattern)))
    (l13 : K.lookup f_is_pattern = some ⟨oc13, od13, .func (PySem.W.fnOf "is_pattern" "is_pattern" (defArgs s_is_pattern) (defBody s_is_pattern) (defScope s_is_pattern) .none kV13 dc13 pm13 an13 cd13 ct13), sl13⟩)
    (c13 : PySem.W.codeIn K cd13 "is_pattern" = true)
    (k13 : PySem.W.keepIn K (.ref f_is_pattern) = true)
    (a14 : PySem.W.nsIn K mainGlobals "check_diary" = some (some (.ref f_check_diary)))
    (l14 : K.lookup f_check_diary = some ⟨oc14, od14, .func (PySem.W.fnOf "check_diary" "check_diary" (defArgs s_check_diary) (defBody s_check_diary) (defScope s_check_diary) .none kV14 dc14 pm14 an14 cd14 ct14), sl14⟩)
    (c14 : PySem.W.codeIn K cd14 "check_diary" = true)
    (k14 : PySem.W.keepIn K (.ref f_check_diary) = true)
    (a15 : PySem.W.findIn K (.ref C_PatternNet) "laid_event" = some (some (.ref f_PatternNet_laid_event)))
    (i15 : PySem.W.isFn K (.ref f_PatternNet_laid_event) = true)
    (l15 : K.lookup f_PatternNet_laid_event = some ⟨oc15, od15, .func (PySem.W.fnOf "laid_event" "PatternNet.laid_event" (defArgs s_PatternNet_laid_event) (defBody s_PatternNet_laid_event) (defScope s_PatternNet_laid_event) .none kV15 dc15 pm15 an15 cd15 ct15), sl15⟩)
    (c15 : PySem.W.codeIn K cd15 "PatternNet.laid_event" = true)
    (k15 : PySem.W.keepIn K (.ref f_PatternNet_laid_event) = true)
    (a16 : PySem.W.findIn K (.ref C_PatternNet) "lead" = some (some (.ref f_PatternNet_lead)))
    (i16 : PySem.W.isFn K (.ref f_PatternNet_lead) = true)
    (l16 : K.lookup f_PatternNet_lead = some ⟨oc16, od16, .func (PySem.W.fnOf "lead" "PatternNet.lead" (defArgs s_PatternNet_lead) (defBody s_PatternNet_lead) (defScope s_PatternNet_lead) .none kV16 dc16 pm16 an16 cd16 ct16), sl16⟩)
    (c16 : PySem.W.codeIn K cd16 "PatternNet.lead" = true)
    (k16 : PySem.W.keepIn K (.ref f_PatternNet_lead) = true)
    (a17 : PySem.W.findIn K (.ref C_PatternNet) "laid_either" = some (some (.ref f_PatternNet_laid_either)))
    (i17 : PySem.W.isFn K (.ref f_PatternNet_laid_either) = true)
    (l17 : K.lookup f_PatternNet_laid_either = some ⟨oc17, od17, .func (PySem.W.fnOf "laid_either" "PatternNet.laid_either" (defArgs s_PatternNet_laid_either) (defBody s_PatternNet_laid_either) (defScope s_PatternNet_laid_either) .none kV17 dc17 pm17 an17 cd17 ct17), sl17⟩)
    (c17 : PySem.W.codeIn K cd17 "PatternNet.laid_either" = true)
    (k17 : PySem.W.keepIn K (.ref f_PatternNet_laid_either) = true)
    (a18 : PySem.W.findIn K (.ref C_PatternNet) "laid_row" = some (some (.ref f_PatternNet_laid_row)))
    (i18 : PySem.W.isFn K (.ref f_PatternNet_laid_row) = true)
    (l18 : K.lookup f_PatternNet_laid_row = some ⟨oc18, od18, .func (PySem.W.fnOf "laid_row" "PatternNet.laid_row" (defArgs s_PatternNet_laid_row) (defBody s_PatternNet_laid_row) (defScope s_PatternNet_laid_row) .none kV18 dc18 pm18 an18 cd18 ct18), sl18⟩)
    (c18 : PySem.W.codeIn K cd18 "PatternNet.laid_row" = true)
    (k18 : PySem.W.keepIn K (.ref f_PatternNet_laid_row) = true)
    (a19 : PySem.W.findIn K (.ref C_PatternNet) "laid" = some (some (.ref f_PatternNet_laid)))
    (i19 : PySem.W.isFn K (.ref f_PatternNet_laid) = true)
    (l19 : K.lookup f_PatternNet_laid = some ⟨oc19, od19, .func (PySem.W.fnOf "laid" "PatternNet.laid" (defArgs s_PatternNet_laid) (defBody s_PatternNet_laid) (defScope s_PatternNet_laid) .none kV19 dc19 pm19 an19 cd19 ct19), sl19⟩)
    (c19 : PySem.W.codeIn K cd19 "PatternNet.laid" = true)
    (k19 : PySem.W.keepIn K (.ref f_PatternNet_laid) = true)
    (a20 : PySem.W.findIn K (.ref C_PatternNet) "__init__" = some (some (.ref f_PatternNet_init)))
    (i20 : PySem.W.isFn K (.ref f_PatternNet_init) = true)
    (l20 : K.lookup f_PatternNet_init = some ⟨oc20, od20, .func (PySem.W.fnOf "__init__" "PatternNet.__init__" (defArgs s_PatternNet_init) (defBody s_PatternNet_init) (defScope s_PatternNet_init) .none kV20 dc20 pm20 an20 cd20 ct20), sl20⟩)
    (c20 : PySem.W.codeIn K cd20 "PatternNet.__init__" = true)
    (k20 : PySem.W.keepIn K (.ref f_PatternNet_init) = true)
    (a21 : PySem.W.findIn K (.ref C_PatternNet) "after" = some (some (.ref f_PatternNet_after)))
    (i21 : PySem.W.isFn K (.ref f_PatternNet_after) = true)
    (l21 : K.lookup f_PatternNet_after = some ⟨oc21, od21, .func (PySem.W.fnOf "after" "PatternNet.after" (defArgs s_PatternNet_after) (defBody s_PatternNet_after) (defScope s_PatternNet_after) .none kV21 dc21 pm21 an21 cd21 ct21), sl21⟩)
    (c21 : PySem.W.codeIn K cd21 "PatternNet.after" = true)
    (k21 : PySem.W.keepIn K (.ref f_PatternNet_after) = true)
    (a22 : PySem.W.findIn K (.ref C_PatternNet) "ends" = some (some (.ref f_PatternNet_ends)))
    (i22 : PySem.W.isFn K (.ref f_PatternNet_ends) = true)
    (l22 : K.lookup f_PatternNet_ends = some ⟨oc22, od22, .func (PySem.W.fnOf "ends" "PatternNet.ends" (defArgs s_PatternNet_ends) (defBody s_PatternNet_ends) (defScope s_PatternNet_ends) .none kV22 dc22 pm22 an22 cd22 ct22), sl22⟩)
    (c22 : PySem.W.codeIn K cd22 "PatternNet.ends" = true)
    (k22 : PySem.W.keepIn K (.ref f_PatternNet_ends) = true)
    (a23 : PySem.W.nsIn K mainGlobals "fits" = some (some (.ref f_fits)))
    (l23 : K.lookup f_fits = some ⟨oc23, od23, .func (PySem.W.fnOf "fits" "fits" (defArgs s_fits) (defBody s_fits) (defScope s_fits) .none kV23 dc23 pm23 an23 cd23 ct23), sl23⟩)
    (c23 : PySem.W.codeIn K cd23 "fits" = true)
    (k23 : PySem.W.keepIn K (.ref f_fits) = true)
    (a24 : PySem.W.nsIn K mainGlobals "_law_listed" = some (some (.ref f_law_listed)))
    (l24 : K.lookup f_law_listed = some ⟨oc24, od24, .func (PySem.W.fnOf "_law_listed" "_law_listed" (defArgs s_law_listed) (defBody s_law_listed) (defScope s_law_listed) .none kV24 dc24 pm24 an24 cd24 ct24), sl24⟩)
    (c24 : PySem.W.codeIn K cd24 "_law_listed" = true)
    (k24 : PySem.W.keepIn K (.ref f_law_listed) = true)
    (a25 : PySem.W.nsIn K mainGlobals "_law_handed" = some (some (.ref f_law_handed)))
    (l25 : K.lookup f_law_handed = some ⟨oc25, od25, .func (PySem.W.fnOf "_law_handed" "_law_handed" (defArgs s_law_handed) (defBody s_law_handed) (defScope s_law_handed) .none kV25 dc25 pm25 an25 cd25 ct25), sl25⟩)
    (c25 : PySem.W.codeIn K cd25 "_law_handed" = true)
    (k25 : PySem.W.keepIn K (.ref f_law_handed) = true)
    (a26 : PySem.W.nsIn K mainGlobals "_law_p_ends" = some (some (.ref f_law_p_ends)))
    (l26 : K.lookup f_law_p_ends = some ⟨oc26, od26, .func (PySem.W.fnOf "_law_p_ends" "_law_p_ends" (defArgs s_law_p_ends) (defBody s_law_p_ends) (defScope s_law_p_ends) .none kV26 dc26 pm26 an26 cd26 ct26), sl26⟩)
    (c26 : PySem.W.codeIn K cd26 "_law_p_ends" = true)
    (k26 : PySem.W.keepIn K (.ref f_law_p_ends) = true)
    (a27 : PySem.W.nsIn K mainGlobals "_law_fits" = some (some (.ref f_law_fits)))
    (l27 : K.lookup f_law_fits = some ⟨oc27, od27, .func (PySem.W.fnOf "_law_fits" "_law_fits" (defArgs s_law_fits) (defBody s_law_fits) (defScope s_law_fits) .none kV27 dc27 pm27 an27 cd27 ct27), sl27⟩)
    (c27 : PySem.W.codeIn K cd27 "_law_fits" = true)
    (k27 : PySem.W.keepIn K (.ref f_law_fits) = true)
    (a28 : PySem.W.nsIn K mainGlobals "first_end" = some (some (.ref f_first_end)))
    (l28 : K.lookup f_first_end = some ⟨oc28, od28, .func (PySem.W.fnOf "first_end" "first_end" (defArgs s_first_end) (defBody s_first_end) (defScope s_first_end) .none kV28 dc28 pm28 an28 cd28 ct28), sl28⟩)
    (c28 : PySem.W.codeIn K cd28 "first_end" = true)
    (k28 : PySem.W.keepIn K (.ref f_first_end) = true)
    (a29 : PySem.W.nsIn K mainGlobals "law" = some (some (.ref f_law)))
    (l29 : K.lookup f_law = some ⟨oc29, od29, .func (PySem.W.fnOf "law" "law" (defArgs s_law) (defBody s_law) (defScope s_law) .none kV29 dc29 pm29 an29 cd29 ct29), sl29⟩)
    (c29 : PySem.W.codeIn K cd29 "law" = true)
    (k29 : PySem.W.keepIn K (.ref f_law) = true)
    (pg_PatternNet : PySem.W.plainGet K C_PatternNet Str.empty = true)
    (hd_PatternNet : PySem.W.hasDictIn K C_PatternNet = true)
    (po_PatternNet : PySem.W.plainOver K C_PatternNet = true)
    (sa_PatternNet : PySem.W.findIn K (.ref C_PatternNet) "__setattr__" = some (some (.builtin "object.__setattr__")))
    (mk_PatternNet : PySem.W.makesIn K C_PatternNet = true)
    (kc_PatternNet : PySem.W.keepIn K (.ref C_PatternNet) = true)
    (na_wanted : PySem.W.findIn K (.ref C_PatternNet) "wanted" = some none)
    (na_behind : PySem.W.findIn K (.ref C_PatternNet) "behind" = some none)
    (na_start : PySem.W.findIn K (.ref C_PatternNet) "start" = some none)
    (z_range : PySem.W.nsIn K mainGlobals "range" = some none)
    (z_int : PySem.W.nsIn K mainGlobals "int" = some none)
    (z_len : PySem.W.nsIn K mainGlobals "len" = some none)
    (z_tuple : PySem.W.nsIn K mainGlobals "tuple" = some none)
    (z_sum : PySem.W.nsIn K mainGlobals "sum" = some none)
    (z_isinstance : PySem.W.nsIn K mainGlobals "isinstance" = some none)
    (z_bool : PySem.W.nsIn K mainGlobals "bool" = some none)
    (z_str : PySem.W.nsIn K mainGlobals "str" = some none)
    (z_list : PySem.W.nsIn K mainGlobals "list" = some none)
    (z_all : PySem.W.nsIn K mainGlobals "all" = some none)
    (z_enumerate : PySem.W.nsIn K mainGlobals "enumerate" = some none)
    (z_min : PySem.W.nsIn K mainGlobals "min" = some none)
    (g_WORDS : PySem.W.nsIn K mainGlobals "WORDS" = some (some (.ref a_WORDS)))
    (q_WORDS : K.lookup a_WORDS = some ⟨.type "tuple", ot_WORDS, .seq #[.str "and" t_WORDS0, .str "or" t_WORDS1, .str "of" t_WORDS2, .str "always" t_WORDS3, .str "never" t_WORDS4] nt_WORDS, st_WORDS⟩)
    (g_LETTERS : PySem.W.nsIn K mainGlobals "LETTERS" = some (some (.str "abcdefghijklmnopqrstuvwxyz" t_LETTERS)))
    (g_LEAST_MEMBERS : PySem.W.nsIn K mainGlobals "LEAST_MEMBERS" = some (some (.int 2 t_LEAST_MEMBERS)))
    (g_MOST_MEMBERS : PySem.W.nsIn K mainGlobals "MOST_MEMBERS" = some (some (.int 5 t_MOST_MEMBERS)))
    (g_MOST_PATTERNS : PySem.W.nsIn K mainGlobals "MOST_PATTERNS" = some (some (.int 12 t_MOST_PATTERNS)))
    (g_MOST_LEVELS : PySem.W.nsIn K mainGlobals "MOST_LEVELS" = some (some (.int 5 t_MOST_LEVELS)))
    (g_MOST_EVENTS : PySem.W.nsIn K mainGlobals "MOST_EVENTS" = some (some (.int 30 t_MOST_EVENTS)))
    : ∃ fd : FuncData, (∀ (s : Shared) (v : Value), BindsTo s fd ⟨[v], []⟩ [("script", v)]) ∧ ∀ base : Heap, K.In base → base.Ns mainGlobals mg → FnOk l.prog w K mg base (L2.CX l.prog w) 17 fa fd ["script"] (spL K) := by
  have e := hfa.symm.trans (PySem.W.mg_of X G a29)
  cases e
  have F0 := fun_mk (st := s_law_numbers) l0 c0 k0
  have b0 := F0.binds (ps := ["script"]) fun _ _ _ _ _ _ us hl => match us, hl with | [_], _ => rfl
  have F1 := fun_mk (st := s_law_draw) l1 c1 k1
  have b1 := F1.binds (ps := ["row", "at", "limit"]) fun _ _ _ _ _ _ us hl => match us, hl with | [_, _, _], _ => rfl
  have F2 := fun_mk (st := s_law_take) l2 c2 k2
  have b2 := F2.binds (ps := ["row", "spot", "limit"]) fun _ _ _ _ _ _ us hl => match us, hl with | [_, _, _], _ => rfl
  have F3 := fun_mk (st := s_law_pick) l3 c3 k3
  have b3 := F3.binds (ps := ["row", "spot", "things"]) fun _ _ _ _ _ _ us hl => match us, hl with | [_, _, _], _ => rfl
  have F4 := fun_mk (st := s_law_pattern) l4 c4 k4
  have b4 := F4.binds (ps := ["row", "spot", "deep", "names"]) fun _ _ _ _ _ _ us hl => match us, hl with | [_, _, _, _], _ => rfl
  have F5 := fun_mk (st := s_law_p_count) l5 c5 k5
  have b5 := F5.binds (ps := ["pattern"]) fun _ _ _ _ _ _ us hl => match us, hl with | [_], _ => rfl
  have F6 := fun_mk (st := s_law_small_pattern) l6 c6 k6
  have b6 := F6.binds (ps := ["row", "spot", "names"]) fun _ _ _ _ _ _ us hl => match us, hl with | [_, _, _], _ => rfl
  have F7 := fun_mk (st := s_law_so) l7 c7 k7
  have b7 := F7.binds (ps := ["found", "meant"]) fun _ _ _ _ _ _ us hl => match us, hl with | [_, _], _ => rfl
  have F8 := fun_mk (st := s_is_sequence) l8 c8 k8
  have b8 := F8.binds (ps := ["x"]) fun _ _ _ _ _ _ us hl => match us, hl with | [_], _ => rfl
  have F9 := fun_mk (st := s_is_row) l9 c9 k9
  have b9 := F9.binds (ps := ["x", "least", "most"]) fun _ _ _ _ _ _ us hl => match us, hl with | [_, _, _], _ => rfl
  have F10 := fun_mk (st := s_is_name) l10 c10 k10
  have b10 := F10.binds (ps := ["x"]) fun _ _ _ _ _ _ us hl => match us, hl with | [_], _ => rfl
  have F11 := fun_mk (st := s_is_outline) l11 c11 k11
  have b11 := F11.binds (ps := ["x"]) fun _ _ _ _ _ _ us hl => match us, hl with | [_], _ => rfl
  have F12 := fun_mk (st := s_inner_patterns) l12 c12 k12
  have b12 := F12.binds (ps := ["pattern"]) fun _ _ _ _ _ _ us hl => match us, hl with | [_], _ => rfl
  have F13 := fun_mk (st := s_is_pattern) l13 c13 k13
  have b13 := F13.binds (ps := ["x"]) fun _ _ _ _ _ _ us hl => match us, hl with | [_], _ => rfl
  have F14 := fun_mk (st := s_check_diary) l14 c14 k14
  have b14 := F14.binds (ps := ["pattern", "diary"]) fun _ _ _ _ _ _ us hl => match us, hl with | [_, _], _ => rfl
  have F15 := fun_mk (st := s_PatternNet_laid_event) l15 c15 k15
  have b15 := F15.binds (ps := ["self", "name"]) fun _ _ _ _ _ _ us hl => match us, hl with | [_, _], _ => rfl
  have F16 := fun_mk (st := s_PatternNet_lead) l16 c16 k16
  have b16 := F16.binds (ps := ["self", "places", "state"]) fun _ _ _ _ _ _ us hl => match us, hl with | [_, _, _], _ => rfl
  have F17 := fun_mk (st := s_PatternNet_laid_either) l17 c17 k17
  have b17 := F17.binds (ps := ["self", "members"]) fun _ _ _ _ _ _ us hl => match us, hl with | [_, _], _ => rfl
  have F18 := fun_mk (st := s_PatternNet_laid_row) l18 c18 k18
  have b18 := F18.binds (ps := ["self", "members"]) fun _ _ _ _ _ _ us hl => match us, hl with | [_, _], _ => rfl
  have F19 := fun_mk (st := s_PatternNet_laid) l19 c19 k19
  have b19 := F19.binds (ps := ["self", "pattern"]) fun _ _ _ _ _ _ us hl => match us, hl with | [_, _], _ => rfl
  have F20 := fun_mk (st := s_PatternNet_init) l20 c20 k20
  have b20 := F20.binds (ps := ["self", "pattern"]) fun _ _ _ _ _ _ us hl => match us, hl with | [_, _], _ => rfl
  have F21 := fun_mk (st := s_PatternNet_after) l21 c21 k21
  have b21 := F21.binds (ps := ["self", "state", "event"]) fun _ _ _ _ _ _ us hl => match us, hl with | [_, _, _], _ => rfl
  have F22 := fun_mk (st := s_PatternNet_ends) l22 c22 k22
  have b22 := F22.binds (ps := ["self", "state"]) fun _ _ _ _ _ _ us hl => match us, hl with | [_, _], _ => rfl
  have F23 := fun_mk (st := s_fits) l23 c23 k23
  have b23 := F23.binds (ps := ["pattern", "diary"]) fun _ _ _ _ _ _ us hl => match us, hl with | [_, _], _ => rfl
  have F24 := fun_mk (st := s_law_listed) l24 c24 k24
  have b24 := F24.binds (ps := ["value"]) fun _ _ _ _ _ _ us hl => match us, hl with | [_], _ => rfl
  have F25 := fun_mk (st := s_law_handed) l25 c25 k25
  have b25 := F25.binds (ps := ["row", "spot", "value"]) fun _ _ _ _ _ _ us hl => match us, hl with | [_, _, _], _ => rfl
  have F26 := fun_mk (st := s_law_p_ends) l26 c26 k26
  have b26 := F26.binds (ps := ["pattern", "diary", "start"]) fun _ _ _ _ _ _ us hl => match us, hl with | [_, _, _], _ => rfl
  have F27 := fun_mk (st := s_law_fits) l27 c27 k27
  have b27 := F27.binds (ps := ["pattern", "diary"]) fun _ _ _ _ _ _ us hl => match us, hl with | [_, _], _ => rfl
  have F28 := fun_mk (st := s_first_end) l28 c28 k28
  have b28 := F28.binds (ps := ["pattern", "diary"]) fun _ _ _ _ _ _ us hl => match us, hl with | [_, _], _ => rfl
  have F29 := fun_mk (st := s_law) l29 c29 k29
  have b29 := F29.binds (ps := ["script"]) fun _ _ _ _ _ _ us hl => match us, hl with | [_], _ => rfl
  let T : Tx K mg := {
    c := ⟨C_PatternNet⟩,
    f_law_numbers := f_law_numbers,
    fd_law_numbers := _,
    d_law_numbers := ⟨F0, b0, PySem.W.mg_of X G a0⟩,
    f_law_draw := f_law_draw,
    fd_law_draw := _,
    d_law_draw := ⟨F1, b1, PySem.W.mg_of X G a1⟩,
    f_law_take := f_law_take,
    fd_law_take := _,
    d_law_take := ⟨F2, b2, PySem.W.mg_of X G a2⟩,
    f_law_pick := f_law_pick,
    fd_law_pick := _,
    d_law_pick := ⟨F3, b3, PySem.W.mg_of X G a3⟩,
    f_law_pattern := f_law_pattern,
    fd_law_pattern := _,
    d_law_pattern := ⟨F4, b4, PySem.W.mg_of X G a4⟩,
    f_law_p_count := f_law_p_count,
    fd_law_p_count := _,
    d_law_p_count := ⟨F5, b5, PySem.W.mg_of X G a5⟩,
    f_law_small_pattern := f_law_small_pattern,
    fd_law_small_pattern := _,
    d_law_small_pattern := ⟨F6, b6, PySem.W.mg_of X G a6⟩,
    f_law_so := f_law_so,
    fd_law_so := _,
    d_law_so := ⟨F7, b7, PySem.W.mg_of X G a7⟩,
    f_is_sequence := f_is_sequence,
    fd_is_sequence := _,
    d_is_sequence := ⟨F8, b8, PySem.W.mg_of X G a8⟩,
    f_is_row := f_is_row,
    fd_is_row := _,
    d_is_row := ⟨F9, b9, PySem.W.mg_of X G a9⟩,
    f_is_name := f_is_name,
    fd_is_name := _,
    d_is_name := ⟨F10, b10, PySem.W.mg_of X G a10⟩,
    f_is_outline := f_is_outline,
    fd_is_outline := _,
    d_is_outline := ⟨F11, b11, PySem.W.mg_of X G a11⟩,
    f_inner_patterns := f_inner_patterns,
    fd_inner_patterns := _,
    d_inner_patterns := ⟨F12, b12, PySem.W.mg_of X G a12⟩,
    f_is_pattern := f_is_pattern,
    fd_is_pattern := _,
    d_is_pattern := ⟨F13, b13, PySem.W.mg_of X G a13⟩,
    f_check_diary := f_check_diary,
    fd_check_diary := _,
    d_check_diary := ⟨F14, b14, PySem.W.mg_of X G a14⟩,
    f_PatternNet_laid_event := f_PatternNet_laid_event,
    fd_PatternNet_laid_event := _,
    d_PatternNet_laid_event := ⟨F15, b15, ⟨a15, i15, k15⟩⟩,
    f_PatternNet_lead := f_PatternNet_lead,
    fd_PatternNet_lead := _,
    d_PatternNet_lead := ⟨F16, b16, ⟨a16, i16, k16⟩⟩,
    f_PatternNet_laid_either := f_PatternNet_laid_either,
    fd_PatternNet_laid_either := _,
    d_PatternNet_laid_either := ⟨F17, b17, ⟨a17, i17, k17⟩⟩,
    f_PatternNet_laid_row := f_PatternNet_laid_row,
    fd_PatternNet_laid_row := _,
    d_PatternNet_laid_row := ⟨F18, b18, ⟨a18, i18, k18⟩⟩,
    f_PatternNet_laid := f_PatternNet_laid,
    fd_PatternNet_laid := _,
    d_PatternNet_laid := ⟨F19, b19, ⟨a19, i19, k19⟩⟩,
    f_PatternNet_init := f_PatternNet_init,
    fd_PatternNet_init := _,
    d_PatternNet_init := ⟨F20, b20, ⟨mk_PatternNet, a20, i20, kc_PatternNet⟩, PySem.W.mg_of X G aC_PatternNet⟩,
    f_PatternNet_after := f_PatternNet_after,
    fd_PatternNet_after := _,
    d_PatternNet_after := ⟨F21, b21, ⟨a21, i21, k21⟩⟩,
    f_PatternNet_ends := f_PatternNet_ends,
    fd_PatternNet_ends := _,
    d_PatternNet_ends := ⟨F22, b22, ⟨a22, i22, k22⟩⟩,
    f_fits := f_fits,
    fd_fits := _,
    d_fits := ⟨F23, b23, PySem.W.mg_of X G a23⟩,
    f_law_listed := f_law_listed,
    fd_law_listed := _,
    d_law_listed := ⟨F24, b24, PySem.W.mg_of X G a24⟩,
    f_law_handed := f_law_handed,
    fd_law_handed := _,
    d_law_handed := ⟨F25, b25, PySem.W.mg_of X G a25⟩,
    f_law_p_ends := f_law_p_ends,
    fd_law_p_ends := _,
    d_law_p_ends := ⟨F26, b26, PySem.W.mg_of X G a26⟩,
    f_law_fits := f_law_fits,
    fd_law_fits := _,
    d_law_fits := ⟨F27, b27, PySem.W.mg_of X G a27⟩,
    f_first_end := f_first_end,
    fd_first_end := _,
    d_first_end := ⟨F28, b28, PySem.W.mg_of X G a28⟩,
    f_law := fa,
    fd_law := _,
    d_law := ⟨F29, b29, PySem.W.mg_of X G a29⟩,
    cl_PatternNet := ⟨pg_PatternNet, hd_PatternNet, po_PatternNet, sa_PatternNet⟩,
    na_wanted := na_wanted,
    na_behind := na_behind,
    na_start := na_start,
    n_range := PySem.W.mg_none_of X G z_range,
    n_int := PySem.W.mg_none_of X G z_int,
    n_len := PySem.W.mg_none_of X G z_len,
    n_tuple := PySem.W.mg_none_of X G z_tuple,
    n_sum := PySem.W.mg_none_of X G z_sum,
    n_isinstance := PySem.W.mg_none_of X G z_isinstance,
    n_bool := PySem.W.mg_none_of X G z_bool,
    n_str := PySem.W.mg_none_of X G z_str,
    n_list := PySem.W.mg_none_of X G z_list,
    n_all := PySem.W.mg_none_of X G z_all,
    n_enumerate := PySem.W.mg_none_of X G z_enumerate,
    n_min := PySem.W.mg_none_of X G z_min,
    a_WORDS := a_WORDS,
    c_WORDS := PySem.W.mg_of X G g_WORDS,
    z_WORDS := fun F => .tup (xs := [V.str "and", V.str "or", V.str "of", V.str "always", V.str "never"]) (.inr ⟨_, _, _, q_WORDS, rfl, rfl, (by show 5 ≤ sizeLine; decide), (.cons ⟨_, rfl⟩ (.cons ⟨_, rfl⟩ (.cons ⟨_, rfl⟩ (.cons ⟨_, rfl⟩ (.cons ⟨_, rfl⟩ .nil)))))⟩) (.cons (.str _) (.cons (.str _) (.cons (.str _) (.cons (.str _) (.cons (.str _) .nil))))),
    t_LETTERS := t_LETTERS,
    c_LETTERS := PySem.W.mg_of X G g_LETTERS,
    t_LEAST_MEMBERS := t_LEAST_MEMBERS,
    c_LEAST_MEMBERS := PySem.W.mg_of X G g_LEAST_MEMBERS,
    t_MOST_MEMBERS := t_MOST_MEMBERS,
    c_MOST_MEMBERS := PySem.W.mg_of X G g_MOST_MEMBERS,
    t_MOST_PATTERNS := t_MOST_PATTERNS,
    c_MOST_PATTERNS := PySem.W.mg_of X G g_MOST_PATTERNS,
    t_MOST_LEVELS := t_MOST_LEVELS,
    c_MOST_LEVELS := PySem.W.mg_of X G g_MOST_LEVELS,
    t_MOST_EVENTS := t_MOST_EVENTS,
    c_MOST_EVENTS := PySem.W.mg_of X G g_MOST_EVENTS }
  exact ⟨PySem.W.fnOf "law" "law" (defArgs s_law) (defBody s_law) (defScope s_law) .none kV29 dc29 pm29 an29 cd29 ct29, fun s v => .of_eq rfl, fun base _ _ => (ok_law (P := l.prog) (w := w) (base := base) T).imp (spL_D fun ns hs => law_true T.c ns hs)⟩
end DL
open PySem PySem.W PyProof.Rows
set_option maxRecDepth 100000 in
set_option maxHeartbeats 0 in
theorem PySem.Challenge.cw_mendplan_k94_whole_watching_holds : PySem.Challenge.rw_mendplan_k94_whole_watching.Holds := by
  w_on; o_law; k_head; (case hw => w_witness2)
  k_fill
  refine DL.walkD (k := 17) (l := PySem.Challenge.rw_mendplan_k94_whole_watching) ⟨rfl, by decide, by decide⟩ rfl rfl (fun w h Y => PySem.W.kIn_of Y) ?F
  case F =>
    intro w mg fa h KX G hmg
    refine' DL.all_mk KX G hmg ?aC_PatternNet ?a0 ?l0 ?c0 ?k0 ?a1 ?l1 ?c1 ?k1 ?a2 ?l2 ?c2 ?k2 ?a3 ?l3 ?c3 ?k3 ?a4 ?l4 ?c4 ?k4 ?a5 ?l5 ?c5 ?k5 ?a6 ?l6 ?c6 ?k6 ?a7 ?l7 ?c7 ?k7 ?a8 ?l8 ?c8 ?k8 ?a9 ?l9 ?c9 ?k9 ?a10 ?l10 ?c10 ?k10 ?a11 ?l11 ?c11 ?k11 ?a12 ?l12 ?c12 ?k12 ?a13 ?l13 ?c13 ?k13 ?a14 ?l14 ?c14 ?k14 ?a15 ?i15 ?l15 ?c15 ?k15 ?a16 ?i16 ?l16 ?c16 ?k16 ?a17 ?i17 ?l17 ?c17 ?k17 ?a18 ?i18 ?l18 ?c18 ?k18 ?a19 ?i19 ?l19 ?c19 ?k19 ?a20 ?i20 ?l20 ?c20 ?k20 ?a21 ?i21 ?l21 ?c21 ?k21 ?a22 ?i22 ?l22 ?c22 ?k22 ?a23 ?l23 ?c23 ?k23 ?a24 ?l24 ?c24 ?k24 ?a25 ?l25 ?c25 ?k25 ?a26 ?l26 ?c26 ?k26 ?a27 ?l27 ?c27 ?k27 ?a28 ?l28 ?c28 ?k28 ?a29 ?l29 ?c29 ?k29 ?pg_PatternNet ?hd_PatternNet ?po_PatternNet ?sa_PatternNet ?mk_PatternNet ?kc_PatternNet ?na_wanted ?na_behind ?na_start ?z_range ?z_int ?z_len ?z_tuple ?z_sum ?z_isinstance ?z_bool ?z_str ?z_list ?z_all ?z_enumerate ?z_min ?g_WORDS ?q_WORDS ?g_LETTERS ?g_LEAST_MEMBERS ?g_MOST_MEMBERS ?g_MOST_PATTERNS ?g_MOST_LEVELS ?g_MOST_EVENTS
    (case aC_PatternNet => k_is)
    (case a0 => k_is)
    (case l0 => k_is)
    (case c0 => k_is)
    (case k0 => k_is)
    (case a1 => k_is)
    (case l1 => k_is)
    (case c1 => k_is)
    (case k1 => k_is)
    (case a2 => k_is)
    (case l2 => k_is)
    (case c2 => k_is)
    (case k2 => k_is)
    (case a3 => k_is)
    (case l3 => k_is)
    (case c3 => k_is)
    (case k3 => k_is)
    (case a4 => k_is)
    (case l4 => k_is)
    (case c4 => k_is)
    (case k4 => k_is)
    (case a5 => k_is)
    (case l5 => k_is)
    (case c5 => k_is)
    (case k5 => k_is)
    (case a6 => k_is)
    (case l6 => k_is)
    (case c6 => k_is)
    (case k6 => k_is)
    (case a7 => k_is)
    (case l7 => k_is)
    (case c7 => k_is)
    (case k7 => k_is)
    (case a8 => k_is)
    (case l8 => k_is)
    (case c8 => k_is)
    (case k8 => k_is)
    (case a9 => k_is)
    (case l9 => k_is)
    (case c9 => k_is)
    (case k9 => k_is)
    (case a10 => k_is)
    (case l10 => k_is)
    (case c10 => k_is)
    (case k10 => k_is)
    (case a11 => k_is)
    (case l11 => k_is)
    (case c11 => k_is)
    (case k11 => k_is)
    (case a12 => k_is)
    (case l12 => k_is)
    (case c12 => k_is)
    (case k12 => k_is)
    (case a13 => k_is)
    (case l13 => k_is)
    (case c13 => k_is)
    (case k13 => k_is)
    (case a14 => k_is)
    (case l14 => k_is)
    (case c14 => k_is)
    (case k14 => k_is)
    (case a15 => k_is)
    (case i15 => k_is)
    (case l15 => k_is)
    (case c15 => k_is)
    (case k15 => k_is)
    (case a16 => k_is)
    (case i16 => k_is)
    (case l16 => k_is)
    (case c16 => k_is)
    (case k16 => k_is)
    (case a17 => k_is)
    (case i17 => k_is)
    (case l17 => k_is)
    (case c17 => k_is)
    (case k17 => k_is)
    (case a18 => k_is)
    (case i18 => k_is)
    (case l18 => k_is)
    (case c18 => k_is)
    (case k18 => k_is)
    (case a19 => k_is)
    (case i19 => k_is)
    (case l19 => k_is)
    (case c19 => k_is)
    (case k19 => k_is)
    (case a20 => k_is)
    (case i20 => k_is)
    (case l20 => k_is)
    (case c20 => k_is)
    (case k20 => k_is)
    (case a21 => k_is)
    (case i21 => k_is)
    (case l21 => k_is)
    (case c21 => k_is)
    (case k21 => k_is)
    (case a22 => k_is)
    (case i22 => k_is)
    (case l22 => k_is)
    (case c22 => k_is)
    (case k22 => k_is)
    (case a23 => k_is)
    (case l23 => k_is)
    (case c23 => k_is)
    (case k23 => k_is)
    (case a24 => k_is)
    (case l24 => k_is)
    (case c24 => k_is)
    (case k24 => k_is)
    (case a25 => k_is)
    (case l25 => k_is)
    (case c25 => k_is)
    (case k25 => k_is)
    (case a26 => k_is)
    (case l26 => k_is)
    (case c26 => k_is)
    (case k26 => k_is)
    (case a27 => k_is)
    (case l27 => k_is)
    (case c27 => k_is)
    (case k27 => k_is)
    (case a28 => k_is)
    (case l28 => k_is)
    (case c28 => k_is)
    (case k28 => k_is)
    (case a29 => k_is)
    (case l29 => k_is)
    (case c29 => k_is)
    (case k29 => k_is)
    (case pg_PatternNet => k_is)
    (case hd_PatternNet => k_is)
    (case po_PatternNet => k_is)
    (case sa_PatternNet => k_is)
    (case mk_PatternNet => k_is)
    (case kc_PatternNet => k_is)
    (case na_wanted => k_is)
    (case na_behind => k_is)
    (case na_start => k_is)
    (case z_range => k_is)
    (case z_int => k_is)
    (case z_len => k_is)
    (case z_tuple => k_is)
    (case z_sum => k_is)
    (case z_isinstance => k_is)
    (case z_bool => k_is)
    (case z_str => k_is)
    (case z_list => k_is)
    (case z_all => k_is)
    (case z_enumerate => k_is)
    (case z_min => k_is)
    (case g_WORDS => k_is)
    (case q_WORDS => k_is)
    (case g_LETTERS => k_is)
    (case g_LEAST_MEMBERS => k_is)
    (case g_MOST_MEMBERS => k_is)
    (case g_MOST_PATTERNS => k_is)
    (case g_MOST_LEVELS => k_is)
    (case g_MOST_EVENTS => k_is)

