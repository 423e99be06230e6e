import PyProof.Rows.All
import Wide.All
import OpenK.AllK
import Wide.FinOn
import HandS.ForMost
import HandS.IsInst
import HandS.Wide
import HandS.Conv
import HandS.Lambda
import HandS.WordsExc
import HandS.TupAny
import KE.GoesNew
import KE.GoesMore
import HandS.EndBits
import HandS.ExcInit
import HandS.ExcField
import HandS.TryMany
import PyProof.InstStoreFacts
import HandS.EndTab
import HandS.Zip
import HandS.Gcd
import HandS.TupMul
import KE.KMathGC
import HandS.Dict
import PySem.Challenge.RW_mendplan_k88_whole_services
set_option Elab.async false
set_option linter.all false
set_option maxRecDepth 100000
set_option maxHeartbeats 1000000
/-! DL: a layer over the readings. Data D, owned trees O, the frozen part F of the abstract heap, the relation Sim. -/
namespace DL
open PySem L2

/-- data, as a frozen value stands for it -/
inductive D where
  | non | bl (b : Bool) | int (i : Int) | str (s : Str) | ty (n : String)
  | lst (l : List D) | tup (l : List D)
  | dk (kvs : List (Key × D)) | dt (kvs : List (List Key × D))
  | obj (C : Addr) (fs : List (Str × D))
  | scr (l : List D)
/-- owned trees: what a name alone holds -/
inductive O where
  | fz (d : D)
  | lst (l : List O)
  | dk (kvs : List (Key × D)) | dt (kvs : List (List Key × D))
  | ins (C : Addr) (fs : List (Str × O))
mutual
def O.toD : O → D
  | .fz d => d
  | .lst l => .lst (O.toDL l)
  | .dk k => .dk k
  | .dt k => .dt k
  | .ins C fs => .obj C (O.toDF fs)
def O.toDL : List O → List D
  | [] => []
  | o :: r => o.toD :: O.toDL r
def O.toDF : List (Str × O) → List (Str × D)
  | [] => []
  | (f, o) :: r => (f, o.toD) :: O.toDF r
end
theorem toDL_map : ∀ l : List O, O.toDL l = l.map O.toD
  | [] => rfl
  | o :: r => by rw [O.toDL, toDL_map r, List.map_cons]
theorem toDF_map : ∀ l : List (Str × O), O.toDF l = l.map fun p => (p.1, p.2.toD)
  | [] => rfl
  | (f, o) :: r => by rw [O.toDF, toDF_map r, List.map_cons]

section
variable (K : PySem.W.Frag) (F : Hp)
mutual
inductive Fz : V → D → Prop
  | non : Fz .non .non
  | bl (b : Bool) : Fz (.bl b) (.bl b)
  | int (i : Int) : Fz (.int i) (.int i)
  | str (s : Str) : Fz (.str s) (.str s)
  | ty (n : String) : Fz (.ty n) (.ty n)
  | lst {a : Addr} {xs : List V} {ds : List D} (h : F a = some (.lst xs)) (l : FzL xs ds) : Fz (.ref a) (.lst ds)
  | tup {a : Addr} {xs : List V} {ds : List D} (h : SqT K F a xs) (l : FzL xs ds) : Fz (.ref a) (.tup ds)
  | dk {a : Addr} {kvs : List (Key × V)} {ds : List (Key × D)} (h : F a = some (.dK kvs)) (e : kvs.map Prod.fst = ds.map Prod.fst) (l : FzL (kvs.map Prod.snd) (ds.map Prod.snd)) : Fz (.ref a) (.dk ds)
  | dt {a : Addr} {kvs : List (List Key × V)} {ds : List (List Key × D)} (h : F a = some (.dT kvs)) (e : kvs.map Prod.fst = ds.map Prod.fst) (l : FzL (kvs.map Prod.snd) (ds.map Prod.snd)) : Fz (.ref a) (.dt ds)
  | obj {a C dx : Addr} {fs : List (Str × V)} {ds : List (Str × D)} (h : F a = some (.ins C dx fs)) (e : fs.map Prod.fst = ds.map Prod.fst) (l : FzL (fs.map Prod.snd) (ds.map Prod.snd)) : Fz (.ref a) (.obj C ds)
  | scr {a : Addr} {xs : List V} {ds : List D} (h : SqL K F a xs) (l : FzL xs ds) : Fz (.ref a) (.scr ds)
inductive FzL : List V → List D → Prop
  | nil : FzL [] []
  | cons {v : V} {vs : List V} {d : D} {ds : List D} (h : Fz v d) (l : FzL vs ds) : FzL (v :: vs) (d :: ds)
end
end

def Le (F F' : Hp) : Prop := ∀ a o, F a = some o → F' a = some o
theorem Le.refl (F : Hp) : Le F F := fun _ _ h => h
theorem Le.trans {F G H : Hp} (a : Le F G) (b : Le G H) : Le F H := fun x o h => b x o (a x o h)
section
variable {K : PySem.W.Frag} {F F' : Hp}
theorem rd_mono {a : Addr} {u : HO} (e : Le F F') (h : Rd F a u) : Rd F' a u := by
  rcases h with h | ⟨o, h⟩
  · exact .inl (e a _ h)
  · exact .inr ⟨o, e a _ h⟩
theorem sqT_mono {a : Addr} {xs : List V} (e : Le F F') (h : SqT K F a xs) : SqT K F' a xs := h.imp (rd_mono e) id
theorem sqL_mono {a : Addr} {xs : List V} (e : Le F F') (h : SqL K F a xs) : SqL K F' a xs := h.imp (rd_mono e) id
mutual
theorem Fz.mono (e : Le F F') : ∀ {v : V} {d : D}, Fz K F v d → Fz K F' v d
  | _, _, .non => .non
  | _, _, .bl b => .bl b
  | _, _, .int i => .int i
  | _, _, .str i => .str i
  | _, _, .ty i => .ty i
  | _, _, .lst h l => .lst (e _ _ h) (FzL.mono e l)
  | _, _, .tup h l => .tup (sqT_mono e h) (FzL.mono e l)
  | _, _, .dk h q l => .dk (e _ _ h) q (FzL.mono e l)
  | _, _, .dt h q l => .dt (e _ _ h) q (FzL.mono e l)
  | _, _, .obj h q l => .obj (e _ _ h) q (FzL.mono e l)
  | _, _, .scr h l => .scr (sqL_mono e h) (FzL.mono e l)
theorem FzL.mono (e : Le F F') : ∀ {vs : List V} {ds : List D}, FzL K F vs ds → FzL K F' vs ds
  | _, _, .nil => .nil
  | _, _, .cons h l => .cons (Fz.mono e h) (FzL.mono e l)
end
theorem FzL.length : ∀ {vs : List V} {ds : List D}, FzL K F vs ds → vs.length = ds.length
  | _, _, .nil => rfl
  | _, _, .cons _ l => by rw [List.length_cons, List.length_cons, FzL.length l]
theorem FzL.get : ∀ {vs : List V} {ds : List D} {i : Nat} {d : D}, FzL K F vs ds → ds[i]? = some d → ∃ v, vs[i]? = some v ∧ Fz K F v d
  | _, _, i, _, .nil, h => by simp at h
  | _, _, 0, _, .cons h _, e => by simp at e; subst e; exact ⟨_, rfl, h⟩
  | _, _, i + 1, _, .cons _ l, e => by
    obtain ⟨v, h1, h2⟩ := FzL.get l (i := i) (by simpa using e)
    exact ⟨v, by simpa using h1, h2⟩
theorem FzL.got : ∀ {vs : List V} {ds : List D} {i : Nat} {v : V}, FzL K F vs ds → vs[i]? = some v → ∃ d, ds[i]? = some d ∧ Fz K F v d
  | _, _, i, _, .nil, h => by simp at h
  | _, _, 0, _, .cons h _, e => by simp at e; subst e; exact ⟨_, rfl, h⟩
  | _, _, i + 1, _, .cons _ l, e => by
    obtain ⟨v, h1, h2⟩ := FzL.got l (i := i) (by simpa using e)
    exact ⟨v, by simpa using h1, h2⟩
theorem FzL.append : ∀ {vs ws : List V} {ds es : List D}, FzL K F vs ds → FzL K F ws es → FzL K F (vs ++ ws) (ds ++ es)
  | _, _, _, _, .nil, m => m
  | _, _, _, _, .cons h l, m => .cons h (FzL.append l m)
theorem FzL.take : ∀ {vs : List V} {ds : List D} (n : Nat), FzL K F vs ds → FzL K F (vs.take n) (ds.take n)
  | _, _, 0, _ => .nil
  | _, _, _ + 1, .nil => .nil
  | _, _, n + 1, .cons h l => .cons h (FzL.take n l)
theorem FzL.drop : ∀ {vs : List V} {ds : List D} (n : Nat), FzL K F vs ds → FzL K F (vs.drop n) (ds.drop n)
  | _, _, 0, l => l
  | _, _, _ + 1, .nil => .nil
  | _, _, n + 1, .cons _ l => FzL.drop n l
theorem FzL.reverse : ∀ {vs : List V} {ds : List D}, FzL K F vs ds → FzL K F vs.reverse ds.reverse
  | _, _, .nil => .nil
  | _, _, .cons h l => by rw [List.reverse_cons, List.reverse_cons]; exact (FzL.reverse l).append (.cons h .nil)
end

/-! ### owned trees -/
section
variable (K : PySem.W.Frag) (F H : Hp)
mutual
inductive Ow : (Addr → Prop) → V → O → Prop
  | fz {S : Addr → Prop} {v : V} {d : D} (h : Fz K F v d) : Ow S v (.fz d)
  | lst {S S1 : Addr → Prop} {a : Addr} {xs : List V} {os : List O} (h : H a = some (.lst xs)) (n : F a = none) (s : S a) (s1 : ∀ b, S1 b → S b ∧ b ≠ a) (l : OwL S1 xs os) : Ow S (.ref a) (.lst os)
  | dk {S : Addr → Prop} {a : Addr} {kvs : List (Key × V)} {ds : List (Key × D)} (h : H a = some (.dK kvs)) (n : F a = none) (s : S a) (e : kvs.map Prod.fst = ds.map Prod.fst) (l : FzL K F (kvs.map Prod.snd) (ds.map Prod.snd)) : Ow S (.ref a) (.dk ds)
  | dt {S : Addr → Prop} {a : Addr} {kvs : List (List Key × V)} {ds : List (List Key × D)} (h : H a = some (.dT kvs)) (n : F a = none) (s : S a) (e : kvs.map Prod.fst = ds.map Prod.fst) (l : FzL K F (kvs.map Prod.snd) (ds.map Prod.snd)) : Ow S (.ref a) (.dt ds)
  | ins {S S1 : Addr → Prop} {a C dx : Addr} {fs : List (Str × V)} {os : List (Str × O)} (h : H a = some (.ins C dx fs)) (n : F a = none) (s : S a) (s1 : ∀ b, S1 b → S b ∧ b ≠ a) (e : fs.map Prod.fst = os.map Prod.fst)
      (l : OwL S1 (fs.map Prod.snd) (os.map Prod.snd)) : Ow S (.ref a) (.ins C os)
inductive OwL : (Addr → Prop) → List V → List O → Prop
  | nil {S : Addr → Prop} : OwL S [] []
  | cons {S S1 S2 : Addr → Prop} {v : V} {vs : List V} {o : O} {os : List O} (s1 : ∀ b, S1 b → S b) (s2 : ∀ b, S2 b → S b) (dj : ∀ b, S1 b → ¬ S2 b) (h : Ow S1 v o) (l : OwL S2 vs os) : OwL S (v :: vs) (o :: os)
end
end
def isTbl : HO → Prop
  | .tbl _ => True
  | _ => False
/-- all but the tables of code objects stay -/
structure Ext (H H' : Hp) : Prop where
  keep : ∀ a o, H a = some o → ¬ isTbl o → H' a = some o
/-- something that is no table stands there -/
def Hv (H : Hp) (a : Addr) : Prop := ∃ o, H a = some o ∧ ¬ isTbl o
theorem Hv.ne {H : Hp} {a : Addr} (h : Hv H a) : H a ≠ none := fun z => by
  obtain ⟨o, e, _⟩ := h
  rw [z] at e; cases e
theorem Ext.thr {H H' : Hp} (e : Ext H H') (a : Addr) (h : Hv H a) : Hv H' a := by
  obtain ⟨o, h1, h2⟩ := h
  exact ⟨o, e.keep a o h1 h2, h2⟩
theorem Ext.refl (H : Hp) : Ext H H := ⟨fun _ _ h _ => h⟩
theorem Ext.trans {H H1 H2 : Hp} (a : Ext H H1) (b : Ext H1 H2) : Ext H H2 := ⟨fun x o h n => b.keep x o (a.keep x o h n) n⟩
theorem Ext.of {H H' : Hp} (h : Le H H') : Ext H H' := ⟨fun a o e _ => h a o e⟩
theorem Le.new {H : Hp} {p : Addr} {o : HO} (h : H p = none) : Le H (upd H p o) := fun a u e => by
  rw [upd_ne (ne_of_none e h)]; exact e
theorem Ext.new {H : Hp} {p : Addr} {o : HO} (h : H p = none) : Ext H (upd H p o) := .of (Le.new h)
section
variable {K : PySem.W.Frag} {F F' H H' : Hp}
theorem Ow.grow {S S' : Addr → Prop} (e : ∀ b, S b → S' b) {v : V} {o : O} (w : Ow K F H S v o) : Ow K F H S' v o := by
  cases w with
  | fz h => exact .fz h
  | lst h n s s1 l => exact .lst h n (e _ s) (fun b z => ⟨e b (s1 b z).1, (s1 b z).2⟩) l
  | dk h n s q l => exact .dk h n (e _ s) q l
  | dt h n s q l => exact .dt h n (e _ s) q l
  | ins h n s s1 q l => exact .ins h n (e _ s) (fun b z => ⟨e b (s1 b z).1, (s1 b z).2⟩) q l
theorem OwL.grow {S S' : Addr → Prop} (e : ∀ b, S b → S' b) {v : List V} {o : List O} (w : OwL K F H S v o) : OwL K F H S' v o := by
  cases w with
  | nil => exact .nil
  | cons s1 s2 dj h l => exact .cons (fun b z => e b (s1 b z)) (fun b z => e b (s2 b z)) dj h l
/-- a tree stands where its nodes are kept and not frozen -/
structure Stand (S : Addr → Prop) (F H F' H' : Hp) : Prop where
  le : Le F F'
  keep : ∀ b o, S b → H b = some o → ¬ isTbl o → H' b = some o
  no : ∀ b, S b → H b ≠ none → F b = none → F' b = none
theorem Stand.sub {S S' : Addr → Prop} (x : Stand S F H F' H') (e : ∀ b, S' b → S b) : Stand S' F H F' H' := ⟨x.le, fun b o z => x.keep b o (e b z), fun b z => x.no b (e b z)⟩
mutual
theorem Ow.stand : ∀ {S : Addr → Prop} {v : V} {o : O}, Ow K F H S v o → Stand S F H F' H' → Ow K F' H' S v o
  | _, _, _, .fz h, x => .fz (h.mono x.le)
  | _, _, _, .lst h n s s1 l, x => .lst (x.keep _ _ s h (fun z => z)) (x.no _ s (by rw [h]; simp) n) s s1 (OwL.stand l (x.sub fun b z => (s1 b z).1))
  | _, _, _, .dk h n s e l, x => .dk (x.keep _ _ s h (fun z => z)) (x.no _ s (by rw [h]; simp) n) s e (l.mono x.le)
  | _, _, _, .dt h n s e l, x => .dt (x.keep _ _ s h (fun z => z)) (x.no _ s (by rw [h]; simp) n) s e (l.mono x.le)
  | _, _, _, .ins h n s s1 e l, x => .ins (x.keep _ _ s h (fun z => z)) (x.no _ s (by rw [h]; simp) n) s s1 e (OwL.stand l (x.sub fun b z => (s1 b z).1))
theorem OwL.stand : ∀ {S : Addr → Prop} {v : List V} {o : List O}, OwL K F H S v o → Stand S F H F' H' → OwL K F' H' S v o
  | _, _, _, .nil, _ => .nil
  | _, _, _, .cons s1 s2 dj h l, x => .cons s1 s2 dj (Ow.stand h (x.sub s1)) (OwL.stand l (x.sub s2))
end
mutual
theorem Ow.fz' : ∀ {S : Addr → Prop} {v : V} {o : O}, Ow K F H S v o → Le F F' → (∀ b o, S b → H b = some o → ¬ isTbl o → F' b = some o) → Fz K F' v o.toD
  | _, _, _, .fz h, e, _ => h.mono e
  | _, _, _, .lst h n s s1 l, e, k => .lst (k _ _ s h fun z => z) (OwL.fz' l e fun b o z => k b o (s1 b z).1)
  | _, _, _, .dk h n s q l, e, k => .dk (k _ _ s h fun z => z) q (l.mono e)
  | _, _, _, .dt h n s q l, e, k => .dt (k _ _ s h fun z => z) q (l.mono e)
  | _, _, _, .ins (fs := fs) (os := os) h n s s1 q l, e, k => by
    have z := OwL.fz' l e fun b o z => k b o (s1 b z).1
    show Fz K F' _ (.obj _ (O.toDF os))
    refine .obj (k _ _ s h fun z => z) ?_ ?_
    · rw [q, toDF_map, List.map_map]; rfl
    · rw [toDL_map] at z
      rw [toDF_map, List.map_map]
      rw [List.map_map] at z
      exact z
theorem OwL.fz' : ∀ {S : Addr → Prop} {v : List V} {o : List O}, OwL K F H S v o → Le F F' → (∀ b o, S b → H b = some o → ¬ isTbl o → F' b = some o) → FzL K F' v (O.toDL o)
  | _, _, _, .nil, _, _ => .nil
  | _, _, _, .cons s1 s2 dj h l, e, k => .cons (Ow.fz' h e fun b o z => k b o (s1 b z)) (OwL.fz' l e fun b o z => k b o (s2 b z))
end
theorem OwL.length : ∀ {S : Addr → Prop} {vs : List V} {os : List O}, OwL K F H S vs os → vs.length = os.length
  | _, _, _, .nil => rfl
  | _, _, _, .cons _ _ _ _ l => by rw [List.length_cons, List.length_cons, OwL.length l]
/-- frozen items, as owned leaves -/
theorem OwL.leaves {S : Addr → Prop} : ∀ {vs : List V} {ds : List D}, FzL K F vs ds → OwL K F H S vs (ds.map O.fz)
  | _, _, .nil => .nil
  | _, _, .cons h l => .cons (S1 := fun _ => False) (fun _ z => z.elim) (fun _ z => z) (fun _ z => z.elim) (.fz h) (OwL.leaves l)
end

/-! ### paths into a tree -/
inductive Step where
  | ix (n : Nat) | at (f : Str)
def putA {α : Type} (f : Str) (v : α) : List (Str × α) → List (Str × α)
  | [] => [(f, v)]
  | (g, x) :: r => if g = f then (g, v) :: r else (g, x) :: putA f v r
def O.get : List Step → O → Option O
  | [], o => some o
  | .ix n :: π, .lst l => (l[n]?).bind (O.get π)
  | .at f :: π, .ins _ fs => (fs.lookup f).bind (O.get π)
  | _ :: _, _ => none
def O.put (o' : O) : List Step → O → O
  | [], _ => o'
  | .ix n :: π, .lst l => (l[n]?).elim (.lst l) fun x => .lst (l.set n (O.put o' π x))
  | .at f :: π, .ins C fs => (fs.lookup f).elim (.ins C fs) fun x => .ins C (putA f (O.put o' π x) fs)
  | _ :: _, o => o
/-- what stands at the end of a path in the heap -/
def At (H : Hp) : List Step → V → V → Prop
  | [], v, v1 => v1 = v
  | .ix n :: π, v, v1 => ∃ a xs x, v = .ref a ∧ H a = some (.lst xs) ∧ xs[n]? = some x ∧ At H π x v1
  | .at f :: π, v, v1 => ∃ a C dx fs x, v = .ref a ∧ H a = some (.ins C dx fs) ∧ fs.lookup f = some x ∧ At H π x v1
theorem putF_eq (f : Str) (v : V) : ∀ fs : List (Str × V), putF f v fs = putA f v fs
  | [] => rfl
  | (g, x) :: r => by unfold putF putA; rw [putF_eq f v r]
theorem putA_fst {α β : Type} (f : Str) (v : α) (w : β) : ∀ {fs : List (Str × α)} {gs : List (Str × β)}, fs.map Prod.fst = gs.map Prod.fst → (putA f v fs).map Prod.fst = (putA f w gs).map Prod.fst
  | [], [], _ => rfl
  | [], _ :: _, h => by simp at h
  | _ :: _, [], h => by simp at h
  | (g, x) :: r, (g', y) :: r', h => by
    simp only [List.map_cons, List.cons.injEq] at h
    obtain ⟨rfl, h⟩ := h
    unfold putA
    by_cases e : g = f
    · rw [if_pos e, if_pos e, List.map_cons, List.map_cons, h]
    · rw [if_neg e, if_neg e, List.map_cons, List.map_cons, putA_fst f v w h]
/-- a name's place among the attributes -/
theorem lookup_ix {α : Type} (f : Str) : ∀ {fs : List (Str × α)} {x : α}, fs.lookup f = some x → ∃ i, (fs.map Prod.snd)[i]? = some x ∧
    (∀ {β : Type} {gs : List (Str × β)}, fs.map Prod.fst = gs.map Prod.fst → gs.lookup f = (gs.map Prod.snd)[i]? ∧ ∀ y : β, (putA f y gs).map Prod.snd = (gs.map Prod.snd).set i y ∧ (putA f y gs).map Prod.fst = gs.map Prod.fst)
  | (g, x) :: r, y, h => by
    rw [List.lookup_cons] at h
    by_cases e : f = g
    · have eb : (f == g) = true := beq_iff_eq.mpr e
      rw [eb] at h
      refine ⟨0, by simpa using h, fun {β gs} q => ?_⟩
      cases gs with
      | nil => simp at q
      | cons p s =>
        obtain ⟨g', z⟩ := p
        simp only [List.map_cons, List.cons.injEq] at q
        obtain ⟨rfl, q⟩ := q
        refine ⟨by rw [List.lookup_cons, eb]; rfl, fun y => ?_⟩
        unfold putA
        rw [if_pos e.symm]
        exact ⟨rfl, rfl⟩
    · have eb : (f == g) = false := beq_eq_false_iff_ne.mpr e
      rw [eb] at h
      obtain ⟨i, h1, h2⟩ := lookup_ix f h
      refine ⟨i + 1, by simpa using h1, fun {β gs} q => ?_⟩
      cases gs with
      | nil => simp at q
      | cons p s =>
        obtain ⟨g', z⟩ := p
        simp only [List.map_cons, List.cons.injEq] at q
        obtain ⟨rfl, q⟩ := q
        obtain ⟨h3, h4⟩ := h2 q
        refine ⟨by rw [List.lookup_cons, eb, h3]; rfl, fun y => ?_⟩
        obtain ⟨h5, h6⟩ := h4 y
        unfold putA
        rw [if_neg (Ne.symm e)]
        exact ⟨by rw [List.map_cons, h5]; rfl, by rw [List.map_cons, List.map_cons, h6]⟩
section
variable {K : PySem.W.Frag} {F F' H H' : Hp}
theorem OwL.at_ : ∀ {S : Addr → Prop} {vs : List V} {os : List O} {i : Nat} {o : O}, OwL K F H S vs os → os[i]? = some o →
    ∃ (v : V) (S1 Sr : Addr → Prop), vs[i]? = some v ∧ Ow K F H S1 v o ∧ (∀ b, S1 b → S b) ∧ (∀ b, Sr b → S b) ∧ (∀ b, S1 b → ¬ Sr b) ∧
      ∀ (F' H' : Hp) (S' : Addr → Prop) (o' : O), Stand Sr F H F' H' → Ow K F' H' S' v o' → (∀ b, S' b → ¬ Sr b) → OwL K F' H' (fun b => S' b ∨ Sr b) vs (os.set i o')
  | _, _, _, i, _, .nil, h => by simp at h
  | S, _, _, 0, _, .cons (S1 := A) (S2 := B) s1 s2 dj h l, e => by
    simp at e; subst e
    refine ⟨_, A, B, rfl, h, s1, s2, dj, fun F' H' S' o' st w n => ?_⟩
    exact .cons (fun b z => .inl z) (fun b z => .inr z) n w (l.stand st)
  | S, _, _, i + 1, _, .cons (S1 := A) (S2 := B) s1 s2 dj h l, e => by
    obtain ⟨v, S1, Sr, h1, h2, h3, h4, h5, h6⟩ := OwL.at_ l (i := i) (by simpa using e)
    refine ⟨v, S1, fun b => A b ∨ Sr b, by simpa using h1, h2, fun b z => s2 b (h3 b z), fun b z => z.elim (s1 b) fun z => s2 b (h4 b z), fun b z q => q.elim (fun q => dj b q (h3 b z)) (h5 b z), fun F' H' S' o' st w n => ?_⟩
    have l' := h6 F' H' S' o' (st.sub fun b z => .inr z) w fun b z q => n b z (.inr q)
    exact .cons (S1 := A) (S2 := fun b => S' b ∨ Sr b) (fun b z => .inr (.inl z)) (fun b z => z.imp id .inr) (fun b z q => q.elim (fun q => n b q (.inl z)) fun q => dj b z (h4 b q)) (h.stand (st.sub fun b z => .inl z)) l'
theorem Ow.focus : ∀ (π : List Step) {S : Addr → Prop} {v : V} {o o1 : O}, Ow K F H S v o → O.get π o = some o1 →
    ∃ (v1 : V) (S1 Sr : Addr → Prop), At H π v v1 ∧ Ow K F H S1 v1 o1 ∧ (∀ b, S1 b → S b) ∧ (∀ b, Sr b → S b) ∧ (∀ b, S1 b → ¬ Sr b) ∧
      ∀ (F' H' : Hp) (S' : Addr → Prop) (o' : O), Stand Sr F H F' H' → Ow K F' H' S' v1 o' → (∀ b, S' b → ¬ Sr b) → Ow K F' H' (fun b => S' b ∨ Sr b) v (O.put o' π o)
  | [], S, v, o, o1, w, e => by
    simp only [O.get, Option.some.injEq] at e; subst e
    exact ⟨v, S, fun _ => False, rfl, w, fun _ z => z, fun _ z => z.elim, fun _ _ z => z, fun F' H' S' o' _ w' _ => w'.grow fun b z => .inl z⟩
  | .ix n :: π, S, _, _, o1, .lst (S1 := T) (a := a) (xs := xs) (os := os) h nf s s1 l, e => by
    cases q : os[n]? with
    | none => rw [O.get, q] at e; cases e
    | some x =>
      rw [O.get, q] at e
      obtain ⟨vx, A, B, g1, g2, g3, g4, g5, g6⟩ := l.at_ q
      obtain ⟨v1, S1, Sr, k1, k2, k3, k4, k5, k6⟩ := Ow.focus π g2 e
      refine ⟨v1, S1, fun b => Sr b ∨ B b ∨ b = a, ⟨a, xs, vx, rfl, h, g1, k1⟩, k2, fun b z => (s1 b (g3 b (k3 b z))).1, fun b z => ?_, fun b z y => ?_, fun F' H' S' o' st w n' => ?_⟩
      · rcases z with z | z | z
        · exact (s1 b (g3 b (k4 b z))).1
        · exact (s1 b (g4 b z)).1
        · subst z; exact s
      · rcases y with y | y | y
        · exact k5 b z y
        · exact g5 b (k3 b z) y
        · exact (s1 b (g3 b (k3 b z))).2 y
      · have w1 := k6 F' H' S' o' (st.sub fun b z => .inl z) w fun b z y => n' b z (.inl y)
        have w2 := g6 F' H' _ _ (st.sub fun b z => .inr (.inl z)) w1 fun b z y => z.elim (fun z => n' b z (.inr (.inl y))) fun z => g5 b (k4 b z) y
        have ee : O.put o' (.ix n :: π) (.lst os) = .lst (os.set n (O.put o' π x)) := by rw [O.put, q]; rfl
        rw [ee]
        refine .lst (S1 := fun b => (S' b ∨ Sr b) ∨ B b) (st.keep a _ (.inr (.inr rfl)) h fun z => z) (st.no a (.inr (.inr rfl)) (by rw [h]; simp) nf) (.inr (.inr (.inr rfl))) (fun b z => ?_) w2
        rcases z with (z | z) | z
        · exact ⟨.inl z, fun y => n' b z (.inr (.inr y))⟩
        · exact ⟨.inr (.inl z), (s1 b (g3 b (k4 b z))).2⟩
        · exact ⟨.inr (.inr (.inl z)), (s1 b (g4 b z)).2⟩
  | .at f :: π, S, _, _, o1, .ins (S1 := T) (a := a) (C := C) (dx := dx) (fs := fs) (os := os) h nf s s1 eq l, e => by
    cases q : os.lookup f with
    | none => rw [O.get, q] at e; cases e
    | some x =>
      rw [O.get, q] at e
      obtain ⟨i, i1, i2⟩ := lookup_ix f q
      obtain ⟨j1, _⟩ := i2 (gs := fs) eq.symm
      obtain ⟨_, j2⟩ := i2 (gs := os) rfl
      obtain ⟨vx, A, B, g1, g2, g3, g4, g5, g6⟩ := l.at_ i1
      obtain ⟨v1, S1, Sr, k1, k2, k3, k4, k5, k6⟩ := Ow.focus π g2 e
      refine ⟨v1, S1, fun b => Sr b ∨ B b ∨ b = a, ⟨a, C, dx, fs, vx, rfl, h, by rw [j1, g1], k1⟩, k2, fun b z => (s1 b (g3 b (k3 b z))).1, fun b z => ?_, fun b z y => ?_, fun F' H' S' o' st w n' => ?_⟩
      · rcases z with z | z | z
        · exact (s1 b (g3 b (k4 b z))).1
        · exact (s1 b (g4 b z)).1
        · subst z; exact s
      · rcases y with y | y | y
        · exact k5 b z y
        · exact g5 b (k3 b z) y
        · exact (s1 b (g3 b (k3 b z))).2 y
      · have w1 := k6 F' H' S' o' (st.sub fun b z => .inl z) w fun b z y => n' b z (.inl y)
        have w2 := g6 F' H' _ _ (st.sub fun b z => .inr (.inl z)) w1 fun b z y => z.elim (fun z => n' b z (.inr (.inl y))) fun z => g5 b (k4 b z) y
        have ee : O.put o' (.at f :: π) (.ins C os) = .ins C (putA f (O.put o' π x) os) := by rw [O.put, q]; rfl
        rw [ee]
        refine .ins (S1 := fun b => (S' b ∨ Sr b) ∨ B b) (st.keep a _ (.inr (.inr rfl)) h fun z => z) (st.no a (.inr (.inr rfl)) (by rw [h]; simp) nf) (.inr (.inr (.inr rfl))) (fun b z => ?_) (by rw [(j2 _).2]; exact eq) (by rw [(j2 _).1]; exact w2)
        rcases z with (z | z) | z
        · exact ⟨.inl z, fun y => n' b z (.inr (.inr y))⟩
        · exact ⟨.inr (.inl z), (s1 b (g3 b (k4 b z))).2⟩
        · exact ⟨.inr (.inr (.inl z)), (s1 b (g4 b z)).2⟩
  | .ix _ :: _, _, _, .fz _, _, _, e => by simp [O.get] at e
  | .ix _ :: _, _, _, .dk _, _, _, e => by simp [O.get] at e
  | .ix _ :: _, _, _, .dt _, _, _, e => by simp [O.get] at e
  | .ix _ :: _, _, _, .ins _ _, _, _, e => by simp [O.get] at e
  | .at _ :: _, _, _, .fz _, _, _, e => by simp [O.get] at e
  | .at _ :: _, _, _, .dk _, _, _, e => by simp [O.get] at e
  | .at _ :: _, _, _, .dt _, _, _, e => by simp [O.get] at e
  | .at _ :: _, _, _, .lst _, _, _, e => by simp [O.get] at e
end
end DL

/-! DL2: the state relation. -/
namespace DL
open PySem L2

abbrev DEnv := List (Option O)
/-- what a def's body stands in: the entry's frozen part and heap, what the caller handed to be changed, slots that stay -/
structure Cn (TB : List (Addr × Str)) where
  F_0 : Hp
  H_0 : Hp
  P_0 : Addr → Prop
  pin : List Nat
  s_0 : L2.St
/-- an address that this body may own -/
def Cn.mine {TB : List (Addr × Str)} (c : Cn TB) (a : Addr) : Prop := c.P_0 a ∨ ¬ Hv c.H_0 a
structure EnvOk {TB : List (Addr × Str)} (K : PySem.W.Frag) (F H : Hp) (c : Cn TB) (R : Addr → Prop) (δ : DEnv) (σ : L2.St) (T : Nat → Addr → Prop) : Prop where
  at_ : ∀ i o, δ[i]? = some (some o) → ∃ v, σ[i]? = some (some v) ∧ Ow K F H (T i) v o
  dj : ∀ i j a, T i a → T j a → i = j
  nr : ∀ i a, T i a → ¬ R a
  own : ∀ i a, T i a → c.mine a
  hv : ∀ i a, T i a → Hv H a
  nf : ∀ i a, T i a → F a = none
structure Sim {TB : List (Addr × Str)} (K : PySem.W.Frag) (c : Cn TB) (R : Addr → Prop) (δ : DEnv) (σ : L2.St) (F H : Hp) : Prop where
  sub : Le F H
  nt : ∀ a o, F a = some o → ¬ isTbl o
  f0 : Le c.F_0 F
  fn : ∀ a, F a ≠ none → c.F_0 a ≠ none ∨ c.mine a
  keep : ∀ a o, c.H_0 a = some o → ¬ c.P_0 a → ¬ isTbl o → H a = some o
  thr : ∀ a, Hv c.H_0 a → Hv H a
  rs : ∀ a, R a → F a = none ∧ Hv H a ∧ c.mine a
  env : ∃ T, EnvOk K F H c R δ σ T
  pin : ∀ i ∈ c.pin, σ[i]? = c.s_0[i]?
  len : δ.length = σ.length
  tabs : LamX.Tabs TB H
section
variable {K : PySem.W.Frag} {TB : List (Addr × Str)} {c : Cn TB} {R R' : Addr → Prop} {δ : DEnv} {σ : L2.St} {F F' H H' : Hp}

theorem Sim.ext (s : Sim K c R δ σ F H) (e : Ext H H') (tt : LamX.Tabs TB H') (l : Le F F') (u : Le F' H') (n : ∀ a o, F' a = some o → ¬ isTbl o) (q : ∀ a, F' a ≠ none → F a ≠ none ∨ H a = none) : Sim K c R δ σ F' H' := by
  obtain ⟨T, E⟩ := s.env
  refine ⟨u, n, s.f0.trans l, fun a z => ?_, fun a o h p t => e.keep a o (s.keep a o h p t) t, fun a h => e.thr a (s.thr a h), fun a z => ?_, ⟨T, fun i o h => ?_, E.dj, E.nr, E.own, fun i a z => e.thr a (E.hv i a z), fun i a z => ?_⟩, s.pin, s.len, tt⟩
  · rcases q a z with z | z
    · exact s.fn a z
    · exact .inr (.inr fun y => (s.thr a y).ne z)
  · obtain ⟨h1, h2, h3⟩ := s.rs a z
    refine ⟨?_, e.thr a h2, h3⟩
    cases h : F' a with
    | none => rfl
    | some o => exact ((q a (by rw [h]; simp)).elim (fun z => z h1) fun z => h2.ne z).elim
  · obtain ⟨v, h1, h2⟩ := E.at_ i o h
    refine ⟨v, h1, h2.stand ⟨l, fun b u _ hb t => e.keep b u hb t, fun b _ hb fb => ?_⟩⟩
    cases h : F' b with
    | none => rfl
    | some u => exact ((q b (by rw [h]; simp)).elim (fun z => z fb) fun z => hb z).elim
  · cases h : F' a with
    | none => rfl
    | some u => exact ((q a (by rw [h]; simp)).elim (fun y => y (E.nf i a z)) fun y => (E.hv i a z).ne y).elim
/-- the heap has grown, nothing is frozen anew -/
theorem Sim.grow (s : Sim K c R δ σ F H) (e : Ext H H') (tt : LamX.Tabs TB H') : Sim K c R δ σ F H' := s.ext e tt (Le.refl F) (fun a o h => e.keep a o (s.sub a o h) (s.nt a o h)) s.nt fun a z => .inl z
/-- an object that is no table and no code object changes -/
theorem tabs_upd {TB : List (Addr × Str)} {H : Hp} {a : Addr} {o o' : HO} (t : LamX.Tabs TB H) (h : H a = some o) (n : ¬ isTbl o) (m : ∀ c q, o ≠ LamX.CodeO c q) : LamX.Tabs TB (upd H a o') := fun p hp => by
  obtain ⟨ps, h1, h2, h3⟩ := t p hp
  have e1 : p.1 ≠ a := fun e => by rw [← e, h1] at h; cases h; exact n trivial
  refine ⟨ps, by rw [upd_ne e1]; exact h1, h2, fun pos cv hc => ?_⟩
  obtain ⟨c, g1, g2⟩ := h3 pos cv hc
  refine ⟨c, g1, ?_⟩
  rw [upd_ne (fun e => by rw [e, h] at g2; cases g2; exact m _ _ rfl)]; exact g2
theorem Hv.up {H : Hp} {a b : Addr} {o : HO} (h : Hv H b) (n : ¬ isTbl o) : Hv (upd H a o) b := by
  by_cases e : b = a
  · subst e; exact ⟨o, upd_same, n⟩
  · obtain ⟨u, h1, h2⟩ := h
    exact ⟨u, by rw [upd_ne e]; exact h1, h2⟩
/-- a new object, frozen at once -/
theorem Sim.new {p : Addr} {o : HO} (s : Sim K c R δ σ F H) (h : H p = none) (n : ¬ isTbl o) : Sim K c R δ σ (upd F p o) (upd H p o) := by
  have fp : F p = none := by
    cases q : F p with
    | none => rfl
    | some u => rw [s.sub p u q] at h; cases h
  refine s.ext (.new h) (s.tabs.ext (Le.new h)) (Le.new fp) (fun a u e => ?_) (fun a u e => ?_) fun a z => ?_
  · by_cases hp : a = p
    · subst hp; rw [upd_same] at e ⊢; exact e
    · rw [upd_ne hp] at e ⊢; exact s.sub a u e
  · by_cases hp : a = p
    · subst hp; rw [upd_same] at e; cases e; exact n
    · rw [upd_ne hp] at e; exact s.nt a u e
  · by_cases hp : a = p
    · subst hp; exact .inr h
    · rw [upd_ne hp] at z; exact .inl z
theorem Sim.fresh {p : Addr} (s : Sim K c R δ σ F H) (h : H p = none) : F p = none := by
  cases q : F p with
  | none => rfl
  | some u => rw [s.sub p u q] at h; cases h
theorem Sim.mine {p : Addr} (s : Sim K c R δ σ F H) (h : H p = none) : c.mine p := .inr fun y => (s.thr p y).ne h
/-- a new object, held back -/
theorem Sim.hold {p : Addr} {o : HO} (s : Sim K c R δ σ F H) (h : H p = none) (nt : ¬ isTbl o) : Sim K c (fun a => R a ∨ a = p) δ σ F (upd H p o) := by
  have g := s.grow (Ext.new (o := o) h) (s.tabs.ext (Le.new h))
  obtain ⟨T, E⟩ := s.env
  obtain ⟨T', E'⟩ := g.env
  refine ⟨g.sub, g.nt, g.f0, g.fn, g.keep, g.thr, fun a z => ?_, ⟨T, fun i o hi => ?_, E.dj, fun i a z y => ?_, E.own, fun i a z => (Ext.new h).thr a (E.hv i a z), E.nf⟩, g.pin, g.len, g.tabs⟩
  · rcases z with z | z
    · exact g.rs a z
    · subst z; exact ⟨s.fresh h, ⟨o, upd_same, nt⟩, s.mine h⟩
  · obtain ⟨v, h1, h2⟩ := E.at_ i o hi
    exact ⟨v, h1, h2.stand ⟨Le.refl _, fun b u _ hb t => (Ext.new h).keep b u hb t, fun b _ _ fb => fb⟩⟩
  · rcases y with y | y
    · exact E.nr i a z y
    · subst y; exact (E.hv i a z).ne h
/-- what is held back changes (or is let go) -/
theorem Sim.held (s : Sim K c R δ σ F H) (R' : Addr → Prop) (k : ∀ a o, ¬ R a → H a = some o → ¬ isTbl o → H' a = some o) (t : ∀ a, Hv H a → Hv H' a) (tt : LamX.Tabs TB H') (r : ∀ a, R' a → R a ∨ (H a = none ∧ Hv H' a)) : Sim K c R' δ σ F H' := by
  obtain ⟨T, E⟩ := s.env
  have fR : ∀ a, F a ≠ none → ¬ R a := fun a h z => h (s.rs a z).1
  refine ⟨fun a o h => k a o (fR a (by rw [h]; simp)) (s.sub a o h) (s.nt a o h), s.nt, s.f0, s.fn, fun a o h p n => ?_, fun a h => t a (s.thr a h), fun a z => ?_, ⟨T, fun i o hi => ?_, E.dj, fun i a z y => ?_, E.own, fun i a z => t a (E.hv i a z), E.nf⟩, s.pin, s.len, tt⟩
  · refine k a o (fun z => ?_) (s.keep a o h p n) n
    rcases (s.rs a z).2.2 with m | m
    · exact p m
    · exact m ⟨o, h, n⟩
  · rcases r a z with z | ⟨z, y⟩
    · obtain ⟨h1, h2, h3⟩ := s.rs a z
      exact ⟨h1, t a h2, h3⟩
    · exact ⟨s.fresh z, y, s.mine z⟩
  · obtain ⟨v, h1, h2⟩ := E.at_ i o hi
    exact ⟨v, h1, h2.stand ⟨Le.refl _, fun b u z hb n => k b u (E.nr i b z) hb n, fun b _ _ fb => fb⟩⟩
  · rcases r a y with q | ⟨q, _⟩
    · exact E.nr i a z q
    · exact (E.hv i a z).ne q
theorem Sim.drop (s : Sim K c R δ σ F H) (R' : Addr → Prop) (r : ∀ a, R' a → R a) : Sim K c R' δ σ F H :=
  s.held R' (fun _ _ _ h _ => h) (fun _ h => h) s.tabs fun a z => .inl (r a z)
/-- F with the nodes of S -/
noncomputable def frz (F H : Hp) (S : Addr → Prop) : Hp := fun a =>
  haveI := Classical.propDecidable (S a ∧ ∃ o, H a = some o ∧ ¬ isTbl o)
  if F a = none then (if S a ∧ ∃ o, H a = some o ∧ ¬ isTbl o then H a else none) else F a
theorem frz_le (F H : Hp) (S : Addr → Prop) : Le F (frz F H S) := fun a o h => by
  unfold frz; rw [if_neg (by rw [h]; simp)]; exact h
theorem frz_at {F H : Hp} {S : Addr → Prop} (s : Le F H) {a : Addr} {o : HO} (h : S a) (e : H a = some o) (n : ¬ isTbl o) : frz F H S a = some o := by
  unfold frz
  by_cases q : F a = none
  · rw [if_pos q, if_pos ⟨h, o, e, n⟩]; exact e
  · rw [if_neg q]
    cases z : F a with
    | none => exact absurd z q
    | some u => rw [← s a u z]; exact e
theorem frz_of {F H : Hp} {S : Addr → Prop} {a : Addr} {o : HO} (h : frz F H S a = some o) : F a = some o ∨ (F a = none ∧ S a ∧ H a = some o ∧ ¬ isTbl o) := by
  unfold frz at h
  by_cases q : F a = none
  · rw [if_pos q] at h
    split at h
    · next z => obtain ⟨z1, u, z2, z3⟩ := z; rw [z2] at h; cases h; exact .inr ⟨q, z1, z2, z3⟩
    · cases h
  · rw [if_neg q] at h; exact .inl h
theorem frz_sub {F H : Hp} {S : Addr → Prop} (s : Le F H) : Le (frz F H S) H := fun a o h => (frz_of h).elim (s a o) fun z => z.2.2.1
/-- what is held back is frozen -/
theorem Sim.freeze {S : Addr → Prop} {v : V} {o : O} (s : Sim K c (fun a => R a ∨ S a) δ σ F H) (w : Ow K F H S v o) (d : ∀ a, S a → ¬ R a) :
    ∃ F', Le F F' ∧ Sim K c R δ σ F' H ∧ Fz K F' v o.toD := by
  obtain ⟨T, E⟩ := s.env
  refine ⟨frz F H S, frz_le F H S, ⟨frz_sub s.sub, fun a u h => ?_, s.f0.trans (frz_le F H S), fun a h => ?_, s.keep, s.thr, fun a z => ?_, ⟨T, fun i u hi => ?_, E.dj, fun i a z y => E.nr i a z (.inl y), E.own, E.hv, fun i a z => ?_⟩, s.pin, s.len, s.tabs⟩, w.fz' (frz_le F H S) fun b u z hb n => frz_at s.sub z hb n⟩
  · rcases frz_of h with z | z
    · exact s.nt a u z
    · exact z.2.2.2
  · cases h' : frz F H S a with
    | none => exact absurd h' h
    | some u =>
      rcases frz_of h' with z | z
      · exact s.fn a (by rw [z]; simp)
      · exact .inr (s.rs a (.inr z.2.1)).2.2
  · obtain ⟨h1, h2, h3⟩ := s.rs a (.inl z)
    refine ⟨?_, h2, h3⟩
    cases h' : frz F H S a with
    | none => rfl
    | some u =>
      rcases frz_of h' with y | y
      · rw [h1] at y; cases y
      · exact absurd z (d a y.2.1)
  · obtain ⟨x, h1, h2⟩ := E.at_ i u hi
    refine ⟨x, h1, h2.stand ⟨frz_le F H S, fun b y _ hb _ => hb, fun b z hb fb => ?_⟩⟩
    cases h' : frz F H S b with
    | none => rfl
    | some y =>
      rcases frz_of h' with q | q
      · rw [fb] at q; cases q
      · exact absurd (Or.inr q.2.1) (E.nr i b z)
  · cases h' : frz F H S a with
    | none => rfl
    | some y =>
      rcases frz_of h' with q | q
      · rw [E.nf i a z] at q; cases q
      · exact absurd (Or.inr q.2.1) (E.nr i a z)
/-- a slot's tree is taken out -/
theorem Sim.out {i : Nat} {o : O} (s : Sim K c R δ σ F H) (h : δ[i]? = some (some o)) :
    ∃ (v : V) (S : Addr → Prop), σ[i]? = some (some v) ∧ Ow K F H S v o ∧ (∀ a, S a → ¬ R a) ∧ Sim K c (fun a => R a ∨ S a) (δ.set i none) σ F H := by
  obtain ⟨T, E⟩ := s.env
  obtain ⟨v, h1, h2⟩ := E.at_ i o h
  refine ⟨v, T i, h1, h2, E.nr i, s.sub, s.nt, s.f0, s.fn, s.keep, s.thr, fun a z => ?_, ⟨fun j a => j ≠ i ∧ T j a, fun j u hj => ?_, fun j k a y z => E.dj j k a y.2 z.2, fun j a z y => ?_, fun j a z => E.own j a z.2, fun j a z => E.hv j a z.2, fun j a z => E.nf j a z.2⟩, s.pin, by rw [List.length_set]; exact s.len, s.tabs⟩
  · rcases z with z | z
    · exact s.rs a z
    · exact ⟨E.nf i a z, E.hv i a z, E.own i a z⟩
  · by_cases e : j = i
    · subst e
      have hl : j < δ.length := (List.getElem?_eq_some_iff.mp h).1
      rw [List.getElem?_set_self hl] at hj; cases hj
    · rw [List.getElem?_set_ne (Ne.symm e)] at hj
      obtain ⟨x, h3, h4⟩ := E.at_ j u hj
      exact ⟨x, h3, h4.grow fun b z => ⟨e, z⟩⟩
  · rcases y with y | y
    · exact E.nr j a z.2 y
    · exact z.1 (E.dj j i a z.2 y)
/-- a held tree goes into a slot -/
theorem Sim.into {i : Nat} {S : Addr → Prop} {v : V} {o : O} (s : Sim K c (fun a => R a ∨ S a) δ σ F H) (w : Ow K F H S v o) (d : ∀ a, S a → ¬ R a) (hp : i ∉ c.pin ∨ σ[i]? = some (some v)) : Sim K c R (δ.set i (some o)) (σ.set i (some v)) F H := by
  obtain ⟨T, E⟩ := s.env
  refine ⟨s.sub, s.nt, s.f0, s.fn, s.keep, s.thr, fun a z => s.rs a (.inl z), ⟨fun j a => (j ≠ i ∧ T j a) ∨ (j = i ∧ S a), fun j u hj => ?_, fun j k a y z => ?_, fun j a z y => ?_, fun j a z => ?_, fun j a z => ?_, fun j a z => ?_⟩, fun j hj => ?_, by rw [List.length_set, List.length_set]; exact s.len, s.tabs⟩
  · by_cases e : j = i
    · subst e
      have hl : j < δ.length := by
        have := (List.getElem?_eq_some_iff.mp hj).1
        rwa [List.length_set] at this
      rw [List.getElem?_set_self hl] at hj; cases hj
      exact ⟨v, by rw [List.getElem?_set_self (s.len ▸ hl)], w.grow fun b z => .inr ⟨rfl, z⟩⟩
    · rw [List.getElem?_set_ne (Ne.symm e)] at hj
      obtain ⟨x, h3, h4⟩ := E.at_ j u hj
      exact ⟨x, by rw [List.getElem?_set_ne (Ne.symm e)]; exact h3, h4.grow fun b z => .inl ⟨e, z⟩⟩
  · rcases y with ⟨y1, y2⟩ | ⟨y1, y2⟩
    · rcases z with ⟨z1, z2⟩ | ⟨z1, z2⟩
      · exact E.dj j k a y2 z2
      · exact absurd (Or.inr z2) (E.nr j a y2)
    · rcases z with ⟨z1, z2⟩ | ⟨z1, z2⟩
      · exact absurd (Or.inr y2) (E.nr k a z2)
      · rw [y1, z1]
  · rcases z with z | z
    · exact E.nr j a z.2 (.inl y)
    · exact d a z.2 y
  · rcases z with z | z
    · exact E.own j a z.2
    · exact (s.rs a (.inr z.2)).2.2
  · rcases z with z | z
    · exact E.hv j a z.2
    · exact (s.rs a (.inr z.2)).2.1
  · rcases z with z | z
    · exact E.nf j a z.2
    · exact (s.rs a (.inr z.2)).1
  · by_cases e : j = i
    · subst e
      rcases hp with hp | hp
      · exact absurd hj hp
      · have hl : j < σ.length := (List.getElem?_eq_some_iff.mp hp).1
        rw [List.getElem?_set_self hl, ← s.pin j hj, hp]
    · rw [List.getElem?_set_ne (Ne.symm e)]; exact s.pin j hj
/-- a frozen value goes into a slot -/
theorem Sim.put {i : Nat} {v : V} {d : D} (s : Sim K c R δ σ F H) (w : Fz K F v d) (hp : i ∉ c.pin) : Sim K c R (δ.set i (some (.fz d))) (σ.set i (some v)) F H :=
  Sim.into (S := fun _ => False) (s.drop _ fun a z => z.elim id False.elim) (.fz w) (fun _ z => z.elim) (.inl hp)
end
end DL

/-! DL3: a tree in a slot changes; a def's entry and end. -/
namespace DL
open PySem L2

/-- S has become S', all else stands -/
structure Chg (TB : List (Addr × Str)) (S S' : Addr → Prop) (F H F' H' : Hp) : Prop where
  keep : ∀ a o, ¬ S a → H a = some o → ¬ isTbl o → H' a = some o
  thr : ∀ a, Hv H a → Hv H' a
  le : Le F F'
  sub : Le F' H'
  nt : ∀ a o, F' a = some o → ¬ isTbl o
  fn : ∀ a, F' a ≠ none → F a ≠ none ∨ S a ∨ ¬ Hv H a
  own : ∀ a, S' a → (S a ∨ ¬ Hv H a) ∧ F' a = none ∧ Hv H' a
  tabs : LamX.Tabs TB H → LamX.Tabs TB H'
section
variable {K : PySem.W.Frag} {TB : List (Addr × Str)} {c : Cn TB} {R R' S S' : Addr → Prop} {δ : DEnv} {σ : L2.St} {F F' H H' : Hp}
theorem not_none {o : Option HO} (h : ¬ o ≠ none) : o = none := by
  cases o with
  | none => rfl
  | some u => exact absurd (by simp) h
theorem Sim.mine' {p : Addr} (s : Sim K c R δ σ F H) (h : ¬ Hv H p) : c.mine p := .inr fun y => h (s.thr p y)
theorem Sim.step (s : Sim K c (fun a => R a ∨ S a) δ σ F H) (d : ∀ a, S a → ¬ R a) (g : Chg TB S S' F H F' H') : Sim K c (fun a => R a ∨ S' a) δ σ F' H' := by
  obtain ⟨T, E⟩ := s.env
  have low : ∀ a, F a = none → ¬ S a → Hv H a → F' a = none := fun a f n h => not_none fun z => (g.fn a z).elim (fun y => y f) fun y => y.elim n fun q => q h
  have fS : ∀ a, F a ≠ none → ¬ S a := fun a h z => h (s.rs a (.inr z)).1
  refine ⟨g.sub, g.nt, s.f0.trans g.le, fun a z => ?_, fun a o h p n => ?_, fun a h => g.thr a (s.thr a h), fun a z => ?_, ⟨T, fun i o hi => ?_, E.dj, fun i a z y => ?_, E.own, fun i a z => g.thr a (E.hv i a z), fun i a z => low a (E.nf i a z) (fun y => E.nr i a z (.inr y)) (E.hv i a z)⟩, s.pin, s.len, g.tabs s.tabs⟩
  · rcases g.fn a z with y | y | y
    · exact s.fn a y
    · exact .inr (s.rs a (.inr y)).2.2
    · exact .inr (s.mine' y)
  · refine g.keep a o (fun z => ?_) (s.keep a o h p n) n
    rcases (s.rs a (.inr z)).2.2 with m | m
    · exact p m
    · exact m ⟨o, h, n⟩
  · rcases z with z | z
    · obtain ⟨h1, h2, h3⟩ := s.rs a (.inl z)
      exact ⟨low a h1 (fun y => d a y z) h2, g.thr a h2, h3⟩
    · obtain ⟨h1, h2, h3⟩ := g.own a z
      refine ⟨h2, h3, ?_⟩
      rcases h1 with y | y
      · exact (s.rs a (.inr y)).2.2
      · exact s.mine' y
  · obtain ⟨v, h1, h2⟩ := E.at_ i o hi
    exact ⟨v, h1, h2.stand ⟨g.le, fun b u z hb n => g.keep b u (fun y => E.nr i b z (.inr y)) hb n, fun b z hb fb => low b fb (fun y => E.nr i b z (.inr y)) (E.hv i b z)⟩⟩
  · rcases y with y | y
    · exact E.nr i a z (.inl y)
    · rcases (g.own a y).1 with q | q
      · exact E.nr i a z (.inr q)
      · exact q (E.hv i a z)
theorem Sim.focusE {E : Addr → Prop} {i : Nat} {π : List Step} {o o1 : O} (s : Sim K c (fun a => R a ∨ E a) δ σ F H) (dE : ∀ a, E a → ¬ R a) (h : δ[i]? = some (some o)) (hg : O.get π o = some o1) :
    ∃ (v v1 : V) (S1 : Addr → Prop), σ[i]? = some (some v) ∧ At H π v v1 ∧ Ow K F H S1 v1 o1 ∧ (∀ a, S1 a → ¬ R a ∧ F a = none ∧ Hv H a ∧ c.mine a ∧ ¬ E a) ∧
      ∀ (F' H' : Hp) (S' : Addr → Prop) (o' : O), Chg TB (fun a => S1 a ∨ E a) S' F H F' H' → Ow K F' H' S' v1 o' → Sim K c R (δ.set i (some (O.put o' π o))) σ F' H' := by
  obtain ⟨v, S, h1, h2, h3, h4⟩ := s.out h
  obtain ⟨v1, S1, Sr, g1, g2, g3, g4, g5, g6⟩ := h2.focus π hg
  refine ⟨v, v1, S1, h1, g1, g2, fun a z => ?_, fun F' H' S' o' g w => ?_⟩
  · obtain ⟨e1, e2, e3⟩ := h4.rs a (.inr (g3 a z))
    exact ⟨fun y => h3 a (g3 a z) (.inl y), e1, e2, e3, fun y => h3 a (g3 a z) (.inr y)⟩
  · have s1 : Sim K c (fun a => (R a ∨ Sr a) ∨ (S1 a ∨ E a)) (δ.set i none) σ F H := h4.drop _ fun a z => by
      rcases z with (z | z) | z | z
      · exact .inl (.inl z)
      · exact .inr (g4 a z)
      · exact .inr (g3 a z)
      · exact .inl (.inr z)
    have dd : ∀ a, S1 a ∨ E a → ¬ (R a ∨ Sr a) := fun a z y => by
      rcases z with z | z
      · exact y.elim (fun y => h3 a (g3 a z) (.inl y)) (g5 a z)
      · exact y.elim (dE a z) fun y => h3 a (g4 a y) (.inr z)
    have s2 := s1.step (S' := S') dd g
    have low : ∀ a, Sr a → F' a = none := fun a z => (s2.rs a (.inl (.inr z))).1
    have n' : ∀ b, S' b → ¬ Sr b := fun b z y => by
      rcases (g.own b z).1 with q | q
      · exact dd b q (.inr y)
      · exact q (h4.rs b (.inr (g4 b y))).2.1
    have w' := g6 F' H' S' o' ⟨g.le, fun b u z hb n => g.keep b u (fun y => dd b y (.inr z)) hb n, fun b z _ _ => low b z⟩ w n'
    have s3 : Sim K c (fun a => R a ∨ (S' a ∨ Sr a)) (δ.set i none) σ F' H' := s2.drop _ fun a z => z.elim (fun z => .inl (.inl z)) fun z => z.elim .inr fun z => .inl (.inr z)
    have s4 := s3.into (i := i) w' (fun a z y => ?_) (.inr h1)
    · have es : σ.set i (some v) = σ := by
        have hl : i < σ.length := (List.getElem?_eq_some_iff.mp h1).1
        have he : σ[i] = some v := (List.getElem?_eq_some_iff.mp h1).2
        rw [← he]; exact List.set_getElem_self hl
      rw [es, List.set_set] at s4
      exact s4
    · rcases z with z | z
      · rcases (g.own a z).1 with q | q
        · exact dd a q (.inl y)
        · exact q (h4.rs a (.inl (.inl y))).2.1
      · exact h3 a (g4 a z) (.inl y)
theorem Sim.focus {i : Nat} {π : List Step} {o o1 : O} (s : Sim K c R δ σ F H) (h : δ[i]? = some (some o)) (hg : O.get π o = some o1) :
    ∃ (v v1 : V) (S1 : Addr → Prop), σ[i]? = some (some v) ∧ At H π v v1 ∧ Ow K F H S1 v1 o1 ∧ (∀ a, S1 a → ¬ R a ∧ F a = none ∧ Hv H a ∧ c.mine a) ∧
      ∀ (F' H' : Hp) (S' : Addr → Prop) (o' : O), Chg TB S1 S' F H F' H' → Ow K F' H' S' v1 o' → Sim K c R (δ.set i (some (O.put o' π o))) σ F' H' := by
  obtain ⟨v, v1, S1, h1, h2, h3, h4, h5⟩ := Sim.focusE (E := fun _ => False) (s.drop _ fun a z => z.elim id False.elim) (fun _ z => z.elim) h hg
  refine ⟨v, v1, S1, h1, h2, h3, fun a z => ⟨(h4 a z).1, (h4 a z).2.1, (h4 a z).2.2.1, (h4 a z).2.2.2.1⟩, fun F' H' S' o' g w => h5 F' H' S' o' ?_ w⟩
  exact ⟨fun a o n => g.keep a o fun z => n (.inl z), g.thr, g.le, g.sub, g.nt, fun a z => (g.fn a z).imp id fun y => y.imp .inl id, fun a z => ⟨(g.own a z).1.imp .inl id, (g.own a z).2⟩, g.tabs⟩
/-- a tree is seen -/
theorem Sim.see {i : Nat} {π : List Step} {o o1 : O} (s : Sim K c R δ σ F H) (h : δ[i]? = some (some o)) (hg : O.get π o = some o1) :
    ∃ (v v1 : V) (S1 : Addr → Prop), σ[i]? = some (some v) ∧ At H π v v1 ∧ Ow K F H S1 v1 o1 ∧ (∀ a, S1 a → ¬ R a ∧ F a = none ∧ Hv H a ∧ c.mine a) := by
  obtain ⟨v, v1, S1, a, b, d, e, _⟩ := s.focus h hg
  exact ⟨v, v1, S1, a, b, d, e⟩
/-- a name is read as data: its tree is frozen -/
theorem Sim.read {i : Nat} {o : O} (s : Sim K c R δ σ F H) (h : δ[i]? = some (some o)) :
    ∃ v F', σ[i]? = some (some v) ∧ Le F F' ∧ Sim K c R (δ.set i (some (.fz o.toD))) σ F' H ∧ Fz K F' v o.toD := by
  obtain ⟨v, S, h1, h2, h3, h4⟩ := s.out h
  obtain ⟨F', g1, g2, g3⟩ := h4.freeze h2 h3
  refine ⟨v, F', h1, g1, ?_, g3⟩
  have s4 := Sim.into (i := i) (S := fun _ => False) (g2.drop _ fun a z => z.elim id False.elim) (.fz g3) (fun _ z => z.elim) (.inr h1)
  have es : σ.set i (some v) = σ := by
    have hl : i < σ.length := (List.getElem?_eq_some_iff.mp h1).1
    have he : σ[i] = some v := (List.getElem?_eq_some_iff.mp h1).2
    rw [← he]; exact List.set_getElem_self hl
  rw [es, List.set_set] at s4
  exact s4
/-- everything that the slots hold, at the heap as it stands -/
theorem Sim.all (s : Sim K c R δ σ F H) {i : Nat} {o : O} (h : δ[i]? = some (some o)) : ∃ v, σ[i]? = some (some v) ∧ Fz K H v o.toD := by
  obtain ⟨T, E⟩ := s.env
  obtain ⟨v, h1, h2⟩ := E.at_ i o h
  exact ⟨v, h1, h2.fz' s.sub fun b u _ hb _ => hb⟩

/-! ### a def's entry and end -/
theorem OwL.family : ∀ {S : Addr → Prop} {vs : List V} {os : List O}, OwL K F H S vs os →
    ∃ T : Nat → Addr → Prop, (∀ i o, os[i]? = some o → ∃ v, vs[i]? = some v ∧ Ow K F H (T i) v o) ∧ (∀ i j a, T i a → T j a → i = j) ∧ ∀ i a, T i a → S a
  | _, _, _, .nil => ⟨fun _ _ => False, fun i o h => by simp at h, fun _ _ _ h => h.elim, fun _ _ h => h.elim⟩
  | S, _, _, .cons (S1 := A) (S2 := B) s1 s2 dj h l => by
    obtain ⟨T, t1, t2, t3⟩ := OwL.family l
    refine ⟨fun i a => match i with | 0 => A a | j + 1 => T j a, fun i o e => ?_, fun i j a y z => ?_, fun i a z => ?_⟩
    · cases i with
      | zero => simp at e; subst e; exact ⟨_, rfl, h⟩
      | succ j =>
        obtain ⟨v, e1, e2⟩ := t1 j o (by simpa using e)
        exact ⟨v, by simpa using e1, e2⟩
    · cases i with
      | zero =>
        cases j with
        | zero => rfl
        | succ j => exact absurd (t3 j a z) (dj a y)
      | succ i =>
        cases j with
        | zero => exact absurd (t3 i a y) (dj a z)
        | succ j => rw [t2 i j a y z]
    · cases i with
      | zero => exact s1 a z
      | succ j => exact s2 a (t3 j a z)
theorem Sim.enter {vs : List V} {os : List O} {N : List Str} {pin : List Nat} (sub : Le F H) (nt : ∀ a o, F a = some o → ¬ isTbl o) (w : OwL K F H S vs os) (hS : ∀ a, S a → F a = none ∧ Hv H a) (ht : LamX.Tabs TB H) (hl : vs.length ≤ N.length) :
    Sim K (⟨F, H, S, pin, L2.start N vs⟩ : Cn TB) (fun _ => False) (os.map some ++ List.replicate (N.length - os.length) none) (L2.start N vs) F H := by
  obtain ⟨T, t1, t2, t3⟩ := w.family
  have le := w.length
  refine ⟨sub, nt, Le.refl F, fun a h => .inl h, fun a o h _ _ => h, fun a h => h, fun a z => z.elim, ⟨T, fun i o h => ?_, t2, fun i a z y => y, fun i a z => .inl (t3 i a z), fun i a z => (hS a (t3 i a z)).2, fun i a z => (hS a (t3 i a z)).1⟩, fun i _ => rfl, ?_, ht⟩
  · have hi : os[i]? = some o := by
      by_cases q : i < os.length
      · rw [List.getElem?_append_left (by simpa using q)] at h
        simpa [List.getElem?_map] using h
      · rw [List.getElem?_append_right (by simpa using q)] at h
        have := List.mem_of_getElem? h
        rw [List.mem_replicate] at this
        cases this.2
    obtain ⟨v, e1, e2⟩ := t1 i o hi
    refine ⟨v, ?_, e2⟩
    have hv : i < vs.length := (List.getElem?_eq_some_iff.mp e1).1
    unfold L2.start
    rw [List.getElem?_append_left (by simpa using hv), List.getElem?_map, e1]; rfl
  · unfold L2.start
    simp only [List.length_append, List.length_map, List.length_replicate, le]
/-- the trees that stay in their slots, together -/
theorem EnvOk.pick {T : Nat → Addr → Prop} (E : EnvOk K F H c R δ σ T) : ∀ (pin : List Nat) (os : List O) (vs : List V), pin.Nodup → pin.map (fun i => δ[i]?) = os.map (fun o => some (some o)) → pin.map (fun i => σ[i]?) = vs.map (fun v => some (some v)) →
    OwL K F H (fun a => ∃ i ∈ pin, T i a) vs os
  | [], [], [], _, _, _ => .nil
  | i :: pin, o :: os, v :: vs, nd, h1, h2 => by
    simp only [List.map_cons, List.cons.injEq] at h1 h2
    obtain ⟨v', e1, e2⟩ := E.at_ i o h1.1
    rw [h2.1] at e1; cases e1
    have nd' := List.nodup_cons.mp nd
    exact .cons (S1 := T i) (S2 := fun a => ∃ j ∈ pin, T j a) (fun a z => ⟨i, List.mem_cons_self, z⟩) (fun a ⟨j, hj, z⟩ => ⟨j, List.mem_cons_of_mem _ hj, z⟩) (fun a z ⟨j, hj, y⟩ => nd'.1 (by rw [E.dj i j a z y]; exact hj)) e2 (E.pick pin os vs nd'.2 h1.2 h2.2)
  | [], [], _ :: _, _, _, h => by simp at h
  | [], _ :: _, _, _, h, _ => by simp at h
  | _ :: _, [], _, _, h, _ => by simp at h
  | _ :: _, _ :: _, [], _, _, h => by simp at h
end
end DL

/-! DL4: the judgements. -/
namespace DL
open PySem L2

/-- an exception as data: its class, its attributes -/
structure Xc where
  C : Addr
  fs : List (Str × D)
inductive Rz (α : Type) where
  | ok (a : α) | er (x : Xc) | no
namespace Rz
variable {α β : Type}
def post (m : Rz α) (P : α → Prop) (B : Xc → Prop) : Prop := match m with
  | .ok a => P a
  | .er x => B x
  | .no => False
def bind (m : Rz α) (f : α → Rz β) : Rz β := match m with
  | .ok a => f a
  | .er x => .er x
  | .no => .no
def of : Option α → Rz α
  | some a => .ok a
  | none => .no
@[simp] theorem post_ok (a : α) (P : α → Prop) (B : Xc → Prop) : (Rz.ok a).post P B = P a := rfl
@[simp] theorem post_er (x : Xc) (P : α → Prop) (B : Xc → Prop) : (Rz.er x : Rz α).post P B = B x := rfl
@[simp] theorem post_no (P : α → Prop) (B : Xc → Prop) : (Rz.no : Rz α).post P B = False := rfl
@[simp] theorem bind_ok (a : α) (f : α → Rz β) : (Rz.ok a).bind f = f a := rfl
@[simp] theorem bind_er (x : Xc) (f : α → Rz β) : (Rz.er x).bind f = .er x := rfl
@[simp] theorem bind_no (f : α → Rz β) : (Rz.no).bind f = .no := rfl
@[simp] theorem of_some (a : α) : Rz.of (some a) = .ok a := rfl
@[simp] theorem of_none : Rz.of (none : Option α) = .no := rfl
theorem post_bind (m : Rz α) (f : α → Rz β) (P : β → Prop) (B : Xc → Prop) : (m.bind f).post P B = m.post (fun a => (f a).post P B) B := by cases m <;> rfl
theorem post_mono {m : Rz α} {P P' : α → Prop} {B B' : Xc → Prop} (h : m.post P B) (hp : ∀ a, P a → P' a) (hb : ∀ x, B x → B' x) : m.post P' B' := by
  cases m with
  | ok a => exact hp a h
  | er x => exact hb x h
  | no => exact h
theorem post_of {o : Option α} {P : α → Prop} {B : Xc → Prop} (h : (Rz.of o).post P B) : ∃ a, o = some a ∧ P a := by
  cases o with
  | none => exact h.elim
  | some a => exact ⟨a, rfl, h⟩
end Rz

section
/-- what is wished of exceptions, where these tables stand -/
def XKt (TB : List (Addr × Str)) := XK
def noX (TB : List (Addr × Str)) : XKt TB := fun _ _ _ => False
variable (K : PySem.W.Frag) {TB : List (Addr × Str)}
/-- its attributes stand in the dict at d -/
def XAt (x : Xc) (d : Addr) (F H : Hp) : Prop := ∃ fs, H d = some (.xd fs) ∧ fs.map Prod.fst = x.fs.map Prod.fst ∧ FzL K F (fs.map Prod.snd) (x.fs.map Prod.snd)
/-- what is held back stands -/
def Held (R : Addr → Prop) (H H' : Hp) : Prop := ∀ a o, R a → H a = some o → ¬ isTbl o → H' a = some o
/-- what is wished of an exception -/
def Wish (B : XKt TB) (c : Cn TB) (x : Xc) : Prop := ∀ (R : Addr → Prop) (δ : DEnv) (σ : L2.St) (d : Addr) (F' H' : Hp), Sim K c R δ σ F' H' → XAt K x d F' H' → (show XK from B) (.ref x.C) (some d) H'
variable (B : XKt TB)
/-- an expression's reading gives data -/
def DI (te : TE) (g : DEnv → Rz (D × DEnv)) : Prop := ∀ (c : Cn TB) (R : Addr → Prop) (δ : DEnv) (σ : L2.St) (F H : Hp), Sim K c R δ σ F H → ∀ Q : VK,
  (g δ).post (fun p => ∀ v F' H', Sim K c R p.2 σ F' H' → Le F F' → Held R H H' → Fz K F' v p.1 → Q v H') (Wish K B c) → te σ H Q
/-- .. a new tree -/
def DF (te : TE) (g : DEnv → Rz (O × DEnv)) : Prop := ∀ (c : Cn TB) (R : Addr → Prop) (δ : DEnv) (σ : L2.St) (F H : Hp), Sim K c R δ σ F H → ∀ Q : VK,
  (g δ).post (fun p => ∀ v F' H' S, Sim K c (fun a => R a ∨ S a) p.2 σ F' H' → (∀ a, S a → ¬ R a) → Le F F' → Held R H H' → Ow K F' H' S v p.1 → Q v H') (Wish K B c) → te σ H Q
/-- a test's -/
def DT (tt : TT) (g : DEnv → Rz (Bool × DEnv)) : Prop := ∀ (c : Cn TB) (R : Addr → Prop) (δ : DEnv) (σ : L2.St) (F H : Hp), Sim K c R δ σ F H → ∀ Q : Bool → Hp → Prop,
  (g δ).post (fun p => ∀ F' H', Sim K c R p.2 σ F' H' → Le F F' → Held R H H' → Q p.1 H') (Wish K B c) → tt σ H Q
/-- arguments, all as data -/
def DA (ta : TA) (g : DEnv → Rz (List D × DEnv)) : Prop := ∀ (c : Cn TB) (R : Addr → Prop) (δ : DEnv) (σ : L2.St) (F H : Hp), Sim K c R δ σ F H → ∀ Q : List V → Hp → Prop,
  (g δ).post (fun p => ∀ vs F' H', Sim K c R p.2 σ F' H' → Le F F' → Held R H H' → FzL K F' vs p.1 → Q vs H') (Wish K B c) → ta σ H Q
/-- an expression that touches nothing -/
def SX (te : TE) (f : DEnv → Option D) : Prop := ∀ {TB : List (Addr × Str)} (c : Cn TB) (R : Addr → Prop) (δ : DEnv) (σ : L2.St) (F H : Hp), Sim K c R δ σ F H → ∀ d, f δ = some d → ∃ v, Fz K F v d ∧ ∀ Q : VK, Q v H → te σ H Q
/-- a place within the tree of slot i: its path, what stands there -/
def PL (te : TE) (i : Nat) (p : DEnv → Option (List Step × O)) : Prop := ∀ {TB : List (Addr × Str)} (c : Cn TB) (R : Addr → Prop) (δ : DEnv) (σ : L2.St) (F H : Hp), Sim K c R δ σ F H → ∀ π o, p δ = some (π, o) →
  (∃ o0, δ[i]? = some (some o0) ∧ O.get π o0 = some o) ∧ ∀ v v1, σ[i]? = some (some v) → At H π v v1 → ∀ Q : VK, Q v1 H → te σ H Q
end
theorem Held.refl {R : Addr → Prop} {H : Hp} : Held R H H := fun _ _ _ h _ => h
theorem Held.trans {R : Addr → Prop} {H H1 H2 : Hp} (a : Held R H H1) (b : Held R H1 H2) : Held R H H2 := fun x o r h n => b x o r (a x o r h n) n
theorem Held.of {R : Addr → Prop} {H H' : Hp} (e : Ext H H') : Held R H H' := fun a o _ h n => e.keep a o h n
section
variable {K : PySem.W.Frag} {TB : List (Addr × Str)} {B : XKt TB} {te ta tb : TE}
/-- what touches nothing, as data -/
def gS (f : DEnv → Option D) : DEnv → Rz (D × DEnv) := fun δ => (Rz.of (f δ)).bind fun d => .ok (d, δ)
theorem SX.di {f : DEnv → Option D} (h : SX K te f) : DI K B te (gS f) := fun c R δ σ F H s Q q => by
  unfold gS at q
  rw [Rz.post_bind] at q
  obtain ⟨d, e, q⟩ := Rz.post_of q
  obtain ⟨v, fz, k⟩ := h c R δ σ F H s d e
  exact k Q (q v F H s (Le.refl F) Held.refl fz)
/-- a new tree, frozen at once -/
def gZ (g : DEnv → Rz (O × DEnv)) : DEnv → Rz (D × DEnv) := fun δ => (g δ).bind fun p => .ok (p.1.toD, p.2)
theorem DF.di {g : DEnv → Rz (O × DEnv)} (h : DF K B te g) : DI K B te (gZ g) := fun c R δ σ F H s Q q => by
  unfold gZ at q
  rw [Rz.post_bind] at q
  refine h c R δ σ F H s Q (Rz.post_mono q (fun p q v F' H' S s' dj l hd w => ?_) fun _ z => z)
  obtain ⟨F2, l2, s2, z⟩ := s'.freeze w dj
  exact q v F2 H' s2 (l.trans l2) hd z
/-- data as a tree -/
def gO (g : DEnv → Rz (D × DEnv)) : DEnv → Rz (O × DEnv) := fun δ => (g δ).bind fun p => .ok (.fz p.1, p.2)
theorem DI.df {g : DEnv → Rz (D × DEnv)} (h : DI K B te g) : DF K B te (gO g) := fun c R δ σ F H s Q q => by
  unfold gO at q
  rw [Rz.post_bind] at q
  refine h c R δ σ F H s Q (Rz.post_mono q (fun p q v F' H' s' l hd w => ?_) fun _ z => z)
  exact q v F' H' (fun _ => False) (s'.drop _ fun a z => z.elim id False.elim) (fun _ z => z.elim) l hd (.fz w)
/-- a name -/
def gV (i : Nat) : DEnv → Rz (D × DEnv) := fun δ => match δ[i]? with
  | some (some (.fz d)) => .ok (d, δ)
  | some (some o) => .ok (o.toD, δ.set i (some (.fz o.toD)))
  | _ => .no
theorem di_var {i : Nat} : DI K B (tVar i) (gV i) := fun c R δ σ F H s Q q => by
  unfold gV at q
  split at q
  · next d e =>
    obtain ⟨v, v1, S1, h1, ha, w, _⟩ := s.see (π := []) e rfl
    cases (show v1 = v from ha)
    cases w with
    | fz z => exact ⟨v, h1, q v F H s (Le.refl F) Held.refl z⟩
  · next o _ e =>
    obtain ⟨v, F', h1, h2, h3, h4⟩ := s.read e
    exact ⟨v, h1, q v F' H h3 h2 Held.refl h4⟩
  · exact q.elim
/-- a name as a place -/
def pV (i : Nat) : DEnv → Option (List Step × O) := fun δ => match δ[i]? with
  | some (some o) => some ([], o)
  | _ => none
theorem pl_var {i : Nat} : PL K (tVar i) i (pV i) := fun c R δ σ F H s π o e => by
  unfold pV at e
  split at e
  · next o' h =>
    simp only [Option.some.injEq, Prod.mk.injEq] at e
    obtain ⟨rfl, rfl⟩ := e
    exact ⟨⟨_, h, rfl⟩, fun v v1 hv ha Q q => ⟨v, hv, by cases (show v1 = v from ha); exact q⟩⟩
  · cases e
/-- a place that holds data -/
def fP (p : DEnv → Option (List Step × O)) : DEnv → Option D := fun δ => (p δ).bind fun x => match x.2 with
  | .fz d => some d
  | _ => none
theorem PL.sx {i : Nat} {p : DEnv → Option (List Step × O)} (h : PL K te i p) : SX K te (fP p) := fun c R δ σ F H s d e => by
  unfold fP at e
  cases q : p δ with
  | none => rw [q] at e; cases e
  | some x =>
    obtain ⟨π, o⟩ := x
    rw [q] at e
    cases o with
    | fz d' =>
      simp only [Option.bind_some, Option.some.injEq] at e
      subst e
      obtain ⟨⟨o0, h1, h2⟩, k⟩ := h c R δ σ F H s π _ q
      obtain ⟨v, v1, S1, g1, g2, g3, _⟩ := s.see h1 h2
      cases g3 with
      | fz z => exact ⟨v1, z, fun Q hq => k v v1 g1 g2 Q hq⟩
    | _ => cases e
theorem sx_var {i : Nat} : SX K (tVar i) (fP (pV i)) := pl_var.sx
theorem sx_c {v : V} {d : D} (h : ∀ F, Fz K F v d) : SX K (tC v) (fun _ => some d) := fun c R δ σ F H s d' e => by
  cases e
  exact ⟨v, h F, fun Q q => q⟩
/-! ### operations by values -/
/-- what an operation on values gives at H: a value that stands, or a new object -/
def Gives (K : PySem.W.Frag) (F H : Hp) (r : VK → Prop) (d : D) : Prop :=
  (∃ v, Fz K F v d ∧ ∀ Q : VK, Q v H → r Q) ∨ (∃ ho, ¬ isTbl ho ∧ (∀ p, F p = none → Fz K (upd F p ho) (.ref p) d) ∧ ∀ Q : VK, (∀ p, H p = none → Q (.ref p) (upd H p ho)) → r Q)
theorem Gives.go {TB : List (Addr × Str)} {c : Cn TB} {R : Addr → Prop} {δ : DEnv} {σ : L2.St} {F H : Hp} {r : VK → Prop} {d : D} (g : Gives K F H r d) (s : Sim K c R δ σ F H) {Q : VK}
    (q : ∀ v F' H', Sim K c R δ σ F' H' → Le F F' → Held R H H' → Fz K F' v d → Q v H') : r Q := by
  rcases g with ⟨v, fz, k⟩ | ⟨ho, n, fz, k⟩
  · exact k Q (q v F H s (Le.refl F) Held.refl fz)
  · exact k Q fun p hp => q (.ref p) (upd F p ho) (upd H p ho) (s.new hp n) (Le.new (s.fresh hp)) (.of (.new hp)) (fz p (s.fresh hp))
def Op1 (K : PySem.W.Frag) (r : V → Hp → VK → Prop) (f : D → Option D) : Prop := ∀ (F H : Hp) (v : V) (d e : D), Le F H → Fz K F v d → f d = some e → Gives K F H (r v H) e
def Op2 (K : PySem.W.Frag) (r : R2) (f : D → D → Option D) : Prop := ∀ (F H : Hp) (v w : V) (d e x : D), Le F H → Fz K F v d → Fz K F w e → f d e = some x → Gives K F H (r v w H) x
def OpN (K : PySem.W.Frag) (r : List V → Hp → VK → Prop) (f : List D → Option D) : Prop := ∀ (F H : Hp) (vs : List V) (ds : List D) (x : D), Le F H → FzL K F vs ds → f ds = some x → Gives K F H (r vs H) x
def g1 (f : D → Option D) (ga : DEnv → Rz (D × DEnv)) : DEnv → Rz (D × DEnv) := fun δ => (ga δ).bind fun p => (Rz.of (f p.1)).bind fun x => .ok (x, p.2)
def g2 (f : D → D → Option D) (ga gb : DEnv → Rz (D × DEnv)) : DEnv → Rz (D × DEnv) := fun δ => (ga δ).bind fun p => (gb p.2).bind fun q => (Rz.of (f p.1 q.1)).bind fun x => .ok (x, q.2)
theorem di_un {r : V → Hp → VK → Prop} {f : D → Option D} {ga : DEnv → Rz (D × DEnv)} (o : Op1 K r f) (ha : DI K B ta ga) : DI K B (tUn r ta) (g1 f ga) := fun c R δ σ F H s Q q => by
  unfold g1 at q
  rw [Rz.post_bind] at q
  refine ha c R δ σ F H s _ (Rz.post_mono q (fun p q v F1 H1 s1 l1 h1 z1 => ?_) fun _ z => z)
  rw [Rz.post_bind] at q
  obtain ⟨x, e, q⟩ := Rz.post_of q
  exact (o F1 H1 v _ x s1.sub z1 e).go s1 fun v F2 H2 s2 l2 h2 z2 => q v F2 H2 s2 (l1.trans l2) (h1.trans h2) z2
theorem di_op {r : R2} {f : D → D → Option D} {ga gb : DEnv → Rz (D × DEnv)} (o : Op2 K r f) (ha : DI K B ta ga) (hb : DI K B tb gb) : DI K B (tOp r ta tb) (g2 f ga gb) := fun c R δ σ F H s Q q => by
  unfold g2 at q
  rw [Rz.post_bind] at q
  refine ha c R δ σ F H s _ (Rz.post_mono q (fun p q v F1 H1 s1 l1 h1 z1 => ?_) fun _ z => z)
  rw [Rz.post_bind] at q
  refine hb c R p.2 σ F1 H1 s1 _ (Rz.post_mono q (fun p' q w F2 H2 s2 l2 h2 z2 => ?_) fun _ z => z)
  rw [Rz.post_bind] at q
  obtain ⟨x, e, q⟩ := Rz.post_of q
  exact (o F2 H2 v w _ _ x s2.sub (z1.mono l2) z2 e).go s2 fun v F3 H3 s3 l3 h3 z3 => q v F3 H3 s3 ((l1.trans l2).trans l3) ((h1.trans h2).trans h3) z3
def gN (f : List D → Option D) (ga : DEnv → Rz (List D × DEnv)) : DEnv → Rz (D × DEnv) := fun δ => (ga δ).bind fun p => (Rz.of (f p.1)).bind fun x => .ok (x, p.2)
theorem di_cb {r : List V → Hp → VK → Prop} {f : List D → Option D} {tg : TA} {ga : DEnv → Rz (List D × DEnv)} (o : OpN K r f) (ha : DA K B tg ga) : DI K B (tCB r tg) (gN f ga) := fun c R δ σ F H s Q q => by
  unfold gN at q
  rw [Rz.post_bind] at q
  refine ha c R δ σ F H s _ (Rz.post_mono q (fun p q v F1 H1 s1 l1 h1 z1 => ?_) fun _ z => z)
  rw [Rz.post_bind] at q
  obtain ⟨x, e, q⟩ := Rz.post_of q
  exact (o F1 H1 v _ x s1.sub z1 e).go s1 fun v F2 H2 s2 l2 h2 z2 => q v F2 H2 s2 (l1.trans l2) (h1.trans h2) z2
def gaNil : DEnv → Rz (List D × DEnv) := fun δ => .ok ([], δ)
def gaCons (ga : DEnv → Rz (D × DEnv)) (gr : DEnv → Rz (List D × DEnv)) : DEnv → Rz (List D × DEnv) := fun δ => (ga δ).bind fun p => (gr p.2).bind fun q => .ok (p.1 :: q.1, q.2)
theorem da_nil : DA K B tNil gaNil := fun c R δ σ F H s Q q => q [] F H s (Le.refl F) Held.refl .nil
theorem da_cons {tr : TA} {ga : DEnv → Rz (D × DEnv)} {gr : DEnv → Rz (List D × DEnv)} (ha : DI K B ta ga) (hr : DA K B tr gr) : DA K B (tCons ta tr) (gaCons ga gr) := fun c R δ σ F H s Q q => by
  unfold gaCons at q
  rw [Rz.post_bind] at q
  refine ha c R δ σ F H s _ (Rz.post_mono q (fun p q v F1 H1 s1 l1 h1 z1 => ?_) fun _ z => z)
  rw [Rz.post_bind] at q
  refine hr c R p.2 σ F1 H1 s1 _ (Rz.post_mono q (fun p' q w F2 H2 s2 l2 h2 z2 => ?_) fun _ z => z)
  exact q (v :: w) F2 H2 s2 (l1.trans l2) (h1.trans h2) (.cons (z1.mono l2) z2)
/-! ### displays -/
theorem sqT_of {F : Hp} {a : Addr} {xs : List V} (h : F a = some (.tup xs)) : SqT K F a xs := .inl (.inl h)
def gaTup (ga : DEnv → Rz (List D × DEnv)) : DEnv → Rz (D × DEnv) := fun δ => (ga δ).bind fun p => if p.1.length ≤ 100000 then .ok (.tup p.1, p.2) else .no
theorem big {n : Nat} (h : n ≤ 100000) : n ≤ sizeLine := Nat.le_trans h (by decide)
theorem di_tup {tg : TA} {ga : DEnv → Rz (List D × DEnv)} (ha : DA K B tg ga) : DI K B (tTup tg) (gaTup ga) := fun c R δ σ F H s Q q => by
  unfold gaTup at q
  rw [Rz.post_bind] at q
  refine ha c R δ σ F H s _ (Rz.post_mono q (fun p q v F1 H1 s1 l1 h1 z1 => ?_) fun _ z => z)
  by_cases hl : p.1.length ≤ 100000
  · rw [if_pos hl] at q
    refine ⟨big (by rw [z1.length]; exact hl), fun a ha => ?_⟩
    exact q (.ref a) (upd F1 a (.tup v)) _ (s1.new ha fun z => z) (l1.trans (Le.new (s1.fresh ha))) (h1.trans (.of (.new ha))) (.tup (sqT_of upd_same) (z1.mono (Le.new (s1.fresh ha))))
  · rw [if_neg hl] at q; exact q.elim
def gaLst (ga : DEnv → Rz (List D × DEnv)) : DEnv → Rz (O × DEnv) := fun δ => (ga δ).bind fun p => if p.1.length ≤ 100000 then .ok (.lst (p.1.map .fz), p.2) else .no
/-- a new list at p whose items are data -/
theorem Sim.newList {TB : List (Addr × Str)} {c : Cn TB} {R : Addr → Prop} {δ : DEnv} {σ : L2.St} {F H : Hp} {p : Addr} {xs : List V} {ds : List D} (s : Sim K c R δ σ F H) (hp : H p = none) (l : FzL K F xs ds) :
    Sim K c (fun a => R a ∨ a = p) δ σ F (upd H p (.lst xs)) ∧ (∀ a, a = p → ¬ R a) ∧ Ow K F (upd H p (.lst xs)) (fun a => a = p) (.ref p) (.lst (ds.map .fz)) :=
  ⟨s.hold hp (fun z => z), fun a e z => by subst e; exact (s.rs a z).2.1.ne hp, .lst (S1 := fun _ => False) upd_same (s.fresh hp) rfl (fun _ z => z.elim) (OwL.leaves l)⟩
theorem df_lst {tg : TA} {ga : DEnv → Rz (List D × DEnv)} (ha : DA K B tg ga) : DF K B (tLst tg) (gaLst ga) := fun c R δ σ F H s Q q => by
  unfold gaLst at q
  rw [Rz.post_bind] at q
  refine ha c R δ σ F H s _ (Rz.post_mono q (fun p q v F1 H1 s1 l1 h1 z1 => ?_) fun _ z => z)
  by_cases hl : p.1.length ≤ 100000
  · rw [if_pos hl] at q
    refine ⟨big (by rw [z1.length]; exact hl), fun a ha => ?_⟩
    obtain ⟨s2, n, w⟩ := s1.newList ha z1
    exact q (.ref a) F1 _ _ s2 n l1 (h1.trans (.of (.new ha))) w
  · rw [if_neg hl] at q; exact q.elim
/-! ### tests -/
def fBl : D → Option Bool
  | .bl b => some b
  | _ => none
def gB (ga : DEnv → Rz (D × DEnv)) : DEnv → Rz (Bool × DEnv) := fun δ => (ga δ).bind fun p => (Rz.of (fBl p.1)).bind fun b => .ok (b, p.2)
theorem fBl_eq {d : D} {b : Bool} (h : fBl d = some b) : d = .bl b := by
  cases d <;> simp [fBl] at h
  rw [h]
theorem dt_test {ga : DEnv → Rz (D × DEnv)} (ha : DI K B ta ga) : DT K B (tTest ta) (gB ga) := fun c R δ σ F H s Q q => by
  unfold gB at q
  rw [Rz.post_bind] at q
  refine ha c R δ σ F H s _ (Rz.post_mono q (fun p q v F1 H1 s1 l1 h1 z1 => ?_) fun _ z => z)
  rw [Rz.post_bind] at q
  obtain ⟨b, e, q⟩ := Rz.post_of q
  rw [fBl_eq e] at z1
  cases z1
  exact ⟨b, rfl, q F1 H1 s1 l1 h1⟩
theorem dt_B {ga : DEnv → Rz (D × DEnv)} (ha : DI K B ta ga) : DT K B (tB ta) (gB ga) := fun c R δ σ F H s Q q => by
  unfold gB at q
  rw [Rz.post_bind] at q
  refine ha c R δ σ F H s _ (Rz.post_mono q (fun p q v F1 H1 s1 l1 h1 z1 => ?_) fun _ z => z)
  rw [Rz.post_bind] at q
  obtain ⟨b, e, q⟩ := Rz.post_of q
  rw [fBl_eq e] at z1
  cases z1
  exact ⟨b, rfl, q F1 H1 s1 l1 h1⟩
variable {tt tu : TT} {gt gu : DEnv → Rz (Bool × DEnv)}
def gAnd (ga gb : DEnv → Rz (Bool × DEnv)) : DEnv → Rz (Bool × DEnv) := fun δ => (ga δ).bind fun p => if p.1 = true then gb p.2 else .ok (false, p.2)
def gOr (ga gb : DEnv → Rz (Bool × DEnv)) : DEnv → Rz (Bool × DEnv) := fun δ => (ga δ).bind fun p => if p.1 = true then .ok (true, p.2) else gb p.2
def gNot (ga : DEnv → Rz (Bool × DEnv)) : DEnv → Rz (Bool × DEnv) := fun δ => (ga δ).bind fun p => .ok (!p.1, p.2)
theorem dt_and (ha : DT K B tt gt) (hb : DT K B tu gu) : DT K B (tAnd tt tu) (gAnd gt gu) := fun c R δ σ F H s Q q => by
  unfold gAnd at q
  rw [Rz.post_bind] at q
  refine ha c R δ σ F H s _ (Rz.post_mono q (fun p q F1 H1 s1 l1 h1 => ?_) fun _ z => z)
  by_cases e : p.1 = true
  · rw [if_pos e] at q ⊢
    exact hb c R p.2 σ F1 H1 s1 _ (Rz.post_mono q (fun p' q F2 H2 s2 l2 h2 => q F2 H2 s2 (l1.trans l2) (h1.trans h2)) fun _ z => z)
  · rw [if_neg e] at q ⊢
    exact q F1 H1 s1 l1 h1
theorem dt_or (ha : DT K B tt gt) (hb : DT K B tu gu) : DT K B (tOr tt tu) (gOr gt gu) := fun c R δ σ F H s Q q => by
  unfold gOr at q
  rw [Rz.post_bind] at q
  refine ha c R δ σ F H s _ (Rz.post_mono q (fun p q F1 H1 s1 l1 h1 => ?_) fun _ z => z)
  by_cases e : p.1 = true
  · rw [if_pos e] at q ⊢
    exact q F1 H1 s1 l1 h1
  · rw [if_neg e] at q ⊢
    exact hb c R p.2 σ F1 H1 s1 _ (Rz.post_mono q (fun p' q F2 H2 s2 l2 h2 => q F2 H2 s2 (l1.trans l2) (h1.trans h2)) fun _ z => z)
theorem dt_not (ha : DT K B tt gt) : DT K B (tNot tt) (gNot gt) := fun c R δ σ F H s Q q => by
  unfold gNot at q
  rw [Rz.post_bind] at q
  exact ha c R δ σ F H s _ (Rz.post_mono q (fun p q F1 H1 s1 l1 h1 => q F1 H1 s1 l1 h1) fun _ z => z)
/-! ### values by a test -/
def gIf (gt : DEnv → Rz (Bool × DEnv)) (ga gb : DEnv → Rz (D × DEnv)) : DEnv → Rz (D × DEnv) := fun δ => (gt δ).bind fun p => if p.1 = true then ga p.2 else gb p.2
theorem di_if {ga gb : DEnv → Rz (D × DEnv)} (ht : DT K B tt gt) (ha : DI K B ta ga) (hb : DI K B tb gb) : DI K B (tIf tt ta tb) (gIf gt ga gb) := fun c R δ σ F H s Q q => by
  unfold gIf at q
  rw [Rz.post_bind] at q
  refine ht c R δ σ F H s _ (Rz.post_mono q (fun p q F1 H1 s1 l1 h1 => ?_) fun _ z => z)
  by_cases e : p.1 = true
  · rw [if_pos e] at q ⊢
    exact ha c R p.2 σ F1 H1 s1 _ (Rz.post_mono q (fun p' q v F2 H2 s2 l2 h2 => q v F2 H2 s2 (l1.trans l2) (h1.trans h2)) fun _ z => z)
  · rw [if_neg e] at q ⊢
    exact hb c R p.2 σ F1 H1 s1 _ (Rz.post_mono q (fun p' q v F2 H2 s2 l2 h2 => q v F2 H2 s2 (l1.trans l2) (h1.trans h2)) fun _ z => z)
def gAndV (ga gb : DEnv → Rz (D × DEnv)) : DEnv → Rz (D × DEnv) := fun δ => (ga δ).bind fun p => (Rz.of (fBl p.1)).bind fun b => if b = true then gb p.2 else .ok (.bl false, p.2)
def gOrV (ga gb : DEnv → Rz (D × DEnv)) : DEnv → Rz (D × DEnv) := fun δ => (ga δ).bind fun p => (Rz.of (fBl p.1)).bind fun b => if b = true then .ok (.bl true, p.2) else gb p.2
theorem di_andV {ga gb : DEnv → Rz (D × DEnv)} (ha : DI K B ta ga) (hb : DI K B tb gb) : DI K B (tAndV ta tb) (gAndV ga gb) := fun c R δ σ F H s Q q => by
  unfold gAndV at q
  rw [Rz.post_bind] at q
  refine ha c R δ σ F H s _ (Rz.post_mono q (fun p q v F1 H1 s1 l1 h1 z1 => ?_) fun _ z => z)
  rw [Rz.post_bind] at q
  obtain ⟨b, e, q⟩ := Rz.post_of q
  rw [fBl_eq e] at z1
  cases z1
  refine ⟨b, rfl, ?_⟩
  by_cases e : b = true
  · rw [if_pos e] at q ⊢
    exact hb c R p.2 σ F1 H1 s1 _ (Rz.post_mono q (fun p' q v F2 H2 s2 l2 h2 => q v F2 H2 s2 (l1.trans l2) (h1.trans h2)) fun _ z => z)
  · rw [if_neg e] at q ⊢
    exact q (.bl false) F1 H1 s1 l1 h1 (.bl false)
theorem di_orV {ga gb : DEnv → Rz (D × DEnv)} (ha : DI K B ta ga) (hb : DI K B tb gb) : DI K B (tOrV ta tb) (gOrV ga gb) := fun c R δ σ F H s Q q => by
  unfold gOrV at q
  rw [Rz.post_bind] at q
  refine ha c R δ σ F H s _ (Rz.post_mono q (fun p q v F1 H1 s1 l1 h1 z1 => ?_) fun _ z => z)
  rw [Rz.post_bind] at q
  obtain ⟨b, e, q⟩ := Rz.post_of q
  rw [fBl_eq e] at z1
  cases z1
  refine ⟨b, rfl, ?_⟩
  by_cases e : b = true
  · rw [if_pos e] at q ⊢
    exact q (.bl true) F1 H1 s1 l1 h1 (.bl true)
  · rw [if_neg e] at q ⊢
    exact hb c R p.2 σ F1 H1 s1 _ (Rz.post_mono q (fun p' q v F2 H2 s2 l2 h2 => q v F2 H2 s2 (l1.trans l2) (h1.trans h2)) fun _ z => z)
def gNotV (ga : DEnv → Rz (D × DEnv)) : DEnv → Rz (D × DEnv) := fun δ => (ga δ).bind fun p => (Rz.of (fBl p.1)).bind fun b => .ok (.bl (!b), p.2)
theorem di_notV {ga : DEnv → Rz (D × DEnv)} (ha : DI K B ta ga) : DI K B (tNotV ta) (gNotV ga) := fun c R δ σ F H s Q q => by
  unfold gNotV at q
  rw [Rz.post_bind] at q
  refine ha c R δ σ F H s _ (Rz.post_mono q (fun p q v F1 H1 s1 l1 h1 z1 => ?_) fun _ z => z)
  rw [Rz.post_bind] at q
  obtain ⟨b, e, q⟩ := Rz.post_of q
  rw [fBl_eq e] at z1
  cases z1
  exact ⟨b, rfl, q (.bl (!b)) F1 H1 s1 l1 h1 (.bl _)⟩
end
end DL

/-! DL5: statements, loops, defs. -/
namespace DL
open PySem L2

def nR : Addr → Prop := fun _ => False
/-- what is wanted behind a statement, over data -/
structure DEnds where
  nx : DEnv → Prop
  rt : O → DEnv → Prop
  bk : DEnv → Prop := fun _ => False
  ct : DEnv → Prop := fun _ => False
  er : Xc → Prop := fun _ => False
abbrev DTS := DEnds → DEnv → Prop
section
variable (K : PySem.W.Frag) {TB : List (Addr × Str)} (B : XKt TB)
structure Rel (c : Cn TB) (F : Hp) (D : Ends) (de : DEnds) : Prop where
  nx : ∀ δ σ F' H, Sim K c nR δ σ F' H → Le F F' → de.nx δ → D.nx σ H
  rt : ∀ o δ v σ F' H S, Sim K c S δ σ F' H → Le F F' → Ow K F' H S v o → de.rt o δ → D.rt v H
  bk : ∀ δ σ F' H, Sim K c nR δ σ F' H → Le F F' → de.bk δ → D.bk σ H
  ct : ∀ δ σ F' H, Sim K c nR δ σ F' H → Le F F' → de.ct δ → D.ct σ H
  er : ∀ x, de.er x → Wish K B c x
/-- a statement's reading, over data; the slots pin are never stored -/
def DS (pin : List Nat) (ts : TS) (T : DTS) : Prop := ∀ (c : Cn TB) (δ : DEnv) (σ : L2.St) (F H : Hp) (D : Ends) (de : DEnds), c.pin = pin → Sim K c nR δ σ F H → T de δ → Rel K B c F D de → ts D σ H
/-- a target's -/
def DG (ts pin : List Nat) (g : TG) (t : D → DEnv → Option DEnv) : Prop := ∀ {TB : List (Addr × Str)} (c : Cn TB) (R : Addr → Prop) (δ δ' : DEnv) (σ : L2.St) (F H : Hp) (v : V) (d : D), c.pin = pin → Sim K c R δ σ F H → Fz K F v d → t d δ = some δ' →
  ∀ Q : L2.St → Hp → Prop, (∀ σ', Sim K c R δ' σ' F H → σ'.length = σ.length → (∀ j, j ∉ ts → σ'[j]? = σ[j]?) → Q σ' H) → g v σ H Q
def DGs (ts pin : List Nat) (g : TGs) (t : List D → DEnv → Option DEnv) : Prop := ∀ {TB : List (Addr × Str)} (c : Cn TB) (R : Addr → Prop) (δ δ' : DEnv) (σ : L2.St) (F H : Hp) (vs : List V) (ds : List D), c.pin = pin → Sim K c R δ σ F H → FzL K F vs ds → t ds δ = some δ' →
  ∀ Q : L2.St → Hp → Prop, (∀ σ', Sim K c R δ' σ' F H → σ'.length = σ.length → (∀ j, j ∉ ts → σ'[j]? = σ[j]?) → Q σ' H) → g vs σ H Q
/-- what a loop walks: the items -/
structure Walk (F : Hp) (J : It) (ds : List D) : Prop where
  go : ∀ k F2 H2, Le F F2 → Le F2 H2 → k < ds.length → J.go k H2
  yld : ∀ k F2 H2 x H3 d, Le F F2 → Le F2 H2 → ds[k]? = some d → J.yld k H2 x H3 → (H3 = H2 ∧ Fz K F2 x d) ∨ ∃ p ho, ¬ isTbl ho ∧ H2 p = none ∧ H3 = upd H2 p ho ∧ Fz K (upd F2 p ho) x d
  stop : ∀ F2 H2, Le F F2 → Le F2 H2 → J.stop ds.length H2
def DW (wi : TI) (g : DEnv → Rz (List D × DEnv)) : Prop := ∀ (c : Cn TB) (R : Addr → Prop) (δ : DEnv) (σ : L2.St) (F H : Hp), Sim K c R δ σ F H → ∀ Q : It → Hp → Prop,
  (g δ).post (fun p => ∀ J F' H', Sim K c R p.2 σ F' H' → Le F F' → Held R H H' → Walk K F' J p.1 → Q J H') (Wish K B c) → wi σ H Q
end
section
variable {K : PySem.W.Frag} {TB : List (Addr × Str)} {B : XKt TB} {pin : List Nat}
theorem Rel.mono {c : Cn TB} {F F1 : Hp} {D : Ends} {de : DEnds} (r : Rel K B c F D de) (l : Le F F1) : Rel K B c F1 D de :=
  ⟨fun δ σ F' H s m => r.nx δ σ F' H s (l.trans m), fun o δ v σ F' H S s m => r.rt o δ v σ F' H S s (l.trans m), fun δ σ F' H s m => r.bk δ σ F' H s (l.trans m), fun δ σ F' H s m => r.ct δ σ F' H s (l.trans m), r.er⟩
def dNext : DTS := fun de δ => de.nx δ
theorem ds_next : DS K B pin tNext dNext := fun c δ σ F H D de _ s q r => r.nx δ σ F H s (Le.refl F) q
def dBreak : DTS := fun de δ => de.bk δ
theorem ds_break : DS K B pin tBreak dBreak := fun c δ σ F H D de _ s q r => r.bk δ σ F H s (Le.refl F) q
def dCont : DTS := fun de δ => de.ct δ
theorem ds_cont : DS K B pin tCont dCont := fun c δ σ F H D de _ s q r => r.ct δ σ F H s (Le.refl F) q
def dNever : DTS := fun _ _ => False
theorem ds_never : DS K B pin tNever dNever := fun c δ σ F H D de _ s q r => q.elim
def dSeq (T U : DTS) : DTS := fun de δ => T { de with nx := U de } δ
theorem ds_seq {t u : TS} {T U : DTS} (h1 : DS K B pin t T) (h2 : DS K B pin u U) : DS K B pin (tSeq t u) (dSeq T U) := fun c δ σ F H D de hp s q r =>
  h1 c δ σ F H { D with nx := u D } { de with nx := U de } hp s q ⟨fun δ' σ' F' H' s' l q' => h2 c δ' σ' F' H' D de hp s' q' (r.mono l), r.rt, r.bk, r.ct, r.er⟩
variable {te ta tb : TE} {tt : TT}
def dDrop (g : DEnv → Rz (D × DEnv)) : DTS := fun de δ => (g δ).post (fun p => de.nx p.2) de.er
theorem ds_drop {g : DEnv → Rz (D × DEnv)} (h : DI K B te g) : DS K B pin (tDrop te) (dDrop g) := fun c δ σ F H D de hp s q r =>
  h c nR δ σ F H s _ (Rz.post_mono q (fun p q v F' H' s' l _ _ => r.nx p.2 σ F' H' s' l q) r.er)
def dRet (g : DEnv → Rz (O × DEnv)) : DTS := fun de δ => (g δ).post (fun p => de.rt p.1 p.2) de.er
theorem ds_ret {g : DEnv → Rz (O × DEnv)} (h : DF K B te g) : DS K B pin (tRet te) (dRet g) := fun c δ σ F H D de hp s q r =>
  h c nR δ σ F H s _ (Rz.post_mono q (fun p q v F' H' S s' dj l _ w => r.rt p.1 p.2 v σ F' H' S (s'.drop _ fun a z => .inr z) l w q) r.er)
def dRetN : DTS := fun de δ => de.rt (.fz .non) δ
theorem ds_retN : DS K B pin tRetN dRetN := fun c δ σ F H D de hp s q r => r.rt (.fz .non) δ .non σ F H nR s (Le.refl F) (.fz .non) q
def dIf (g : DEnv → Rz (Bool × DEnv)) (T U : DTS) : DTS := fun de δ => (g δ).post (fun p => if p.1 = true then T de p.2 else U de p.2) de.er
theorem ds_if {g : DEnv → Rz (Bool × DEnv)} {t u : TS} {T U : DTS} (hc : DT K B tt g) (h1 : DS K B pin t T) (h2 : DS K B pin u U) : DS K B pin (tIfS tt t u) (dIf g T U) := fun c δ σ F H D de hp s q r => by
  refine hc c nR δ σ F H s _ (Rz.post_mono q (fun p q F' H' s' l _ => ?_) r.er)
  by_cases e : p.1 = true
  · rw [if_pos e] at q ⊢; exact h1 c p.2 σ F' H' D de hp s' q (r.mono l)
  · rw [if_neg e] at q ⊢; exact h2 c p.2 σ F' H' D de hp s' q (r.mono l)
/-- name = value: a new tree, or data -/
def dSet (i : Nat) (g : DEnv → Rz (O × DEnv)) : DTS := fun de δ => (g δ).post (fun p => de.nx (p.2.set i (some p.1))) de.er
theorem ds_set {i : Nat} {g : DEnv → Rz (O × DEnv)} (h : DF K B te g) (hi : i ∉ pin) : DS K B pin (tAsg te (gName i)) (dSet i g) := fun c δ σ F H D de hp s q r =>
  h c nR δ σ F H s _ (Rz.post_mono q (fun p q v F' H' S s' dj l _ w => r.nx _ _ F' H' (s'.into (R := nR) w dj (.inl (hp ▸ hi))) l q) r.er)
/-! ### targets -/
def tgN (i : Nat) : D → DEnv → Option DEnv := fun d δ => some (δ.set i (some (.fz d)))
theorem dg_name {i : Nat} (hi : i ∉ pin) : DG K [i] pin (gName i) (tgN i) := fun c R δ δ' σ F H v d hp s z e Q q => by
  cases e
  exact q _ (s.put z (hp ▸ hi)) (List.length_set ..) fun j hj => List.getElem?_set_ne (fun e => hj (by simp [e]))
def tgNil : List D → DEnv → Option DEnv
  | [], δ => some δ
  | _ :: _, _ => none
def tgCons (t : D → DEnv → Option DEnv) (u : List D → DEnv → Option DEnv) : List D → DEnv → Option DEnv
  | [], _ => none
  | d :: r, δ => (t d δ).bind (u r)
theorem dg_nil : DGs K [] pin L2.gNil tgNil := fun c R δ δ' σ F H vs ds hp s z e Q q => by
  cases z with
  | nil => cases e; exact ⟨rfl, q σ s rfl fun _ _ => rfl⟩
  | cons _ _ => cases e
theorem dg_cons {t1 t2 : List Nat} {g : TG} {gs : TGs} {t : D → DEnv → Option DEnv} {u : List D → DEnv → Option DEnv} (h1 : DG K t1 pin g t) (h2 : DGs K t2 pin gs u) : DGs K (t1 ++ t2) pin (L2.gCons g gs) (tgCons t u) := fun c R δ δ' σ F H vs ds hp s z e Q q => by
  cases z with
  | nil => cases e
  | cons h l =>
    rename_i v vr d dr
    replace e : (t d δ).bind (u dr) = some δ' := e
    cases e1 : t d δ with
    | none => rw [e1] at e; cases e
    | some δ1 =>
      rw [e1] at e
      exact ⟨v, vr, rfl, h1 c R δ δ1 σ F H v d hp s h e1 _ fun σ1 s1 n1 k1 => h2 c R δ1 δ' σ1 F H vr dr hp s1 l e Q fun σ2 s2 n2 k2 => q σ2 s2 (n2.trans n1) fun j hj =>
        (k2 j fun z => hj (List.mem_append_right _ z)).trans (k1 j fun z => hj (List.mem_append_left _ z))⟩
def tgTup (n : Nat) (u : List D → DEnv → Option DEnv) : D → DEnv → Option DEnv
  | .tup ds, δ => if ds.length = n then u ds δ else none
  | _, _ => none
theorem dg_tup {ts : List Nat} {n : Nat} {gs : TGs} {u : List D → DEnv → Option DEnv} (h : DGs K ts pin gs u) : DG K ts pin (L2.gTup K n gs) (tgTup n u) := fun c R δ δ' σ F H v d hp s z e Q q => by
  cases z with
  | tup hq l =>
    rename_i a xs ds
    replace e : (if ds.length = n then u ds δ else none) = some δ' := e
    by_cases hn : ds.length = n
    · rw [if_pos hn] at e
      exact ⟨a, xs, rfl, sqT_mono s.sub hq, by rw [l.length]; exact hn, h c R δ δ' σ F H xs ds hp s l e Q q⟩
    · rw [if_neg hn] at e; cases e
  | _ => cases e
def dAsg (g : DEnv → Rz (D × DEnv)) (t : D → DEnv → Option DEnv) : DTS := fun de δ => (g δ).post (fun p => (Rz.of (t p.1 p.2)).post (fun δ' => de.nx δ') fun _ => False) de.er
theorem ds_asg {ts : List Nat} {gt : TG} {g : DEnv → Rz (D × DEnv)} {t : D → DEnv → Option DEnv} (h : DI K B te g) (hg : DG K ts pin gt t) : DS K B pin (tAsg te gt) (dAsg g t) := fun c δ σ F H D de hp s q r =>
  h c nR δ σ F H s _ (Rz.post_mono q (fun p q v F' H' s' l _ z => by
    obtain ⟨δ', e, q⟩ := Rz.post_of q
    exact hg c nR p.2 δ' σ F' H' v p.1 hp s' z e _ fun σ' s2 _ _ => r.nx δ' σ' F' H' s2 l q) r.er)
/-! ### loops -/
def whileN (g : DEnv → Rz (Bool × DEnv)) (T : DTS) (de : DEnds) : Nat → DEnv → Prop
  | 0, _ => False
  | n + 1, δ => (g δ).post (fun p => if p.1 = true then T { de with nx := whileN g T de n, ct := whileN g T de n, bk := de.nx } p.2 else de.nx p.2) de.er
def dWhile (g : DEnv → Rz (Bool × DEnv)) (T : DTS) : DTS := fun de δ => ∃ n, whileN g T de n δ
theorem ds_while {g : DEnv → Rz (Bool × DEnv)} {t : TS} {T : DTS} (hc : DT K B tt g) (hb : DS K B pin t T) : DS K B pin (tWhile tt t) (dWhile g T) := fun c δ σ F H D de hp s q r => by
  obtain ⟨n, q⟩ := q
  refine ⟨fun m σ' H' => ∃ δ' F', Sim K c nR δ' σ' F' H' ∧ Le F F' ∧ whileN g T de m δ', ⟨n, δ, F, s, Le.refl F, q⟩, ?_⟩
  rintro m σ1 H1 ⟨δ1, F1, s1, l1, q1⟩
  cases m with
  | zero => exact q1.elim
  | succ m =>
    refine hc c nR δ1 σ1 F1 H1 s1 _ (Rz.post_mono q1 (fun p q2 F2 H2 s2 l2 _ => ?_) r.er)
    by_cases e : p.1 = true
    · rw [if_pos e] at q2 ⊢
      refine ⟨fun σ' H' => ∃ δ' F', Sim K c nR δ' σ' F' H' ∧ Le F F' ∧ whileN g T de m δ', fun σ' H' h => ⟨m, Nat.lt_succ_self m, h⟩, ?_⟩
      have l := l1.trans l2
      exact hb c p.2 σ1 F2 H2 _ _ hp s2 q2 ⟨fun δ' σ' F' H' s' m q => ⟨δ', F', s', l.trans m, q⟩, fun o δ' v σ' F' H' S s' m => r.rt o δ' v σ' F' H' S s' (l.trans m), fun δ' σ' F' H' s' m q => r.nx δ' σ' F' H' s' (l.trans m) q, fun δ' σ' F' H' s' m q => ⟨δ', F', s', l.trans m, q⟩, r.er⟩
    · rw [if_neg e] at q2 ⊢
      exact r.nx p.2 σ1 F2 H2 s2 (l1.trans l2) q2
def forL (t : D → DEnv → Option DEnv) (T : DTS) (de : DEnds) : List D → DEnv → Prop
  | [], δ => de.nx δ
  | d :: r, δ => (Rz.of (t d δ)).post (fun δ' => T { de with nx := forL t T de r, ct := forL t T de r, bk := de.nx } δ') fun _ => False
def dFor (g : DEnv → Rz (List D × DEnv)) (t : D → DEnv → Option DEnv) (T : DTS) : DTS := fun de δ => (g δ).post (fun p => forL t T de p.1 p.2) de.er
/-- one turn's item -/
theorem Walk.item {c : Cn TB} {R : Addr → Prop} {δ : DEnv} {σ : L2.St} {F F2 H2 H3 : Hp} {J : It} {ds : List D} {k : Nat} {x : V} {d : D} (w : Walk K F J ds) (s : Sim K c R δ σ F2 H2) (l : Le F F2) (hd : ds[k]? = some d) (y : J.yld k H2 x H3) :
    ∃ F3, Sim K c R δ σ F3 H3 ∧ Le F2 F3 ∧ Held R H2 H3 ∧ Fz K F3 x d := by
  rcases w.yld k F2 H2 x H3 d l s.sub hd y with ⟨rfl, z⟩ | ⟨p, ho, n, hp, rfl, z⟩
  · exact ⟨F2, s, Le.refl _, Held.refl, z⟩
  · exact ⟨upd F2 p ho, s.new hp n, Le.new (s.fresh hp), .of (.new hp), z⟩
theorem ds_for {ts : List Nat} {wi : TI} {gt : TG} {t : TS} {g : DEnv → Rz (List D × DEnv)} {tg : D → DEnv → Option DEnv} {T : DTS} (hi : DW K B wi g) (hg : DG K ts pin gt tg) (hb : DS K B pin t T) : DS K B pin (tFor wi gt t) (dFor g tg T) := fun c δ σ F H D de hp s q r => by
  refine hi c nR δ σ F H s _ (Rz.post_mono q (fun p q J F1 H1 s1 l1 _ w => ?_) r.er)
  refine ⟨fun i m σ' H' => m = p.1.length - i ∧ i ≤ p.1.length ∧ ∃ δ' F', Sim K c nR δ' σ' F' H' ∧ Le F1 F' ∧ forL tg T de (p.1.drop i) δ', ⟨_, rfl, Nat.zero_le _, p.2, F1, s1, Le.refl _, q⟩, ?_⟩
  rintro i m σ2 H2 ⟨rfl, hi, δ2, F2, s2, l2, q2⟩
  by_cases hlt : i < p.1.length
  · refine .inr ⟨w.go i F2 H2 l2 s2.sub hlt, fun σ' H' => ∃ δ' F', Sim K c nR δ' σ' F' H' ∧ Le F1 F' ∧ forL tg T de (p.1.drop (i + 1)) δ', fun σ' H' h => ⟨_, by omega, rfl, hlt, h⟩, fun x H3 y => ?_⟩
    have hd : p.1[i]? = some p.1[i] := by simp [hlt]
    obtain ⟨F3, s3, l3, _, z3⟩ := w.item s2 l2 hd y
    rw [List.drop_eq_getElem_cons hlt] at q2
    obtain ⟨δ3, e3, q3⟩ := Rz.post_of q2
    refine hg c nR δ2 δ3 σ2 F3 H3 x _ hp s3 z3 e3 _ fun σ4 s4 _ _ => ?_
    have l := l2.trans l3
    exact hb c δ3 σ4 F3 H3 _ _ hp s4 q3 ⟨fun δ' σ' F' H' s' m q => ⟨δ', F', s', l.trans m, q⟩, fun o δ' v σ' F' H' S s' m => r.rt o δ' v σ' F' H' S s' ((l1.trans l).trans m), fun δ' σ' F' H' s' m q => r.nx δ' σ' F' H' s' ((l1.trans l).trans m) q, fun δ' σ' F' H' s' m q => ⟨δ', F', s', l.trans m, q⟩, r.er⟩
  · have e : i = p.1.length := by omega
    subst e
    refine .inl ⟨w.stop F2 H2 l2 s2.sub, ?_⟩
    rw [List.drop_length] at q2
    exact r.nx δ2 σ2 F2 H2 s2 (l1.trans l2) q2
/-! ### what is walked -/
theorem walk_list {F : Hp} {a : Addr} {xs : List V} {ds : List D} (h : SqL K F a xs) (l : FzL K F xs ds) : Walk K F (Itl K a) ds where
  go := fun k F2 H2 l1 l2 hk => by
    have hk' : k < xs.length := by rw [l.length]; exact hk
    exact ⟨xs, xs[k], sqL_mono (l1.trans l2) h, by simp [hk']⟩
  yld := fun k F2 H2 x H3 d l1 l2 hd y => by
    obtain ⟨e, y⟩ := y
    obtain ⟨v, h1, h2⟩ := l.get hd
    have e2 := y xs (sqL_mono (l1.trans l2) h)
    rw [h1] at e2; cases e2
    exact .inl ⟨e, h2.mono l1⟩
  stop := fun F2 H2 l1 l2 => ⟨xs, sqL_mono (l1.trans l2) h, by rw [l.length]; exact Nat.le_refl _⟩
theorem walk_tup {F : Hp} {a : Addr} {xs : List V} {ds : List D} (h : SqT K F a xs) (l : FzL K F xs ds) : Walk K F (Itt K a) ds where
  go := fun k F2 H2 l1 l2 hk => by
    have hk' : k < xs.length := by rw [l.length]; exact hk
    exact ⟨xs, xs[k], sqT_mono (l1.trans l2) h, by simp [hk']⟩
  yld := fun k F2 H2 x H3 d l1 l2 hd y => by
    obtain ⟨e, y⟩ := y
    obtain ⟨v, h1, h2⟩ := l.get hd
    have e2 := y xs (sqT_mono (l1.trans l2) h)
    rw [h1] at e2; cases e2
    exact .inl ⟨e, h2.mono l1⟩
  stop := fun F2 H2 l1 l2 => ⟨xs, sqT_mono (l1.trans l2) h, by rw [l.length]; exact Nat.le_refl _⟩
def rangeD (lo : Int) (n : Nat) : List D := (List.range n).map fun k => .int (lo + (k : Nat))
theorem walk_range {F : Hp} {lo : Int} {n : Nat} : Walk K F (Itr lo n) (rangeD lo n) where
  go := fun k F2 H2 _ _ hk => by
    have : (rangeD lo n).length = n := by simp [rangeD]
    rw [this] at hk; exact hk
  yld := fun k F2 H2 x H3 d _ _ hd y => by
    obtain ⟨e, rfl⟩ := y
    unfold rangeD at hd
    rw [List.getElem?_map] at hd
    cases q : (List.range n)[k]? with
    | none => rw [q] at hd; cases hd
    | some j =>
      rw [q] at hd
      obtain ⟨hk, e2⟩ := List.getElem?_eq_some_iff.mp q
      rw [List.getElem_range] at e2
      subst e2
      cases hd
      exact .inl ⟨e, .int _⟩
  stop := fun F2 H2 _ _ => by
    have : (rangeD lo n).length = n := by simp [rangeD]
    rw [this]; exact Nat.le_refl n
/-- over a list or a tuple of data -/
def itemsD : D → Option (List D)
  | .lst l => some l
  | .tup l => some l
  | .scr l => some l
  | _ => none
def wL (g : DEnv → Rz (D × DEnv)) : DEnv → Rz (List D × DEnv) := fun δ => (g δ).bind fun p => match p.1 with
  | .lst l => .ok (l, p.2)
  | .scr l => .ok (l, p.2)
  | _ => .no
def wT (g : DEnv → Rz (D × DEnv)) : DEnv → Rz (List D × DEnv) := fun δ => (g δ).bind fun p => match p.1 with
  | .tup l => .ok (l, p.2)
  | _ => .no
theorem sqL_of {F : Hp} {a : Addr} {xs : List V} (h : F a = some (.lst xs)) : SqL K F a xs := .inl (.inl h)
theorem dw_list {g : DEnv → Rz (D × DEnv)} (h : DI K B te g) : DW K B (iList K te) (wL g) := fun c R δ σ F H s Q q => by
  unfold wL at q
  rw [Rz.post_bind] at q
  refine h c R δ σ F H s _ (Rz.post_mono q (fun p q v F1 H1 s1 l1 h1 z1 => ?_) fun _ z => z)
  obtain ⟨d, δ1⟩ := p
  cases z1 with
  | lst ha l => exact ⟨_, rfl, ⟨_, sqL_mono s1.sub (sqL_of ha)⟩, q _ F1 H1 s1 l1 h1 (walk_list (sqL_of ha) l)⟩
  | scr ha l => exact ⟨_, rfl, ⟨_, sqL_mono s1.sub ha⟩, q _ F1 H1 s1 l1 h1 (walk_list ha l)⟩
  | _ => exact q.elim
theorem dw_tup {g : DEnv → Rz (D × DEnv)} (h : DI K B te g) : DW K B (iTup K te) (wT g) := fun c R δ σ F H s Q q => by
  unfold wT at q
  rw [Rz.post_bind] at q
  refine h c R δ σ F H s _ (Rz.post_mono q (fun p q v F1 H1 s1 l1 h1 z1 => ?_) fun _ z => z)
  obtain ⟨d, δ1⟩ := p
  cases z1 with
  | tup ha l => exact ⟨_, rfl, ⟨_, sqT_mono s1.sub ha⟩, q _ F1 H1 s1 l1 h1 (walk_tup ha l)⟩
  | _ => exact q.elim
/-- range(n), range(a, b) -/
def wR1 (g : DEnv → Rz (List D × DEnv)) : DEnv → Rz (List D × DEnv) := fun δ => (g δ).bind fun p => match p.1 with
  | [.int j] => if -(2 ^ 62) ≤ j ∧ j < 2 ^ 62 then .ok (rangeD 0 j.toNat, p.2) else .no
  | _ => .no
def wR2 (g : DEnv → Rz (List D × DEnv)) : DEnv → Rz (List D × DEnv) := fun δ => (g δ).bind fun p => match p.1 with
  | [.int i, .int j] => if -(2 ^ 62) ≤ i ∧ i < 2 ^ 62 ∧ -(2 ^ 62) ≤ j ∧ j < 2 ^ 62 then .ok (rangeD i (j - i).toNat, p.2) else .no
  | _ => .no
theorem dw_range1 {t : TA} {g : DEnv → Rz (List D × DEnv)} (h : DA K B t g) : DW K B (iRng1 t) (wR1 g) := fun c R δ σ F H s Q q => by
  unfold wR1 at q
  rw [Rz.post_bind] at q
  refine h c R δ σ F H s _ (Rz.post_mono q (fun p q v F1 H1 s1 l1 h1 z1 => ?_) fun _ z => z)
  obtain ⟨ds, δ1⟩ := p
  simp only at q z1
  split at q
  · next j =>
    by_cases e : -(2 ^ 62) ≤ j ∧ j < 2 ^ 62
    · rw [if_pos e] at q
      cases z1 with
      | cons z zr =>
        cases z; cases zr
        exact ⟨j, rfl, e.1, e.2, q _ F1 H1 s1 l1 h1 walk_range⟩
    · rw [if_neg e] at q; exact q.elim
  · exact q.elim
theorem dw_range2 {t : TA} {g : DEnv → Rz (List D × DEnv)} (h : DA K B t g) : DW K B (iRng2 t) (wR2 g) := fun c R δ σ F H s Q q => by
  unfold wR2 at q
  rw [Rz.post_bind] at q
  refine h c R δ σ F H s _ (Rz.post_mono q (fun p q v F1 H1 s1 l1 h1 z1 => ?_) fun _ z => z)
  obtain ⟨ds, δ1⟩ := p
  simp only at q z1
  split at q
  · next i j =>
    by_cases e : -(2 ^ 62) ≤ i ∧ i < 2 ^ 62 ∧ -(2 ^ 62) ≤ j ∧ j < 2 ^ 62
    · rw [if_pos e] at q
      cases z1 with
      | cons z zr =>
        cases z
        cases zr with
        | cons z zr =>
          cases z; cases zr
          exact ⟨i, j, rfl, e, q _ F1 H1 s1 l1 h1 walk_range⟩
    · rw [if_neg e] at q; exact q.elim
  · exact q.elim
end
end DL

/-! DL6: the promise of a def, its body, its calls. -/
namespace DL
open PySem L2

/-- the promise: the parameters' trees os; those at pin are handed back as they stand behind -/
def spD (K : PySem.W.Frag) (TB : List (Addr × Str)) (n : Nat) (pin : List Nat) (Φ : List O → Rz (O × List O)) : Sp := fun vs H Q E =>
  ∃ (os : List O) (F : Hp) (S : Addr → Prop), os.length = n ∧ Le F H ∧ (∀ a o, F a = some o → ¬ isTbl o) ∧ OwL K F H S vs os ∧ (∀ a, S a → F a = none ∧ Hv H a) ∧ LamX.Tabs TB H ∧
    (Φ os).post (fun p => ∀ v F' H' Sr S', Chg TB S (fun a => Sr a ∨ S' a) F H F' H' → (∀ a, Sr a → ¬ S' a) → Ow K F' H' Sr v p.1 → (∃ ws, pin.map (fun i => vs[i]?) = ws.map some ∧ OwL K F' H' S' ws p.2) → Q v H')
      (fun x => ∀ d F' H', Chg TB S (fun _ => False) F H F' H' → XAt K x d F' H' → E (.ref x.C) (some d) H')
def dEnds (pin : List Nat) (r : Rz (O × List O)) : DEnds where
  nx := fun δ => ∃ os, r = .ok (.fz .non, os) ∧ pin.map (fun i => δ[i]?) = os.map (fun o => some (some o))
  rt := fun o δ => ∃ os, r = .ok (o, os) ∧ pin.map (fun i => δ[i]?) = os.map (fun o => some (some o))
  er := fun x => r = .er x
def dInit (N : Nat) (os : List O) : DEnv := os.map some ++ List.replicate (N - os.length) none
/-- a block, over data -/
def DSs (X : Cx) {TB : List (Addr × Str)} (B : XKt TB) (pin : List Nat) (sts : List Stmt) (T : DTS) : Prop := ∃ t, PSs X sts t ∧ DS X.K B pin t T
section
variable {P : Program} {w : World} {K : PySem.W.Frag} {mg : Str → Option Value} {base : Heap}
theorem ws_of : ∀ (l : List (Option V)), (∀ x ∈ l, x ≠ none) → ∃ ws : List V, l = ws.map some
  | [], _ => ⟨[], rfl⟩
  | none :: r, h => absurd rfl (h none (by simp))
  | some v :: r, h => by
    obtain ⟨ws, e⟩ := ws_of r fun x hx => h x (by simp [hx])
    exact ⟨v :: ws, by rw [e]; rfl⟩
theorem spD_run {TB : List (Addr × Str)} {N : List Str} {n : Nat} {pin : List Nat} {Φ : List O → Rz (O × List O)} {E : XK} {t : TS} {T : DTS} (hN : n ≤ N.length) (nd : pin.Nodup) (hpin : ∀ i ∈ pin, i < n) (hd : DS K (TB := TB) E pin t T)
    (hT : ∀ os, os.length = n → Φ os ≠ .no → T (dEnds pin (Φ os)) (dInit N.length os)) {vs : List V} {H : Hp} {Q : VK} (h : spD K TB n pin Φ vs H Q E) : t { nx := fun _ H' => Q .non H', rt := Q } (L2.start N vs) H := by
    obtain ⟨os, F0, S0, hl, sub, nt, hw, hS, htb, hq⟩ := h
    have hlen : vs.length = n := by rw [hw.length, hl]
    have s0 : Sim K (⟨F0, H, S0, pin, L2.start N vs⟩ : Cn TB) nR (dInit N.length os) (L2.start N vs) F0 H := Sim.enter sub nt hw hS htb (by rw [hlen]; exact hN)
    have hno : Φ os ≠ .no := fun e => by rw [e] at hq; exact hq.elim
    refine hd _ _ _ F0 H _ _ rfl s0 (hT os hl hno) ?_
    have fin : ∀ (o : O) (δ : DEnv) (v : V) (σ : L2.St) (F' H' : Hp) (Sr : Addr → Prop), Sim K (⟨F0, H, S0, pin, L2.start N vs⟩ : Cn TB) Sr δ σ F' H' → Ow K F' H' Sr v o → (∃ os', Φ os = .ok (o, os') ∧ pin.map (fun i => δ[i]?) = os'.map (fun o => some (some o))) → Q v H' := by
      intro o δ v σ F' H' Sr s1 w1 ⟨os', e, hp⟩
      rw [e] at hq
      obtain ⟨T', E'⟩ := s1.env
      obtain ⟨ws, hws⟩ := ws_of (pin.map fun i => vs[i]?) fun y hy => by
        obtain ⟨i, hi, rfl⟩ := List.mem_map.mp hy
        have : i < vs.length := by rw [hlen]; exact hpin i hi
        rw [List.getElem?_eq_getElem this]; simp
      have hσ : pin.map (fun i => σ[i]?) = ws.map (fun v => some (some v)) := by
        have e1 : pin.map (fun i => σ[i]?) = pin.map (fun i => (vs[i]?).map some) := List.map_congr_left fun i hi => by
          rw [s1.pin i hi]
          show (L2.start N vs)[i]? = _
          unfold L2.start
          rw [List.getElem?_append_left (by rw [List.length_map, hlen]; exact hpin i hi), List.getElem?_map]
        have e2 : pin.map (fun i => (vs[i]?).map some) = (pin.map fun i => vs[i]?).map (Option.map some) := by rw [List.map_map]; rfl
        rw [e1, e2, hws, List.map_map]; rfl
      refine hq v F' H' Sr (fun a => ∃ i ∈ pin, T' i a) ⟨fun a o n h t => s1.keep a o h n t, s1.thr, s1.f0, s1.sub, s1.nt, fun a z => s1.fn a z, fun a z => ?_, fun _ => s1.tabs⟩ (fun a z ⟨i, _, y⟩ => E'.nr i a y z) w1 ⟨ws, hws, E'.pick pin os' ws nd hp hσ⟩
      rcases z with z | ⟨i, _, z⟩
      · obtain ⟨h1, h2, h3⟩ := s1.rs a z
        exact ⟨h3, h1, h2⟩
      · exact ⟨E'.own i a z, E'.nf i a z, E'.hv i a z⟩
    refine ⟨fun δ σ F' H' s1 _ q => ?_, fun o δ v σ F' H' Sr s1 _ w1 q => fin o δ v σ F' H' Sr s1 w1 q, fun _ _ _ _ _ _ z => z.elim, fun _ _ _ _ _ _ z => z.elim, fun x e R1 δ1 σ1 d F' H' s1 hx => ?_⟩
    · exact fin (.fz .non) δ .non σ F' H' nR s1 (.fz .non) q
    · have e' : Φ os = .er x := e
      rw [e'] at hq
      exact hq d F' H' ⟨fun a o h n t => s1.keep a o n h t, s1.thr, s1.f0, s1.sub, s1.nt, fun a z => s1.fn a z, fun _ z => z.elim, fun _ => s1.tabs⟩ hx
theorem spD_len {TB : List (Addr × Str)} {n : Nat} {pin : List Nat} {Φ : List O → Rz (O × List O)} {vs : List V} {H : Hp} {Q : VK} {E : XK} (h : spD K TB n pin Φ vs H Q E) : vs.length = n := by
  obtain ⟨os, F', S', h1, h2, h3, h4, _⟩ := h
  rw [h4.length, h1]
end

/-! ### several slots at once -/
def unset : DEnv → List Nat → DEnv
  | δ, [] => δ
  | δ, i :: r => unset (δ.set i none) r
def setS : DEnv → List Nat → List O → DEnv
  | δ, i :: r, o :: os => setS (δ.set i (some o)) r os
  | δ, _, _ => δ
theorem unset_get {i : Nat} : ∀ {is : List Nat} {δ : DEnv}, i ∉ is → (unset δ is)[i]? = δ[i]?
  | [], _, _ => rfl
  | j :: r, δ, h => by
    unfold unset
    rw [unset_get (fun z => h (List.mem_cons_of_mem _ z)), List.getElem?_set_ne (fun e => h (by simp [e]))]
theorem set_unset {i : Nat} {x : Option O} : ∀ {is : List Nat} {δ : DEnv}, i ∉ is → (unset δ is).set i x = unset (δ.set i x) is
  | [], _, _ => rfl
  | j :: r, δ, h => by
    unfold unset
    rw [set_unset (fun z => h (List.mem_cons_of_mem _ z)), List.set_comm _ _ (fun e => h (by simp [e]))]
theorem setS_unset : ∀ {is : List Nat} {os : List O} {δ : DEnv}, is.Nodup → is.length = os.length → setS (unset δ is) is os = setS δ is os
  | [], _, _, _, _ => rfl
  | i :: r, [], _, _, h => by simp at h
  | i :: r, o :: os, δ, nd, h => by
    obtain ⟨n1, n2⟩ := List.nodup_cons.mp nd
    unfold setS unset
    rw [set_unset n1, List.set_set, setS_unset n2 (by simpa using h)]
section
variable {K : PySem.W.Frag} {TB : List (Addr × Str)} {c : Cn TB} {R S : Addr → Prop} {σ : L2.St} {F H : Hp}
theorem Sim.outs : ∀ {is : List Nat} {os : List O} {R : Addr → Prop} {δ : DEnv}, Sim K c R δ σ F H → is.Nodup → is.map (fun i => δ[i]?) = os.map (fun o => some (some o)) →
    ∃ (ws : List V) (S : Addr → Prop), is.map (fun i => σ[i]?) = ws.map (fun v => some (some v)) ∧ OwL K F H S ws os ∧ (∀ a, S a → ¬ R a) ∧ Sim K c (fun a => R a ∨ S a) (unset δ is) σ F H
  | [], [], R, δ, s, _, _ => ⟨[], fun _ => False, rfl, .nil, fun _ z => z.elim, s.drop _ fun a z => z.elim id False.elim⟩
  | [], _ :: _, _, _, _, _, h => by simp at h
  | _ :: _, [], _, _, _, _, h => by simp at h
  | i :: is, o :: os, R, δ, s, nd, h => by
    obtain ⟨n1, n2⟩ := List.nodup_cons.mp nd
    simp only [List.map_cons, List.cons.injEq] at h
    obtain ⟨v, S1, h1, h2, h3, h4⟩ := s.out h.1
    have e : is.map (fun j => (δ.set i none)[j]?) = os.map (fun o => some (some o)) := by
      rw [← h.2]
      exact List.map_congr_left fun j hj => List.getElem?_set_ne fun e => n1 (by rw [e]; exact hj)
    obtain ⟨ws, S2, g1, g2, g3, g4⟩ := h4.outs n2 e
    refine ⟨v :: ws, fun a => S1 a ∨ S2 a, by rw [List.map_cons, List.map_cons, g1, h1], .cons (fun a z => .inl z) (fun a z => .inr z) (fun a z y => g3 a y (.inr z)) h2 g2, fun a z y => ?_, g4.drop _ fun a z => ?_⟩
    · exact z.elim (fun z => h3 a z y) fun z => g3 a z (.inl y)
    · rcases z with z | z | z
      · exact .inl (.inl z)
      · exact .inl (.inr z)
      · exact .inr z
theorem Sim.intos : ∀ {is : List Nat} {os : List O} {ws : List V} {S : Addr → Prop} {δ : DEnv}, Sim K c (fun a => R a ∨ S a) δ σ F H → OwL K F H S ws os → (∀ a, S a → ¬ R a) → is.length = os.length → is.map (fun i => σ[i]?) = ws.map (fun v => some (some v)) → Sim K c R (setS δ is os) σ F H
  | [], [], _, S, δ, s, _, _, _, _ => s.drop _ fun a z => .inl z
  | [], _ :: _, _, _, _, _, _, _, h, _ => by simp at h
  | _ :: _, [], _, _, _, _, _, _, h, _ => by simp at h
  | i :: is, o :: os, _, S, δ, s, .cons (S1 := A) (S2 := C) s1 s2 dj h l, d, hl, hv => by
    simp only [List.map_cons, List.cons.injEq] at hv
    have s' : Sim K c (fun a => (R a ∨ C a) ∨ A a) δ σ F H := s.drop _ fun a z => by
      rcases z with (z | z) | z
      · exact .inl z
      · exact .inr (s2 a z)
      · exact .inr (s1 a z)
    have g := s'.into (i := i) h (fun a z y => y.elim (d a (s1 a z)) (dj a z)) (.inr hv.1)
    rename_i v vs
    have es : σ.set i (some v) = σ := by
      have hl : i < σ.length := (List.getElem?_eq_some_iff.mp hv.1).1
      have he : σ[i] = some v := (List.getElem?_eq_some_iff.mp hv.1).2
      rw [← he]; exact List.set_getElem_self hl
    rw [es] at g
    show Sim K c R (setS (δ.set i (some o)) is os) σ F H
    exact Sim.intos g l (fun a z => d a (s2 a z)) (by simpa using hl) hv.2
end

/-! ### arguments: data, or a slot that the callee may change -/
inductive Arg where
  | d (d : D) | al (i : Nat)
inductive FzA (K : PySem.W.Frag) (F : Hp) (σ : L2.St) : List V → List Arg → Prop
  | nil : FzA K F σ [] []
  | d {v : V} {d : D} {vs : List V} {as : List Arg} (h : Fz K F v d) (l : FzA K F σ vs as) : FzA K F σ (v :: vs) (.d d :: as)
  | al {v : V} {i : Nat} {vs : List V} {as : List Arg} (h : σ[i]? = some (some v)) (l : FzA K F σ vs as) : FzA K F σ (v :: vs) (.al i :: as)
def alI : List Arg → List Nat
  | [] => []
  | .d _ :: r => alI r
  | .al i :: r => i :: alI r
def alP (k : Nat) : List Arg → List Nat
  | [] => []
  | .d _ :: r => alP (k + 1) r
  | .al _ :: r => k :: alP (k + 1) r
/-- the trees of the slots that are handed -/
def alO (δ : DEnv) : List Nat → Option (List O)
  | [] => some []
  | i :: r => match δ[i]? with
    | some (some o) => (alO δ r).map (o :: ·)
    | _ => none
def mixO : List Arg → List O → List O
  | [], _ => []
  | .d d :: r, os => .fz d :: mixO r os
  | .al _ :: r, o :: os => o :: mixO r os
  | .al _ :: r, [] => .fz .non :: mixO r []
section
variable {K : PySem.W.Frag} {TB : List (Addr × Str)} {B : XKt TB} {F H : Hp} {σ : L2.St}
theorem FzA.mono {F' : Hp} (e : Le F F') : ∀ {vs : List V} {as : List Arg}, FzA K F σ vs as → FzA K F' σ vs as
  | _, _, .nil => .nil
  | _, _, .d h l => .d (h.mono e) (l.mono e)
  | _, _, .al h l => .al h (l.mono e)
theorem alO_map {δ : DEnv} : ∀ {is : List Nat} {os : List O}, alO δ is = some os → is.map (fun i => δ[i]?) = os.map (fun o => some (some o))
  | [], _, h => by cases h; rfl
  | i :: r, os, h => by
    unfold alO at h
    split at h
    · next o e =>
      cases q : alO δ r with
      | none => rw [q] at h; cases h
      | some os' =>
        rw [q] at h
        cases h
        rw [List.map_cons, List.map_cons, alO_map q, e]
    · cases h
/-- all arguments as trees -/
theorem FzA.all {S : Addr → Prop} : ∀ {vs : List V} {as : List Arg} {ws : List V} {os : List O} {S : Addr → Prop}, FzA K F σ vs as → (alI as).map (fun i => σ[i]?) = ws.map (fun v => some (some v)) → OwL K F H S ws os → OwL K F H S vs (mixO as os)
  | _, _, ws, os, S, .nil, _, _ => .nil
  | _, _, ws, os, S, .d h l, e, w => .cons (S1 := fun _ => False) (fun _ z => z.elim) (fun _ z => z) (fun _ z => z.elim) (.fz h) (FzA.all (S := S) l e w)
  | _, _, [], _, S, .al h l, e, w => by simp [alI] at e
  | _, _, _ :: _, _, S, .al h l, e, .cons s1 s2 dj g m => by
    simp only [alI, List.map_cons, List.cons.injEq] at e
    rw [h] at e
    have e1 := e.1
    simp only [Option.some.injEq] at e1
    subst e1
    exact .cons s1 s2 dj g (FzA.all (S := S) l e.2 m)
theorem FzA.places : ∀ {vs : List V} {as : List Arg} {us : List V}, FzA K F σ vs as → (alP us.length as).map (fun i => (us ++ vs)[i]?) = (alI as).map (fun i => (σ[i]?).bind id)
  | _, _, us, .nil => rfl
  | _, _, us, .d (v := v) (vs := vs) h l => by
    have e := FzA.places (us := us ++ [v]) l
    rw [List.length_append, List.length_singleton, List.append_assoc] at e
    exact e
  | _, _, us, .al (v := v) (vs := vs) h l => by
    have e := FzA.places (us := us ++ [v]) l
    rw [List.length_append, List.length_singleton, List.append_assoc] at e
    show List.map _ (us.length :: alP (us.length + 1) _) = List.map _ (_ :: alI _)
    rw [List.map_cons, List.map_cons]
    have e2 : (us ++ v :: vs)[us.length]? = some v := by simp
    rw [e2, h]
    exact congrArg _ e
variable (K B)
def DAA (ta : TA) (g : DEnv → Rz (List Arg × DEnv)) : Prop := ∀ (c : Cn TB) (R : Addr → Prop) (δ : DEnv) (σ : L2.St) (F H : Hp), Sim K c R δ σ F H → ∀ Q : List V → Hp → Prop,
  (g δ).post (fun p => ∀ vs F' H', Sim K c R p.2 σ F' H' → Le F F' → Held R H H' → FzA K F' σ vs p.1 → Q vs H') (Wish K B c) → ta σ H Q
variable {K B}
def gANil : DEnv → Rz (List Arg × DEnv) := fun δ => .ok ([], δ)
def gAD (ga : DEnv → Rz (D × DEnv)) (gr : DEnv → Rz (List Arg × DEnv)) : DEnv → Rz (List Arg × DEnv) := fun δ => (ga δ).bind fun p => (gr p.2).bind fun q => .ok (.d p.1 :: q.1, q.2)
def gAA (i : Nat) (gr : DEnv → Rz (List Arg × DEnv)) : DEnv → Rz (List Arg × DEnv) := fun δ => match δ[i]? with
  | some (some _) => (gr δ).bind fun q => .ok (.al i :: q.1, q.2)
  | _ => .no
theorem daa_nil : DAA K B tNil gANil := fun c R δ σ F H s Q q => q [] F H s (Le.refl F) Held.refl .nil
theorem daa_d {ta : TE} {tr : TA} {ga : DEnv → Rz (D × DEnv)} {gr : DEnv → Rz (List Arg × DEnv)} (ha : DI K B ta ga) (hr : DAA K B tr gr) : DAA K B (tCons ta tr) (gAD ga gr) := fun c R δ σ F H s Q q => by
  unfold gAD at q
  rw [Rz.post_bind] at q
  refine ha c R δ σ F H s _ (Rz.post_mono q (fun p q v F1 H1 s1 l1 h1 z1 => ?_) fun _ z => z)
  rw [Rz.post_bind] at q
  refine hr c R p.2 σ F1 H1 s1 _ (Rz.post_mono q (fun p' q w F2 H2 s2 l2 h2 z2 => ?_) fun _ z => z)
  exact q (v :: w) F2 H2 s2 (l1.trans l2) (h1.trans h2) (.d (z1.mono l2) z2)
theorem daa_al {i : Nat} {tr : TA} {gr : DEnv → Rz (List Arg × DEnv)} (hr : DAA K B tr gr) : DAA K B (tCons (tVar i) tr) (gAA i gr) := fun c R δ σ F H s Q q => by
  unfold gAA at q
  split at q
  · next o e =>
    obtain ⟨v, hv, _⟩ := s.all e
    rw [Rz.post_bind] at q
    refine ⟨v, hv, hr c R δ σ F H s _ (Rz.post_mono q (fun p' q w F2 H2 s2 l2 h2 z2 => ?_) fun _ z => z)⟩
    exact q (v :: w) F2 H2 s2 l2 h2 (.al hv z2)
  · exact q.elim
/-- the call itself, its arguments reckoned -/
def gCallV (n : Nat) (cp : List Nat) (Φ : List O → Rz (O × List O)) (as : List Arg) (δ : DEnv) : Rz (O × DEnv) :=
  if as.length = n ∧ alP 0 as = cp ∧ (alI as).Nodup then (Rz.of (alO δ (alI as))).bind fun os => (Φ (mixO as os)).bind fun q => if q.2.length = cp.length then .ok (q.1, setS δ (alI as) q.2) else .no else .no
/-- f(..) -/
def gCall (n : Nat) (cp : List Nat) (Φ : List O → Rz (O × List O)) (ga : DEnv → Rz (List Arg × DEnv)) : DEnv → Rz (O × DEnv) := fun δ => (ga δ).bind fun p => gCallV n cp Φ p.1 p.2
theorem alP_len : ∀ (as : List Arg) (k : Nat), (alP k as).length = (alI as).length
  | [], _ => rfl
  | .d _ :: r, k => alP_len r (k + 1)
  | .al _ :: r, k => by show (alP (k + 1) r).length + 1 = (alI r).length + 1; rw [alP_len r (k + 1)]
theorem mixO_len : ∀ (as : List Arg) (os : List O), (mixO as os).length = as.length
  | [], _ => rfl
  | .d _ :: r, os => by show (mixO r os).length + 1 = _; rw [mixO_len r os]; rfl
  | .al _ :: r, o :: os => by show (mixO r os).length + 1 = _; rw [mixO_len r os]; rfl
  | .al _ :: r, [] => by show (mixO r []).length + 1 = _; rw [mixO_len r []]; rfl
theorem call_core {n : Nat} {cp : List Nat} {Φ : List O → Rz (O × List O)} {c : Cn TB} {R : Addr → Prop} {δ : DEnv} {as : List Arg} {vs : List V} {Q : VK} (s1 : Sim K c R δ σ F H) (z1 : FzA K F σ vs as)
    (q : (gCallV n cp Φ as δ).post (fun p => ∀ v F' H' S, Sim K c (fun a => R a ∨ S a) p.2 σ F' H' → (∀ a, S a → ¬ R a) → Le F F' → Held R H H' → Ow K F' H' S v p.1 → Q v H') (Wish K B c)) : spD K TB n cp Φ vs H Q B := by
  unfold gCallV at q
  by_cases hc : as.length = n ∧ alP 0 as = cp ∧ (alI as).Nodup
  · rw [if_pos hc, Rz.post_bind] at q
    obtain ⟨os, eo, q⟩ := Rz.post_of q
    obtain ⟨ws, S, g1, g2, g3, g4⟩ := s1.outs hc.2.2 (alO_map eo)
    refine ⟨mixO as os, F, S, by rw [mixO_len]; exact hc.1, s1.sub, s1.nt, FzA.all (S := S) z1 g1 g2, fun a z => ⟨(g4.rs a (.inr z)).1, (g4.rs a (.inr z)).2.1⟩, s1.tabs, ?_⟩
    rw [Rz.post_bind] at q
    refine Rz.post_mono q (fun r q v F' H' Sr S' ch dj w ⟨ws', e1, w'⟩ => ?_) fun x hx d F' H' ch xa => ?_
    · by_cases hl : r.2.length = cp.length
      · rw [if_pos hl] at q
        have ew : ws' = ws := by
          have e2 := FzA.places (us := []) z1
          rw [List.nil_append, List.length_nil, hc.2.1, e1] at e2
          have e3 : (alI as).map (fun i => (σ[i]?).bind id) = ws.map some := by
            have : (alI as).map (fun i => (σ[i]?).bind id) = ((alI as).map fun i => σ[i]?).map (fun o => o.bind id) := by rw [List.map_map]; rfl
            rw [this, g1, List.map_map]; rfl
          rw [e3] at e2
          exact List.map_inj_right (fun _ _ h => Option.some.inj h) |>.mp e2
        subst ew
        have s2 := g4.step (S' := fun a => Sr a ∨ S' a) g3 ch
        have s3 : Sim K c (fun a => (R a ∨ Sr a) ∨ S' a) (unset δ (alI as)) σ F' H' := s2.drop _ fun a z => by
          rcases z with (z | z) | z
          · exact .inl z
          · exact .inr (.inl z)
          · exact .inr (.inr z)
        have nr : ∀ a, Sr a ∨ S' a → ¬ R a := fun a z y => by
          rcases (ch.own a z).1 with k | k
          · exact g3 a k y
          · exact k (g4.rs a (.inl y)).2.1
        have hlen : (alI as).length = r.2.length := by rw [hl, ← hc.2.1, alP_len]
        have s4 := Sim.intos s3 w' (fun a z y => y.elim (nr a (.inr z)) fun y => dj a y z) hlen g1
        rw [setS_unset hc.2.2 hlen] at s4
        exact q v F' H' Sr s4 (fun a z => nr a (.inl z)) ch.le (fun a o hr ho hn => ch.keep a o (fun z => g3 a z hr) ho hn) w
      · rw [if_neg hl] at q; exact q.elim
    · exact hx _ _ _ d F' H' (g4.step g3 ch) xa
  · rw [if_neg hc] at q; exact q.elim
theorem df_call {n : Nat} {cp : List Nat} {Φ : List O → Rz (O × List O)} {t : TA} {ga : DEnv → Rz (List Arg × DEnv)} (ha : DAA K B t ga) : DF K B (tCall (spD K TB n cp Φ) [] B t) (gCall n cp Φ ga) := fun c R δ σ F H s Q q => by
  unfold gCall at q
  rw [Rz.post_bind] at q
  refine ha c R δ σ F H s _ (Rz.post_mono q (fun p q vs F1 H1 s1 l1 h1 z1 => ?_) fun _ z => z)
  rw [List.append_nil]
  exact call_core s1 z1 (Rz.post_mono q (fun p q v F' H' S s' dj l hd w => q v F' H' S s' dj (l1.trans l) (h1.trans hd) w) fun _ z => z)
theorem look_none {α β : Type} {m : Str} : ∀ {fs : List (Str × α)} {gs : List (Str × β)}, fs.map Prod.fst = gs.map Prod.fst → gs.lookup m = none → fs.lookup m = none
  | [], [], _, _ => rfl
  | [], _ :: _, h, _ => by simp at h
  | _ :: _, [], h, _ => by simp at h
  | (f, x) :: r, (g, y) :: s, h, e => by
    simp only [List.map_cons, List.cons.injEq] at h
    obtain ⟨rfl, h⟩ := h
    rw [List.lookup_cons] at e ⊢
    cases q : m == f with
    | true => rw [q] at e; cases e
    | false => rw [q] at e; exact look_none h e
/-- o.m(..), o a slot whose instance the method may change -/
def gMethA (C : Addr) (m : Str) (i n : Nat) (cp : List Nat) (Φ : List O → Rz (O × List O)) (ga : DEnv → Rz (List Arg × DEnv)) : DEnv → Rz (O × DEnv) := fun δ => match δ[i]? with
  | some (some (.ins C' fs)) => if C' = C ∧ fs.lookup m = none then (ga δ).bind fun p => gCallV n cp Φ (.al i :: p.1) p.2 else .no
  | _ => .no
theorem df_methA {C : Addr} {m : Str} {i n : Nat} {cp : List Nat} {Φ : List O → Rz (O × List O)} {t : TA} {ga : DEnv → Rz (List Arg × DEnv)} (ha : DAA K B t ga) : DF K B (tMeth C m (spD K TB n cp Φ) [] B (tVar i) t) (gMethA C m i n cp Φ ga) := fun c R δ σ F H s Q q => by
  unfold gMethA at q
  split at q
  · next C' fs e =>
    by_cases hc : C' = C ∧ fs.lookup m = none
    · rw [if_pos hc] at q
      obtain ⟨v, v1, S1, g1, g2, g3, _⟩ := s.see (π := []) e rfl
      cases (show v1 = v from g2)
      obtain ⟨rfl, hm⟩ := hc
      cases g3 with
      | ins h n sa s1 en l =>
        refine ⟨_, g1, _, _, _, rfl, h, look_none en hm, ?_⟩
        rw [Rz.post_bind] at q
        refine ha c R δ σ F H s _ (Rz.post_mono q (fun p q vs F1 H1 s1 l1 h1 z1 => ?_) fun _ z => z)
        rw [List.append_nil]
        exact call_core s1 (.al g1 z1) (Rz.post_mono q (fun p q v F' H' S s' dj l hd w => q v F' H' S s' dj (l1.trans l) (h1.trans hd) w) fun _ z => z)
    · rw [if_neg hc] at q; exact q.elim
  · exact q.elim
/-- o.m(..), o an instance that is data -/
def gMethD (C : Addr) (m : Str) (n : Nat) (cp : List Nat) (Φ : List O → Rz (O × List O)) (go : DEnv → Rz (D × DEnv)) (ga : DEnv → Rz (List Arg × DEnv)) : DEnv → Rz (O × DEnv) := fun δ => (go δ).bind fun r => match r.1 with
  | .obj C' fs => if C' = C ∧ fs.lookup m = none then (ga r.2).bind fun p => gCallV n cp Φ (.d r.1 :: p.1) p.2 else .no
  | _ => .no
theorem df_methD {C : Addr} {m : Str} {n : Nat} {cp : List Nat} {Φ : List O → Rz (O × List O)} {to : TE} {t : TA} {go : DEnv → Rz (D × DEnv)} {ga : DEnv → Rz (List Arg × DEnv)} (ho : DI K B to go) (ha : DAA K B t ga) : DF K B (tMeth C m (spD K TB n cp Φ) [] B to t) (gMethD C m n cp Φ go ga) := fun c R δ σ F H s Q q => by
  unfold gMethD at q
  rw [Rz.post_bind] at q
  refine ho c R δ σ F H s _ (Rz.post_mono q (fun r q1 v F1 H1 s1 l1 h1 z1 => ?_) fun _ z => z)
  obtain ⟨d, δ1⟩ := r
  cases z1 with
  | obj h en l =>
    rename_i a C' dx fs ds
    by_cases hc : C' = C ∧ ds.lookup m = none
    · dsimp only at q1
      rw [if_pos hc, Rz.post_bind] at q1
      obtain ⟨rfl, hm⟩ := hc
      refine ⟨_, _, _, rfl, s1.sub _ _ h, look_none en hm, ?_⟩
      refine ha c R δ1 σ F1 H1 s1 _ (Rz.post_mono q1 (fun p q vs F2 H2 s2 l2 h2 z2 => ?_) fun _ z => z)
      rw [List.append_nil]
      exact call_core s2 (.d (.obj (l2 _ _ h) en (l.mono l2)) z2) (Rz.post_mono q (fun p q v F' H' S s' dj l hd w => q v F' H' S s' dj ((l1.trans l2).trans l) ((h1.trans h2).trans hd) w) fun _ z => z)
    · dsimp only at q1
      rw [if_neg hc] at q1; exact q1.elim
  | _ => exact q1.elim
/-- C(..): a new instance by its __init__ -/
def gMake (C : Addr) (n : Nat) (Φ : List O → Rz (O × List O)) (ga : DEnv → Rz (List D × DEnv)) : DEnv → Rz (O × DEnv) := fun δ => (ga δ).bind fun p =>
  if p.1.length + 1 = n then (Φ (.ins C [] :: p.1.map .fz)).bind fun q => match q with
    | (.fz .non, [o]) => .ok (o, p.2)
    | _ => .no else .no
theorem df_make {C : Addr} {n : Nat} {Φ : List O → Rz (O × List O)} {t : TA} {ga : DEnv → Rz (List D × DEnv)} (ha : DA K B t ga) : DF K B (tMake C (spD K TB n [0] Φ) [] B t) (gMake C n Φ ga) := fun c R δ σ F H s Q q => by
  unfold gMake at q
  rw [Rz.post_bind] at q
  refine ha c R δ σ F H s _ (Rz.post_mono q (fun p q vs F1 H1 s1 l1 h1 z1 => ?_) fun _ z => z)
  intro x dx hx hdx ne
  by_cases hn : p.1.length + 1 = n
  · rw [if_pos hn] at q
    have hx2 : upd H1 dx (.own x) x = none := by rw [upd_ne (Ne.symm ne)]; exact hx
    have s2 := (s1.grow (Ext.new (o := .own x) hdx) (s1.tabs.ext (Le.new hdx))).hold (o := .ins C dx []) hx2 (fun z => z)
    have e2 : Ext H1 (upd (upd H1 dx (.own x)) x (.ins C dx [])) := (Ext.new hdx).trans (.new hx2)
    have w0 : Ow K F1 (upd (upd H1 dx (.own x)) x (.ins C dx [])) (fun a => a = x) (.ref x) (.ins C []) := .ins (S1 := fun _ => False) upd_same (s1.fresh hx) rfl (fun _ z => z.elim) rfl .nil
    rw [List.append_nil]
    refine ⟨.ins C [] :: p.1.map .fz, F1, fun a => a = x, by rw [List.length_cons, List.length_map]; exact hn, s2.sub, s2.nt, .cons (S2 := fun _ => False) (fun _ z => z) (fun _ z => z.elim) (fun _ _ z => z) w0 (OwL.leaves z1), fun a z => by subst z; exact ⟨s1.fresh hx, _, upd_same, fun z => z⟩, s2.tabs, ?_⟩
    rw [Rz.post_bind] at q
    refine Rz.post_mono q (fun r q v F' H' Sr S' ch dj w ⟨ws', ew, w'⟩ => ?_) fun y hy d F' H' ch xa => ?_
    · have nx : ∀ a, a = x → ¬ R a := fun a e z => by subst e; exact (s1.rs a z).2.1.ne hx
      have s3 := s2.step nx ch
      obtain ⟨ro, rs⟩ := r
      split at q
      · next o heq =>
        simp only [Prod.mk.injEq] at heq
        obtain ⟨rfl, rfl⟩ := heq
        cases w with
        | fz z =>
          cases z
          refine ⟨rfl, ?_⟩
          simp only [List.map_cons, List.map_nil, List.getElem?_cons_zero] at ew
          cases ws' with
          | nil => simp at ew
          | cons v0 r0 =>
            simp only [List.map_cons, List.cons.injEq, Option.some.injEq] at ew
            obtain ⟨rfl, er⟩ := ew
            cases w' with
            | cons t1 t2 t3 w1 _ =>
              have nr : ∀ a, S' a → ¬ R a := fun a z y => by
                rcases (ch.own a (.inr z)).1 with k | k
                · exact nx a k y
                · exact k (s2.rs a (.inl y)).2.1
              exact q _ F' H' S' (s3.drop _ fun a z => z.imp id .inr) nr (l1.trans ch.le) ((h1.trans (.of e2)).trans fun a o hr ho hn => ch.keep a o (fun z => nx a z hr) ho hn) (w1.grow t1)
      · exact q.elim
    · have nx : ∀ a, a = x → ¬ R a := fun a e z => by subst e; exact (s1.rs a z).2.1.ne hx
      exact hy _ _ _ d F' H' (s2.step nx ch) xa
  · rw [if_neg hn] at q; exact q.elim
end
end DL

/-! DL7: comprehensions; trees changed in place. -/
namespace DL
open PySem L2

def Rz.nox {α : Type} : Rz α → Rz α
  | .ok a => .ok a
  | _ => .no
theorem Rz.post_nox {α : Type} {m : Rz α} {P : α → Prop} {B B' : Xc → Prop} (h : (m.nox).post P B) : m.post P B' := by
  cases m with
  | ok a => exact h
  | er x => exact h.elim
  | no => exact h
def wipeD (δ : DEnv) : List Nat → DEnv
  | [] => δ
  | v :: vs => (wipeD δ vs).set v none
/-- the slots vs as in δ, the others as in δ' -/
def backD (δ δ' : DEnv) : List Nat → DEnv
  | [] => δ'
  | v :: vs => (backD δ δ' vs).set v ((δ[v]?).getD none)
def plainAt (δ : DEnv) (vs : List Nat) : Bool := vs.all fun v => match δ[v]? with
  | some (some (.fz _)) => true
  | some none => true
  | _ => false
theorem wipeD_len (δ : DEnv) : ∀ vs, (wipeD δ vs).length = δ.length
  | [] => rfl
  | v :: vs => by unfold wipeD; rw [List.length_set, wipeD_len δ vs]
theorem wipeD_some {δ : DEnv} {i : Nat} {x : O} : ∀ {vs : List Nat}, (wipeD δ vs)[i]? = some (some x) → δ[i]? = some (some x) ∧ i ∉ vs
  | [], h => ⟨h, by simp⟩
  | v :: vs, h => by
    unfold wipeD at h
    by_cases e : v = i
    · subst e
      by_cases hv : v < (wipeD δ vs).length
      · rw [List.getElem?_set_self hv] at h; cases h
      · rw [List.getElem?_eq_none (by simpa using hv)] at h; cases h
    · rw [List.getElem?_set_ne e] at h
      obtain ⟨h1, h2⟩ := wipeD_some h
      exact ⟨h1, by simp [Ne.symm e, h2]⟩
theorem backD_len (δ δ' : DEnv) : ∀ vs, (backD δ δ' vs).length = δ'.length
  | [] => rfl
  | v :: vs => by unfold backD; rw [List.length_set, backD_len δ δ' vs]
theorem backD_out {δ δ' : DEnv} {i : Nat} : ∀ {vs : List Nat}, i ∉ vs → (backD δ δ' vs)[i]? = δ'[i]?
  | [], _ => rfl
  | v :: vs, h => by
    unfold backD
    rw [List.getElem?_set_ne (fun e => h (by simp [e])), backD_out fun z => h (List.mem_cons_of_mem _ z)]
theorem backD_in {δ δ' : DEnv} {i : Nat} (hl : δ.length = δ'.length) : ∀ {vs : List Nat}, i ∈ vs → (backD δ δ' vs)[i]? = δ[i]?
  | v :: vs, h => by
    unfold backD
    by_cases e : v = i
    · subst e
      by_cases hv : v < δ.length
      · rw [List.getElem?_set_self (by rw [backD_len]; omega), List.getElem?_eq_getElem hv]; rfl
      · rw [List.getElem?_eq_none (by rw [List.length_set, backD_len]; omega), List.getElem?_eq_none (by omega)]
    · rw [List.getElem?_set_ne e]
      rcases List.mem_cons.mp h with z | z
      · exact absurd z.symm e
      · exact backD_in hl z
theorem wipe_len (σ : L2.St) (vs : List Nat) : (wipe σ vs).length = σ.length := wipe_length σ vs
theorem wipe_out' {σ : L2.St} {i : Nat} {vs : List Nat} (h : i ∉ vs) : (wipe σ vs)[i]? = σ[i]? := L2.wipe_out h
theorem wipe_in {σ : L2.St} {i : Nat} : ∀ {vs : List Nat}, i ∈ vs → i < σ.length → (wipe σ vs)[i]? = some none
  | v :: vs, h, hl => by
    unfold wipe
    by_cases e : v = i
    · subst e
      rw [List.getElem?_set_self (by rw [wipe_length]; exact hl)]
    · rw [List.getElem?_set_ne e]
      rcases List.mem_cons.mp h with z | z
      · exact absurd z.symm e
      · exact wipe_in z hl
theorem wipe_same {σ σ' : L2.St} {vs : List Nat} (hl : σ'.length = σ.length) (h : ∀ j, j ∉ vs → σ'[j]? = σ[j]?) : wipe σ' vs = wipe σ vs := by
  refine List.ext_getElem? fun j => ?_
  by_cases hj : j ∈ vs
  · by_cases hlt : j < σ.length
    · rw [wipe_in hj hlt, wipe_in hj (hl ▸ hlt)]
    · rw [List.getElem?_eq_none (by rw [wipe_length]; omega), List.getElem?_eq_none (by rw [wipe_length]; omega)]
  · rw [wipe_out' hj, wipe_out' hj, h j hj]
def Cn.free {TB : List (Addr × Str)} (c : Cn TB) : Cn TB := { c with pin := [] }
section
variable {K : PySem.W.Frag} {TB : List (Addr × Str)} {c : Cn TB} {R : Addr → Prop} {δ δ' : DEnv} {σ : L2.St} {F F' H H' : Hp}
theorem Sim.wiped (s : Sim K c R δ σ F H) (vs : List Nat) : Sim K c.free R (wipeD δ vs) (wipe σ vs) F H := by
  obtain ⟨T, E⟩ := s.env
  refine ⟨s.sub, s.nt, s.f0, s.fn, s.keep, s.thr, s.rs, ⟨T, fun i o h => ?_, E.dj, E.nr, E.own, E.hv, E.nf⟩, fun i hi => absurd hi (by simp [Cn.free]), by rw [wipeD_len, wipe_length]; exact s.len, s.tabs⟩
  obtain ⟨h1, h2⟩ := wipeD_some h
  obtain ⟨v, g1, g2⟩ := E.at_ i o h1
  exact ⟨v, by rw [wipe_out' h2]; exact g1, g2⟩
/-- behind the block: the own names' slots are the def's again -/
theorem Sim.unwiped {vs : List Nat} (s : Sim K c R δ σ F H) (s' : Sim K c.free R' δ' (wipe σ vs) F' H') (l : Le F F') (hp : plainAt δ vs = true) (hl : δ.length = δ'.length) : Sim K c R' (backD δ δ' vs) σ F' H' := by
  obtain ⟨T, E⟩ := s.env
  obtain ⟨T', E'⟩ := s'.env
  refine ⟨s'.sub, s'.nt, s'.f0, s'.fn, s'.keep, s'.thr, s'.rs, ⟨fun i a => i ∉ vs ∧ T' i a, fun i o h => ?_, fun i j a y z => E'.dj i j a y.2 z.2, fun i a z => E'.nr i a z.2, fun i a z => E'.own i a z.2, fun i a z => E'.hv i a z.2, fun i a z => E'.nf i a z.2⟩, s.pin, by rw [backD_len, ← hl]; exact s.len, s'.tabs⟩
  by_cases hi : i ∈ vs
  · rw [backD_in hl hi] at h
    have hh := List.all_eq_true.mp hp i hi
    rw [h] at hh
    cases o with
    | fz d =>
      obtain ⟨v, g1, g2⟩ := E.at_ i _ h
      cases g2 with
      | fz z => exact ⟨v, g1, .fz (z.mono l)⟩
    | _ => cases hh
  · rw [backD_out hi] at h
    obtain ⟨v, g1, g2⟩ := E'.at_ i o h
    rw [wipe_out' hi] at g1
    exact ⟨v, g1, g2.grow fun b z => ⟨hi, z⟩⟩
theorem Sim.wipeB {vs : List Nat} {σ2 : L2.St} (s : Sim K c.free R δ σ2 F H) (e : wipe σ2 vs = wipe σ vs) : Sim K c.free R (wipeD δ vs) (wipe σ vs) F H := by
  have g := s.wiped vs
  rw [e] at g
  exact g
theorem OwL.snoc {S2 : Addr → Prop} {v : V} {o : O} (w : Ow K F H S2 v o) : ∀ {S : Addr → Prop} {vs : List V} {os : List O}, OwL K F H S vs os → (∀ b, S2 b → ¬ S b) → OwL K F H (fun b => S b ∨ S2 b) (vs ++ [v]) (os ++ [o])
  | S, _, _, .nil, n => .cons (S2 := fun _ => False) (fun b z => .inr z) (fun _ z => z.elim) (fun _ _ z => z) w .nil
  | S, _, _, .cons (S1 := A) (S2 := C) s1 s2 dj h l, n => .cons (S1 := A) (S2 := fun b => C b ∨ S2 b) (fun b z => .inl (s1 b z)) (fun b z => z.imp (s2 b) id) (fun b z y => y.elim (dj b z) fun y => n b y (s1 b z)) h (OwL.snoc w l fun b z y => n b z (s2 b y))
end
section
variable {K : PySem.W.Frag} {TB : List (Addr × Str)} {B : XKt TB}
def lcL (tg : D → DEnv → Option DEnv) (gt : DEnv → Rz (Bool × DEnv)) (ge : DEnv → Rz (O × DEnv)) (vs : List Nat) : List D → DEnv → Rz (List O × DEnv)
  | [], δ => .ok ([], δ)
  | d :: r, δ => (Rz.of (tg d δ)).bind fun δ1 => (gt δ1).nox.bind fun p => if p.1 = true then (ge p.2).nox.bind fun q => (lcL tg gt ge vs r (wipeD q.2 vs)).bind fun x => .ok (q.1 :: x.1, x.2) else lcL tg gt ge vs r (wipeD p.2 vs)
def gLc (gi : DEnv → Rz (List D × DEnv)) (tg : D → DEnv → Option DEnv) (gt : DEnv → Rz (Bool × DEnv)) (ge : DEnv → Rz (O × DEnv)) (vs : List Nat) : DEnv → Rz (O × DEnv) := fun δ => (gi δ).bind fun p =>
  if p.1.length ≤ 100000 ∧ plainAt p.2 vs = true then (lcL tg gt ge vs p.1 (wipeD p.2 vs)).bind fun x => .ok (.lst x.1, backD p.2 x.2 vs) else .no
theorem gYes : DT K B tYes (fun δ => .ok (true, δ)) := fun c R δ σ F H s Q q => q F H s (Le.refl F) Held.refl
theorem df_lc {ts vs : List Nat} {wi : TI} {g : TG} {tt : TT} {te : TE} {gi : DEnv → Rz (List D × DEnv)} {tg : D → DEnv → Option DEnv} {gt : DEnv → Rz (Bool × DEnv)} {ge : DEnv → Rz (O × DEnv)}
    (hi : DW K B wi gi) (hg : DG K ts [] g tg) (ht : DT K (noX TB) tt gt) (he : DF K (noX TB) te ge) (hv : ∀ i ∈ ts, i ∈ vs) : DF K B (tLc wi g tt te vs) (gLc gi tg gt ge vs) := fun c R δ σ F H s Q q => by
  unfold gLc at q
  rw [Rz.post_bind] at q
  refine hi c R δ σ F H s _ (Rz.post_mono q (fun p q J F1 H1 s1 l1 h1 w => ?_) fun _ z => z)
  by_cases hc : p.1.length ≤ 100000 ∧ plainAt p.2 vs = true
  · rw [if_pos hc, Rz.post_bind] at q
    intro Dl hDl
    have s2 := s1.hold (o := .lst []) hDl (fun z => z)
    refine ⟨fun i m Hh => m = p.1.length - i ∧ i ≤ p.1.length ∧ ∃ (δi : DEnv) (F' : Hp) (acc : List V) (os : List O) (S1 : Addr → Prop), Sim K c.free (fun a => R a ∨ (a = Dl ∨ S1 a)) δi (wipe σ vs) F' Hh ∧ Le F1 F' ∧ Held R H1 Hh ∧ Hh Dl = some (.lst acc) ∧ (∀ b, S1 b → b ≠ Dl ∧ ¬ R b) ∧
        OwL K F' Hh S1 acc os ∧ acc.length ≤ i ∧ δi.length = p.2.length ∧ (lcL tg gt ge vs (p.1.drop i) δi).post (fun x => ∀ v F' H' S, Sim K c (fun a => R a ∨ S a) (backD p.2 x.2 vs) σ F' H' → (∀ a, S a → ¬ R a) → Le F F' → Held R H H' → Ow K F' H' S v (.lst (os ++ x.1)) → Q v H') (fun _ => False), ⟨_, rfl, Nat.zero_le _, wipeD p.2 vs, F1, [], [], fun _ => False, ?_, Le.refl F1, .of (.new hDl), upd_same, fun _ z => z.elim, .nil, Nat.le_refl _, wipeD_len _ _, ?_⟩, ?_⟩
    · exact (s2.wiped vs).drop _ fun a z => z.imp id fun z => z.elim id False.elim
    · rw [List.drop_zero]
      cases e : lcL tg gt ge vs p.1 (wipeD p.2 vs) with
      | ok x => rw [e] at q; exact q
      | er x =>
        exfalso
        have noer : ∀ (ds : List D) (δ : DEnv) (x : Xc), lcL tg gt ge vs ds δ ≠ .er x := by
          intro ds
          induction ds with
          | nil => intro δ x z; cases z
          | cons d r ih =>
            intro δ x z
            unfold lcL at z
            cases e1 : tg d δ with
            | none => rw [e1] at z; cases z
            | some δ1 =>
              rw [e1] at z
              simp only [Rz.of_some, Rz.bind_ok] at z
              cases e2 : gt δ1 with
              | ok p =>
                rw [e2] at z
                simp only [Rz.nox, Rz.bind_ok] at z
                split at z
                · cases e3 : ge p.2 with
                  | ok q =>
                    rw [e3] at z
                    simp only [Rz.bind_ok] at z
                    cases e4 : lcL tg gt ge vs r (wipeD q.2 vs) with
                    | ok y => rw [e4] at z; cases z
                    | er y => exact ih _ _ e4
                    | no => rw [e4] at z; cases z
                  | er q => rw [e3] at z; cases z
                  | no => rw [e3] at z; cases z
                · exact ih _ _ z
              | er p => rw [e2] at z; cases z
              | no => rw [e2] at z; cases z
        exact noer _ _ _ e
      | no => rw [e] at q; exact q.elim
    · rintro i m Hh ⟨rfl, hi, δi, F', acc, os, S1, s3, l3, h3, e3, d3, w3, n3, ln3, q3⟩
      by_cases hlt : i < p.1.length
      · refine .inr ⟨w.go i F' Hh l3 s3.sub hlt, fun H' => ∃ (δi : DEnv) (F' : Hp) (acc : List V) (os : List O) (S1 : Addr → Prop), Sim K c.free (fun a => R a ∨ (a = Dl ∨ S1 a)) δi (wipe σ vs) F' H' ∧ Le F1 F' ∧ Held R H1 H' ∧ H' Dl = some (.lst acc) ∧ (∀ b, S1 b → b ≠ Dl ∧ ¬ R b) ∧
          OwL K F' H' S1 acc os ∧ acc.length ≤ i + 1 ∧ δi.length = p.2.length ∧ (lcL tg gt ge vs (p.1.drop (i + 1)) δi).post (fun x => ∀ v F' H' S, Sim K c (fun a => R a ∨ S a) (backD p.2 x.2 vs) σ F' H' → (∀ a, S a → ¬ R a) → Le F F' → Held R H H' → Ow K F' H' S v (.lst (os ++ x.1)) → Q v H') (fun _ => False), fun H' h => ⟨_, by omega, rfl, hlt, h⟩, fun x H4 y => ?_⟩
        have hd : p.1[i]? = some p.1[i] := by simp [hlt]
        obtain ⟨F4, s4, l4, h4, z4⟩ := w.item s3 l3 hd y
        rw [List.drop_eq_getElem_cons hlt] at q3
        unfold lcL at q3
        rw [Rz.post_bind] at q3
        obtain ⟨δ5, e5, q3⟩ := Rz.post_of q3
        refine hg c.free _ δi δ5 (wipe σ vs) F4 H4 x _ rfl s4 z4 e5 _ fun σ5 s5 ln5 k5 => ?_
        have ew : wipe σ5 vs = wipe σ vs := by
          have e1 : wipe σ5 vs = wipe (wipe σ vs) vs := wipe_same ln5 fun j hj => k5 j fun z => hj (hv j z)
          rw [e1]
          exact wipe_same (wipe_length σ vs) fun j hj => wipe_out' hj
        have ew' : wipe σ5 vs = wipe (wipe σ vs) vs := wipe_same ln5 fun j hj => k5 j fun z => hj (hv j z)
        have ld : H4 Dl = some (.lst acc) := h4 Dl _ (.inr (.inl rfl)) e3 fun z => z
        rw [Rz.post_bind] at q3
        refine ⟨ew, ?_⟩
        refine ht c.free _ δ5 σ5 F4 H4 s5 _ (Rz.post_mono (Rz.post_nox q3) (fun b q6 F6 H6 s6 l6 h6 => ?_) fun _ z => z)
        have wst : ∀ {Fa Ha Fb Hb : Hp} {Ra : Addr → Prop} {δa : DEnv} {σa : L2.St}, Sim K c.free (fun a => R a ∨ (a = Dl ∨ S1 a)) δa σa Fb Hb → Le Fa Fb → Held (fun a => R a ∨ (a = Dl ∨ S1 a)) Ha Hb → OwL K Fa Ha S1 acc os → OwL K Fb Hb S1 acc os := fun sb lb hb wa =>
          wa.stand ⟨lb, fun b o z ho n => hb b o (.inr (.inr z)) ho n, fun b z _ _ => (sb.rs b (.inr (.inr z))).1⟩
        have w4 := wst (Ra := R) s4 l4 h4 w3
        have w6 := wst (Ra := R) s6 l6 h6 w4
        have ld6 : H6 Dl = some (.lst acc) := h6 Dl _ (.inr (.inl rfl)) ld fun z => z
        have hR6 : Held R H1 H6 := (h3.trans fun a o hr => h4 a o (.inl hr)).trans fun a o hr => h6 a o (.inl hr)
        by_cases hb : b.1 = true
        · rw [if_pos hb] at q6 ⊢
          rw [Rz.post_bind] at q6
          refine he c.free _ b.2 σ5 F6 H6 s6 _ (Rz.post_mono (Rz.post_nox q6) (fun r q7 v7 F7 H7 S7 s7 dj7 l7 h7 w7 => ?_) fun _ z => z)
          have ld7 : H7 Dl = some (.lst acc) := h7 Dl _ (.inr (.inl rfl)) ld6 fun z => z
          refine ⟨acc, ld7, Nat.lt_of_lt_of_le (Nat.lt_of_le_of_lt (Nat.le_trans n3 (Nat.le_of_lt hlt)) (Nat.lt_succ_of_le hc.1)) (by decide), ?_⟩
          have s7' : Sim K c.free (fun a => R a ∨ (a = Dl ∨ (S1 a ∨ S7 a))) r.2 σ5 F7 H7 := s7.drop _ fun a z => by
            rcases z with z | z | z | z
            · exact .inl (.inl z)
            · exact .inl (.inr (.inl z))
            · exact .inl (.inr (.inr z))
            · exact .inr z
          have nt7 : ∀ a, S7 a → ¬ S1 a := fun a z y => dj7 a z (.inr (.inr y))
          have w7b : OwL K F7 H7 S1 acc os := w6.stand ⟨l7, fun b o z ho n => h7 b o (.inr (.inr z)) ho n, fun b z _ _ => (s7'.rs b (.inr (.inr (.inl z)))).1⟩
          have s8 := s7'.held (H' := upd H7 Dl (.lst (acc ++ [v7]))) (fun a => R a ∨ (a = Dl ∨ (S1 a ∨ S7 a))) (fun a o n ho _ => by rw [upd_ne (fun z => n (.inr (.inl z)))]; exact ho) (fun a h => h.up fun z => z) (tabs_upd s7'.tabs ld7 (fun z => z) (by intro c q z; cases z)) fun a z => .inl z
          have st8 : ∀ {S : Addr → Prop}, (∀ b, S b → b ≠ Dl) → Stand S F7 H7 F7 (upd H7 Dl (.lst (acc ++ [v7]))) := fun hS => ⟨Le.refl _, fun b o z ho _ => by rw [upd_ne (hS b z)]; exact ho, fun b _ _ f => f⟩
          have w8 := OwL.snoc (w7.stand (st8 fun b z e => dj7 b z (.inr (.inl e)))) (w7b.stand (st8 fun b z => (d3 b z).1)) nt7
          refine ⟨wipeD r.2 vs, F7, acc ++ [v7], os ++ [r.1], fun a => S1 a ∨ S7 a, s8.wipeB ew, ((l3.trans l4).trans l6).trans l7, ?_, upd_same, fun b z => ?_, w8, by rw [List.length_append]; simp; omega, ?_, ?_⟩
          · refine hR6.trans fun a o hr ho hn => ?_
            have := h7 a o (.inl hr) ho hn
            by_cases z : a = Dl
            · exfalso; subst z
              exact (s1.rs a hr).2.1.ne hDl
            · rw [upd_ne z]; exact this
          · rcases z with z | z
            · exact d3 b z
            · exact ⟨fun e => dj7 b z (.inr (.inl e)), fun e => dj7 b z (.inl e)⟩
          · have e1 := s8.len
            rw [wipeD_len, e1, ← (wipe_length σ5 vs), ew, wipe_length]
            exact s1.len.symm
          · rw [Rz.post_bind] at q7
            refine Rz.post_mono q7 (fun x q8 => ?_) fun _ z => z
            intro v F' H' S a b c' d' e'
            refine q8 v F' H' S a b c' d' ?_
            rw [List.append_assoc] at e'
            exact e'
        · rw [if_neg hb] at q6 ⊢
          refine ⟨wipeD b.2 vs, F6, acc, os, S1, s6.wipeB ew, (l3.trans l4).trans l6, hR6, ld6, d3, w6, by omega, ?_, q6⟩
          have e1 := s6.len
          rw [wipeD_len, e1, ← (wipe_length σ5 vs), ew, wipe_length]
          exact s1.len.symm
      · have e : i = p.1.length := by omega
        subst e
        refine .inl ⟨w.stop F' Hh l3 s3.sub, ?_⟩
        rw [List.drop_length] at q3
        refine q3 _ F' Hh (fun a => a = Dl ∨ S1 a) (Sim.unwiped s1 s3 l3 hc.2 ln3.symm) (fun a z y => ?_) (l1.trans l3) (h1.trans h3) ?_
        · rcases z with z | z
          · subst z; exact (s1.rs a y).2.1.ne hDl
          · exact (d3 a z).2 y
        · rw [List.append_nil]
          exact .lst (S1 := S1) e3 (s3.rs Dl (.inr (.inl rfl))).1 (.inl rfl) (fun b z => ⟨.inr z, (d3 b z).1⟩) w3
  · rw [if_neg hc] at q; exact q.elim
end
end DL

/-! DL8: places; what changes a tree. -/
namespace DL
open PySem L2

theorem O.get_app : ∀ (π ρ : List Step) (o : O), O.get (π ++ ρ) o = (O.get π o).bind (O.get ρ)
  | [], ρ, o => rfl
  | .ix n :: π, ρ, .lst l => by
    show ((l[n]?).bind (O.get (π ++ ρ))) = ((l[n]?).bind (O.get π)).bind (O.get ρ)
    cases l[n]? with
    | none => rfl
    | some x => exact O.get_app π ρ x
  | .at f :: π, ρ, .ins C fs => by
    show ((fs.lookup f).bind (O.get (π ++ ρ))) = ((fs.lookup f).bind (O.get π)).bind (O.get ρ)
    cases fs.lookup f with
    | none => rfl
    | some x => exact O.get_app π ρ x
  | .ix _ :: _, _, .fz _ => rfl
  | .ix _ :: _, _, .dk _ => rfl
  | .ix _ :: _, _, .dt _ => rfl
  | .ix _ :: _, _, .ins _ _ => rfl
  | .at _ :: _, _, .fz _ => rfl
  | .at _ :: _, _, .dk _ => rfl
  | .at _ :: _, _, .dt _ => rfl
  | .at _ :: _, _, .lst _ => rfl
theorem At.split {H : Hp} : ∀ {π ρ : List Step} {v v1 : V}, At H (π ++ ρ) v v1 → ∃ v', At H π v v' ∧ At H ρ v' v1
  | [], _, v, _, h => ⟨v, rfl, h⟩
  | .ix n :: π, ρ, v, v1, h => by
    obtain ⟨a, xs, x, h1, h2, h3, h4⟩ := h
    obtain ⟨v', g1, g2⟩ := At.split (π := π) h4
    exact ⟨v', ⟨a, xs, x, h1, h2, h3, g1⟩, g2⟩
  | .at f :: π, ρ, v, v1, h => by
    obtain ⟨a, C, dx, fs, x, h1, h2, h3, h4⟩ := h
    obtain ⟨v', g1, g2⟩ := At.split (π := π) h4
    exact ⟨v', ⟨a, C, dx, fs, x, h1, h2, h3, g1⟩, g2⟩
theorem At.one {H : Hp} : ∀ {π : List Step} {v v1 v2 : V}, At H π v v1 → At H π v v2 → v1 = v2
  | [], v, _, _, h, k => by rw [show _ = v from h, show _ = v from k]
  | .ix n :: π, v, v1, v2, h, k => by
    obtain ⟨a, xs, x, h1, h2, h3, h4⟩ := h
    obtain ⟨b, ys, y, k1, k2, k3, k4⟩ := k
    rw [h1] at k1; cases k1
    rw [h2] at k2; cases k2
    rw [h3] at k3; cases k3
    exact At.one h4 k4
  | .at f :: π, v, v1, v2, h, k => by
    obtain ⟨a, C, dx, fs, x, h1, h2, h3, h4⟩ := h
    obtain ⟨b, C', dy, gs, y, k1, k2, k3, k4⟩ := k
    rw [h1] at k1; cases k1
    rw [h2] at k2; cases k2
    rw [h3] at k3; cases k3
    exact At.one h4 k4
section
variable {K : PySem.W.Frag} {TB : List (Addr × Str)} {B : XKt TB} {te ta tb ti to : TE} {i : Nat} {p : DEnv → Option (List Step × O)}
def pF (C : Addr) (f : Str) (p : DEnv → Option (List Step × O)) : DEnv → Option (List Step × O) := fun δ => (p δ).bind fun x => match x.2 with
  | .ins C' fs => if C' = C then (fs.lookup f).map fun y => (x.1 ++ [.at f], y) else none
  | _ => none
theorem pl_fld {C : Addr} {f : Str} (h : PL K te i p) (hc : Cls K C) (hn : NoAttr K C f) : PL K (tFld K te f) i (pF C f p) := fun c R δ σ F H s π o e => by
  unfold pF at e
  cases q : p δ with
  | none => rw [q] at e; cases e
  | some x =>
    obtain ⟨π0, o0⟩ := x
    rw [q] at e
    cases o0 with
    | ins C' fs =>
      simp only [Option.bind_some] at e
      by_cases hC : C' = C
      · rw [if_pos hC] at e
        subst hC
        cases hl : fs.lookup f with
        | none => rw [hl] at e; cases e
        | some y =>
          rw [hl] at e
          simp only [Option.map_some, Option.some.injEq, Prod.mk.injEq] at e
          obtain ⟨rfl, rfl⟩ := e
          obtain ⟨⟨r, h1, h2⟩, k⟩ := h c R δ σ F H s π0 _ q
          refine ⟨⟨r, h1, by rw [O.get_app, h2]; show (fs.lookup f).bind _ = _; rw [hl]; rfl⟩, fun v v1 hv ha Q hq => ?_⟩
          obtain ⟨v', g1, g2⟩ := ha.split
          obtain ⟨a, C2, dx, gs, x, e1, e2, e3, e4⟩ := g2
          cases (show v1 = x from e4)
          obtain ⟨w, w1, S1, m1, m2, m3, _⟩ := s.see h1 h2
          rw [hv] at m1; cases m1
          cases At.one g1 m2
          cases m3 with
          | ins z1 z2 z3 z4 z5 z6 =>
            cases e1
            rw [e2] at z1; cases z1
            exact k v _ hv g1 _ ⟨a, C', dx, gs, v1, rfl, e2, hc, hn, e3, hq⟩
      · rw [if_neg hC] at e; cases e
    | _ => cases e
def pI (p : DEnv → Option (List Step × O)) (f : DEnv → Option D) : DEnv → Option (List Step × O) := fun δ => (p δ).bind fun x => match x.2, f δ with
  | .lst os, some (.int k) => (ixN os.length k).bind fun j => (os[j]?).map fun y => (x.1 ++ [.ix j], y)
  | _, _ => none
theorem pl_ix {f : DEnv → Option D} (h : PL K te i p) (hi : SX K ti f) : PL K (tOp (rIx K) te ti) i (pI p f) := fun c R δ σ F H s π o e => by
  unfold pI at e
  cases q : p δ with
  | none => rw [q] at e; cases e
  | some x =>
    obtain ⟨π0, o0⟩ := x
    rw [q] at e
    simp only [Option.bind_some] at e
    split at e
    · next os k hf =>
      cases hj : ixN os.length k with
      | none => rw [hj] at e; cases e
      | some j =>
        rw [hj] at e
        simp only [Option.bind_some] at e
        cases hy : os[j]? with
        | none => rw [hy] at e; cases e
        | some y =>
          rw [hy] at e
          simp only [Option.map_some, Option.some.injEq, Prod.mk.injEq] at e
          obtain ⟨rfl, rfl⟩ := e
          obtain ⟨⟨r, h1, h2⟩, g⟩ := h c R δ σ F H s π0 _ q
          refine ⟨⟨r, h1, by rw [O.get_app, h2]; show (os[j]?).bind _ = _; rw [hy]; rfl⟩, fun v v1 hv ha Q hq => ?_⟩
          obtain ⟨v', g1, g2⟩ := ha.split
          obtain ⟨a, xs, x, e1, e2, e3, e4⟩ := g2
          cases (show v1 = x from e4)
          obtain ⟨w, w1, S1, m1, m2, m3, _⟩ := s.see h1 h2
          rw [hv] at m1; cases m1
          cases At.one g1 m2
          cases m3 with
          | lst z1 z2 z3 z4 z5 =>
            cases e1
            rw [e2] at z1; cases z1
            obtain ⟨vi, fz, ki⟩ := hi c R δ σ F H s _ hf
            cases fz
            refine g v _ hv g1 _ (ki _ (.inl ⟨a, xs, k, v1, rfl, rfl, sqL_of e2, ?_, hq⟩))
            unfold atI
            rw [z5.length, hj]
            exact e3
    · cases e
/-- a list in a tree -/
theorem Sim.list {c : Cn TB} {R E : Addr → Prop} {δ : DEnv} {σ : L2.St} {F H : Hp} {π : List Step} {o : O} {os : List O} (s : Sim K c (fun a => R a ∨ E a) δ σ F H) (dE : ∀ a, E a → ¬ R a) (h : δ[i]? = some (some o)) (hg : O.get π o = some (.lst os)) :
    ∃ (v : V) (a : Addr) (xs : List V) (S1 : Addr → Prop), σ[i]? = some (some v) ∧ At H π v (.ref a) ∧ H a = some (.lst xs) ∧ OwL K F H S1 xs os ∧ ¬ R a ∧ ¬ E a ∧ (∀ b, S1 b → b ≠ a ∧ ¬ E b) ∧
      ∀ (xs' : List V) (os' : List O), OwL K F H (fun b => S1 b ∨ E b) xs' os' → Sim K c R (δ.set i (some (O.put (.lst os') π o))) σ F (upd H a (.lst xs')) := by
  obtain ⟨v, v1, S, h1, h2, h3, h4, h5⟩ := Sim.focusE s dE h hg
  cases h3 with
  | lst z1 z2 z3 z4 z5 =>
    rename_i S1 a xs
    refine ⟨v, a, xs, S1, h1, h2, z1, z5, (h4 a z3).1, (h4 a z3).2.2.2.2, fun b z => ⟨(z4 b z).2, (h4 b (z4 b z).1).2.2.2.2⟩, fun xs' os' w => ?_⟩
    have hup : ∀ b, Hv H b → Hv (upd H a (.lst xs')) b := fun b hb => hb.up fun z => z
    have facts : ∀ b, S b ∨ E b → F b = none ∧ Hv H b := fun b z => by
      rcases z with z | z
      · exact ⟨(h4 b z).2.1, (h4 b z).2.2.1⟩
      · exact ⟨(s.rs b (.inr z)).1, (s.rs b (.inr z)).2.1⟩
    refine h5 F (upd H a (.lst xs')) (fun b => S b ∨ E b) (.lst os') ⟨fun b u n hb _ => by rw [upd_ne (fun e => n (.inl (by rw [e]; exact z3)))]; exact hb, hup, Le.refl F, fun b u hb => ?_, s.nt, fun b z => .inl z, fun b z => ⟨.inl z, (facts b z).1, hup b (facts b z).2⟩, fun t => tabs_upd t z1 (fun z => z) (by intro c q z; cases z)⟩ ?_
    · rw [upd_ne (fun e => by rw [e, z2] at hb; cases hb)]; exact s.sub b u hb
    · have ne : ∀ b, S1 b ∨ E b → b ≠ a := fun b z e => by
        rcases z with z | z
        · exact (z4 b z).2 e
        · exact (h4 a z3).2.2.2.2 (e ▸ z)
      exact .lst upd_same z2 (.inl z3) (fun b z => ⟨z.imp (fun z => (z4 b z).1) id, ne b z⟩) (w.stand ⟨Le.refl F, fun b u z hb _ => by rw [upd_ne (ne b z)]; exact hb, fun b _ _ f => f⟩)
def putAt (δ : DEnv) (i : Nat) (π : List Step) (o' : O) : DEnv := match δ[i]? with
  | some (some o) => δ.set i (some (O.put o' π o))
  | _ => δ
theorem putAt_eq {δ : DEnv} {π : List Step} {o o' : O} (h : δ[i]? = some (some o)) : putAt δ i π o' = δ.set i (some (O.put o' π o)) := by
  unfold putAt; rw [h]
theorem OwL.sub {F H : Hp} {S S' : Addr → Prop} {vs : List V} {os : List O} (w : OwL K F H S vs os) (h : ∀ b, S b → S' b) : OwL K F H S' vs os := w.grow h
/-- xs.append(e), xs a name -/
def dApp (i : Nat) (g : DEnv → Rz (O × DEnv)) : DTS := fun de δ => match δ[i]? with
  | some (some (.lst _)) => (g δ).post (fun p => match p.2[i]? with
    | some (some (.lst os)) => os.length < 100000 ∧ de.nx (p.2.set i (some (.lst (os ++ [p.1]))))
    | _ => False) de.er
  | _ => False
theorem small5 {n : Nat} (h : n < 100000) : n < sizeLine := Nat.lt_of_lt_of_le h (by decide)
theorem ds_app {pin : List Nat} {g : DEnv → Rz (O × DEnv)} (h : DF K B te g) : DS K B pin (tDrop (tBM K "list" rAppend (tVar i) (tCons te tNil))) (dApp i g) := fun c δ σ F H D de hp s q r => by
  unfold dApp at q
  split at q
  · next os0 e0 =>
    obtain ⟨v, a, xs, S1, h1, h2, h3, _⟩ := Sim.list (E := fun _ => False) (R := nR) (s.drop _ fun a z => z.elim id False.elim) (fun _ z => z.elim) e0 (π := []) rfl
    cases (show V.ref a = v from h2)
    refine ⟨_, h1, .inl ⟨rfl, xs, sqL_of h3⟩, ?_⟩
    refine h c nR δ σ F H s _ (Rz.post_mono q (fun p q v' F' H' S s' dj l _ w => ?_) r.er)
    split at q
    · next os e1 =>
      obtain ⟨hl, q⟩ := q
      obtain ⟨v2, a2, xs2, S2, k1, k2, k3, k4, k5, k6, k7, k8⟩ := Sim.list (E := S) (R := nR) s' dj e1 (π := []) rfl
      rw [h1] at k1; cases k1
      cases (show V.ref a2 = V.ref a from k2)
      refine ⟨a, xs2, v', rfl, rfl, k3, small5 (by rw [k4.length]; exact hl), ?_⟩
      exact r.nx _ σ F' _ (k8 _ _ (OwL.snoc w k4 fun b z y => (k7 b y).2 z)) l q
    · exact q.elim
  · exact q.elim
/-- place.append(e), e a value that touches nothing -/
def dAppP (i : Nat) (p : DEnv → Option (List Step × O)) (f : DEnv → Option D) : DTS := fun de δ => match p δ, f δ with
  | some (π, .lst os), some d => os.length < 100000 ∧ de.nx (putAt δ i π (.lst (os ++ [.fz d])))
  | _, _ => False
theorem ds_appP {pin : List Nat} {f : DEnv → Option D} (hpl : PL K ta i p) (h : SX K te f) : DS K B pin (tDrop (tBM K "list" rAppend ta (tCons te tNil))) (dAppP i p f) := fun c δ σ F H D de hp s q r => by
  unfold dAppP at q
  split at q
  · next π os d e1 e2 =>
    obtain ⟨hl, q⟩ := q
    obtain ⟨⟨o, g1, g2⟩, k⟩ := hpl c nR δ σ F H s π _ e1
    obtain ⟨v, a, xs, S1, h1, h2, h3, h4, h5, h6, h7, h8⟩ := Sim.list (E := fun _ => False) (R := nR) (s.drop _ fun a z => z.elim id False.elim) (fun _ z => z.elim) g1 g2
    obtain ⟨y, fz, ky⟩ := h c nR δ σ F H s d e2
    refine k v (.ref a) h1 h2 _ ⟨.inl ⟨rfl, xs, sqL_of h3⟩, ky _ ⟨a, xs, y, rfl, rfl, h3, small5 (by rw [h4.length]; exact hl), ?_⟩⟩
    rw [putAt_eq g1] at q
    exact r.nx _ σ F _ (h8 _ _ (OwL.snoc (S2 := fun _ => False) (.fz fz) h4 fun _ z => z.elim)) (Le.refl F) q
  · exact q.elim
/-- place.pop() of data -/
def gPop (i : Nat) (p : DEnv → Option (List Step × O)) : DEnv → Rz (D × DEnv) := fun δ => match p δ with
  | some (π, .lst os) => match os[os.length - 1]? with
    | some (.fz d) => .ok (d, putAt δ i π (.lst os.dropLast))
    | _ => .no
  | _ => .no
theorem OwL.init {F H : Hp} : ∀ {S : Addr → Prop} {vs : List V} {os : List O}, OwL K F H S vs os → OwL K F H S vs.dropLast os.dropLast
  | _, _, _, .nil => .nil
  | _, [_], [_], .cons _ _ _ _ .nil => .nil
  | _, _ :: _ :: _, _ :: _ :: _, .cons s1 s2 dj h (.cons t1 t2 t3 h2 l) => .cons s1 s2 dj h (OwL.init (.cons t1 t2 t3 h2 l))
theorem OwL.get {F H : Hp} : ∀ {S : Addr → Prop} {vs : List V} {os : List O} {j : Nat} {o : O}, OwL K F H S vs os → os[j]? = some o → ∃ v, vs[j]? = some v ∧ Ow K F H S v o
  | _, _, _, j, _, .nil, h => by simp at h
  | _, _, _, 0, _, .cons s1 s2 dj h l, e => by simp at e; subst e; exact ⟨_, rfl, h.grow s1⟩
  | _, _, _, j + 1, _, .cons s1 s2 dj h l, e => by
    obtain ⟨v, h1, h2⟩ := OwL.get l (j := j) (by simpa using e)
    exact ⟨v, by simpa using h1, h2.grow s2⟩
theorem di_pop (hpl : PL K ta i p) : DI K B (tBM0 K "list" rPop ta) (gPop i p) := fun c R δ σ F H s Q q => by
  unfold gPop at q
  split at q
  · next π os e1 =>
    split at q
    · next d e2 =>
      obtain ⟨⟨o, g1, g2⟩, k⟩ := hpl c R δ σ F H s π _ e1
      obtain ⟨v, a, xs, S1, h1, h2, h3, h4, h5, h6, h7, h8⟩ := Sim.list (E := fun _ => False) (s.drop _ fun a z => z.elim id False.elim) (fun _ z => z.elim) g1 g2
      obtain ⟨y, y1, y2⟩ := h4.get e2
      cases y2 with
      | fz z =>
        refine k v (.ref a) h1 h2 _ ⟨.inl ⟨rfl, xs, sqL_of h3⟩, a, xs, y, rfl, rfl, h3, by rw [h4.length]; exact y1, ?_⟩
        have q' := q y F (upd H a (.lst xs.dropLast))
        rw [putAt_eq g1] at q'
        exact q' (h8 _ _ (h4.init.grow fun b z => .inl z)) (Le.refl F) (fun b u hr hb _ => by rw [upd_ne (fun e => h5 (by rw [← e]; exact hr))]; exact hb) z
    · exact q.elim
  · exact q.elim
/-- xs[i] = e, xs a name -/
def dSetIx (i : Nat) (g gi : DEnv → Rz (D × DEnv)) : DTS := fun de δ => (g δ).post (fun p => match p.2[i]? with
  | some (some (.lst _)) => (gi p.2).post (fun q => match q.2[i]?, q.1 with
    | some (some (.lst os)), .int k => match ixN os.length k with
      | some j => de.nx (q.2.set i (some (.lst (os.set j (.fz p.1)))))
      | none => False
    | _, _ => False) de.er
  | _ => False) de.er
theorem OwL.setF {F H : Hp} : ∀ {S : Addr → Prop} {vs : List V} {os : List O} {v : V} {d : D} (j : Nat), OwL K F H S vs os → Fz K F v d → OwL K F H S (vs.set j v) (os.set j (.fz d))
  | _, _, _, _, _, _, .nil, _ => .nil
  | _, _, _, _, _, 0, .cons s1 s2 dj h l, z => .cons (S1 := fun _ => False) (fun _ z => z.elim) s2 (fun _ z => z.elim) (.fz z) l
  | _, _, _, _, _, j + 1, .cons s1 s2 dj h l, z => .cons s1 s2 dj h (OwL.setF j l z)
theorem ds_setIx {pin : List Nat} {g gi : DEnv → Rz (D × DEnv)} (h : DI K B te g) (hi : DI K B ti gi) : DS K B pin (tAsg te (gSub (tVar i) ti rSetL)) (dSetIx i g gi) := fun c δ σ F H D de hp s q r => by
  refine h c nR δ σ F H s _ (Rz.post_mono q (fun p q v F1 H1 s1 l1 _ z1 => ?_) r.er)
  split at q
  · next os0 e0 =>
    obtain ⟨v0, a, xs, S1, h1, h2, h3, _⟩ := Sim.list (E := fun _ => False) (R := nR) (s1.drop _ fun a z => z.elim id False.elim) (fun _ z => z.elim) e0 (π := []) rfl
    cases (show V.ref a = v0 from h2)
    refine ⟨_, h1, hi c nR p.2 σ F1 H1 s1 _ (Rz.post_mono q (fun p' q y F2 H2 s2 l2 _ z2 => ?_) r.er)⟩
    split at q
    · next os k e1 e2 =>
      rw [e2] at z2
      cases z2
      split at q
      · next j ej =>
        obtain ⟨v2, a2, xs2, S2, k1, k2, k3, k4, k5, k6, k7, k8⟩ := Sim.list (E := fun _ => False) (R := nR) (s2.drop _ fun a z => z.elim id False.elim) (fun _ z => z.elim) e1 (π := []) rfl
        rw [h1] at k1; cases k1
        cases (show V.ref a2 = V.ref a from k2)
        refine ⟨a, xs2, k, j, rfl, rfl, k3, by rw [k4.length]; exact ej, ?_⟩
        exact r.nx _ σ F2 _ (k8 _ _ ((k4.setF j (z1.mono l2)).grow fun b z => .inl z)) (l1.trans l2) q
      · exact q.elim
    · exact q.elim
  · exact q.elim
/-- name op= e -/
def dAug (i : Nat) (f : D → D → Option D) (g : DEnv → Rz (D × DEnv)) : DTS := fun de δ => match δ[i]? with
  | some (some (.fz d)) => (g δ).post (fun p => match f d p.1 with
    | some x => de.nx (p.2.set i (some (.fz x)))
    | none => False) de.er
  | _ => False
theorem ds_aug {pin : List Nat} {r2 : TIp} {f : D → D → Option D} {g : DEnv → Rz (D × DEnv)} (o : Op2 K r2 f) (h : DI K B te g) (hi : i ∉ pin) : DS K B pin (tAug i te r2) (dAug i f g) := fun c δ σ F H D de hp s q r => by
  unfold dAug at q
  split at q
  · next d e =>
    obtain ⟨v, v1, S1, h1, ha, w, _⟩ := s.see (π := []) e rfl
    cases (show v1 = v from ha)
    cases w with
    | fz z =>
      refine ⟨v, h1, h c nR δ σ F H s _ (Rz.post_mono q (fun p q y F1 H1 s1 l1 _ z1 => ?_) r.er)⟩
      split at q
      · next x ex =>
        exact (o F1 H1 v y _ _ x s1.sub (z.mono l1) z1 ex).go s1 fun u F2 H2 s2 l2 _ z2 => r.nx _ _ F2 H2 (s2.put z2 (hp ▸ hi)) (l1.trans l2) q
      · exact q.elim
  · exact q.elim
/-- place[i] op= e, all of it touching nothing -/
def dAugIx (i : Nat) (p : DEnv → Option (List Step × O)) (fi f : DEnv → Option D) (op : D → D → Option D) : DTS := fun de δ => match p δ, fi δ, f δ with
  | some (π, .lst os), some (.int k), some e => match ixN os.length k with
    | some j => match os[j]? with
      | some (.fz d) => match op d e with
        | some x => de.nx (putAt δ i π (.lst (os.set j (.fz x))))
        | none => False
      | _ => False
    | none => False
  | _, _, _ => False
def OpS2 (K : PySem.W.Frag) (r : R2) (f : D → D → Option D) : Prop := ∀ (F H : Hp) (v w : V) (d e x : D), Le F H → Fz K F v d → Fz K F w e → f d e = some x → ∃ y, Fz K F y x ∧ ∀ Q : VK, Q y H → r v w H Q
theorem OpS2.op {r : R2} {f : D → D → Option D} (h : OpS2 K r f) : Op2 K r f := fun F H v w d e x l z1 z2 q => .inl (h F H v w d e x l z1 z2 q)
theorem ds_augIx {pin : List Nat} {r2 : TIp} {fi f : DEnv → Option D} {op : D → D → Option D} (o : OpS2 K r2 op) (hpl : PL K to i p) (hi : SX K ti fi) (h : SX K te f) :
    DS K B pin (tAugS to ti te (fun x y H Q => rIxL K x y H Q) r2 rSetL) (dAugIx i p fi f op) := fun c δ σ F H D de hp s q r => by
  unfold dAugIx at q
  split at q
  · next π os k e e1 e2 e3 =>
    split at q
    · next j ej =>
      split at q
      · next d ed =>
        split at q
        · next x ex =>
          obtain ⟨⟨oo, g1, g2⟩, kp⟩ := hpl c nR δ σ F H s π _ e1
          obtain ⟨v, a, xs, S1, h1, h2, h3, h4, h5, h6, h7, h8⟩ := Sim.list (E := fun _ => False) (R := nR) (s.drop _ fun a z => z.elim id False.elim) (fun _ z => z.elim) g1 g2
          obtain ⟨yi, fzi, ki⟩ := hi c nR δ σ F H s _ e2
          cases fzi
          obtain ⟨ye, fze, ke⟩ := h c nR δ σ F H s _ e3
          obtain ⟨yd, d1, d2⟩ := h4.get ed
          cases d2 with
          | fz z =>
            obtain ⟨yx, fzx, kx⟩ := o F H yd ye d e x s.sub z fze ex
            refine kp v (.ref a) h1 h2 _ (ki _ ⟨a, xs, k, yd, rfl, rfl, sqL_of h3, ?_, ke _ (kx _ ⟨a, xs, k, j, rfl, rfl, h3, by rw [h4.length]; exact ej, ?_⟩)⟩)
            · unfold atI
              rw [h4.length, ej]
              exact d1
            · rw [putAt_eq g1] at q
              exact r.nx _ σ F _ (h8 _ _ ((h4.setF j fzx).grow fun b z => .inl z)) (Le.refl F) q
        · exact q.elim
      · exact q.elim
    · exact q.elim
  · exact q.elim
/-- o.f = e: o the instance in slot i -/
def dAttr (C : Addr) (f : Str) (i : Nat) (g : DEnv → Rz (O × DEnv)) : DTS := fun de δ => (g δ).post (fun p => match p.2[i]? with
  | some (some (.ins C' fs)) => C' = C ∧ fs.length < 1000 ∧ de.nx (p.2.set i (some (.ins C' (putA f p.1 fs))))
  | _ => False) de.er
theorem putA_len {α : Type} (f : Str) (v : α) : ∀ fs : List (Str × α), fs.length ≤ (putA f v fs).length
  | [] => by simp
  | (g, x) :: r => by
    unfold putA
    split
    · simp
    · simp [putA_len f v r]
/-- an attribute is stored: the values and the trees -/
theorem OwL.putA {F H : Hp} {S2 : Addr → Prop} {v : V} {o : O} {f : Str} (w : Ow K F H S2 v o) : ∀ {S : Addr → Prop} {fs : List (Str × V)} {os : List (Str × O)}, fs.map Prod.fst = os.map Prod.fst → OwL K F H S (fs.map Prod.snd) (os.map Prod.snd) → (∀ b, S2 b → ¬ S b) →
    OwL K F H (fun b => S b ∨ S2 b) ((DL.putA f v fs).map Prod.snd) ((DL.putA f o os).map Prod.snd)
  | S, [], [], _, _, _ => .cons (S2 := fun _ => False) (fun b z => .inr z) (fun _ z => z.elim) (fun _ _ z => z) w .nil
  | _, [], _ :: _, h, _, _ => by simp at h
  | _, _ :: _, [], h, _, _ => by simp at h
  | S, (g, x) :: r, (g', y) :: r', h, l, n => by
    simp only [List.map_cons, List.cons.injEq] at h
    obtain ⟨rfl, h⟩ := h
    cases l with
    | cons s1 s2 dj hx l =>
      rename_i A C
      unfold DL.putA
      by_cases e : g = f
      · rw [if_pos e, if_pos e]
        exact .cons (S1 := S2) (S2 := C) (fun b z => .inr z) (fun b z => .inl (s2 b z)) (fun b z y => n b z (s2 b y)) w l
      · rw [if_neg e, if_neg e]
        exact .cons (S1 := A) (S2 := fun b => C b ∨ S2 b) (fun b z => .inl (s1 b z)) (fun b z => z.imp (s2 b) id) (fun b z y => y.elim (dj b z) fun y => n b y (s1 b z)) hx (OwL.putA w h l fun b z y => n b z (s2 b y))
theorem ds_attr {pin : List Nat} {C : Addr} {f : Str} {g : DEnv → Rz (O × DEnv)} (h : DF K B te g) (hc : Cls K C) (hn : NoAttr K C f) : DS K B pin (sFld K (tVar i) te f) (dAttr C f i g) := fun c δ σ F H D de hp s q r => by
  refine h c nR δ σ F H s _ (Rz.post_mono q (fun p q v F1 H1 S s1 dj l1 _ w => ?_) r.er)
  split at q
  · next C' fs e0 =>
    obtain ⟨rfl, hl, q⟩ := q
    obtain ⟨v0, v1, S0, h1, h2, h3, h4, h5⟩ := Sim.focusE (R := nR) s1 dj e0 (π := []) rfl
    cases (show v1 = v0 from h2)
    cases h3 with
    | ins z1 z2 z3 z4 z5 z6 =>
      rename_i S1 a dx xs
      have hlx : xs.length < 1000 := by
        have : xs.length = fs.length := by simpa using congrArg List.length z5
        omega
      refine ⟨_, h1, a, C', dx, xs, rfl, z1, hc, hn, hlx, ?_⟩
      rw [putF_eq]
      have hup : ∀ (o : HO), ¬ isTbl o → ∀ b, Hv H1 b → Hv (upd H1 a o) b := fun o n b hb => hb.up n
      have facts : ∀ b, S0 b ∨ S b → F1 b = none ∧ Hv H1 b := fun b z => by
        rcases z with z | z
        · exact ⟨(h4 b z).2.1, (h4 b z).2.2.1⟩
        · exact ⟨(s1.rs b (.inr z)).1, (s1.rs b (.inr z)).2.1⟩
      have ne : ∀ b, S1 b ∨ S b → b ≠ a := fun b z e => by
        rcases z with z | z
        · exact (z4 b z).2 e
        · exact (h4 a z3).2.2.2.2 (e ▸ z)
      have st : Stand (fun b => S1 b ∨ S b) F1 H1 F1 (upd H1 a (.ins C' dx (putA f v xs))) := ⟨Le.refl _, fun b u z hb _ => by rw [upd_ne (ne b z)]; exact hb, fun b _ _ f => f⟩
      refine r.nx _ σ F1 _ (h5 F1 _ (fun b => S0 b ∨ S b) (.ins C' (putA f p.1 fs)) ⟨fun b u n hb _ => by rw [upd_ne (fun e => n (.inl (by rw [e]; exact z3)))]; exact hb, hup (.ins C' dx (putA f v xs)) (fun z => z), Le.refl _, fun b u hb => ?_, s1.nt, fun b z => .inl z, fun b z => ⟨.inl z, (facts b z).1, hup (.ins C' dx (putA f v xs)) (fun z => z) b (facts b z).2⟩, fun t => tabs_upd t z1 (fun z => z) (by intro c q z; cases z)⟩ ?_) l1 q
      · rw [upd_ne (fun e => by rw [e, z2] at hb; cases hb)]; exact s1.sub b u hb
      · refine .ins upd_same z2 (.inl z3) (fun b z => ⟨z.imp (fun z => (z4 b z).1) id, ne b z⟩) (putA_fst f v p.1 z5) ((OwL.putA (f := f) w z5 z6 fun b z y => (h4 b (z4 b y).1).2.2.2.2 z).stand st)
  · exact q.elim
/-! ### values that touch nothing -/
theorem sx_op {r : R2} {f : D → D → Option D} {fa fb : DEnv → Option D} (o : OpS2 K r f) (ha : SX K ta fa) (hb : SX K tb fb) : SX K (tOp r ta tb) (fun δ => (fa δ).bind fun a => (fb δ).bind fun b => f a b) := fun c R δ σ F H s d e => by
  dsimp only at e
  cases h1 : fa δ with
  | none => rw [h1] at e; cases e
  | some x =>
    rw [h1] at e
    simp only [Option.bind_some] at e
    cases h2 : fb δ with
    | none => rw [h2] at e; cases e
    | some y =>
      rw [h2] at e
      simp only [Option.bind_some] at e
      obtain ⟨v, z1, k1⟩ := ha c R δ σ F H s x h1
      obtain ⟨w, z2, k2⟩ := hb c R δ σ F H s y h2
      obtain ⟨u, z3, k3⟩ := o F H v w x y d s.sub z1 z2 e
      exact ⟨u, z3, fun Q hq => k1 _ (k2 _ (k3 Q hq))⟩
/-- how many stand at a place -/
def fLenP (p : DEnv → Option (List Step × O)) : DEnv → Option D := fun δ => (p δ).bind fun x => match x.2 with
  | .lst os => some (.int (os.length : Int))
  | .fz (.lst ds) => some (.int (ds.length : Int))
  | .fz (.tup ds) => some (.int (ds.length : Int))
  | _ => none
def rLen (K : PySem.W.Frag) : List V → Hp → VK → Prop := fun xs H Q => ∃ x n, xs = [x] ∧ LenV K x H n ∧ Q (.int n) H
theorem sx_lenP (h : PL K te i p) : SX K (tCB (rLen K) (tCons te tNil)) (fLenP p) := fun c R δ σ F H s d e => by
  unfold fLenP at e
  cases q : p δ with
  | none => rw [q] at e; cases e
  | some x =>
    obtain ⟨π, o⟩ := x
    rw [q] at e
    obtain ⟨⟨r, h1, h2⟩, k⟩ := h c R δ σ F H s π _ q
    obtain ⟨v, v1, S1, m1, m2, m3, _⟩ := s.see h1 h2
    simp only [Option.bind_some] at e
    split at e
    · next os =>
      cases e
      cases m3 with
      | lst z1 z2 z3 z4 z5 => exact ⟨_, .int _, fun Q hq => k v _ m1 m2 _ ⟨_, os.length, rfl, .inl ⟨_, sqL_of z1, z5.length.symm⟩, hq⟩⟩
    · next ds =>
      cases e
      cases m3 with
      | fz z =>
        cases z with
        | lst z1 z2 => exact ⟨_, .int _, fun Q hq => k v _ m1 m2 _ ⟨_, ds.length, rfl, .inl ⟨_, sqL_of (s.sub _ _ z1), z2.length.symm⟩, hq⟩⟩
    · next ds =>
      cases e
      cases m3 with
      | fz z =>
        cases z with
        | tup z1 z2 => exact ⟨_, .int _, fun Q hq => k v _ m1 m2 _ ⟨_, ds.length, rfl, .inr ⟨_, sqT_mono s.sub z1, z2.length.symm⟩, hq⟩⟩
    · cases e
theorem isEmpty_len {α β : Type} : ∀ {l : List α} {m : List β}, l.length = m.length → l.isEmpty = m.isEmpty
  | [], [], _ => rfl
  | _ :: _, _ :: _, _ => rfl
  | [], _ :: _, h => by simp at h
  | _ :: _, [], h => by simp at h
/-- is there anything at a place -/
def fTruP (p : DEnv → Option (List Step × O)) : DEnv → Rz (Bool × DEnv) := fun δ => match p δ with
  | some (_, .lst os) => .ok (!os.isEmpty, δ)
  | _ => .no
theorem dt_truP (h : PL K te i p) : DT K B (fun σ H Q => te σ H fun x H' => ∃ k, TruV K x H' k ∧ Q k H') (fTruP p) := fun c R δ σ F H s Q q => by
  unfold fTruP at q
  split at q
  · next π os e =>
    obtain ⟨⟨r, h1, h2⟩, k⟩ := h c R δ σ F H s π _ e
    obtain ⟨v, v1, S1, m1, m2, m3, _⟩ := s.see h1 h2
    cases m3 with
    | lst z1 z2 z3 z4 z5 =>
      exact k v _ m1 m2 _ ⟨!os.isEmpty, .inl ⟨_, sqL_of z1, by rw [isEmpty_len z5.length]⟩, q F H s (Le.refl F) Held.refl⟩
  · exact q.elim
end
end DL

/-! DL9: built-in operations over data. -/
namespace DL
open PySem L2
section
variable {K : PySem.W.Frag} {TB : List (Addr × Str)} {B : XKt TB} {te ta tb : TE}

/-! ### intsD -/
def fI2 (g : Int → Int → D) : D → D → Option D
  | .int a, .int b => some (g a b)
  | _, _ => none
def fI2c (C : Int → Int → Prop) [∀ a b, Decidable (C a b)] (g : Int → Int → D) : D → D → Option D
  | .int a, .int b => if C a b then some (g a b) else none
  | _, _ => none
theorem os_I0 {g : Int → Int → V} {h : Int → Int → D} (e : ∀ F i j, Fz K F (g i j) (h i j)) : OpS2 K (rI0 g) (fI2 h) := fun F H v w d e' x l z1 z2 q => by
  unfold fI2 at q
  split at q
  · next a b =>
    cases q; cases z1; cases z2
    exact ⟨_, e F a b, fun Q hq => ⟨a, b, rfl, rfl, hq⟩⟩
  · cases q
theorem os_I {C C' : Int → Int → Prop} [∀ a b, Decidable (C' a b)] {g : Int → Int → V} {h : Int → Int → D} (hc : ∀ i j, C' i j → C i j) (e : ∀ F i j, Fz K F (g i j) (h i j)) : OpS2 K (rI C g) (fI2c C' h) := fun F H v w d e' x l z1 z2 q => by
  unfold fI2c at q
  split at q
  · next a b =>
    by_cases hC : C' a b
    · rw [if_pos hC] at q
      cases q; cases z1; cases z2
      exact ⟨_, e F a b, fun Q hq => ⟨a, b, rfl, rfl, hc a b hC, hq⟩⟩
    · rw [if_neg hC] at q; cases q
  · cases q
abbrev fSub := fI2 fun a b => .int (a - b)
abbrev fAddI := fI2 fun a b => .int (a + b)
abbrev fMod := fI2c (fun _ b => 0 < b) fun a b => .int (a % b)
abbrev fDiv := fI2c (fun _ b => 0 < b ∧ b < 1073741824) fun a b => .int (a / b)
abbrev fPow := fI2c (fun a b => 0 ≤ b ∧ b ≤ 1000 ∧ -(2 ^ 60) < a ∧ a < 2 ^ 60) fun a b => .int (a ^ b.toNat)
abbrev fShl := fI2c (fun a b => 0 ≤ b ∧ b ≤ 1000 ∧ -(2 ^ 60) < a ∧ a < 2 ^ 60) fun a b => .int (a * 2 ^ b.toNat)
abbrev fShr := fI2c (fun _ b => 0 ≤ b) fun a b => .int (a / 2 ^ b.toNat)
abbrev fAnd := fI2 fun a b => .int (Builtin.bitAnd a b)
abbrev fOr := fI2 fun a b => .int (Builtin.bitOr a b)
abbrev fLt := fI2 fun a b => .bl (decide (a < b))
abbrev fLe := fI2 fun a b => .bl (decide (a ≤ b))
abbrev fGt := fI2 fun a b => .bl (decide (b < a))
abbrev fGe := fI2 fun a b => .bl (decide (b ≤ a))
abbrev fMulI := fI2c (fun a b => (-(2 ^ 60) < a ∧ a < 2 ^ 60) ∨ (-(2 ^ 60) < b ∧ b < 2 ^ 60)) fun a b => .int (a * b)
theorem os_add : OpS2 K (rI0 fun i j => .int (i + j)) fAddI := os_I0 fun F i j => .int _
theorem os_sub : OpS2 K (rI0 fun i j => .int (i - j)) fSub := os_I0 fun F i j => .int _
theorem os_and : OpS2 K (rI0 fun i j => .int (Builtin.bitAnd i j)) fAnd := os_I0 fun F i j => .int _
theorem os_or : OpS2 K (rI0 fun i j => .int (Builtin.bitOr i j)) fOr := os_I0 fun F i j => .int _
theorem os_mod : OpS2 K (rI (fun _ j => 0 < j) fun i j => .int (i % j)) fMod := os_I (fun _ _ h => h) fun F i j => .int _
theorem os_div : OpS2 K (rI CDiv fun i j => .int (i / j)) fDiv := os_I (fun _ _ h => h) fun F i j => .int _
theorem p60 {a : Int} (h : -(2 ^ 60) < a ∧ a < 2 ^ 60) : a.natAbs < 2 ^ 64 := by omega
theorem os_pow : OpS2 K (rI CPow fun i j => .int (i ^ j.toNat)) fPow := os_I (fun _ _ h => ⟨h.1, by omega, p60 h.2.2⟩) fun F i j => .int _
theorem os_shl : OpS2 K (rI CPow fun i j => .int (i * 2 ^ j.toNat)) fShl := os_I (fun _ _ h => ⟨h.1, by omega, p60 h.2.2⟩) fun F i j => .int _
theorem os_shr : OpS2 K (rI (fun _ j => 0 ≤ j) fun i j => .int (i / 2 ^ j.toNat)) fShr := os_I (fun _ _ h => h) fun F i j => .int _
theorem os_mul : OpS2 K (rI CMul fun i j => .int (i * j)) fMulI := os_I (fun _ _ h => h.imp (fun h => ⟨by omega, by omega⟩) fun h => ⟨by omega, by omega⟩) fun F i j => .int _
theorem os_lt : OpS2 K (rI0 fun i j => .bl (decide (i < j))) fLt := os_I0 fun F i j => .bl _
theorem os_le : OpS2 K (rI0 fun i j => .bl (decide (i ≤ j))) fLe := os_I0 fun F i j => .bl _
theorem os_gt : OpS2 K (rI0 fun i j => .bl (decide (j < i))) fGt := os_I0 fun F i j => .bl _
theorem os_ge : OpS2 K (rI0 fun i j => .bl (decide (j ≤ i))) fGe := os_I0 fun F i j => .bl _
/-! ### == of scalars, is None -/
def fEqB : D → D → Option Bool
  | .int a, .int b => some (decide (a = b))
  | .bl a, .bl b => some (decide (a = b))
  | .str a, .str b => some (decide (a = b))
  | .non, .non => some true
  | .non, .int _ => some false
  | .int _, .non => some false
  | .non, .str _ => some false
  | .str _, .non => some false
  | .int _, .str _ => some false
  | .str _, .int _ => some false
  | _, _ => none
def fEq (d e : D) : Option D := (fEqB d e).map .bl
def fNe (d e : D) : Option D := (fEqB d e).map fun b => .bl (!b)
theorem eqB_V {F : Hp} {v w : V} {d e : D} {b : Bool} (z1 : Fz K F v d) (z2 : Fz K F w e) (h : fEqB d e = some b) : scal v w = true ∧ decide (v = w) = b := by
  unfold fEqB at h
  split at h <;> first
    | (cases h; cases z1; cases z2; exact ⟨rfl, by simp⟩)
    | cases h
theorem os_eq : OpS2 K rEq fEq := fun F H v w d e x l z1 z2 q => by
  unfold fEq at q
  cases h : fEqB d e with
  | none => rw [h] at q; cases q
  | some b =>
    rw [h] at q; cases q
    obtain ⟨h1, h2⟩ := eqB_V z1 z2 h
    exact ⟨.bl b, .bl b, fun Q hq => ⟨h1, by rw [h2]; exact hq⟩⟩
theorem os_ne : OpS2 K rNe fNe := fun F H v w d e x l z1 z2 q => by
  unfold fNe at q
  cases h : fEqB d e with
  | none => rw [h] at q; cases q
  | some b =>
    rw [h] at q; cases q
    obtain ⟨h1, h2⟩ := eqB_V z1 z2 h
    exact ⟨.bl (!b), .bl _, fun Q hq => ⟨h1, by rw [h2]; exact hq⟩⟩
def isNonD : D → Bool
  | .non => true
  | _ => false
def fIsN (d : D) : D → Option D
  | .non => some (.bl (isNonD d))
  | _ => none
def fNotN (d : D) : D → Option D
  | .non => some (.bl (!isNonD d))
  | _ => none
theorem isNon_V {F : Hp} {v : V} {d : D} (z : Fz K F v d) : decide (v = .non) = isNonD d := by
  cases z <;> simp [isNonD]
def rIsN' : R2 := fun x y H Q => y = .non ∧ Q (.bl (decide (x = .non))) H
def rNotN' : R2 := fun x y H Q => y = .non ∧ Q (.bl (!decide (x = .non))) H
theorem op_isN' {X : Cx} : OpR X (compareOp .Is) rIsN' := op_isN
theorem op_notN' {X : Cx} : OpR X (compareOp .IsNot) rNotN' := op_notN
theorem os_isN : OpS2 K rIsN' fIsN := fun F H v w d e x l z1 z2 q => by
  unfold fIsN at q
  split at q
  · cases q; cases z2
    exact ⟨.bl _, .bl _, fun Q hq => ⟨rfl, by rw [isNon_V z1]; exact hq⟩⟩
  · cases q
theorem os_notN : OpS2 K rNotN' fNotN := fun F H v w d e x l z1 z2 q => by
  unfold fNotN at q
  split at q
  · cases q; cases z2
    exact ⟨.bl _, .bl _, fun Q hq => ⟨rfl, by rw [isNon_V z1]; exact hq⟩⟩
  · cases q
/-! ### x in a list or tuple of scalars; one sign in a text -/
def D.flat : D → Bool
  | .non => true
  | .bl _ => true
  | .int _ => true
  | .str _ => true
  | _ => false
def D.eqf : D → D → Bool
  | .non, .non => true
  | .bl a, .bl b => a == b
  | .bl a, .int b => (if a then 1 else 0) == b
  | .int a, .bl b => a == (if b then 1 else 0)
  | .int a, .int b => a == b
  | .str a, .str b => a == b
  | _, _ => false
def inD (x : D) (ds : List D) : Bool := ds.any fun y => D.eqf y x
theorem flat_V {F : Hp} {v : V} {d : D} (z : Fz K F v d) : flatV v = d.flat := by cases z <;> rfl
theorem eqf_V {F : Hp} {v w : V} {d e : D} (z : Fz K F v d) (y : Fz K F w e) : eqV v w = D.eqf d e := by cases z <;> cases y <;> rfl
theorem flat_all {F : Hp} : ∀ {vs : List V} {ds : List D}, FzL K F vs ds → vs.all flatV = ds.all D.flat
  | _, _, .nil => rfl
  | _, _, .cons h l => by rw [List.all_cons, List.all_cons, flat_V h, flat_all l]
theorem in_V {F : Hp} {v : V} {d : D} (z : Fz K F v d) : ∀ {vs : List V} {ds : List D}, FzL K F vs ds → inV v vs = inD d ds
  | _, _, .nil => rfl
  | _, _, .cons h l => by
    show List.any _ _ = List.any _ _
    rw [List.any_cons, List.any_cons, eqf_V h z]
    exact congrArg _ (in_V z l)
def fIn (neg : Bool) (x : D) : D → Option D
  | .lst ds => if x.flat = true ∧ ds.all D.flat = true then some (.bl (if neg then !inD x ds else inD x ds)) else none
  | .tup ds => if x.flat = true ∧ ds.all D.flat = true then some (.bl (if neg then !inD x ds else inD x ds)) else none
  | _ => none
theorem os_in {neg : Bool} : OpS2 K (rIn K neg) (fIn neg) := fun F H v w d e x l z1 z2 q => by
  unfold fIn at q
  split at q
  · next ds =>
    by_cases hc : d.flat = true ∧ ds.all D.flat = true
    · rw [if_pos hc] at q
      cases q
      cases z2 with
      | lst h m => exact ⟨_, .bl _, fun Q hq => ⟨_, _, rfl, .inl (sqL_of (l _ _ h)), by rw [flat_V z1]; exact hc.1, by rw [flat_all m]; exact hc.2, by rw [in_V z1 m]; exact hq⟩⟩
    · rw [if_neg hc] at q; cases q
  · next ds =>
    by_cases hc : d.flat = true ∧ ds.all D.flat = true
    · rw [if_pos hc] at q
      cases q
      cases z2 with
      | tup h m => exact ⟨_, .bl _, fun Q hq => ⟨_, _, rfl, .inr (sqT_mono l h), by rw [flat_V z1]; exact hc.1, by rw [flat_all m]; exact hc.2, by rw [in_V z1 m]; exact hq⟩⟩
    · rw [if_neg hc] at q; cases q
  · cases q
def rInSign : R2 := fun x y H Q => ∃ (c : Nat) (z : Str), x = .str ⟨#[c]⟩ ∧ y = .str z ∧ Q (.bl (decide (c ∈ z.cps.toList))) H
theorem op_inSign {X : Cx} : OpR X (compareOp .In) rInSign := op_in_sign
def fInSign : D → D → Option D
  | .str s, .str z => match s.cps.toList with
    | [c] => some (.bl (decide (c ∈ z.cps.toList)))
    | _ => none
  | _, _ => none
theorem os_inSign : OpS2 K rInSign fInSign := fun F H v w d e x l z1 z2 q => by
  unfold fInSign at q
  split at q
  · next s z =>
    split at q
    · next c hc =>
      cases q; cases z1; cases z2
      refine ⟨_, .bl _, fun Q hq => ⟨c, z, ?_, rfl, hq⟩⟩
      have : s = ⟨#[c]⟩ := by
        obtain ⟨cps⟩ := s
        have e : cps = #[c] := by rw [← hc]
        rw [e]
      rw [this]
    · cases q
  · cases q
/-! ### a new list, as a tree -/
def GivesL (K : PySem.W.Frag) (F H : Hp) (r : VK → Prop) (ds : List D) : Prop := ∃ xs, FzL K F xs ds ∧ ∀ Q : VK, (∀ p, H p = none → Q (.ref p) (upd H p (.lst xs))) → r Q
theorem GivesL.go {c : Cn TB} {R : Addr → Prop} {δ : DEnv} {σ : L2.St} {F H : Hp} {r : VK → Prop} {ds : List D} (g : GivesL K F H r ds) (s : Sim K c R δ σ F H) {Q : VK}
    (q : ∀ v F' H' S, Sim K c (fun a => R a ∨ S a) δ σ F' H' → (∀ a, S a → ¬ R a) → Le F F' → Held R H H' → Ow K F' H' S v (.lst (ds.map .fz)) → Q v H') : r Q := by
  obtain ⟨xs, l, k⟩ := g
  refine k Q fun p hp => ?_
  obtain ⟨s2, n, w⟩ := s.newList hp l
  exact q (.ref p) F _ _ s2 n (Le.refl F) (.of (.new hp)) w
/-- data that stands, or a new list of data -/
inductive Dx where
  | dat (x : D) | new (xs : List D)
def Dx.o : Dx → O
  | .dat x => .fz x
  | .new xs => .lst (xs.map .fz)
def GivesX (K : PySem.W.Frag) (F H : Hp) (r : VK → Prop) : Dx → Prop
  | .dat x => Gives K F H r x
  | .new xs => GivesL K F H r xs
theorem GivesX.go {c : Cn TB} {R : Addr → Prop} {δ : DEnv} {σ : L2.St} {F H : Hp} {r : VK → Prop} {x : Dx} (g : GivesX K F H r x) (s : Sim K c R δ σ F H) {Q : VK}
    (q : ∀ v F' H' S, Sim K c (fun a => R a ∨ S a) δ σ F' H' → (∀ a, S a → ¬ R a) → Le F F' → Held R H H' → Ow K F' H' S v x.o → Q v H') : r Q := by
  cases x with
  | dat d => exact Gives.go g s fun v F' H' s' l h z => q v F' H' (fun _ => False) (s'.drop _ fun a z => z.elim id False.elim) (fun _ z => z.elim) l h (.fz z)
  | new ds => exact GivesL.go g s q
def OpX2 (K : PySem.W.Frag) (r : R2) (f : D → D → Option Dx) : Prop := ∀ (F H : Hp) (v w : V) (d e : D) (x : Dx), Le F H → Fz K F v d → Fz K F w e → f d e = some x → GivesX K F H (r v w H) x
def OpXN (K : PySem.W.Frag) (r : List V → Hp → VK → Prop) (f : List D → Option Dx) : Prop := ∀ (F H : Hp) (vs : List V) (ds : List D) (x : Dx), Le F H → FzL K F vs ds → f ds = some x → GivesX K F H (r vs H) x
def gX2 (f : D → D → Option Dx) (ga gb : DEnv → Rz (D × DEnv)) : DEnv → Rz (O × DEnv) := fun δ => (ga δ).bind fun p => (gb p.2).bind fun q => (Rz.of (f p.1 q.1)).bind fun x => .ok (x.o, q.2)
def gXN (f : List D → Option Dx) (ga : DEnv → Rz (List D × DEnv)) : DEnv → Rz (O × DEnv) := fun δ => (ga δ).bind fun p => (Rz.of (f p.1)).bind fun x => .ok (x.o, p.2)
theorem df_op {r : R2} {f : D → D → Option Dx} {ga gb : DEnv → Rz (D × DEnv)} (o : OpX2 K r f) (ha : DI K B ta ga) (hb : DI K B tb gb) : DF K B (tOp r ta tb) (gX2 f ga gb) := fun c R δ σ F H s Q q => by
  unfold gX2 at q
  rw [Rz.post_bind] at q
  refine ha c R δ σ F H s _ (Rz.post_mono q (fun p q v F1 H1 s1 l1 h1 z1 => ?_) fun _ z => z)
  rw [Rz.post_bind] at q
  refine hb c R p.2 σ F1 H1 s1 _ (Rz.post_mono q (fun p' q w F2 H2 s2 l2 h2 z2 => ?_) fun _ z => z)
  rw [Rz.post_bind] at q
  obtain ⟨x, e, q⟩ := Rz.post_of q
  exact (o F2 H2 v w _ _ x s2.sub (z1.mono l2) z2 e).go s2 fun v F3 H3 S s3 dj l3 h3 w3 => q v F3 H3 S s3 dj ((l1.trans l2).trans l3) ((h1.trans h2).trans h3) w3
theorem df_cb {r : List V → Hp → VK → Prop} {f : List D → Option Dx} {tg : TA} {ga : DEnv → Rz (List D × DEnv)} (o : OpXN K r f) (ha : DA K B tg ga) : DF K B (tCB r tg) (gXN f ga) := fun c R δ σ F H s Q q => by
  unfold gXN at q
  rw [Rz.post_bind] at q
  refine ha c R δ σ F H s _ (Rz.post_mono q (fun p q v F1 H1 s1 l1 h1 z1 => ?_) fun _ z => z)
  rw [Rz.post_bind] at q
  obtain ⟨x, e, q⟩ := Rz.post_of q
  exact (o F1 H1 v _ x s1.sub z1 e).go s1 fun v F2 H2 S s2 dj l2 h2 w2 => q v F2 H2 S s2 dj (l1.trans l2) (h1.trans h2) w2
/-- + of intsD, of lists, of texts, of tuples -/
def fAdd : D → D → Option Dx
  | .int a, .int b => some (.dat (.int (a + b)))
  | .lst a, .lst b => if a.length + b.length ≤ 100000 then some (.new (a ++ b)) else none
  | .str a, .str b => if a.length + b.length ≤ 100000 then some (.dat (.str (a ++ b))) else none
  | .tup a, .tup b => if a.length + b.length ≤ 100000 then some (.dat (.tup (a ++ b))) else none
  | _, _ => none
def rAddU (K : PySem.W.Frag) : R2 := fun x y H Q => (rI0 (fun i j => .int (i + j)) x y H Q ∨ rCat x y H Q) ∨ ((∃ i j, x = .str i ∧ y = .str j ∧ i.length + j.length ≤ sizeLine ∧ Q (.str (i ++ j)) H) ∨ rCatA K x y H Q)
theorem op_addU {X : Cx} : OpR X (binaryOp .Add) (rAddU X.K) := (op_add.or op_cat).or (op_add_str.or op_catA)
theorem ox_add : OpX2 K (rAddU K) fAdd := fun F H v w d e x l z1 z2 q => by
  unfold fAdd at q
  split at q
  · next a b =>
    cases q; cases z1; cases z2
    exact .inl ⟨_, .int _, fun Q hq => .inl (.inl ⟨a, b, rfl, rfl, hq⟩)⟩
  · next a b =>
    split at q
    · next hl =>
      cases q
      cases z1 with
      | lst h1 m1 =>
        cases z2 with
        | lst h2 m2 => exact ⟨_, m1.append m2, fun Q hq => .inl (.inr ⟨_, _, _, _, rfl, rfl, l _ _ h1, l _ _ h2, by rw [m1.length, m2.length]; exact big hl, hq⟩)⟩
    · cases q
  · next a b =>
    split at q
    · next hl =>
      cases q; cases z1; cases z2
      exact .inl ⟨_, .str _, fun Q hq => .inr (.inl ⟨a, b, rfl, rfl, big hl, hq⟩)⟩
    · cases q
  · next a b =>
    split at q
    · next hl =>
      cases q
      cases z1 with
      | tup h1 m1 =>
        cases z2 with
        | tup h2 m2 =>
          rename_i p1 xs1 p2 xs2
          have lz : xs1.length + xs2.length ≤ sizeLine := by rw [m1.length, m2.length]; exact big hl
          by_cases ha : xs1 = []
          · subst ha
            have e0 : a = [] := List.length_eq_zero_iff.mp m1.length.symm
            subst e0
            exact .inl ⟨.ref p2, .tup h2 m2, fun Q hq => .inr (.inr ⟨_, _, _, _, rfl, rfl, sqT_mono l h1, sqT_mono l h2, lz, fun _ => hq, fun z => absurd rfl z, fun z => absurd rfl z⟩)⟩
          · by_cases hb : xs2 = []
            · subst hb
              have e0 : b = [] := List.length_eq_zero_iff.mp m2.length.symm
              subst e0
              exact .inl ⟨.ref p1, by rw [List.append_nil]; exact .tup h1 m1, fun Q hq => .inr (.inr ⟨_, _, _, _, rfl, rfl, sqT_mono l h1, sqT_mono l h2, lz, fun z => absurd z ha, fun _ _ => hq, fun _ z => absurd rfl z⟩)⟩
            · exact .inr ⟨.tup (xs1 ++ xs2), fun z => z, fun p hp => .tup (sqT_of upd_same) ((m1.append m2).mono (Le.new hp)), fun Q hq => .inr (.inr ⟨_, _, _, _, rfl, rfl, sqT_mono l h1, sqT_mono l h2, lz, fun z => absurd z ha, fun _ z => absurd z hb, fun _ _ => hq⟩)⟩
    · cases q
  · cases q
/-- list(xs) -/
def fListOf : List D → Option Dx
  | [.lst ds] => some (.new ds)
  | [.tup ds] => some (.new ds)
  | _ => none
def rListOf (K : PySem.W.Frag) : List V → Hp → VK → Prop := fun xs H Q => ∃ p ys, xs = [.ref p] ∧ (SqL K H p ys ∨ SqT K H p ys) ∧ ∀ l, H l = none → Q (.ref l) (upd H l (.lst ys))
theorem cr_listOf {X : Cx} : CallR X (.type "list") (rListOf X.K) := call_list_of
theorem ox_listOf : OpXN K (rListOf K) fListOf := fun F H vs ds x l z q => by
  unfold fListOf at q
  split at q
  · next d =>
    cases q
    cases z with
    | cons h1 h2 =>
      cases h2
      cases h1 with
      | lst a m => exact ⟨_, m, fun Q hq => ⟨_, _, rfl, .inl (sqL_of (l _ _ a)), hq⟩⟩
  · next d =>
    cases q
    cases z with
    | cons h1 h2 =>
      cases h2
      cases h1 with
      | tup a m => exact ⟨_, m, fun Q hq => ⟨_, _, rfl, .inr (sqT_mono l a), hq⟩⟩
  · cases q
/-- tuple(xs) -/
def fTupOf : List D → Option D
  | [.lst ds] => some (.tup ds)
  | [.tup ds] => some (.tup ds)
  | _ => none
def rTupOf (K : PySem.W.Frag) : List V → Hp → VK → Prop := fun xs H Q => ∃ p ys, xs = [.ref p] ∧ ((SqL K H p ys ∧ ∀ l, H l = none → Q (.ref l) (upd H l (.tup ys))) ∨ (SqT K H p ys ∧ Q (.ref p) H))
theorem cr_tupOf {X : Cx} : CallR X (.type "tuple") (rTupOf X.K) := call_tuple_of
theorem on_tupOf : OpN K (rTupOf K) fTupOf := fun F H vs ds x l z q => by
  unfold fTupOf at q
  split at q
  · next d =>
    cases q
    cases z with
    | cons h1 h2 =>
      cases h2
      cases h1 with
      | lst a m => exact .inr ⟨.tup _, fun z => z, fun p hp => .tup (sqT_of upd_same) (m.mono (Le.new hp)), fun Q hq => ⟨_, _, rfl, .inl ⟨sqL_of (l _ _ a), hq⟩⟩⟩
  · next d =>
    cases q
    cases z with
    | cons h1 h2 =>
      cases h2
      cases h1 with
      | tup a m => exact .inl ⟨_, .tup a m, fun Q hq => ⟨_, _, rfl, .inr ⟨sqT_mono l a, hq⟩⟩⟩
  · cases q
/-- len(x) -/
def fLen : List D → Option D
  | [.lst ds] => some (.int (ds.length : Int))
  | [.tup ds] => some (.int (ds.length : Int))
  | [.str z] => if z.length ≤ 100000 then some (.int (z.length : Int)) else none
  | _ => none
theorem cr_len {X : Cx} : CallR X (.builtin "len") (rLen X.K) := call_len
theorem on_len : OpN K (rLen K) fLen := fun F H vs ds x l z q => by
  unfold fLen at q
  split at q
  · next d =>
    cases q
    cases z with
    | cons h1 h2 =>
      cases h2
      cases h1 with
      | lst a m => exact .inl ⟨_, .int _, fun Q hq => ⟨_, _, rfl, .inl ⟨_, sqL_of (l _ _ a), m.length.symm⟩, hq⟩⟩
  · next d =>
    cases q
    cases z with
    | cons h1 h2 =>
      cases h2
      cases h1 with
      | tup a m => exact .inl ⟨_, .int _, fun Q hq => ⟨_, _, rfl, .inr ⟨_, sqT_mono l a, m.length.symm⟩, hq⟩⟩
  · next s =>
    split at q
    · next hl =>
      cases q
      cases z with
      | cons h1 h2 =>
        cases h2; cases h1
        exact .inl ⟨_, .int _, fun Q hq => ⟨_, s.length, rfl, ⟨big hl, rfl⟩, hq⟩⟩
    · cases q
  · cases q
/-- int(x) -/
def fInt : List D → Option D
  | [.int i] => some (.int i)
  | [.bl b] => some (.int (if b then 1 else 0))
  | _ => none
def rInt : List V → Hp → VK → Prop := fun xs H Q => (∃ i, xs = [.int i] ∧ Q (.int i) H) ∨ ∃ k, xs = [.bl k] ∧ Q (.int (if k then 1 else 0)) H
theorem cr_int {X : Cx} : CallR X (.type "int") rInt := call_int1
theorem on_int : OpN K rInt fInt := fun F H vs ds x l z q => by
  unfold fInt at q
  split at q
  · next i =>
    cases q
    cases z with
    | cons h1 h2 => cases h2; cases h1; exact .inl ⟨_, .int _, fun Q hq => .inl ⟨i, rfl, hq⟩⟩
  · next b =>
    cases q
    cases z with
    | cons h1 h2 => cases h2; cases h1; exact .inl ⟨_, .int _, fun Q hq => .inr ⟨b, rfl, hq⟩⟩
  · cases q
/-- all, any, sum, min of a list -/
def boolsD : List D → Option (List Bool)
  | [] => some []
  | .bl b :: r => (boolsD r).map (b :: ·)
  | _ :: _ => none
def intsD : List D → Option (List Int)
  | [] => some []
  | .int i :: r => (intsD r).map (i :: ·)
  | _ :: _ => none
theorem bools_V {F : Hp} : ∀ {vs : List V} {ds : List D} {bs : List Bool}, FzL K F vs ds → boolsD ds = some bs → vs = bs.map V.bl
  | _, _, _, .nil, h => by cases h; rfl
  | _, _, bs, .cons (d := d) h l, e => by
    cases h with
    | bl b =>
      unfold boolsD at e
      rename_i vs ds
      cases q : boolsD ds with
      | none => rw [q] at e; cases e
      | some bs' => rw [q] at e; cases e; rw [List.map_cons, bools_V l q]
    | _ => simp [boolsD] at e
theorem ints_V {F : Hp} : ∀ {vs : List V} {ds : List D} {bs : List Int}, FzL K F vs ds → intsD ds = some bs → vs = bs.map V.int
  | _, _, _, .nil, h => by cases h; rfl
  | _, _, bs, .cons (d := d) h l, e => by
    cases h with
    | int b =>
      unfold intsD at e
      rename_i vs ds
      cases q : intsD ds with
      | none => rw [q] at e; cases e
      | some bs' => rw [q] at e; cases e; rw [List.map_cons, ints_V l q]
    | _ => simp [intsD] at e
def fAll : List D → Option D
  | [.lst ds] => (boolsD ds).map fun bs => .bl (bs.all id)
  | _ => none
def fAny : List D → Option D
  | [.lst ds] => (boolsD ds).map fun bs => .bl (bs.any id)
  | _ => none
def fSum : List D → Option D
  | [.lst ds] => (intsD ds).map fun ns => .int ns.sum
  | _ => none
def minL : List Int → Int
  | [] => 0
  | [a] => a
  | a :: r => min a (minL r)
def maxL : List Int → Int
  | [] => 0
  | [a] => a
  | a :: r => max a (maxL r)
def fMin : List D → Option D
  | [.lst ds] => match intsD ds with
    | some (a :: r) => some (.int (minL (a :: r)))
    | _ => none
  | _ => none
def fMax : List D → Option D
  | [.lst ds] => match intsD ds with
    | some (a :: r) => some (.int (maxL (a :: r)))
    | _ => none
  | _ => none
theorem minL_spec : ∀ {l : List Int}, l ≠ [] → minL l ∈ l ∧ ∀ y ∈ l, minL l ≤ y
  | [a], _ => ⟨by simp [minL], by simp [minL]⟩
  | a :: b :: r, _ => by
    obtain ⟨h1, h2⟩ := minL_spec (l := b :: r) (by simp)
    have e : minL (a :: b :: r) = min a (minL (b :: r)) := rfl
    rw [e]
    refine ⟨?_, fun y hy => ?_⟩
    · rcases Int.le_total a (minL (b :: r)) with q | q
      · rw [Int.min_eq_left q]; simp
      · rw [Int.min_eq_right q]; exact List.mem_cons_of_mem _ h1
    · rcases List.mem_cons.mp hy with q | q
      · subst q; exact Int.min_le_left ..
      · exact Int.le_trans (Int.min_le_right ..) (h2 y q)
theorem maxL_spec : ∀ {l : List Int}, l ≠ [] → maxL l ∈ l ∧ ∀ y ∈ l, y ≤ maxL l
  | [a], _ => ⟨by simp [maxL], by simp [maxL]⟩
  | a :: b :: r, _ => by
    obtain ⟨h1, h2⟩ := maxL_spec (l := b :: r) (by simp)
    have e : maxL (a :: b :: r) = max a (maxL (b :: r)) := rfl
    rw [e]
    refine ⟨?_, fun y hy => ?_⟩
    · rcases Int.le_total a (maxL (b :: r)) with q | q
      · rw [Int.max_eq_right q]; exact List.mem_cons_of_mem _ h1
      · rw [Int.max_eq_left q]; simp
    · rcases List.mem_cons.mp hy with q | q
      · subst q; exact Int.le_max_left ..
      · exact Int.le_trans (h2 y q) (Int.le_max_right ..)
theorem on_all : OpN K (rAll K) fAll := fun F H vs ds x l z q => by
  unfold fAll at q
  split at q
  · next d =>
    cases e : boolsD d with
    | none => rw [e] at q; cases q
    | some bs =>
      rw [e] at q; cases q
      cases z with
      | cons h1 h2 =>
        cases h2
        cases h1 with
        | lst a m => exact .inl ⟨_, .bl _, fun Q hq => ⟨_, bs, rfl, by rw [← bools_V m e]; exact sqL_of (l _ _ a), hq⟩⟩
  · cases q
theorem on_any : OpN K (rAny K) fAny := fun F H vs ds x l z q => by
  unfold fAny at q
  split at q
  · next d =>
    cases e : boolsD d with
    | none => rw [e] at q; cases q
    | some bs =>
      rw [e] at q; cases q
      cases z with
      | cons h1 h2 =>
        cases h2
        cases h1 with
        | lst a m => exact .inl ⟨_, .bl _, fun Q hq => ⟨_, bs, rfl, by rw [← bools_V m e]; exact sqL_of (l _ _ a), hq⟩⟩
  · cases q
theorem on_sum : OpN K (rSum K) fSum := fun F H vs ds x l z q => by
  unfold fSum at q
  split at q
  · next d =>
    cases e : intsD d with
    | none => rw [e] at q; cases q
    | some bs =>
      rw [e] at q; cases q
      cases z with
      | cons h1 h2 =>
        cases h2
        cases h1 with
        | lst a m => exact .inl ⟨_, .int _, fun Q hq => ⟨_, bs, rfl, by rw [← ints_V m e]; exact sqL_of (l _ _ a), hq⟩⟩
  · cases q
theorem on_min : OpN K (rMin K) fMin := fun F H vs ds x l z q => by
  unfold fMin at q
  split at q
  · next d =>
    split at q
    · next a0 r e =>
      cases q
      cases z with
      | cons h1 h2 =>
        cases h2
        cases h1 with
        | lst a m =>
          refine .inl ⟨_, .int _, fun Q hq => ⟨_, a0 :: r, rfl, by rw [← ints_V m e]; exact sqL_of (l _ _ a), by simp, fun m hm hle => ?_⟩⟩
          obtain ⟨s1, s2⟩ := minL_spec (l := a0 :: r) (by simp)
          have : m = minL (a0 :: r) := Int.le_antisymm (hle _ s1) (s2 _ hm)
          rw [this]; exact hq
    · cases q
  · cases q
theorem on_max : OpN K (rMax K) fMax := fun F H vs ds x l z q => by
  unfold fMax at q
  split at q
  · next d =>
    split at q
    · next a0 r e =>
      cases q
      cases z with
      | cons h1 h2 =>
        cases h2
        cases h1 with
        | lst a m =>
          refine .inl ⟨_, .int _, fun Q hq => ⟨_, a0 :: r, rfl, by rw [← ints_V m e]; exact sqL_of (l _ _ a), by simp, fun m hm hle => ?_⟩⟩
          obtain ⟨s1, s2⟩ := maxL_spec (l := a0 :: r) (by simp)
          have : m = maxL (a0 :: r) := Int.le_antisymm (s2 _ hm) (hle _ s1)
          rw [this]; exact hq
    · cases q
  · cases q
/-! ### items of data -/
def fIx : D → D → Option D
  | .lst ds, .int k => atI ds k
  | .tup ds, .int k => atI ds k
  | .str z, .int k => if z.length ≤ 100000 then (atI z.cps.toList k).map fun c => .str ⟨#[c]⟩ else none
  | _, _ => none
theorem atI_V {F : Hp} {vs : List V} {ds : List D} {k : Int} {d : D} (l : FzL K F vs ds) (h : atI ds k = some d) : ∃ v, atI vs k = some v ∧ Fz K F v d := by
  unfold atI at h ⊢
  rw [l.length]
  cases q : ixN ds.length k with
  | none => rw [q] at h; cases h
  | some j => rw [q] at h; exact l.get h
theorem os_ix : OpS2 K (rIx K) fIx := fun F H v w d e x l z1 z2 q => by
  unfold fIx at q
  split at q
  · next ds k =>
    cases z2
    cases z1 with
    | lst a m =>
      obtain ⟨y, h1, h2⟩ := atI_V m q
      exact ⟨y, h2, fun Q hq => .inl ⟨_, _, k, y, rfl, rfl, sqL_of (l _ _ a), h1, hq⟩⟩
  · next ds k =>
    cases z2
    cases z1 with
    | tup a m =>
      obtain ⟨y, h1, h2⟩ := atI_V m q
      exact ⟨y, h2, fun Q hq => .inr (.inl ⟨_, _, k, y, rfl, rfl, sqT_mono l a, h1, hq⟩)⟩
  · next z k =>
    split at q
    · next hl =>
      cases e : atI z.cps.toList k with
      | none => rw [e] at q; cases q
      | some c =>
        rw [e] at q; cases q
        cases z1; cases z2
        exact ⟨_, .str _, fun Q hq => .inr (.inr ⟨z, k, c, rfl, rfl, big hl, e, hq⟩)⟩
    · cases q
  · cases q
/-! ### attributes of data -/
def gFld (C : Addr) (f : Str) (ga : DEnv → Rz (D × DEnv)) : DEnv → Rz (D × DEnv) := fun δ => (ga δ).bind fun p => match p.1 with
  | .obj C' fs => if C' = C then (Rz.of (fs.lookup f)).bind fun x => .ok (x, p.2) else .no
  | _ => .no
theorem di_fld {C : Addr} {f : Str} {ga : DEnv → Rz (D × DEnv)} (ha : DI K B ta ga) (hc : Cls K C) (hn : NoAttr K C f) : DI K B (tFld K ta f) (gFld C f ga) := fun c R δ σ F H s Q q => by
  unfold gFld at q
  rw [Rz.post_bind] at q
  refine ha c R δ σ F H s _ (Rz.post_mono q (fun p q1 v F1 H1 s1 l1 h1 z1 => ?_) fun _ z => z)
  obtain ⟨d, δ1⟩ := p
  cases z1 with
  | obj h en l =>
    rename_i a C' dx fs ds
    dsimp only at q1
    by_cases hC : C' = C
    · rw [if_pos hC, Rz.post_bind] at q1
      subst hC
      obtain ⟨x, e, q1⟩ := Rz.post_of q1
      obtain ⟨i, i1, i2⟩ := lookup_ix f e
      obtain ⟨v, v1, v2⟩ := l.get i1
      exact ⟨a, C', dx, fs, v, rfl, s1.sub _ _ h, hc, hn, by rw [(i2 en.symm).1]; exact v1, q1 v F1 H1 s1 l1 h1 v2⟩
    · rw [if_neg hC] at q1; exact q1.elim
  | _ => exact q1.elim
/-! ### isinstance -/
/-- the name of a value's type -/
def D.tyN : D → Option String
  | .non => some "NoneType"
  | .bl _ => some "bool"
  | .int _ => some "int"
  | .str _ => some "str"
  | .lst _ => some "list"
  | .tup _ => some "tuple"
  | .dk _ => some "dict"
  | .dt _ => some "dict"
  | _ => none
theorem tyX_of {F H : Hp} {v : V} {d : D} {t : String} (l : Le F H) (z : Fz K F v d) (h : d.tyN = some t) : TyX K H v (.type t) := by
  cases z with
  | non => cases h; exact .base .non
  | bl b => cases h; exact .base (.bl b)
  | int i => cases h; exact .base (.int i)
  | str s => cases h; exact .base (.str s)
  | lst a m => cases h; exact .base (.lst (l _ _ a))
  | dk a _ m => cases h; exact .base (.dK (l _ _ a))
  | dt a _ m => cases h; exact .base (.dT (l _ _ a))
  | tup a m =>
    cases h
    rcases a with (a | ⟨o, a⟩) | ⟨o, its, n, h1, h2, _⟩
    · exact .base (.tup (l _ _ a))
    · exact .fTuple (l _ _ a)
    · exact .kTuple h1 h2
  | _ => cases h
/-- f answers isinstance(x, T) -/
def IsT (T : String) (f : D → Option Bool) : Prop := ∀ d b, f d = some b → ∃ t, d.tyN = some t ∧ kitB t T = some b
def isInt : D → Option Bool
  | .int _ => some true
  | .bl _ => some true
  | .non => some false
  | .str _ => some false
  | .lst _ => some false
  | .tup _ => some false
  | _ => none
def isBool : D → Option Bool
  | .bl _ => some true
  | .int _ => some false
  | .non => some false
  | .str _ => some false
  | .lst _ => some false
  | .tup _ => some false
  | _ => none
def isStr : D → Option Bool
  | .str _ => some true
  | .bl _ => some false
  | .int _ => some false
  | .non => some false
  | .lst _ => some false
  | .tup _ => some false
  | _ => none
def isTup : D → Option Bool
  | .tup _ => some true
  | .str _ => some false
  | .bl _ => some false
  | .int _ => some false
  | .non => some false
  | .lst _ => some false
  | _ => none
def isSeq : D → Option Bool
  | .tup _ => some true
  | .lst _ => some true
  | .str _ => some false
  | .bl _ => some false
  | .int _ => some false
  | .non => some false
  | _ => none
theorem isInt_T : IsT "int" isInt := fun d b h => by cases d <;> cases h <;> exact ⟨_, rfl, by decide +kernel⟩
theorem isBool_T : IsT "bool" isBool := fun d b h => by cases d <;> cases h <;> exact ⟨_, rfl, by decide +kernel⟩
theorem isStr_T : IsT "str" isStr := fun d b h => by cases d <;> cases h <;> exact ⟨_, rfl, by decide +kernel⟩
theorem isTup_T : IsT "tuple" isTup := fun d b h => by cases d <;> cases h <;> exact ⟨_, rfl, by decide +kernel⟩
def gIs (f : D → Option Bool) (ga : DEnv → Rz (D × DEnv)) : DEnv → Rz (D × DEnv) := fun δ => (ga δ).bind fun p => (Rz.of (f p.1)).bind fun b => .ok (.bl b, p.2)
theorem di_isi {T : String} {f : D → Option Bool} {ga : DEnv → Rz (D × DEnv)} (hf : IsT T f) (ha : DI K B ta ga) : DI K B (tCB (rIsi K) (tCons ta (tCons (tC (.ty T)) tNil))) (gIs f ga) := fun c R δ σ F H s Q q => by
  unfold gIs at q
  rw [Rz.post_bind] at q
  refine ha c R δ σ F H s _ (Rz.post_mono q (fun p q v F1 H1 s1 l1 h1 z1 => ?_) fun _ z => z)
  rw [Rz.post_bind] at q
  obtain ⟨b, e, q⟩ := Rz.post_of q
  obtain ⟨t, ht, hk⟩ := hf _ _ e
  exact ⟨v, .ty T, .type t, .type T, b, rfl, .ty T, tyX_of s1.sub z1 ht, kit_ty hk, q (.bl b) F1 H1 s1 l1 h1 (.bl b)⟩
theorem isSeq_T (d : D) (b : Bool) (h : isSeq d = some b) : ∃ t, d.tyN = some t ∧ PySem.W.kitAny K (.type t) [.type "list", .type "tuple"] = some b := by
  cases d <;> cases h <;> refine ⟨_, rfl, ?_⟩
  all_goals first
    | exact kitAny_cons (b := true) (kit_ty (by decide +kernel)) (fun h => nomatch h) (fun _ => rfl)
    | exact kitAny_cons (b := false) (kit_ty (by decide +kernel)) (fun _ => kitAny_cons (b := true) (kit_ty (by decide +kernel)) (fun h => nomatch h) (fun _ => rfl)) (fun h => nomatch h)
    | exact kitAny_cons (b := false) (kit_ty (by decide +kernel)) (fun _ => kitAny_cons (b := false) (kit_ty (by decide +kernel)) (fun _ => kitAny_nil) (fun h => nomatch h)) (fun h => nomatch h)
theorem di_isSeq {ga : DEnv → Rz (D × DEnv)} (ha : DI K B ta ga) : DI K B (tCB (rIsiT K) (tCons ta (tCons (tTup (tCons (tC (.ty "list")) (tCons (tC (.ty "tuple")) tNil))) tNil))) (gIs isSeq ga) := fun c R δ σ F H s Q q => by
  unfold gIs at q
  rw [Rz.post_bind] at q
  refine ha c R δ σ F H s _ (Rz.post_mono q (fun p q v F1 H1 s1 l1 h1 z1 => ?_) fun _ z => z)
  rw [Rz.post_bind] at q
  obtain ⟨b, e, q⟩ := Rz.post_of q
  obtain ⟨t, ht, hk⟩ := isSeq_T (K := K) _ _ e
  refine ⟨by show 2 ≤ sizeLine; decide, fun p hp => ?_⟩
  refine ⟨v, p, _, .type t, [.type "list", .type "tuple"], b, rfl, upd_same, .cons (.ty _) (.cons (.ty _) .nil), tyX_of (Le.trans s1.sub (Le.new hp)) z1 ht, hk, ?_⟩
  exact q (.bl b) (upd F1 p _) _ (s1.new hp fun z => z) (l1.trans (Le.new (s1.fresh hp))) (h1.trans (.of (.new hp))) (.bl b)
/-! ### slices of lists, truth -/
def cutD (ds : List D) (lo hi : Option Int) : List D := (ds.drop (HT.sIx ds.length 0 lo)).take (HT.sIx ds.length ds.length hi - HT.sIx ds.length 0 lo)
theorem FzL.cut {F : Hp} {vs : List V} {ds : List D} (l : FzL K F vs ds) (lo hi : Option Int) : FzL K F (cutV vs lo hi) (cutD ds lo hi) := by
  unfold cutV cutD
  rw [l.length]
  exact (l.drop _).take _
/-- a slice's part -/
def DO (K : PySem.W.Frag) {TB : List (Addr × Str)} (B : XKt TB) (to : TO) (g : DEnv → Rz (Option Int × DEnv)) : Prop := ∀ (c : Cn TB) (R : Addr → Prop) (δ : DEnv) (σ : L2.St) (F H : Hp), Sim K c R δ σ F H → ∀ Q : Option Int → Hp → Prop,
  (g δ).post (fun p => ∀ F' H', Sim K c R p.2 σ F' H' → Le F F' → Held R H H' → Q p.1 H') (Wish K B c) → to σ H Q
theorem do_none : DO K B tNoPart (fun δ => .ok (none, δ)) := fun c R δ σ F H s Q q => q F H s (Le.refl F) Held.refl
def gPart (ga : DEnv → Rz (D × DEnv)) : DEnv → Rz (Option Int × DEnv) := fun δ => (ga δ).bind fun p => match p.1 with
  | .int i => .ok (some i, p.2)
  | _ => .no
theorem do_some {ga : DEnv → Rz (D × DEnv)} (ha : DI K B ta ga) : DO K B (tPart ta) (gPart ga) := fun c R δ σ F H s Q q => by
  unfold gPart at q
  rw [Rz.post_bind] at q
  refine ha c R δ σ F H s _ (Rz.post_mono q (fun p q1 v F1 H1 s1 l1 h1 z1 => ?_) fun _ z => z)
  obtain ⟨d, δ1⟩ := p
  cases z1 with
  | int i => exact ⟨i, rfl, q1 F1 H1 s1 l1 h1⟩
  | _ => exact q1.elim
def gSlL (ga : DEnv → Rz (D × DEnv)) (gl gh : DEnv → Rz (Option Int × DEnv)) : DEnv → Rz (O × DEnv) := fun δ => (ga δ).bind fun p => (gl p.2).bind fun q => (gh q.2).bind fun r => match p.1 with
  | .lst ds => .ok (.lst ((cutD ds q.1 r.1).map .fz), r.2)
  | .scr ds => .ok (.lst ((cutD ds q.1 r.1).map .fz), r.2)
  | _ => .no
theorem df_slL {tl th : TO} {ga : DEnv → Rz (D × DEnv)} {gl gh : DEnv → Rz (Option Int × DEnv)} (ha : DI K B ta ga) (hl : DO K B tl gl) (hh : DO K B th gh) : DF K B (tSl (rSlL K) ta tl th) (gSlL ga gl gh) := fun c R δ σ F H s Q q => by
  unfold gSlL at q
  rw [Rz.post_bind] at q
  refine ha c R δ σ F H s _ (Rz.post_mono q (fun p q v F1 H1 s1 l1 h1 z1 => ?_) fun _ z => z)
  rw [Rz.post_bind] at q
  refine hl c R p.2 σ F1 H1 s1 _ (Rz.post_mono q (fun x q F2 H2 s2 l2 h2 => ?_) fun _ z => z)
  rw [Rz.post_bind] at q
  refine hh c R x.2 σ F2 H2 s2 _ (Rz.post_mono q (fun y q F3 H3 s3 l3 h3 => ?_) fun _ z => z)
  obtain ⟨d, δ1⟩ := p
  have z3 := z1.mono (l2.trans l3)
  cases z3 with
  | lst a m =>
    refine ⟨_, _, rfl, sqL_of (s3.sub _ _ a), fun p hp => ?_⟩
    obtain ⟨s4, n, w⟩ := s3.newList hp (m.cut x.1 y.1)
    exact q _ F3 _ _ s4 n ((l1.trans l2).trans l3) (((h1.trans h2).trans h3).trans (.of (.new hp))) w
  | scr a m =>
    refine ⟨_, _, rfl, sqL_mono s3.sub a, fun p hp => ?_⟩
    obtain ⟨s4, n, w⟩ := s3.newList hp (m.cut x.1 y.1)
    exact q _ F3 _ _ s4 n ((l1.trans l2).trans l3) (((h1.trans h2).trans h3).trans (.of (.new hp))) w
  | _ => exact q.elim
/-- truth of data -/
def truD : D → Option Bool
  | .non => some false
  | .bl b => some b
  | .int i => some (i != 0)
  | .lst ds => some (!ds.isEmpty)
  | .tup ds => some (!ds.isEmpty)
  | _ => none
def gTru (ga : DEnv → Rz (D × DEnv)) : DEnv → Rz (Bool × DEnv) := fun δ => (ga δ).bind fun p => (Rz.of (truD p.1)).bind fun b => .ok (b, p.2)
theorem dt_tru {ga : DEnv → Rz (D × DEnv)} (ha : DI K B ta ga) : DT K B (fun σ H Q => ta σ H fun x H' => ∃ k, TruV K x H' k ∧ Q k H') (gTru ga) := fun c R δ σ F H s Q q => by
  unfold gTru at q
  rw [Rz.post_bind] at q
  refine ha c R δ σ F H s _ (Rz.post_mono q (fun p q v F1 H1 s1 l1 h1 z1 => ?_) fun _ z => z)
  rw [Rz.post_bind] at q
  obtain ⟨b, e, q⟩ := Rz.post_of q
  obtain ⟨d, δ1⟩ := p
  refine ⟨b, ?_, q F1 H1 s1 l1 h1⟩
  cases z1 with
  | non => cases e; rfl
  | bl b => cases e; rfl
  | int i => cases e; rfl
  | lst a m => cases e; exact .inl ⟨_, sqL_of (s1.sub _ _ a), by rw [isEmpty_len m.length]⟩
  | tup a m => cases e; exact .inr (.inl ⟨_, sqT_mono s1.sub a, by rw [isEmpty_len m.length]⟩)
  | _ => cases e
end
end DL

/-! DLA: statements as functions. -/
namespace DL
open PySem L2

inductive Out where
  | nx (δ : DEnv) | rt (o : O) (δ : DEnv) | bk (δ : DEnv) | ct (δ : DEnv)
abbrev Run := DEnv → Rz Out
def Out.to (de : DEnds) : Out → Prop
  | .nx δ => de.nx δ
  | .rt o δ => de.rt o δ
  | .bk δ => de.bk δ
  | .ct δ => de.ct δ
def lift (f : Run) : DTS := fun de δ => (f δ).post (Out.to de) de.er
section
variable {K : PySem.W.Frag} {TB : List (Addr × Str)} {B : XKt TB} {pin : List Nat}
/-- a statement's reading does what the function tells -/
def RS (K : PySem.W.Frag) {TB : List (Addr × Str)} (B : XKt TB) (pin : List Nat) (t : TS) (f : Run) : Prop := DS K B pin t (lift f)
theorem DS.imp {t : TS} {T U : DTS} (h : DS K B pin t T) (e : ∀ de δ, U de δ → T de δ) : DS K B pin t U := fun c δ σ F H D de hp s q r => h c δ σ F H D de hp s (e de δ q) r
def rNext : Run := fun δ => .ok (.nx δ)
theorem rs_next : RS K B pin tNext rNext := ds_next.imp fun _ _ h => h
def rBreak : Run := fun δ => .ok (.bk δ)
theorem rs_break : RS K B pin tBreak rBreak := ds_break.imp fun _ _ h => h
def rCont : Run := fun δ => .ok (.ct δ)
theorem rs_cont : RS K B pin tCont rCont := ds_cont.imp fun _ _ h => h
def rNever : Run := fun _ => .no
theorem rs_never : RS K B pin tNever rNever := ds_never.imp fun _ _ h => h
def rSeq (f g : Run) : Run := fun δ => (f δ).bind fun o => match o with
  | .nx δ' => g δ'
  | .rt o δ' => .ok (.rt o δ')
  | .bk δ' => .ok (.bk δ')
  | .ct δ' => .ok (.ct δ')
theorem rs_seq {t u : TS} {f g : Run} (h1 : RS K B pin t f) (h2 : RS K B pin u g) : RS K B pin (tSeq t u) (rSeq f g) := (ds_seq h1 h2).imp fun de δ h => by
  unfold lift rSeq at h
  rw [Rz.post_bind] at h
  refine Rz.post_mono h (fun o q => ?_) fun _ z => z
  cases o with
  | nx δ' => exact q
  | rt o δ' => exact q
  | bk δ' => exact q
  | ct δ' => exact q
variable {te ta tb ti to : TE} {tt : TT}
def rDrop (g : DEnv → Rz (D × DEnv)) : Run := fun δ => (g δ).bind fun p => .ok (.nx p.2)
theorem rs_drop {g : DEnv → Rz (D × DEnv)} (h : DI K B te g) : RS K B pin (tDrop te) (rDrop g) := (ds_drop h).imp fun de δ h => by
  unfold lift rDrop at h
  rw [Rz.post_bind] at h
  exact h
def rRet (g : DEnv → Rz (O × DEnv)) : Run := fun δ => (g δ).bind fun p => .ok (.rt p.1 p.2)
theorem rs_ret {g : DEnv → Rz (O × DEnv)} (h : DF K B te g) : RS K B pin (tRet te) (rRet g) := (ds_ret h).imp fun de δ h => by
  unfold lift rRet at h
  rw [Rz.post_bind] at h
  exact h
def rRetN : Run := fun δ => .ok (.rt (.fz .non) δ)
theorem rs_retN : RS K B pin tRetN rRetN := ds_retN.imp fun _ _ h => h
def rIf (g : DEnv → Rz (Bool × DEnv)) (f u : Run) : Run := fun δ => (g δ).bind fun p => if p.1 = true then f p.2 else u p.2
theorem rs_if {g : DEnv → Rz (Bool × DEnv)} {t u : TS} {f f' : Run} (hc : DT K B tt g) (h1 : RS K B pin t f) (h2 : RS K B pin u f') : RS K B pin (tIfS tt t u) (rIf g f f') := (ds_if hc h1 h2).imp fun de δ h => by
  unfold lift rIf at h
  rw [Rz.post_bind] at h
  refine Rz.post_mono h (fun p q => ?_) fun _ z => z
  by_cases e : p.1 = true
  · rw [if_pos e] at q ⊢; exact q
  · rw [if_neg e] at q ⊢; exact q
def rSet (i : Nat) (g : DEnv → Rz (O × DEnv)) : Run := fun δ => (g δ).bind fun p => .ok (.nx (p.2.set i (some p.1)))
theorem rs_set {i : Nat} {g : DEnv → Rz (O × DEnv)} (h : DF K B te g) (hi : i ∉ pin) : RS K B pin (tAsg te (gName i)) (rSet i g) := (ds_set h hi).imp fun de δ h => by
  unfold lift rSet at h
  rw [Rz.post_bind] at h
  exact h
def rAsg (g : DEnv → Rz (D × DEnv)) (t : D → DEnv → Option DEnv) : Run := fun δ => (g δ).bind fun p => (Rz.of (t p.1 p.2)).bind fun δ' => .ok (.nx δ')
theorem rs_asg {ts : List Nat} {gt : TG} {g : DEnv → Rz (D × DEnv)} {t : D → DEnv → Option DEnv} (h : DI K B te g) (hg : DG K ts pin gt t) : RS K B pin (tAsg te gt) (rAsg g t) := (ds_asg h hg).imp fun de δ h => by
  unfold lift rAsg at h
  rw [Rz.post_bind] at h
  refine Rz.post_mono h (fun p q => ?_) fun _ z => z
  rw [Rz.post_bind] at q
  cases e : t p.1 p.2 with
  | none => rw [e] at q; exact q.elim
  | some δ' => rw [e] at q; exact q
/-- one turn more -/
def loopR (o : Out) (k : Run) : Rz Out := match o with
  | .nx δ => k δ
  | .ct δ => k δ
  | .bk δ => .ok (.nx δ)
  | .rt o δ => .ok (.rt o δ)
def forR (t : D → DEnv → Option DEnv) (f : Run) : List D → Run
  | [], δ => .ok (.nx δ)
  | d :: r, δ => (Rz.of (t d δ)).bind fun δ' => (f δ').bind fun o => loopR o (forR t f r)
def rFor (g : DEnv → Rz (List D × DEnv)) (t : D → DEnv → Option DEnv) (f : Run) : Run := fun δ => (g δ).bind fun p => forR t f p.1 p.2
theorem forR_L {t : D → DEnv → Option DEnv} {f : Run} {de : DEnds} : ∀ (ds : List D) (δ : DEnv), lift (forR t f ds) de δ → forL t (lift f) de ds δ
  | [], δ, h => h
  | d :: r, δ, h => by
    unfold lift forR at h
    rw [Rz.post_bind] at h
    unfold forL
    cases e : t d δ with
    | none => rw [e] at h; exact h.elim
    | some δ' =>
      rw [e] at h
      show lift f _ δ'
      replace h : ((f δ').bind fun o => loopR o (forR t f r)).post (Out.to de) de.er := h
      rw [Rz.post_bind] at h
      refine Rz.post_mono h (fun o q => ?_) fun _ z => z
      cases o with
      | nx δ2 => exact forR_L r δ2 q
      | ct δ2 => exact forR_L r δ2 q
      | bk δ2 => exact q
      | rt o δ2 => exact q
theorem rs_for {ts : List Nat} {wi : TI} {gt : TG} {t : TS} {g : DEnv → Rz (List D × DEnv)} {tg : D → DEnv → Option DEnv} {f : Run} (hi : DW K B wi g) (hg : DG K ts pin gt tg) (hb : RS K B pin t f) : RS K B pin (tFor wi gt t) (rFor g tg f) := (ds_for hi hg hb).imp fun de δ h => by
  unfold lift rFor at h
  rw [Rz.post_bind] at h
  exact Rz.post_mono h (fun p q => forR_L p.1 p.2 q) fun _ z => z
/-- a while, with so many turns -/
def whileK (g : DEnv → Rz (Bool × DEnv)) (f : Run) : Nat → Run
  | 0, _ => .no
  | n + 1, δ => (g δ).bind fun p => if p.1 = true then (f p.2).bind fun o => loopR o (whileK g f n) else .ok (.nx p.2)
theorem whileK_N {g : DEnv → Rz (Bool × DEnv)} {f : Run} {de : DEnds} : ∀ (n : Nat) (δ : DEnv), lift (whileK g f n) de δ → whileN g (lift f) de n δ
  | 0, δ, h => h
  | n + 1, δ, h => by
    unfold lift whileK at h
    rw [Rz.post_bind] at h
    unfold whileN
    refine Rz.post_mono h (fun p q => ?_) fun _ z => z
    by_cases e : p.1 = true
    · rw [if_pos e] at q ⊢
      rw [Rz.post_bind] at q
      refine Rz.post_mono q (fun o q => ?_) fun _ z => z
      cases o with
      | nx δ2 => exact whileK_N n δ2 q
      | ct δ2 => exact whileK_N n δ2 q
      | bk δ2 => exact q
      | rt o δ2 => exact q
    · rw [if_neg e] at q ⊢; exact q
theorem whileK_mono {g : DEnv → Rz (Bool × DEnv)} {f : Run} : ∀ (n m : Nat) (δ : DEnv), n ≤ m → whileK g f n δ ≠ .no → whileK g f m δ = whileK g f n δ
  | 0, _, _, _, h => absurd rfl h
  | n + 1, 0, _, h, _ => absurd h (by omega)
  | n + 1, m + 1, δ, h, hn => by
    unfold whileK at hn ⊢
    cases e : g δ with
    | no => rfl
    | er x => rfl
    | ok p =>
      rw [e] at hn
      simp only [Rz.bind_ok] at hn ⊢
      by_cases c : p.1 = true
      · rw [if_pos c] at hn ⊢
        rw [if_pos c]
        cases e2 : f p.2 with
        | no => rfl
        | er x => rfl
        | ok o =>
          rw [e2] at hn
          simp only [Rz.bind_ok] at hn ⊢
          cases o with
          | nx δ2 => exact whileK_mono n m δ2 (by omega) hn
          | ct δ2 => exact whileK_mono n m δ2 (by omega) hn
          | bk δ2 => rfl
          | rt o δ2 => rfl
      · rw [if_neg c]
        rw [if_neg c]
open Classical in
/-- a while: what enough turns give -/
noncomputable def rWhile (g : DEnv → Rz (Bool × DEnv)) (f : Run) : Run := fun δ => if h : ∃ n, whileK g f n δ ≠ .no then whileK g f h.choose δ else .no
theorem rWhile_at {g : DEnv → Rz (Bool × DEnv)} {f : Run} {δ : DEnv} {n : Nat} (h : whileK g f n δ ≠ .no) : rWhile g f δ = whileK g f n δ := by
  unfold rWhile
  have e : ∃ n, whileK g f n δ ≠ .no := ⟨n, h⟩
  rw [dif_pos e]
  rcases Nat.le_total n e.choose with q | q
  · exact whileK_mono n _ δ q h
  · exact (whileK_mono _ n δ q e.choose_spec).symm
/-- one turn -/
theorem rWhile_eq (g : DEnv → Rz (Bool × DEnv)) (f : Run) (δ : DEnv) : rWhile g f δ = (g δ).bind fun p => if p.1 = true then (f p.2).bind fun o => loopR o (rWhile g f) else .ok (.nx p.2) := by
  have key : ∀ n, whileK g f (n + 1) δ ≠ .no → whileK g f (n + 1) δ = (g δ).bind fun p => if p.1 = true then (f p.2).bind fun o => loopR o (rWhile g f) else .ok (.nx p.2) := by
    intro n hn
    unfold whileK at hn ⊢
    cases e : g δ with
    | no => rfl
    | er x => rfl
    | ok p =>
      rw [e] at hn
      simp only [Rz.bind_ok] at hn ⊢
      by_cases c : p.1 = true
      · rw [if_pos c] at hn
        rw [if_pos c, if_pos c]
        cases e2 : f p.2 with
        | no => rfl
        | er x => rfl
        | ok o =>
          rw [e2] at hn
          simp only [Rz.bind_ok] at hn ⊢
          cases o with
          | nx δ2 => exact (rWhile_at hn).symm
          | ct δ2 => exact (rWhile_at hn).symm
          | bk δ2 => rfl
          | rt o δ2 => rfl
      · rw [if_neg c, if_neg c]
  by_cases h : ∃ n, whileK g f n δ ≠ .no
  · obtain ⟨n, hn⟩ := h
    rw [rWhile_at hn]
    cases n with
    | zero => exact absurd rfl hn
    | succ n => exact key n hn
  · have e : rWhile g f δ = .no := by unfold rWhile; rw [dif_neg h]
    rw [e]
    have all : ∀ n, whileK g f n δ = .no := fun n => Classical.byContradiction fun z => h ⟨n, z⟩
    cases e1 : g δ with
    | no => rfl
    | er x =>
      have := all 1
      unfold whileK at this
      rw [e1] at this; cases this
    | ok p =>
      simp only [Rz.bind_ok]
      by_cases c : p.1 = true
      · rw [if_pos c]
        cases e2 : f p.2 with
        | no => rfl
        | er x =>
          have := all 1
          unfold whileK at this
          rw [e1] at this
          simp only [Rz.bind_ok] at this
          rw [if_pos c, e2] at this; cases this
        | ok o =>
          simp only [Rz.bind_ok]
          have step : ∀ n, loopR o (whileK g f n) = .no := fun n => by
            have := all (n + 1)
            unfold whileK at this
            rw [e1] at this
            simp only [Rz.bind_ok] at this
            rw [if_pos c, e2] at this
            exact this
          have lim : ∀ δ2, (∀ n, whileK g f n δ2 = .no) → rWhile g f δ2 = .no := fun δ2 hh => by
            unfold rWhile
            rw [dif_neg]
            rintro ⟨n, hn⟩
            exact hn (hh n)
          cases o with
          | nx δ2 => exact (lim δ2 step).symm
          | ct δ2 => exact (lim δ2 step).symm
          | bk δ2 => exact absurd (step 0) (by simp [loopR])
          | rt o δ2 => exact absurd (step 0) (by simp [loopR])
      · have := all 1
        unfold whileK at this
        rw [e1] at this
        simp only [Rz.bind_ok] at this
        rw [if_neg c] at this; cases this
theorem rs_while {g : DEnv → Rz (Bool × DEnv)} {t : TS} {f : Run} (hc : DT K B tt g) (hb : RS K B pin t f) : RS K B pin (tWhile tt t) (rWhile g f) := (ds_while hc hb).imp fun de δ h => by
  unfold lift at h
  by_cases e : ∃ n, whileK g f n δ ≠ .no
  · obtain ⟨n, hn⟩ := e
    rw [rWhile_at hn] at h
    exact ⟨n, whileK_N n δ h⟩
  · have e2 : rWhile g f δ = .no := by unfold rWhile; rw [dif_neg e]
    rw [e2] at h
    exact h.elim
/-! ### what changes a tree -/
def appR (i : Nat) (o : O) (δ : DEnv) : Rz Out := match δ[i]? with
  | some (some (.lst os)) => if os.length < 100000 then .ok (.nx (δ.set i (some (.lst (os ++ [o]))))) else .no
  | _ => .no
def rApp (i : Nat) (g : DEnv → Rz (O × DEnv)) : Run := fun δ => match δ[i]? with
  | some (some (.lst _)) => (g δ).bind fun p => appR i p.1 p.2
  | _ => .no
theorem rs_app {i : Nat} {g : DEnv → Rz (O × DEnv)} (h : DF K B te g) : RS K B pin (tDrop (tBM K "list" rAppend (tVar i) (tCons te tNil))) (rApp i g) := (ds_app (i := i) h).imp fun de δ h => by
  unfold lift rApp at h
  unfold dApp
  split at h
  · next os e =>
    rw [Rz.post_bind] at h
    try simp only [e]
    refine Rz.post_mono h (fun p q => ?_) fun _ z => z
    unfold appR at q
    split at q
    · next os' e' =>
      try simp only [e']
      split at q
      · next hl => exact ⟨hl, q⟩
      · exact q.elim
    · exact q.elim
  · exact h.elim
def rAppP (i : Nat) (p : DEnv → Option (List Step × O)) (f : DEnv → Option D) : Run := fun δ => match p δ, f δ with
  | some (π, .lst os), some d => if os.length < 100000 then .ok (.nx (putAt δ i π (.lst (os ++ [.fz d])))) else .no
  | _, _ => .no
theorem rs_appP {i : Nat} {p : DEnv → Option (List Step × O)} {f : DEnv → Option D} (hp : PL K ta i p) (h : SX K te f) : RS K B pin (tDrop (tBM K "list" rAppend ta (tCons te tNil))) (rAppP i p f) := (ds_appP hp h).imp fun de δ h => by
  unfold lift rAppP at h
  unfold dAppP
  split at h
  · next π os d e1 e2 =>
    try simp only [e1, e2]
    split at h
    · next hl => exact ⟨hl, h⟩
    · exact h.elim
  · exact h.elim
def rSetIx (i : Nat) (g gi : DEnv → Rz (D × DEnv)) : Run := fun δ => (g δ).bind fun p => match p.2[i]? with
  | some (some (.lst _)) => (gi p.2).bind fun q => match q.2[i]?, q.1 with
    | some (some (.lst os)), .int k => match ixN os.length k with
      | some j => .ok (.nx (q.2.set i (some (.lst (os.set j (.fz p.1))))))
      | none => .no
    | _, _ => .no
  | _ => .no
theorem rs_setIx {i : Nat} {g gi : DEnv → Rz (D × DEnv)} (h : DI K B te g) (hi : DI K B ti gi) : RS K B pin (tAsg te (gSub (tVar i) ti rSetL)) (rSetIx i g gi) := (ds_setIx (i := i) h hi).imp fun de δ h => by
  unfold lift rSetIx at h
  unfold dSetIx
  rw [Rz.post_bind] at h
  refine Rz.post_mono h (fun p q => ?_) fun _ z => z
  split at q
  · next os0 e0 =>
    rw [Rz.post_bind] at q
    try simp only [e0]
    refine Rz.post_mono q (fun p' q => ?_) fun _ z => z
    split at q
    · next os k e1 e2 =>
      try simp only [e1, e2]
      split at q
      · next j ej => (try simp only [ej]); exact q
      · exact q.elim
    · exact q.elim
  · exact q.elim
def rAug (i : Nat) (f : D → D → Option D) (g : DEnv → Rz (D × DEnv)) : Run := fun δ => match δ[i]? with
  | some (some (.fz d)) => (g δ).bind fun p => (Rz.of (f d p.1)).bind fun x => .ok (.nx (p.2.set i (some (.fz x))))
  | _ => .no
theorem rs_aug {i : Nat} {r2 : TIp} {f : D → D → Option D} {g : DEnv → Rz (D × DEnv)} (o : Op2 K r2 f) (h : DI K B te g) (hi : i ∉ pin) : RS K B pin (tAug i te r2) (rAug i f g) := (ds_aug o h hi).imp fun de δ h => by
  unfold lift rAug at h
  unfold dAug
  split at h
  · next d e =>
    rw [Rz.post_bind] at h
    try simp only [e]
    refine Rz.post_mono h (fun p q => ?_) fun _ z => z
    cases ex : f d p.1 with
    | none => rw [ex] at q; exact q.elim
    | some x => rw [ex] at q; exact q
  · exact h.elim
def rAugIx (i : Nat) (p : DEnv → Option (List Step × O)) (fi f : DEnv → Option D) (op : D → D → Option D) : Run := fun δ => match p δ, fi δ, f δ with
  | some (π, .lst os), some (.int k), some e => match ixN os.length k with
    | some j => match os[j]? with
      | some (.fz d) => (Rz.of (op d e)).bind fun x => .ok (.nx (putAt δ i π (.lst (os.set j (.fz x)))))
      | _ => .no
    | none => .no
  | _, _, _ => .no
theorem rs_augIx {i : Nat} {p : DEnv → Option (List Step × O)} {r2 : TIp} {fi f : DEnv → Option D} {op : D → D → Option D} (o : OpS2 K r2 op) (hp : PL K to i p) (hi : SX K ti fi) (h : SX K te f) :
    RS K B pin (tAugS to ti te (fun x y H Q => rIxL K x y H Q) r2 rSetL) (rAugIx i p fi f op) := (ds_augIx o hp hi h).imp fun de δ h => by
  unfold lift rAugIx at h
  unfold dAugIx
  split at h
  · next π os k e e1 e2 e3 =>
    try simp only [e1, e2, e3]
    split at h
    · next j ej =>
      try simp only [ej]
      split at h
      · next d ed =>
        try simp only [ed]
        cases ex : op d e with
        | none => rw [ex] at h; exact h.elim
        | some x => rw [ex] at h; exact h
      · exact h.elim
    · exact h.elim
  · exact h.elim
def attrR (C : Addr) (f : Str) (i : Nat) (o : O) (δ : DEnv) : Rz Out := match δ[i]? with
  | some (some (.ins C' fs)) => if C' = C ∧ fs.length < 1000 then .ok (.nx (δ.set i (some (.ins C' (putA f o fs))))) else .no
  | _ => .no
def rAttr (C : Addr) (f : Str) (i : Nat) (g : DEnv → Rz (O × DEnv)) : Run := fun δ => (g δ).bind fun p => attrR C f i p.1 p.2
theorem rs_attr {i : Nat} {C : Addr} {f : Str} {g : DEnv → Rz (O × DEnv)} (h : DF K B te g) (hc : Cls K C) (hn : NoAttr K C f) : RS K B pin (sFld K (tVar i) te f) (rAttr C f i g) := (ds_attr (i := i) h hc hn).imp fun de δ h => by
  unfold lift rAttr at h
  unfold dAttr
  rw [Rz.post_bind] at h
  refine Rz.post_mono h (fun p q => ?_) fun _ z => z
  unfold attrR at q
  split at q
  · next C' fs e =>
    try simp only [e]
    split at q
    · next hc => exact ⟨hc.1, hc.2, q⟩
    · exact q.elim
  · exact q.elim
/-! ### a def -/
def finR (pin : List Nat) : Out → Rz (O × List O)
  | .nx δ => (Rz.of (alO δ pin)).bind fun ps => .ok (.fz .non, ps)
  | .rt o δ => (Rz.of (alO δ pin)).bind fun ps => .ok (o, ps)
  | _ => .no
/-- what a def does: N slots, n parameters, those at pin handed back -/
def phi (N n : Nat) (pin : List Nat) (f : Run) : List O → Rz (O × List O) := fun os => if os.length = n then (f (dInit N os)).bind (finR pin) else .no
end
section
variable {P : Program} {w : World} {K : PySem.W.Frag} {mg : Str → Option Value} {base : Heap}
theorem lift_T {pin : List Nat} {r : Run} {M n : Nat} : ∀ os : List O, os.length = n → phi M n pin r os ≠ .no → lift r (dEnds pin (phi M n pin r os)) (dInit M os) := fun os hl hno => by
  unfold phi at hno ⊢
  rw [if_pos hl] at hno ⊢
  unfold lift
  cases e : r (dInit M os) with
  | no => rw [e] at hno; exact absurd rfl hno
  | er x => rfl
  | ok o =>
    rw [e] at hno
    simp only [Rz.bind_ok] at hno ⊢
    cases o with
    | nx δ =>
      replace hno : (Rz.of (alO δ pin)).bind (fun ps => Rz.ok (O.fz D.non, ps)) ≠ .no := hno
      cases e2 : alO δ pin with
      | none => rw [e2] at hno; exact absurd rfl hno
      | some ps => exact ⟨ps, by show (Rz.of (alO δ pin)).bind _ = _; rw [e2]; rfl, alO_map e2⟩
    | rt o δ =>
      replace hno : (Rz.of (alO δ pin)).bind (fun ps => Rz.ok (o, ps)) ≠ .no := hno
      cases e2 : alO δ pin with
      | none => rw [e2] at hno; exact absurd rfl hno
      | some ps => exact ⟨ps, by show (Rz.of (alO δ pin)).bind _ = _; rw [e2]; rfl, alO_map e2⟩
    | bk δ => exact absurd rfl hno
    | ct δ => exact absurd rfl hno
theorem fn_R {TB : List (Addr × Str)} {x qual : Str} {st : Stmt} {f : Addr} {fd : FuncData} {N ps : List Str} {k M n : Nat} {pin : List Nat} {r : Run} (F : Fun K x qual st f fd) (S : FnScope N ps (defScope st)) (hM : N.length = M) (hn : ps.length = n) (hN : n ≤ M) (nd : pin.Nodup) (hpin : ∀ i ∈ pin, i < n)
    (body : ∀ (cdv : Value) (A : Around) (outer : List Env) (s : Shared) (H : Hp) (E : XK), Room k (A.deeper (PyProof.Rows.envOfC qual (defScope st) s.heap.objs.size f cdv)) →
      ∃ t, PSs (cxOf (L2.CX P w) P w K mg base N qual (defScope st) f cdv A outer s H E) (defBody st) t ∧ RS K (TB := TB) E pin t r) :
    FnOk P w K mg base (L2.CX P w) (k + 1) f fd ps (spD K TB n pin (phi M n pin r)) := by
  subst hM
  refine F.okX S (fun vs H Q E h => (spD_len h).trans hn.symm) fun cdv A outer s H vs Q E hr h => ?_
  obtain ⟨t, h1, h2⟩ := body cdv A outer s H E hr
  exact ⟨t, h1, spD_run hN nd hpin h2 lift_T h⟩
/-- a def that nothing is known of, at any level -/
theorem fn_no {TB : List (Addr × Str)} {f : Addr} {fd : FuncData} {ps : List Str} {k n : Nat} {pin : List Nat} (hn : ps.length = n) : FnOk P w K mg base (L2.CX P w) k f fd ps (spD K TB n pin fun _ => .no) :=
  ⟨fun vs H Q E h => by
    obtain ⟨os, F, S, h1, h2, h3, h4, _⟩ := h
    rw [h4.length, h1, hn], fun A outer s H args us vs Q E _ _ _ _ h => by
    obtain ⟨os, F, S, h1, h2, h3, h4, h5, h6, h7⟩ := h
    exact h7.elim⟩
end
end DL

/-! DLB: more walks. -/
namespace DL
open PySem L2

/-! ### a list, a tuple or a text -/
def iAny (K : PySem.W.Frag) (te : TE) : TI := fun σ H R => iList K te σ H R ∨ iTup K te σ H R ∨ iStr te σ H R
theorem pi_any {X : Cx} {tg e : Expr} {te : TE} (h : PE X e te) : PI X tg e (iAny X.K te) :=
  ⟨fun pins s σ H R I q => by
    rcases q with q | q | q
    · exact (pi_list h).run pins s σ H R I q
    · exact (pi_tup h).run pins s σ H R I q
    · exact (pi_str h).run pins s σ H R I q⟩
def signsD (z : Str) : List D := z.cps.toList.map fun c => .str ⟨#[c]⟩
section
variable {K : PySem.W.Frag} {TB : List (Addr × Str)} {B : XKt TB} {te : TE} {F : Hp}
theorem walk_str {x : Str} : Walk K F (Its x) (signsD x) where
  go := fun k F2 H2 _ _ hk => by
    have : (signsD x).length = x.cps.size := by simp [signsD]
    rw [this] at hk; exact hk
  yld := fun k F2 H2 v H3 d _ _ hd y => by
    obtain ⟨e, c, hc, rfl⟩ := y
    refine .inl ⟨e, ?_⟩
    unfold signsD at hd
    rw [List.getElem?_map] at hd
    have hc' : x.cps.toList[k]? = some c := by simpa using hc
    rw [hc'] at hd
    cases hd
    exact .str _
  stop := fun F2 H2 _ _ => by
    have : (signsD x).length = x.cps.size := by simp [signsD]
    rw [this]; exact Nat.le_refl _
def wS (g : DEnv → Rz (D × DEnv)) : DEnv → Rz (List D × DEnv) := fun δ => (g δ).bind fun p => match p.1 with
  | .str z => .ok (signsD z, p.2)
  | _ => .no
theorem dw_str {g : DEnv → Rz (D × DEnv)} (h : DI K B te g) : DW K B (iStr te) (wS g) := fun c R δ σ F H s Q q => by
  unfold wS at q
  rw [Rz.post_bind] at q
  refine h c R δ σ F H s _ (Rz.post_mono q (fun p q v F1 H1 s1 l1 h1 z1 => ?_) fun _ z => z)
  obtain ⟨d, δ1⟩ := p
  cases z1 with
  | str z => exact ⟨_, rfl, q _ F1 H1 s1 l1 h1 walk_str⟩
  | _ => exact q.elim
def anyD : D → Option (List D)
  | .lst l => some l
  | .scr l => some l
  | .tup l => some l
  | .str z => some (signsD z)
  | _ => none
def wA (g : DEnv → Rz (D × DEnv)) : DEnv → Rz (List D × DEnv) := fun δ => (g δ).bind fun p => (Rz.of (anyD p.1)).bind fun l => .ok (l, p.2)
theorem dw_any {g : DEnv → Rz (D × DEnv)} (h : DI K B te g) : DW K B (iAny K te) (wA g) := fun c R δ σ F H s Q q => by
  unfold wA at q
  cases e : g δ with
  | no => rw [e] at q; exact q.elim
  | er x => exact .inl (dw_list h c R δ σ F H s Q (by unfold wL; rw [e]; rw [e] at q; exact q))
  | ok p =>
    rw [e] at q
    obtain ⟨d, δ1⟩ := p
    cases d with
    | lst l => exact .inl (dw_list h c R δ σ F H s Q (by unfold wL; rw [e]; exact q))
    | scr l => exact .inl (dw_list h c R δ σ F H s Q (by unfold wL; rw [e]; exact q))
    | tup l => exact .inr (.inl (dw_tup h c R δ σ F H s Q (by unfold wT; rw [e]; exact q)))
    | str l => exact .inr (.inr (dw_str h c R δ σ F H s Q (by unfold wS; rw [e]; exact q)))
    | _ => exact q.elim
end
/-! ### the item of a list, for op= -/
theorem pget_list {X : Cx} : PGet X (fun x y H Q => rIxL X.K x y H Q) := by
  intro pins s σ H x y v u Q I rx ry h
  obtain ⟨p, xs, i, z, rfl, rfl, hq, he, q⟩ := h
  cases rx
  obtain ⟨t, rfl⟩ := ry
  obtain ⟨its, r, pl, hz⟩ := I.list hq
  obtain ⟨j, h1, h2, h3, h4, h5⟩ := atI_get he
  obtain ⟨w, ew, rw'⟩ := r.get h2
  have hl := r.length
  have hn := line63
  have fin : EP X pins σ Q w s := ⟨z, H, I, rw', q⟩
  by_cases h0 : 0 ≤ i
  · have hj : i.toNat = j := by
      rw [seqIndex_of h0 h5] at h1
      exact Option.some.inj h1
    exact wpAny_getItem_list pl.isList h0 (by omega) (by rw [hj]; simpa using ew) fin
  · have hj : (i + (its.toArray.size : Int)).toNat = j := by
      rw [seqIndex_neg (by omega) h4] at h1
      rw [List.size_toArray, ← hl]
      exact Option.some.inj h1
    exact wpAny_getItem_list_neg pl.isList (by omega) (by rw [List.size_toArray] <;> omega) (by omega) (by rw [hj]; simpa using ew) fin
/-! ### enumerate over a tuple -/
/-- the tuple at a, each item in a new pair behind the count from k -/
def Itn (K : PySem.W.Frag) (k : Int) (a : Addr) : It :=
  ⟨fun i H => ∃ (xs : List V) (x : V), SqT K H a xs ∧ xs[i]? = some x, fun i H v H' => ∃ T x, v = .ref T ∧ H T = none ∧ H' = upd H T (.tup [.int (k + (i : Nat)), x]) ∧ ∀ xs, SqT K H a xs → xs[i]? = some x, fun i H => ∃ xs : List V, SqT K H a xs ∧ xs.length = i⟩
theorem apart3 {h : Heap} {k : Int} {old : Value} {a e it : Addr} {i : Nat} {vs : Array Value} (he : IsEnum h e it k old) (hit : h.IsTupleIter it a i) (ht : h.IsTuple a vs) : a ≠ it ∧ e ≠ a := by
  obtain ⟨o, e1, c1, n, d1⟩ := ht
  obtain ⟨o2, e2, c2, d2⟩ := hit
  refine ⟨fun z => ?_, fun z => ?_⟩
  · rw [z, e2] at e1; cases e1
    rw [d2] at d1; cases d1
  · have he' : h.get? e = _ := he
    rw [z, e1] at he'
    cases he'
    cases d1
theorem turn_enT {P : Program} {w : World} {K : PySem.W.Frag} {elts : List Expr} {kk : Nat} {tpos : Pos} (k : Int) (a e it : Addr) :
    Turn P w K (.Tuple elts kk tpos) (Itn K k a) [e, it] e (fun i h => (∃ old, IsEnum h e it (k + (i : Nat)) old) ∧ h.IsTupleIter it a i ∧ e ≠ it) where
  mem := by simp
  obj := fun i h st b hb => by
    obtain ⟨⟨old, he⟩, ⟨o, ho, hc, hd⟩, _⟩ := st
    have e' : b = e ∨ b = it := by simpa using hb
    rcases e' with z | z
    · subst z; exact ⟨_, he, fun v q => nomatch q⟩
    · subst z; exact ⟨o, ho, fun v q => by rw [hd] at q; cases q⟩
  keep := fun i h h' st g => by
    obtain ⟨⟨old, he⟩, hi, hne⟩ := st
    exact ⟨⟨old, g e (by simp) _ he⟩, hi.at fun o q => g it (by simp) o q, hne⟩
  item := by
    intro X hP hw hK hc i pins s σ H E I hf st hg
    subst hP hw hK
    obtain ⟨⟨old, he⟩, hit, hne⟩ := st
    obtain ⟨xs, x, hq, hx⟩ := hg
    obtain ⟨its, rv, p, hz⟩ := I.tuple hq
    obtain ⟨u, hu, ru⟩ := rv.get hx
    have hel : e < s.heap.objs.size := Heap.lt_size he
    have hil : it < s.heap.objs.size := by obtain ⟨_, q, _⟩ := hit; exact Heap.lt_size q
    obtain ⟨n1, n2⟩ := apart3 he hit p
    have D := Draws.tuple (prog := X.prog) (w := X.w) (A := X.A.in1) (I.ok.hd hc) it a n1 its.toArray
    have G := GoesN.enumFrom (elts := elts) (x1 := kk) (pos := tpos) k D e hne (by simp [hne, n2]) (by simp)
    have hlt : i < its.toArray.size := by
      have := (List.getElem?_eq_some_iff.mp hu).1
      simpa using this
    refine G.goes i s _ _ hlt ⟨⟨old, he⟩, hit, p⟩ fun v h' tk hY st' hk htk => ?_
    obtain ⟨T, t, y, rfl, hT, hy, hv⟩ := hY
    have ey : u = y := by
      have : its.toArray[i]? = some u := by simpa using hu
      rw [this] at hy
      exact Option.some.inj hy
    subst ey
    have new : ObjOk X.prog X.w (upd H T (.tup [.int (k + (i : Nat)), x])) h' T (.tup [.int (k + (i : Nat)), x]) :=
      ⟨by show 2 ≤ sizeLine; decide, [.int (k + (i : Nat)) t, u], .cons ⟨_, rfl⟩ (.cons ru .nil), hv⟩
    have I1 : Inv X pins σ (upd H T (.tup [.int (k + (i : Nat)), x])) { s with heap := h', toks := tk } :=
      I.turnedNew (ch := [e, it]) (fun b ob hb q => hk b ob hb q) hf hT new
    refine ⟨.ref T, _, I1, rfl, ⟨_, x, rfl, I.hok.fresh hT, rfl, fun ys hy => by rw [I.tuple_inj hy hq]; exact hx⟩, ⟨st'.1, st'.2.1, hne⟩, fun b hb => ?_⟩
    have hb' : b < s.heap.objs.size := by
      have e' : b = e ∨ b = it := by simpa using hb
      rcases e' with z | z
      · rw [z]; exact hel
      · rw [z]; exact hil
    rw [upd_ne (Nat.ne_of_lt (Nat.lt_of_lt_of_le hb' hT))]
    exact (hf b hb).1
  done := by
    intro X hP hw hK hc i pins s σ H E I hf st hg
    subst hP hw hK
    obtain ⟨⟨old, he⟩, hit, hne⟩ := st
    obtain ⟨xs, hq, hx⟩ := hg
    obtain ⟨its, rv, p, hz⟩ := I.tuple hq
    obtain ⟨n1, n2⟩ := apart3 he hit p
    have D := Draws.tuple (prog := X.prog) (w := X.w) (A := X.A.in1) (I.ok.hd hc) it a n1 its.toArray
    have G := GoesN.enumFrom (elts := elts) (x1 := kk) (pos := tpos) k D e hne (by simp [hne, n2]) (by simp)
    have hl : its.toArray.size = i := by
      have := rv.length
      simp; omega
    rw [hl] at G
    refine G.stops s _ _ ⟨⟨old, he⟩, hit, p⟩ fun h' tk hk htk => ?_
    exact I.turnedL (ch := [e, it]) (fun b o hb q => hk b o hb q) hf
  self := fun A i s Q E st h => let ⟨⟨_, he⟩, _⟩ := st; wpAny_pyIter_enum he h
set_option maxHeartbeats 1000000 in
theorem meets_en1 {v : Value} {o : Obj} {H : Heap → Prop} (B : Begins v o H) :
    Meets (Builtin.«enumerate.__new__» ⟨[.type "enumerate", v], []⟩) (fun _ R s => H s.heap ∧
      R (.ok (.ret (.ref (s.heap.push o).objs.size))) { s with heap := (s.heap.push o).push { cls := .type "enumerate", data := .fields #[.none, .bool false, .ref s.heap.objs.size, rawInt 0, .none, .none] } }) :=
  .of_wp fun prog w A R s h => by
    obtain ⟨hp, g, d, tk, os⟩ := s; obtain ⟨h1, h⟩ := h
    have hsub := sub_enumerate
    have q1 : ∀ {A' : Around} {E : Value → Shared → Prop} {Q : Value → Shared → Prop}, Q (.ref hp.objs.size) ⟨hp.push o, g, d, tk, os⟩ → wpAny (model prog w) A' (pyIter v) Q E ⟨hp, g, d, tk, os⟩ :=
      fun q => B.iter prog w _ _ ⟨hp, g, d, tk, os⟩ _ h1 q
    wp_walk using q1
    refine wpAny_stack_any fun st => wpAny_pure ?_
    split
    · rename_i c _ _ _ _ _
      cases (c == Value.type "enumerate")
      · wp_walk using q1
        exact ⟨_, rfl, h⟩
      · wp_walk using q1
        exact ⟨_, rfl, h⟩
    · wp_walk using q1
      exact ⟨_, rfl, h⟩
theorem en1_begins {prog : Program} {w : World} {A : Around} {E : Value → Shared → Prop} {s : Shared} {v : Value} {o : Obj} {H : Heap → Prop} {Q : Value → Shared → Prop} (B : Begins v o H) (h1 : H s.heap)
    (h : ∀ h', IsEnum h' (s.heap.objs.size + 1) s.heap.objs.size 0 .none → h'.get? s.heap.objs.size = some o → (∀ b o, s.heap.get? b = some o → h'.get? b = some o) → Q (.ref (s.heap.objs.size + 1)) { s with heap := h' }) :
    wpAny (model prog w) A (call (.type "enumerate") [v]) Q E s := by
  refine callType_new F.called_enumerate (by decide) (F.typeCall_enumerate_1 _) (F.newCall_enumerate_1 _) (fun obj => F.args_object_init_2 obj _) F.entry_enumerate_new (meets_en1 B) ⟨h1, ?_⟩
  have hz : (s.heap.push o).objs.size = s.heap.objs.size + 1 := Heap.size_push ..
  show _ ∧ _
  rw [hz]
  have he : IsEnum ((s.heap.push o).push { cls := .type "enumerate", data := .fields #[.none, .bool false, .ref s.heap.objs.size, rawInt 0, .none, .none] }) (s.heap.objs.size + 1) s.heap.objs.size 0 .none := by
    have := Heap.get?_push_size (s.heap.push o) (o := { cls := .type "enumerate", data := .fields #[.none, .bool false, .ref s.heap.objs.size, rawInt 0, .none, .none] }) rfl
    rw [hz] at this; exact this
  exact ⟨⟨_, he, rfl⟩, h _ he (Heap.get?_push_of_some _ (Heap.get?_push_size _ B.free)) fun b o x => Heap.get?_push_of_some _ (Heap.get?_push_of_some _ x)⟩
def iEnT (K : PySem.W.Frag) (ta : TA) : TI := fun σ H R => ta σ H fun vs H1 => ∃ a xs, vs = [.ref a] ∧ SqT K H1 a xs ∧ R (Itn K 0 a) H1
theorem pi_enT {X : Cx} {e : Expr} {ta : TA} {p pos tpos : Pos} {elts : List Expr} {kk : Nat} (hg : Gl X "enumerate") (hm : X.mg "enumerate" = none) (ha : PA X [e] ta) (hs : starEach [e] X.env = [(false, eval e X.env)] := by rfl) :
    PI X (.Tuple elts kk tpos) (.Call (.Name "enumerate" p) [e] [] pos) (iEnT X.K ta) := by
  refine ⟨fun pins s σ H R I h => ?_⟩
  refine PyProof.Rows.Call_ (ld_blt I hg hm PyProof.Rows.boot_enumerate (PyProof.Rows.callWith_type1 (thn (ha.run pos pins s σ H _ I h) fun us s1 ⟨vs, H1, I1, r1, q1⟩ => ?_) hs rfl))
  obtain ⟨a, xs, ex, hq, q⟩ := q1
  subst ex
  cases r1 with
  | cons r rr =>
    cases rr
    cases r
    obtain ⟨its, rv, p', hz⟩ := I1.tuple hq
    refine en1_begins (begins_tuple a its.toArray) p' fun h' he hit hk => wpAny_pyIter_enum he ?_
    have I2 : Inv X pins σ H1 { s1 with heap := h' } := I1.kept (t' := s1.toks) hk
    refine ⟨s1.heap.objs.size + 1, [s1.heap.objs.size + 1, s1.heap.objs.size], _, _, H1, rfl, I2, turn_enT 0 a (s1.heap.objs.size + 1) s1.heap.objs.size, ⟨⟨.none, he⟩, ⟨_, hit, rfl, rfl⟩, Nat.succ_ne_self _⟩, fun b hb => ?_, q⟩
    have e' : b = s1.heap.objs.size + 1 ∨ b = s1.heap.objs.size := by simpa using hb
    have hle : s1.heap.objs.size ≤ b := by
      rcases e' with z | z
      · rw [z]; exact Nat.le_add_right _ _
      · rw [z]; exact Nat.le_refl _
    exact I1.fpOk hle (I1.hok.fresh hle)
def iEnA (K : PySem.W.Frag) (ta : TA) : TI := fun σ H R => iEnum K ta σ H R ∨ iEnT K ta σ H R
theorem pi_enA {X : Cx} {e : Expr} {ta : TA} {p pos tpos : Pos} {elts : List Expr} {kk : Nat} (hg : Gl X "enumerate") (hm : X.mg "enumerate" = none) (ha : PA X [e] ta) (hs : starEach [e] X.env = [(false, eval e X.env)] := by rfl) :
    PI X (.Tuple elts kk tpos) (.Call (.Name "enumerate" p) [e] [] pos) (iEnA X.K ta) :=
  ⟨fun pins s σ H R I q => by
    rcases q with q | q
    · exact (pi_enum hg hm ha hs).run pins s σ H R I q
    · exact (pi_enT hg hm ha hs).run pins s σ H R I q⟩
def enumD (k : Int) (ds : List D) : List D := ds.mapIdx fun i d => .tup [.int (k + (i : Nat)), d]
section
variable {K : PySem.W.Frag} {TB : List (Addr × Str)} {B : XKt TB} {F : Hp}
theorem enumD_len (k : Int) (ds : List D) : (enumD k ds).length = ds.length := by simp [enumD]
theorem enumD_get {k : Int} {ds : List D} {i : Nat} {d : D} (h : (enumD k ds)[i]? = some d) : ∃ e, ds[i]? = some e ∧ d = .tup [.int (k + (i : Nat)), e] := by
  unfold enumD at h
  rw [List.getElem?_mapIdx] at h
  cases q : ds[i]? with
  | none => rw [q] at h; cases h
  | some e => rw [q] at h; cases h; exact ⟨e, rfl, rfl⟩
theorem pair_fz {F2 : Hp} {p : Addr} {v w : V} {d e : D} (hp : F2 p = none) (z : Fz K F2 w e) (n : Int) : Fz K (upd F2 p (.tup [.int n, w])) (.ref p) (.tup [.int n, e]) :=
  .tup (sqT_of upd_same) (.cons (.int n) (.cons (z.mono (Le.new hp)) .nil))
theorem walk_enum {a : Addr} {xs : List V} {ds : List D} (h : SqL K F a xs) (l : FzL K F xs ds) : Walk K F (Ite K a) (enumD 0 ds) where
  go := fun k F2 H2 l1 l2 hk => by
    rw [enumD_len] at hk
    have hk' : k < xs.length := by rw [l.length]; exact hk
    exact ⟨xs, xs[k], sqL_mono (l1.trans l2) h, by simp [hk']⟩
  yld := fun k F2 H2 x H3 d l1 l2 hd y => by
    obtain ⟨T, v, rfl, hT, rfl, y⟩ := y
    obtain ⟨e, he, rfl⟩ := enumD_get hd
    obtain ⟨v', h1, h2⟩ := l.get he
    have e2 := y xs (sqL_mono (l1.trans l2) h)
    rw [h1] at e2; cases e2
    have fT : F2 T = none := by
      cases q : F2 T with
      | none => rfl
      | some o => rw [l2 T o q] at hT; cases hT
    have := pair_fz (v := V.non) (d := D.non) fT (h2.mono l1) (k : Nat)
    rw [Int.zero_add]
    exact .inr ⟨T, .tup _, fun z => z, hT, rfl, this⟩
  stop := fun F2 H2 l1 l2 => by
    rw [enumD_len]
    exact ⟨xs, sqL_mono (l1.trans l2) h, by rw [l.length]; exact Nat.le_refl _⟩
theorem walk_enT {a : Addr} {xs : List V} {ds : List D} {n : Int} (h : SqT K F a xs) (l : FzL K F xs ds) : Walk K F (Itn K n a) (enumD n ds) where
  go := fun k F2 H2 l1 l2 hk => by
    rw [enumD_len] at hk
    have hk' : k < xs.length := by rw [l.length]; exact hk
    exact ⟨xs, xs[k], sqT_mono (l1.trans l2) h, by simp [hk']⟩
  yld := fun k F2 H2 x H3 d l1 l2 hd y => by
    obtain ⟨T, v, rfl, hT, rfl, y⟩ := y
    obtain ⟨e, he, rfl⟩ := enumD_get hd
    obtain ⟨v', h1, h2⟩ := l.get he
    have e2 := y xs (sqT_mono (l1.trans l2) h)
    rw [h1] at e2; cases e2
    have fT : F2 T = none := by
      cases q : F2 T with
      | none => rfl
      | some o => rw [l2 T o q] at hT; cases hT
    have := pair_fz (v := V.non) (d := D.non) fT (h2.mono l1) (n + (k : Nat))
    exact .inr ⟨T, .tup _, fun z => z, hT, rfl, this⟩
  stop := fun F2 H2 l1 l2 => by
    rw [enumD_len]
    exact ⟨xs, sqT_mono (l1.trans l2) h, l.length⟩
def wE (g : DEnv → Rz (List D × DEnv)) : DEnv → Rz (List D × DEnv) := fun δ => (g δ).bind fun p => match p.1 with
  | [.lst l] => .ok (enumD 0 l, p.2)
  | [.tup l] => .ok (enumD 0 l, p.2)
  | _ => .no
theorem dw_enA {t : TA} {g : DEnv → Rz (List D × DEnv)} (h : DA K B t g) : DW K B (iEnA K t) (wE g) := fun c R δ σ F H s Q q => by
  unfold wE at q
  cases e : g δ with
  | no => rw [e] at q; exact q.elim
  | er x =>
    rw [e] at q
    exact .inl (h c R δ σ F H s _ (by rw [e]; exact q))
  | ok p =>
    rw [e] at q
    obtain ⟨ds, δ1⟩ := p
    cases ds with
    | nil => exact q.elim
    | cons d r =>
      cases r with
      | cons _ _ => cases d <;> exact q.elim
      | nil =>
        cases d with
        | lst l =>
          refine .inl (h c R δ σ F H s _ ?_)
          rw [e]
          intro vs F1 H1 s1 l1 h1 z1
          cases z1 with
          | cons y ys =>
            cases ys
            cases y with
            | lst ha m => exact ⟨_, _, rfl, sqL_mono s1.sub (sqL_of ha), q _ F1 H1 s1 l1 h1 (walk_enum (sqL_of ha) m)⟩
        | tup l =>
          refine .inr (h c R δ σ F H s _ ?_)
          rw [e]
          intro vs F1 H1 s1 l1 h1 z1
          cases z1 with
          | cons y ys =>
            cases ys
            cases y with
            | tup ha m => exact ⟨_, _, rfl, sqT_mono s1.sub ha, q _ F1 H1 s1 l1 h1 (walk_enT ha m)⟩
        | _ => exact q.elim
end
end DL

/-! DLC: words of the printed text. -/
namespace DL
open PySem L2

section
variable {K : PySem.W.Frag} {TB : List (Addr × Str)} {B : XKt TB}
def gC (d : D) : DEnv → Rz (D × DEnv) := fun δ => .ok (d, δ)
theorem di_c {v : V} {d : D} (h : ∀ F, Fz K F v d) : DI K B (tC v) (gC d) := fun c R δ σ F H s Q q => q v F H s (Le.refl F) Held.refl (h F)
theorem di_k {v : V} {d : D} (h : ∀ F, Fz K F v d := by intro F; constructor) : DI K B (tC v) (gC d) := di_c h
theorem sx_k {v : V} {d : D} (h : ∀ F, Fz K F v d := by intro F; constructor) : SX K (tC v) (fun _ => some d) := sx_c h
def fS2 (f : D → D → Option D) (fa fb : DEnv → Option D) : DEnv → Option D := fun δ => (fa δ).bind fun a => (fb δ).bind fun b => f a b
end
section
variable {P : Program} {w : World} {K : PySem.W.Frag} {mg : Str → Option Value} {base : Heap} {N : List Str} {qual : Str} {scope : Scope} {f : Addr} {cd : Value} {A : Around} {outer : List Env} {s : Shared} {H : Hp} {E : XK}
theorem hpx : PassesOwn (model P w) (cxOf (L2.CX P w) P w K mg base N qual scope f cd A outer s H E).A (cxOf (L2.CX P w) P w K mg base N qual scope f cd A outer s H E).env (cxOf (L2.CX P w) P w K mg base N qual scope f cd A outer s H E).xe :=
  passes_of (X := cxOf (L2.CX P w) P w K mg base N qual scope f cd A outer s H E) rfl
theorem hxx : Passes (L2.CX P w) (cxOf (L2.CX P w) P w K mg base N qual scope f cd A outer s H E) E := passes_call (takes_of rfl rfl rfl rfl) fun _ _ _ _ z => z
end
theorem b_len : bootBuiltins "len" = some (.builtin "len") := by decide +kernel
theorem b_isinstance : bootBuiltins "isinstance" = some (.builtin "isinstance") := by decide +kernel
theorem b_all : bootBuiltins "all" = some (.builtin "all") := by decide +kernel
theorem b_any : bootBuiltins "any" = some (.builtin "any") := by decide +kernel
theorem b_sum : bootBuiltins "sum" = some (.builtin "sum") := by decide +kernel
theorem b_min : bootBuiltins "min" = some (.builtin "min") := by decide +kernel
theorem b_max : bootBuiltins "max" = some (.builtin "max") := by decide +kernel
theorem b_int : bootBuiltins "int" = some (.type "int") := by decide +kernel
theorem b_str : bootBuiltins "str" = some (.type "str") := by decide +kernel
theorem b_bool : bootBuiltins "bool" = some (.type "bool") := by decide +kernel
theorem b_list : bootBuiltins "list" = some (.type "list") := by decide +kernel
theorem b_tuple : bootBuiltins "tuple" = some (.type "tuple") := by decide +kernel
/-- a def of the module -/
structure GF (K : PySem.W.Frag) (mg : Str → Option Value) (x : Str) (st : Stmt) (f : Addr) (fd : FuncData) (ps : List Str) : Prop where
  F : Fun K x x st f fd
  b : Binds K fd ps []
  m : mg x = some (.ref f)
theorem GF.k {K : PySem.W.Frag} {mg : Str → Option Value} {x : Str} {st : Stmt} {f : Addr} {fd : FuncData} {ps : List Str} (g : GF K mg x st f fd ps) : PySem.W.keepIn K (.ref f) = true := g.F.kp
/-- a method -/
structure GM (K : PySem.W.Frag) (x qual : Str) (st : Stmt) (f : Addr) (fd : FuncData) (ps : List Str) (C : Addr) : Prop where
  F : Fun K x qual st f fd
  b : Binds K fd ps []
  m : Meth K C x f
/-- a class's __init__ -/
structure GI (K : PySem.W.Frag) (mg : Str → Option Value) (cn qual : Str) (st : Stmt) (f : Addr) (fd : FuncData) (ps : List Str) (C : Addr) : Prop where
  F : Fun K "__init__" qual st f fd
  b : Binds K fd ps []
  me : Mk K C f
  mc : mg cn = some (.ref C)
end DL

/-! DLD: the law's own end. -/
namespace DL
open PySem L2

/-- the script, as law gets it -/
abbrev scrO (ns : List Int) : O := .fz (.scr (ns.map D.int))
def Small (ns : List Int) : Prop := ns.length ≤ 63 ∧ ∀ z ∈ ns, Builtin.Int.intBits z ≤ 1048576
def spL (K : PySem.W.Frag) : Sp := fun vs H Q _ => ∃ (a : Addr) (ns : List Int), vs = [.ref a] ∧ SqL K H a (ns.map V.int) ∧ Small ns ∧ Only H ∧ Q = fun v _ => v = .bl true
theorem FzL.ints {K : PySem.W.Frag} {F : Hp} : ∀ ns : List Int, FzL K F (ns.map V.int) (ns.map D.int)
  | [] => .nil
  | n :: r => .cons (.int n) (FzL.ints r)
theorem spL_D {K : PySem.W.Frag} {Φ : List O → Rz (O × List O)} (h : ∀ ns : List Int, Small ns → Φ [scrO ns] = .ok (.fz (.bl true), [])) (vs : List V) (H : Hp) (Q : VK) (E : XK) (q : spL K vs H Q E) : spD K [] 1 [] Φ vs H Q E := by
  obtain ⟨a, ns, rfl, hS, hs, hO, rfl⟩ := q
  refine ⟨[scrO ns], H, fun _ => False, rfl, fun a o e => e, fun b o e t => ?_, .cons (S1 := fun _ => False) (S2 := fun _ => False) (fun _ z => z) (fun _ z => z) (fun _ _ z => z) (.fz (.scr hS (FzL.ints ns))) .nil, fun _ z => z.elim, fun p hp => absurd hp (by simp), ?_⟩
  · rcases hO b with z | ⟨u, xs, z⟩
    · rw [z] at e; cases e
    · rw [z] at e; cases e; exact t
  · rw [h ns hs]
    intro v F' H' Sr S' _ _ w _
    cases w with
    | fz z => cases z; rfl
theorem cx_none {P : Program} {w : World} {H : Hp} {s : Shared} {e : Value} {s' : Shared} (h : L2.CX P w [] H s (fun _ _ _ => False) e s') : False := by
  obtain ⟨_, _, _, _, _, _, _, _, _, _, _, _, z⟩ := h
  exact z
theorem walkD {k : Nat} {l : PySem.W.OpenLaw} {q : Program} {loose : List Str} {XP : (Str → Option Value) → Heap → Prop} {YP : World → Heap → Prop} {d : DefRec} {K : Params → PySem.W.Frag} (hr : Room k callerA) (hn : l.most = some 63) (hdf : d.params.defaults = [])
    (hY : ∀ (w : World) (h : Heap), YP w h → (K w.params).In h)
    (F : ∀ (w : World) (mg : Str → Option Value) (fa : Addr) (h : Heap), (K w.params).In h → h.Ns mainGlobals mg → mg d.name = some (.ref fa) →
      ∃ fd : FuncData, (∀ (s : Shared) (u : Value), BindsTo s fd ⟨[u], []⟩ [("script", u)]) ∧ ∀ base : Heap, (K w.params).In base → base.Ns mainGlobals mg → FnOk l.prog w (K w.params) mg base (L2.CX l.prog w) k fa fd ["script"] (spL (K w.params))) :
    PySem.W.WalkO q loose XP YP l.row.toRowW d [] (fun f vs => PySem.call f vs) :=
  L2.walk_ofB (n := 63) (k := k) (x := "script") (CX := fun w => L2.CX l.prog w) (sp := fun w => spL (K w.params)) hn (by decide) hdf hr hY F (fun _ _ a ns hl hb hO hS => ⟨a, ns, rfl, hS, ⟨hl, hb⟩, hO, rfl⟩) fun _ _ _ _ _ z => cx_none z
end DL

set_option maxHeartbeats 4000000
/-! DLX: errors of classes of one's own over a base class over Exception, with one field. -/
namespace DL
open PySem PySem.W PySem.Calls PyProof.Rows PySem.HandSPX
abbrev tailE : List Value := [.type "Exception", .type "BaseException", .type "object"]
section
open Builtin Builtin.ObjectAttr
variable {pr : Program} {wd : World} {ar : Around} {Rr : Result → Shared → Prop} {h0 : Heap} {gs : Array GenState} {dr : Drawn} {tk : Nat} {oz : OsState}
theorem store_first {KK : W.Frag} {fld : Str} {tt : Tok} {y : Value} {e C M : Addr} {fv : Array Value} {cd : ClassData}
    (kin : KK.In h0) (he : h0.get? e = some { cls := .ref C, data := .fields fv }) (hcd : W.clsIn KK C = some cd) (hmro : cd.mro = .ref C :: .ref M :: tailE) (hdict : cd.hasDict = true) (hno : W.findIn KK (.ref C) fld = some none)
    (k : ∀ h1 t1 dx, (∀ b o, b ≠ e → h0.get? b = some o → h1.get? b = some o) → h0.objs.size ≤ dx → dx ≠ e → h1.get? e = some { cls := .ref C, dict := some dx, data := .fields fv } →
      h1.Ns1 dx (fun z => if z = fld then some y else none) → Rr (.ok (.ret .none)) ⟨h1, gs, dr, t1, oz⟩) :
    codeAny (model pr wd) ar (.call (.builtin "object.__setattr__") ⟨[.ref e, .str fld tt, y], []⟩) Rr ⟨h0, gs, dr, tk, oz⟩ := by
  have at_e : W.InstAt h0 e { cls := .ref C, data := .fields fv } C none := ⟨he, rfl, rfl, trivial⟩
  have so := F.store_object
  have hnil : cd.mro.isEmpty = false := by rw [hmro]; rfl
  have hobj : cd.mro.contains (.type "object") = true := by rw [hmro]; rfl
  have nes : e ≠ h0.objs.size := Nat.ne_of_lt (Heap.lt_size he)
  have isO : W.Looks (model pr wd) h0 (isInstance (.ref e) (.type "object")) true :=
    at_e.type.andThen (W.looks_mroIn kin (by unfold W.mroIn; rw [hcd, Option.bind_some, if_neg (by rw [hnil]; decide), hobj]))
  refine codeAny_call_builtin so.slot.plain so.entry (@W.check_slot (model pr wd) _ _ ⟨h0, gs, dr, tk, oz⟩ "object.__setattr__" "object" "__setattr__"
    (.ref e) [.str fld tt, y] [] _ so.kind so.split isO (so.args (.ref e) (.str fld tt) y) ?_)
  have lmro : W.Looks (model pr wd) h0 (mroOf (.ref C)) cd.mro := (W.looks_clsIn kin hcd).andThen .now
  have ltak : W.Looks (model pr wd) h0 (storeTaker? none) none := .now
  have lcls : W.Looks (model pr wd) h0 (classData C) cd := W.looks_clsIn kin hcd
  rw [W.osa_eq, refuse_eq]
  refine wpAny_bind (wpAny_bind (at_e.type.at (wpAny_bind (lmro.at ?_))))
  rw [hmro, refuseLoop_ref, refuseLoop_ref, F.store_Exception.passes (.ref e)]
  refine wpAny_pure (wpAny_bind (at_e.type.at (wpAny_bind ((W.looks_findIn kin hno).at (wpAny_bind (ltak.at ?_))))))
  show wpAny _ _ (storeInOwnDict (.ref e) (.ref C) (.str fld tt) fld y false) _ _ _
  obtain ⟨c1, c2, c3, c4, c5, c6, c7, c8, c9, c10, c11⟩ := cd
  dsimp only at hdict
  subst hdict
  unfold storeInOwnDict ownDictForStores
  repeat (first
    | with_reducible refine store_in_new ?_ ?_
    | with_reducible refine wpAny_loadPart_at he ?_
    | with_reducible refine lcls.at ?_
    | wp_step)
  · exact ⟨_, #[], _, (Heap.get?_update_ne _ _ _ _ nes.symm).trans (Heap.get?_push_at rfl rfl), rfl, fun q hq => absurd hq (by simp), fun _ => rfl⟩
  · intro h1 t1 hn hs
    have he1 : (h0.push { cls := .type "dict", data := .dict #[] }).get? e = some { cls := .ref C, data := .fields fv } := Heap.get?_push_of_some _ he
    refine k h1 t1 h0.objs.size (fun b o hb ho => ?_) (Nat.le_refl _) nes.symm ?_ hn
    · exact (hs.2 b (Nat.ne_of_lt (Heap.lt_size ho))).trans ((Heap.get?_update_ne _ _ _ _ hb).trans (Heap.get?_push_of_some _ ho))
    · exact (hs.2 e nes).trans (Heap.get?_update_self _ he1 rfl)
end
end DL

set_option maxHeartbeats 4000000
/-! DLY: such an error made and raised. -/
namespace DL
open PySem PySem.Spec PyProof.Rows L2
/-- a class of errors that is raised with one argument, kept in the field f -/
structure OexE (K : PySem.W.Frag) (C : Addr) : Prop where
  cls : ∃ nm q N bs M sn sub ab col dd k0 k1 k2 k3 k5, K.lookup C = some (excClassObj nm q C N bs (.ref M :: tailE) true sn sub ab col dd k0 k1 k2 k3 k5 "Exception.__new__")
  sets : PySem.W.findIn K (.ref C) "__setattr__" = some (some (.builtin "object.__setattr__"))
  base : PySem.W.subIn K (.ref C) (.type "BaseException") = some true
  ty : PySem.W.typeIn K (.ref C) = some (.type "type")
  kp : PySem.W.keepIn K (.ref C) = true
theorem hasX (x : String) (M : Addr) : (Value.ref M :: tailE).contains (.type x) = tailE.contains (.type x) := by
  rw [List.contains_cons]; rfl
section
variable {X : Cx} {pins : List (Addr × Obj)} {σ : L2.St} {H : Hp} {s : Shared} {a C dx : Addr} {f : Str} {y : V} {u : Value} {Q : Unit → Shared → Prop} {E : Value → Shared → Prop} {A : Around}
theorem put_first (T : OexE X.K C) (I : Inv X pins σ H s) (ea : H a = some (exo a C none)) (hno : PySem.W.findIn X.K (.ref C) f = some none) (ry : L2.RelV y u)
    (k : ∀ dx s', H dx = none → dx ≠ a → Inv X pins σ (upd (upd H dx (exd dx [(f, y)])) a (exo a C (some dx))) s' → Q () s') : wpAny (model X.prog X.w) A (setAttr (.ref a) f u) Q E s := by
  obtain ⟨nm, q, N, bs, M, sn, sub, ab, col, dd, k0, k1, k2, k3, k5, lk⟩ := T.cls
  obtain ⟨t1, at_a⟩ := exo_at I.hok ea
  obtain ⟨h0, g0, d0, t0, o0⟩ := s
  have lc : PySem.W.clsIn X.K C = some { name := nm, bases := bs, mro := .ref C :: .ref M :: tailE, ns := N, qualname := q, hasDict := true, slotNames := sn, subclasses := sub, abstract := ab, collection := col, hasDel := false } := by
    unfold PySem.W.clsIn; rw [lk] <;> rfl
  refine PySem.W.set_plain I.kIn (ox := { cls := .ref C, dict := none, data := .fields #[.ref t1, .none, .none, .none, .bool false, .none] }) (od := none) ⟨at_a, rfl, rfl, trivial⟩ T.sets ?_
  refine store_first I.kIn at_a lc rfl rfl hno fun h1 t2 dx kk ge ne hx hn => ?_
  have fresh : H dx = none := I.hok.fresh ge
  have ned : ∀ {b : Addr} {o : Obj}, h0.get? b = some o → b ≠ dx := fun z => Nat.ne_of_lt (Nat.lt_of_lt_of_le (Heap.lt_size z) ge)
  have nea : ∀ {b : Addr}, H b = none → b ≠ a := fun n z => by rw [z, ea] at n; cases n
  have hU : Un X.fs [] H (upd (upd H dx (exd dx [(f, y)])) a (exo a C (some dx))) h0 h1 := by
    refine ⟨fun b o z n _ _ => kk b o (nea n) z, fun b o z n _ _ => ⟨o.slots, kk b o (nea n) z⟩, fun b o z n _ => ?_, fun b o z _ => ?_, fun b xs z => ?_, fun b o v z => ?_, fun b ps z => ⟨#[], ?_⟩⟩
    · rw [upd_ne (nea n), upd_ne (ned z)]; exact n
    · by_cases hb : b = a
      · subst hb; exact ⟨_, hx⟩
      · exact ⟨o, kk b o hb z⟩
    · rw [upd_ne (at_ne ea z exo_tup), upd_ne (ne_of_none z fresh)]; exact z
    · rw [upd_ne (at_ne ea z exo_frz), upd_ne (ne_of_none z fresh)]; exact z
    · rw [upd_ne (at_ne ea z exo_tbl), upd_ne (ne_of_none z fresh), z]; simp
  refine k dx _ fresh ne (I.un (t' := t2) hU fun b o z => ?_)
  by_cases hb : b = a
  · subst hb
    rw [upd_same] at z; cases z
    exact exo_ok hx
  · rw [upd_ne hb] at z
    by_cases hd : b = dx
    · subst hd
      rw [upd_same] at z; cases z
      exact exd_ok hn (relO_put (fs := []) ry fun g => True.intro)
    · rw [upd_ne hd] at z
      refine (I.hok b o z).stay (fun c v hc w => kk c v ?_ w) (fun c hc => ?_) fun c xs hc => ?_
      · rcases hc with hc | hc
        · rw [hc]; exact hb
        · exact at_ne ea hc exo_own
      · rw [upd_ne (at_ne ea hc exo_own), upd_ne (ne_of_none hc fresh)]; exact hc
      · rw [upd_ne (at_ne ea hc exo_tup), upd_ne (ne_of_none hc fresh)]; exact hc
end
/-- o.f = e in such an __init__ -/
def tPut1 (K : PySem.W.Frag) (f : Str) (to te : TE) : TS := fun D σ H => te σ H fun y H1 => to σ H1 fun x H2 => ∃ a C : Addr, x = .ref a ∧ OexE K C ∧ PySem.W.findIn K (.ref C) f = some none ∧
  H2 a = some (exo a C none) ∧ ∀ dx, H2 dx = none → dx ≠ a → D.nx σ (upd (upd H2 dx (exd dx [(f, y)])) a (exo a C (some dx)))
theorem ps_put1 {X : Cx} {o e : Expr} {to te : TE} {f : Str} {p' pos : Pos} (ho : PE X o to) (he : PE X e te) (hs : swapsWith e (some (.Attribute o f p')) pos.line X.env = pure false := by rfl) : PS X (.Assign [.Attribute o f p'] e pos) (tPut1 X.K f to te) := by
  refine ⟨fun pins s σ H D I h => ?_⟩
  refine plainObj_wpAny_Assign_Attribute (thn (he.run pins s σ H _ I h) fun v s1 ⟨y, H1, I1, r1, q1⟩ => thn (ho.run pins s1 σ H1 _ I1 q1) fun u s2 ⟨x, H2, I2, r2, q2⟩ => ?_) hs
  obtain ⟨a, C, rfl, T, hno, ea, q⟩ := q2
  obtain rfl : u = Value.ref a := r2
  exact put_first T I2 ea hno r1 fun dx s' n ne J => ⟨σ, _, J, q dx n ne⟩
/-- what such an __init__ keeps -/
def spInit (K : PySem.W.Frag) (C : Addr) (f : Str) : Sp := fun vs H Q _ => ∃ (a : Addr) (y : V), vs = [.ref a, y] ∧ OexE K C ∧ PySem.W.findIn K (.ref C) f = some none ∧ H a = some (exo a C none) ∧
  ∀ dx, H dx = none → dx ≠ a → Q .non (upd (upd H dx (exd dx [(f, y)])) a (exo a C (some dx)))
section
variable {P : Program} {w : World} {K : PySem.W.Frag} {mg : Str → Option Value} {base : Heap}
theorem init_ok {x qual : Str} {C : Addr} {st : Stmt} {f : Addr} {fd : FuncData} {g se at_ : Str} {k : Nat} {p1 p2 p3 p4 : Pos} (F : Fun K x qual st f fd) (S : FnScope [se, at_] [se, at_] (defScope st))
    (hb : defBody st = [.Assign [.Attribute (.Name se p1) g p2] (.Name at_ p3) p4]) (v1 : Vis (defScope st) se) (v2 : Vis (defScope st) at_)
    (d1 : (se == ("__debug__" : Str)) = false := by decide) (d2 : (at_ == ("__debug__" : Str)) = false := by decide) (c1 : (se == ("__classdict__" : Str)) = false := by decide) (c2 : (at_ == ("__classdict__" : Str)) = false := by decide) :
    FnOk P w K mg base (L2.CX P w) (k + 1) f fd [se, at_] (spInit K C g) := by
  refine F.okX S (fun vs H Q E h => ?_) fun cdv A outer s H vs Q E hr h => ?_
  · obtain ⟨a, y, rfl, _⟩ := h; rfl
  · obtain ⟨a, y, rfl, T, hno, ea, q⟩ := h
    rw [hb]
    refine ⟨_, pss_one (ps_put1 (pe_var (i := 0) rfl v1 d1 c1) (pe_var (i := 1) rfl v2 d2 c2)), ?_⟩
    exact ⟨y, rfl, .ref a, rfl, a, C, rfl, T, hno, ea, q⟩
end
/-- C(e): the error made -/
def tMk1 (C : Addr) (f : Str) (ta : TA) : L2.St → Hp → XK → Prop := fun σ H Q => ta σ H fun vs H1 => ∃ y, vs = [y] ∧ ∀ dx, H1 dx = none → Q (.ref C) (some dx) (upd H1 dx (.xd [(f, y)]))
section
variable {X : Cx} {e : Expr} {es : List Expr} {ta : TA} {f x : Str} {p pos : Pos} {CX : CXT} {C fI : Addr} {k : Nat} {fd : FuncData} {ps : List Str}
theorem pmk1 (T : OexE X.K C) (iC : PySem.W.findIn X.K (.ref C) "__init__" = some (some (.ref fI))) (tI : PySem.W.typeIn X.K (.ref fI) = some (.type "function")) (hno : PySem.W.findIn X.K (.ref C) f = some none)
    (F1 : FnOk X.prog X.w X.K X.mg X.base CX k fI fd ps (spInit X.K C f)) (hr : Room (k + 1) X.A) (hb : Binds X.K fd ps []) (hx : Passes CX X (fun _ _ _ => False)) (hg : Gl X x) (hm : X.mg x = some (.ref C)) (ha : PA X (e :: es) ta)
    (hdb : (x == ("__debug__" : Str)) = false := by decide) (hse : starEach (e :: es) X.env = (false, eval e X.env) :: starEach es X.env := by rfl) (hpl : (backTo pos (starEach es X.env)).any (·.1) = false := by rfl) :
    PMk X (.Call (.Name x p) (e :: es) [] pos) (tMk1 C f ta) := by
  intro pins s σ H Q I h
  obtain ⟨nm, q, N, bs, M, sn, sub, ab, col, dd, k0, k1, k2, k3, k5, lk⟩ := T.cls
  refine wpAny_Call_Name_kw (ld_glob I hg hm ?_ hdb)
  refine PySem.W.callWith_K (h₀ := X.base) I.ok.mod.kin T.kp (thn (ha.run pos pins s σ H _ I h) fun us s1 ⟨vs, H1, I1, r1, y, ev, q1⟩ => ⟨I1.kIn, ?_⟩) hse hpl
  subst ev
  show wpAny _ _ (call (.ref C) us) _ _ _
  obtain ⟨h0, g0, d0, t0, o0⟩ := s1
  generalize hn0 : h0.objs.size + 1 = n
  have ge : h0.objs.size ≤ n := by omega
  have hn : H1 n = none := I1.hok.fresh ge
  have one : us.length ≤ sizeLine := by rw [← Paired.length r1, sizeLine_eq]; simp
  have kk : ∀ b o, h0.get? b = some o → ((h0.push (PySem.W.kdv_tup us)).push (PySem.HandSPX.excO C h0.objs.size)).get? b = some o := fun b o z => Heap.get?_push_of_some _ (Heap.get?_push_of_some _ z)
  have at_n : ((h0.push (PySem.W.kdv_tup us)).push (PySem.HandSPX.excO C h0.objs.size)).get? n = some (PySem.HandSPX.excO C h0.objs.size) := by subst hn0; heap_get
  have J : Inv X pins σ (upd H1 n (exo n C none)) ⟨(h0.push (PySem.W.kdv_tup us)).push (PySem.HandSPX.excO C h0.objs.size), g0, d0, t0, o0⟩ :=
    I1.laid (t' := t0) (a := n) (o := exo n C none) (h' := (h0.push (PySem.W.kdv_tup us)).push (PySem.HandSPX.excO C h0.objs.size)) kk ge (exo_ok at_n)
  have rr : Vals [V.ref n, y] (Value.ref n :: us) := .cons rfl r1
  have hsp : spInit X.K C f [.ref n, y] (upd H1 n (exo n C none)) (fun v H2 => v = .non ∧ ∃ dx, H1 dx = none ∧ dx ≠ n ∧ H2 = upd (upd (upd H1 n (exo n C none)) dx (exd dx [(f, y)])) n (exo n C (some dx))) (fun _ _ _ => False) :=
    ⟨n, y, rfl, T, hno, upd_same, fun dx hdx ne => ⟨rfl, dx, by rw [upd_ne ne] at hdx; exact hdx, ne, rfl⟩⟩
  have len : (Value.ref n :: us).length = ps.length := by rw [← rr.length]; exact F1.len _ _ _ _ hsp
  have bnd := hb _ (Value.ref n :: us) J.kIn (by rw [List.append_nil]; exact len)
  rw [List.append_nil] at bnd
  refine wpAny_call (PySem.HandSPX.call_own PySem.F.excBase_Exception (fun z => hasX z M) (I1.kIn _ _ lk) (PySem.W.looks_findIn I1.kIn iC) (fun self => PySem.W.bind_fn I1.kIn self tI) one ?_)
  rw [hn0]
  refine codeAny_mono (F1.run _ X.stack _ _ ⟨Value.ref n :: us, []⟩ (Value.ref n :: us) _ _ (fun _ _ _ => False) (hr.make C us []) (J.env0.make C us []) bnd rr hsp) fun r s' hq => ?_
  cases r with
  | error er => exact hx pins σ _ _ er s' J hq
  | ok fl =>
    cases fl with
    | ret u =>
      obtain ⟨v, H2, os2, bare2, un2, hok2, rv, ev, dx, hdx, ne, eH⟩ := hq
      subst ev
      obtain ⟨h2, g2, d2, t2, o2⟩ := s'
      have e1 : H2 n = some (exo n C (some dx)) := by rw [eH, upd_same]
      have e2 : H2 dx = some (exd dx [(f, y)]) := by rw [eH, upd_ne ne, upd_same]
      have e3 : upd (del H2 n) dx (.xd [(f, y)]) = upd H1 dx (.xd [(f, y)]) := by
        funext b
        by_cases hb : b = dx
        · subst hb; rw [upd_same, upd_same]
        · rw [upd_ne hb, upd_ne hb]
          by_cases hbn : b = n
          · subst hbn; rw [del_same, hn]
          · rw [del_ne hbn, eH, upd_ne hbn, upd_ne hb, upd_ne hbn]
      exact ⟨rv, mk_end (raises_own T.base T.ty) I1 ge kk un2 hok2 os2 bare2 e1 e2 hdx (by rw [e3]; exact q1 dx hdx)⟩
    | next => exact False.elim hq
    | brk => exact False.elim hq
    | cont => exact False.elim hq
end
/-- raise C(e): over data -/
def rRaise (C : Addr) (f : Str) (ga : DEnv → Rz (List D × DEnv)) : Run := fun δ => (ga δ).bind fun p => match p.1 with
  | [d] => .er ⟨C, [(f, d)]⟩
  | _ => .no
/-- raise C(e): the reading -/
def tRaise1 (C : Addr) (f : Str) (E : XK) (ta : TA) : TS := fun _ σ H => tMk1 C f ta σ H E
theorem ps_raise1 {X : Cx} {E : XK} {e : Expr} {C : Addr} {f : Str} {ta : TA} {pos : Pos} (hc : X.calm = true) (tk : Takes X (fun cls d _ H => E cls d H)) (he : PMk X e (tMk1 C f ta)) : PS X (.Raise (some e) none pos) (tRaise1 C f E ta) := ps_raise hc tk he
theorem rs_raise {K : PySem.W.Frag} {TB : List (Addr × Str)} {B : XKt TB} {pin : List Nat} {C : Addr} {f : Str} {ta : TA} {ga : DEnv → Rz (List D × DEnv)} (ha : DA K B ta ga) : RS K B pin (tRaise1 C f B ta) (rRaise C f ga) := fun c δ σ F H D de hp s q r => by
  unfold lift rRaise at q
  rw [Rz.post_bind] at q
  refine ha c nR δ σ F H s _ (Rz.post_mono q (fun p q vs F1 H1 s1 l1 h1 z1 => ?_) r.er)
  obtain ⟨ds, δ1⟩ := p
  simp only at q z1
  split at q
  · next d =>
    cases z1 with
    | cons z zr =>
      cases zr
      rename_i v
      refine ⟨v, rfl, fun dx hdx => ?_⟩
      refine r.er _ q nR δ1 σ dx F1 (upd H1 dx (.xd [(f, v)])) (s1.grow (Ext.new hdx) (s1.tabs.ext (Le.new hdx))) ⟨[(f, v)], upd_same, rfl, .cons z .nil⟩
  · exact q.elim
end DL

set_option maxHeartbeats 4000000
/-! DLZ: a try with several clauses 'except x as n', and what calls a lambda in it. -/
namespace DL
open PySem PySem.Spec PyProof.Rows L2
/-- the ends behind a clause: slot i is gone -/
def goneAt (i : Nat) (D : Ends) : Ends where
  nx := fun σ H => D.nx (σ.set i none) H
  rt := D.rt
  bk := fun σ H => D.bk (σ.set i none) H
  ct := fun σ H => D.ct (σ.set i none) H
def wAsMany (K : PySem.W.Frag) (i : Nat) (D : Ends) : List (Value × (Addr → Value → Option Addr → TS)) → WX
  | [] => fun _ _ _ _ => False
  | (c, ts) :: r => fun cls d σ H => ∃ b, PySem.W.exmOne K cls c = some b ∧
      (b = true → ∀ a, H a = none → ts a cls d (goneAt i D) (σ.set i (some (.ref a))) H) ∧ (b = false → wAsMany K i D r cls d σ H)
inductive AsOk (X : Cx) (n : Str) : List ExceptHandler → List (Value × (Addr → Value → Option Addr → TS)) → Prop
  | nil : AsOk X n [] []
  | cons {y : Str} {c : Value} {ts : Addr → Value → Option Addr → TS} {st : Stmt} {sts : List Stmt} {p1 p2 : Pos} {more : List ExceptHandler} {l : List (Value × (Addr → Value → Option Addr → TS))} (nm : Names X y c)
      (su : ∀ (a : Addr) (oe : Obj) (cls : Value) (d : Option Addr) (pn : List (Addr × Obj)), Zc cls d oe → (∃ vs, oe.data = .fields vs) → PSs (X.suite a ((a, oe) :: pn)) (st :: sts) (ts a cls d))
      (rest : AsOk X n more l) : AsOk X n (.ExceptHandler (some (.Name y p1)) (some n) (st :: sts) p2 :: more) ((c, ts) :: l)
section
variable {X : Cx} {n : Str} {i : Nat} {body : List Stmt} {hd : ExceptHandler} {more : List ExceptHandler} {l : List (Value × (Addr → Value → Option Addr → TS))} {pos : Pos} {tb : WX → TS}
theorem ps_try_as_many (stk : X.stack = X.env :: X.outer) (frm : X.env.frame = some X.env.locals) (nd : X.N.Nodup) (at_i : X.N[i]? = some n) (loc : X.env.kindOf n = some .local)
    (hb : ∀ (W : WX) (pn : List (Addr × Obj)) (xe : Value → Shared → Prop), Takes (X.tr pn xe) W → PassesOwn (model X.prog X.w) X.A X.env xe → PSs (X.tr pn xe) body (tb W))
    (hh : AsOk X n (hd :: more) l) : PS X (.Try body (hd :: more) [] [] pos) (fun D σ H => tb (wAsMany X.K i D l) D σ H) := by
  refine ⟨fun pins s σ H D I h => wpAny_Try_except ?_⟩
  have okX := I.ok
  have frs' : X.A.frames = some (X.env :: X.outer) := okX.frames.trans (congrArg some stk)
  have run := hb (wAsMany X.K i D l) (X.pn ++ pins) (fun e s1 => wpAny (model X.prog X.w) X.A (noteFrame e X.env) (fun _ s2 => wpAny (model X.prog X.w) X.A (setFlight e none)
    (fun _ s3 => wpAny (model X.prog X.w) X.A (handleBy e X.env (hd :: more)) (SP X pins D) X.xe s3) X.xe s2) X.xe s1) (fun u s' xx => ?_) PassesOwn.looking
  · refine wpAny_mono (run.run [] s σ H D (I.toTry _) h) (fun f s1 q => ?_) fun _ _ z => z
    cases f with
    | next => obtain ⟨σ1, H1, J, q⟩ := q; exact wpAny_execs_nil ⟨σ1, H1, J.ofTry okX, q⟩
    | brk => obtain ⟨σ1, H1, J, q⟩ := q; exact ⟨σ1, H1, J.ofTry okX, q⟩
    | cont => obtain ⟨σ1, H1, J, q⟩ := q; exact ⟨σ1, H1, J.ofTry okX, q⟩
    | ret u => obtain ⟨v, σ1, H1, J, r, q⟩ := q; exact ⟨v, σ1, H1, J.ofTry okX, r, q⟩
  · obtain ⟨a, B, sI, pins1, σ1, H1, cls, d, rfl, J1, nb, up, sky, na, os, ag, w⟩ := xx
    have J : Inv X pins σ1 H1 sI := J1.ofTry okX
    rw [stk] at sky
    show wpAny (model X.prog X.w) X.A (noteFrame (.ref a) X.env) _ _ _
    refine Sky.land Zc.steady frs' frm sky fun hp fly upp => ?_
    have JJ : Inv X pins σ1 H1 { s' with heap := hp } := J.landed nb fly.1 (up.trans upp) os ag
    obtain ⟨ob, vs, eob, zob, dob⟩ := fly.there
    have off : a ∉ frs (X.env :: X.outer) := fun hm => by
      obtain ⟨_, o2, e2, nf⟩ := fly.2.2.1.mem hm
      rw [eob] at e2; cases e2
      exact nf _ dob
    have offL : a ≠ X.env.locals := fun z => off (List.mem_filterMap.mpr ⟨X.env, List.mem_cons_self, by rw [frm, z]⟩)
    have offF : a ∉ X.fs := fun hm => by
      obtain ⟨e, me, q⟩ := List.mem_filterMap.mp hm
      exact off (List.mem_filterMap.mpr ⟨e, List.mem_cons_of_mem _ me, q⟩)
    have SS := JJ.suite eob dob na offL offF
    have clauses : ∀ {hs : List ExceptHandler} {ks : List (Value × (Addr → Value → Option Addr → TS))}, AsOk X n hs ks → wAsMany X.K i D ks cls d σ1 H1 →
        wpAny (model X.prog X.w) X.A (handleBy (.ref a) X.env hs) (SP X pins D) X.xe { s' with heap := hp } := by
      intro hs ks ok
      induction ok with
      | nil => intro z; exact z.elim
      | @cons y c ts st sts p1 p2 more ks nm su rest ih =>
        intro z
        obtain ⟨b, eb, yes, no⟩ := z
        refine wpAny_handleBy_cons (codeAny_handlers_test ?_) (by intro q; cases q)
        have look : PySem.W.Looks (model X.prog X.w) hp (typeOf (.ref a)) cls := fun A Q E s k q => wpAny_typeOf_ref (k _ _ eob) (by rw [zob.1]; exact q)
        have tst := PySem.W.exm_one (M := model X.prog X.w) JJ.kIn look eb
        have name : ∀ {Q E : Value → Shared → Prop}, Q c { s' with heap := hp } → wpAny (model X.prog X.w) (X.A.mark (some (.ref a))) (eval (.Name y p1) X.env) Q E { s' with heap := hp } := fun {Q E} q => by
          obtain ⟨g1, g2, g3 | ⟨g3, g4, g5⟩⟩ := nm
          · exact ld_glob (X := X.suite a ((a, ob) :: (X.pn ++ pins))) SS g1 g3 q g2
          · exact ld_blt (X := X.suite a ((a, ob) :: (X.pn ++ pins))) SS g1 g3 g4 q g5 g2
        refine name (tst.here ?_)
        cases b with
        | false => show wpAny _ X.A (handleBy (.ref a) X.env more) _ _ _; exact ih (no rfl)
        | true =>
          refine codeAny_handlers_suite_as (HandSPX.lands_againZ fly fun hq fly2 upq => ?_)
          have J2 : Inv X pins σ1 H1 { s' with heap := hq } := J.landed nb fly2.1 ((up.trans upp).trans upq) os ag
          obtain ⟨ob2, vs2, eob2, zob2, dob2⟩ := fly2.there
          have S2 := J2.suite eob2 dob2 na offL offF
          refine store_ok (X := X.suite a ((a, ob2) :: (X.pn ++ pins))) (v := .ref a) S2 nd at_i (.inl loc) rfl (fun s5 S5 => ?_) (.inr loc)
          refine wpAny_mono ((su a ob2 cls d (X.pn ++ pins) zob2 ⟨_, dob2⟩).run [] s5 _ H1 _ S5 (yes rfl a na)) (fun f s6 q => ?_) fun _ _ z => z.elim
          have shut : ∀ {σ6 : L2.St} {H6 : Hp} {Q : Shared → Prop}, Inv (X.suite a ((a, ob2) :: (X.pn ++ pins))) [] σ6 H6 s6 → (∀ s7, Inv X pins (σ6.set i none) H6 s7 → Q s7) →
              wpAny (model X.prog X.w) X.A (do bindName X.env n .none; unbindBehindTheSuite X.env n p2) (fun _ s7 => Q s7) X.xe s6 := fun S6 k => gone_ok (S6.unsuite okX) nd at_i loc k
          cases f with
          | next => obtain ⟨σ6, H6, S6, q⟩ := q; exact shut S6 fun s7 J7 => ⟨_, _, J7, q⟩
          | brk => obtain ⟨σ6, H6, S6, q⟩ := q; exact shut S6 fun s7 J7 => ⟨_, _, J7, q⟩
          | cont => obtain ⟨σ6, H6, S6, q⟩ := q; exact shut S6 fun s7 J7 => ⟨_, _, J7, q⟩
          | ret u => obtain ⟨v, σ6, H6, S6, r, q⟩ := q; exact shut S6 fun s7 J7 => ⟨_, _, _, J7, r, q⟩
    exact clauses hh w
end
end DL

set_option maxHeartbeats 4000000
/-! DLT: told(lambda: f(..)): the value, or what flew. -/
namespace DL
open PySem PySem.Spec PyProof.Rows L2
/-- a class of errors, its mro written out -/
def ErrAt (K : PySem.W.Frag) (M C : Addr) : Prop := ∃ nm q N bs sn sub ab col dd k0 k1 k2 k3 k5, K.lookup C = some (excClassObj nm q C N bs (.ref M :: tailE) true sn sub ab col dd k0 k1 k2 k3 k5 "Exception.__new__")
section
variable {K : PySem.W.Frag} {M C C' : Addr}
theorem ErrAt.cls (h : ErrAt K M C) : ∃ cd, PySem.W.clsIn K C = some cd ∧ cd.mro = .ref C :: .ref M :: tailE := by
  obtain ⟨nm, q, N, bs, sn, sub, ab, col, dd, k0, k1, k2, k3, k5, e⟩ := h
  refine ⟨{ name := nm, bases := bs, mro := .ref C :: .ref M :: tailE, ns := N, qualname := q, hasDict := true, slotNames := sn, subclasses := sub, abstract := ab, collection := col, hasDel := false }, ?_, rfl⟩
  unfold PySem.W.clsIn; rw [e] <;> rfl
theorem ErrAt.sub (h : ErrAt K M C) (b : Value) : PySem.W.subIn K (.ref C) b = some ((Value.ref C :: .ref M :: tailE).contains b) := by
  obtain ⟨cd, e1, e2⟩ := h.cls
  show PySem.W.mroIn K C b = _
  unfold PySem.W.mroIn
  rw [e1, Option.bind_some, e2]; rfl
theorem ErrAt.ty (h : ErrAt K M C) : PySem.W.typeIn K (.ref C) = some (.type "type") := by
  obtain ⟨nm, q, N, bs, sn, sub, ab, col, dd, k0, k1, k2, k3, k5, e⟩ := h
  show (K.lookup C).map (·.cls) = _
  rw [e]; rfl
theorem ErrAt.exm (h : ErrAt K M C) (h' : ErrAt K M C') (ne : C' ≠ M) : PySem.W.exmOne K (.ref C) (.ref C') = some (decide (C' = C)) := by
  have e1 : (PySem.W.subIn K (.ref C') (.type "BaseException") == some true) = true := by
    rw [h'.sub, List.contains_cons, List.contains_cons]; rfl
  obtain ⟨cd, e2, _⟩ := h'.cls
  have e3 : ((PySem.W.clsIn K C').isSome && PySem.W.typeIn K (.ref C') == some (.type "type")) = true := by rw [e2, h'.ty]; rfl
  unfold PySem.W.exmOne PySem.W.kitCls
  rw [if_pos e1]
  show (if ((PySem.W.clsIn K C').isSome && PySem.W.typeIn K (.ref C') == some (.type "type")) = true then PySem.W.subIn K (.ref C) (.ref C') else none) = _
  rw [if_pos e3, h.sub]
  have t : tailE.contains (Value.ref C') = false := rfl
  rw [List.contains_cons, List.contains_cons, t]
  have n2 : (Value.ref C' == Value.ref M) = false := by simpa using ne
  rw [n2]
  by_cases e : C' = C
  · subst e; simp
  · have : (Value.ref C' == Value.ref C) = false := by simpa using e
    rw [this]; simp [e]
end
/-- what the clauses tell of an error -/
abbrev Hds := List (Addr × Str × List Str)
def wTold (K : PySem.W.Frag) (Q : VK) : Hds → XK
  | [] => fun _ _ _ => False
  | (C, nm, fs) :: r => fun cls d H => ∃ b, PySem.W.exmOne K cls (.ref C) = some b ∧
      (b = true → cls = .ref C ∧ ∃ (dd : Addr) (as : List (Str × V)) (vs : List V), d = some dd ∧ H dd = some (.xd as) ∧ fs.map (fun f => as.lookup f) = vs.map some ∧ vs.length ≤ 1000 ∧ ∀ p, H p = none → Q (.ref p) (upd H p (.tup (.str nm :: vs)))) ∧
      (b = false → wTold K Q r cls d H)
/-- the fields, read in a clause -/
def tXfs (a : Addr) (cls : Value) (d : Option Addr) (C : Addr) : List Str → TA
  | [] => tNil
  | f :: r => tCons (tXf a cls d C f (tVar 1)) (tXfs a cls d C r)
def toldL (hs : Hds) : List (Value × (Addr → Value → Option Addr → TS)) := hs.map fun x => (.ref x.1, fun a cls d => tRet (tTup (tCons (tC (.str x.2.1)) (tXfs a cls d x.1 x.2.2))))
theorem tXfs_ok {a C dd : Addr} {cls : Value} {as : List (Str × V)} {σ : L2.St} {H : Hp} (hc : cls = .ref C) (h0 : σ[1]? = some (some (.ref a))) (h1 : H dd = some (.xd as)) : ∀ {fs : List Str} {vs : List V} {Q : List V → Hp → Prop}, fs.map (fun f => as.lookup f) = vs.map some → Q vs H → tXfs a cls (some dd) C fs σ H Q
  | [], [], Q, _, q => q
  | [], _ :: _, _, h, _ => by simp at h
  | _ :: _, [], _, h, _ => by simp at h
  | f :: r, v :: vs, Q, h, q => by
    simp only [List.map_cons, List.cons.injEq] at h
    exact ⟨.ref a, h0, rfl, hc, dd, as, v, rfl, h1, h.1, tXfs_ok hc h0 h1 h.2 q⟩
theorem told_as {K : PySem.W.Frag} {Q : VK} {D : Ends} {cls : Value} {d : Option Addr} {σ : L2.St} {H : Hp} (hl : σ.length = 2) (hD : D.rt = Q) : ∀ {hs : Hds}, wTold K Q hs cls d H → wAsMany K 1 D (toldL hs) cls d σ H
  | [], h => h
  | (C, nm, fs) :: r, h => by
    obtain ⟨b, e, yes, no⟩ := h
    refine ⟨b, e, fun hb a ha => ?_, fun hb => told_as hl hD (no hb)⟩
    obtain ⟨hc, dd, as, vs, rfl, h1, h2, h3, h4⟩ := yes hb
    have h0 : (σ.set 1 (some (V.ref a)))[1]? = some (some (.ref a)) := List.getElem?_set_self (by omega)
    subst hD
    exact tXfs_ok hc h0 h1 h2 ⟨by rw [List.length_cons, sizeLine_eq]; omega, h4⟩
/-- told(lambda: ..) of what the lambda does -/
def TToldM (K : PySem.W.Frag) (hs : Hds) : (XK → Hp → VK → Prop) → Hp → VK → Prop := fun tl H Q =>
  tl (wTold K Q hs) H fun v H1 => [V.str "value", v].length ≤ sizeLine ∧ ∀ p, H1 p = none → Q (.ref p) (upd H1 p (.tup [.str "value", v]))
theorem takes_len {Y : Cx} {W : WX} (tk : Takes Y W) : Takes Y (fun cls d σ H => σ.length = Y.N.length → W cls d σ H) := fun u s' ⟨a, B, sI, pins, σ, H, cls, d, e, I, nb, up, sky, na, os, ag, w⟩ =>
  tk u s' ⟨a, B, sI, pins, σ, H, cls, d, e, I, nb, up, sky, na, os, ag, w I.len⟩
section
variable {X : Cx} {x a why q : Str} {sg : Scope} {g : Addr} {cdg : Value} {hd : ExceptHandler} {more : List ExceptHandler} {hs : Hds} {p1 p2 p3 p4 p5 p6 : Pos} {j cx : Nat}
/-- the context of told's body -/
abbrev toldCx (P : Program) (w : World) (K : PySem.W.Frag) (mg : Str → Option Value) (base : Heap) (a why x : Str) (sg : Scope) (g : Addr) (cdg : Value) (A : Around) (st : List Env) (s : Shared) (H : Hp) : Cx := (cxOf C8.CX0 P w K mg base [a, why] x sg g cdg A st s H C8.E0).nox
theorem told_many (nd : a ≠ why) (loc : sg.names.lookup why = some .local)
    (hAs : ∀ A st s H, AsOk (toldCx X.prog X.w X.K X.mg X.base a why x sg g cdg A st s H) why (hd :: more) (toldL hs)) :
    LamX.GivesTo X [a, why] x sg g cdg [.Try [.Return (some (.Tuple [.Constant (.str "value") j p1, .Call (.Name a p2) [] [] p3] cx p4)) p5] (hd :: more) [] [] p6] a q (TToldM X.K hs) := by
  intro f c' s H Q tl act hc h
  refine ⟨_, pss_one (ps_try_as_many (X := toldCx X.prog X.w X.K X.mg X.base a why x sg g cdg X.A X.stack s H) (i := 1) (l := toldL hs)
    (tb := fun W D σ H => ∃ Ech : XK, (∀ cls d σ' H', Ech cls d H' → σ'.length = 2 → W cls d σ' H') ∧ σ[0]? = some (some (.ref f)) ∧ H c' = some (LamX.CodeO c' q) ∧
      tl Ech H fun v H1 => [V.str "value", v].length ≤ sizeLine ∧ ∀ p, H1 p = none → D.rt (.ref p) (upd H1 p (.tup [.str "value", v])))
    rfl rfl (by show [a, why].Nodup; simpa using nd) rfl loc (fun W pn xe tk _ => ?_) (hAs _ _ _ _)), ?_⟩
  · refine ⟨fun pins s' σ H' D I h' => ?_⟩
    obtain ⟨Ech, hW, h1, h2, h3⟩ := h'
    have hp := act _ pn xe Ech p2 p3 (takes_len tk) hW
    have hq : PSs ((cxOf C8.CX0 X.prog X.w X.K X.mg X.base [a, why] x sg g cdg X.A X.stack s H C8.E0).tr pn xe) [.Return (some (.Tuple [.Constant (.str "value") j p1, .Call (.Name a p2) [] [] p3] cx p4)) p5] _ :=
      pss_one (ps_ret (pe_tup (pa_cons pe_str (pa_cons hp pa_nil))))
    exact hq.run pins s' σ H' D I ⟨h1, h2, h3⟩
  · exact ⟨wTold X.K Q hs, fun cls d σ' H' w hl => told_as hl rfl w, rfl, hc, h⟩
end
end DL

set_option maxHeartbeats 4000000
/-! DLU: told(lambda: f(..)), over data. -/
namespace DL
open PySem L2
def lookAll (l : List (Str × D)) : List Str → Option (List D)
  | [] => some []
  | f :: r => (l.lookup f).bind fun d => (lookAll l r).bind fun ds => some (d :: ds)
def toldX : Hds → Xc → Option D
  | [], _ => none
  | (C, nm, fs) :: r, x => if C = x.C then (lookAll x.fs fs).map fun ds => .tup (.str nm :: ds) else toldX r x
def toldR (hs : Hds) : Rz (O × List O) → Rz D
  | .ok (o, []) => .ok (.tup [.str "value", o.toD])
  | .er x => Rz.of (toldX hs x)
  | _ => .no
def gTold (hs : Hds) (n : Nat) (Φ : List O → Rz (O × List O)) (ga : DEnv → Rz (List D × DEnv)) : DEnv → Rz (D × DEnv) := fun δ => (ga δ).nox.bind fun p =>
  if p.1.length = n then (toldR hs (Φ (p.1.map .fz))).bind fun d => .ok (d, p.2) else .no
section
variable {K : PySem.W.Frag}
theorem look_two {F : Hp} {f : Str} {d : D} : ∀ {as : List (Str × V)} {ds : List (Str × D)}, as.map Prod.fst = ds.map Prod.fst → FzL K F (as.map Prod.snd) (ds.map Prod.snd) → ds.lookup f = some d → ∃ v, as.lookup f = some v ∧ Fz K F v d
  | [], [], _, _, h => by cases h
  | [], _ :: _, h, _, _ => by simp at h
  | _ :: _, [], h, _, _ => by simp at h
  | (g, v) :: as, (g', e) :: ds, h, l, q => by
    simp only [List.map_cons, List.cons.injEq] at h
    obtain ⟨rfl, h⟩ := h
    cases l with
    | cons z l =>
      rw [List.lookup_cons] at q
      cases eq : (f == g) with
      | true => rw [eq] at q; cases q; exact ⟨v, by rw [List.lookup_cons, eq], z⟩
      | false =>
        rw [eq] at q
        obtain ⟨w, w1, w2⟩ := look_two h l q
        exact ⟨w, by rw [List.lookup_cons, eq]; exact w1, w2⟩
theorem look_all {F : Hp} {as : List (Str × V)} {ds : List (Str × D)} (h : as.map Prod.fst = ds.map Prod.fst) (l : FzL K F (as.map Prod.snd) (ds.map Prod.snd)) : ∀ {fs : List Str} {es : List D}, lookAll ds fs = some es → ∃ vs, fs.map (fun f => as.lookup f) = vs.map some ∧ FzL K F vs es
  | [], es, q => by cases q; exact ⟨[], rfl, .nil⟩
  | f :: r, es, q => by
    unfold lookAll at q
    obtain ⟨d, e1, q⟩ := Option.bind_eq_some_iff.mp q
    obtain ⟨ds', e2, q⟩ := Option.bind_eq_some_iff.mp q
    cases q
    obtain ⟨v, v1, v2⟩ := look_two h l e1
    obtain ⟨vs, w1, w2⟩ := look_all h l e2
    exact ⟨v :: vs, by rw [List.map_cons, List.map_cons, v1, w1], .cons v2 w2⟩
theorem told_mem {x : Xc} {d : D} : ∀ {hs : Hds}, toldX hs x = some d → ∃ y ∈ hs, y.1 = x.C
  | [], h => by cases h
  | (C, nm, fs) :: r, h => by
    unfold toldX at h
    by_cases e : C = x.C
    · exact ⟨_, List.mem_cons_self, e⟩
    · rw [if_neg e] at h
      obtain ⟨y, y1, y2⟩ := told_mem h
      exact ⟨y, List.mem_cons_of_mem _ y1, y2⟩
theorem told_er {M : Addr} {x : Xc} {d : D} {dd : Addr} {F H : Hp} {Q : VK} (hx : ErrAt K M x.C) (xa : XAt K x dd F H)
    (k : ∀ vs ds nm, d = .tup (.str nm :: ds) → FzL K F vs ds → ∀ p, H p = none → Q (.ref p) (upd H p (.tup (.str nm :: vs)))) :
    ∀ {hs : Hds}, (∀ y ∈ hs, ErrAt K M y.1 ∧ y.1 ≠ M ∧ y.2.2.length ≤ 1000) → toldX hs x = some d → wTold K Q hs (.ref x.C) (some dd) H
  | [], _, h => by cases h
  | (C, nm, fs) :: r, hh, h => by
    obtain ⟨h1, h2, h3⟩ := hh _ List.mem_cons_self
    refine ⟨_, hx.exm h1 h2, fun hb => ?_, fun hb => ?_⟩
    · have e : C = x.C := of_decide_eq_true hb
      unfold toldX at h
      rw [if_pos e] at h
      obtain ⟨es, e1, e2⟩ := Option.map_eq_some_iff.mp h
      obtain ⟨as, a1, a2, a3⟩ := xa
      obtain ⟨vs, v1, v2⟩ := look_all a2 a3 e1
      refine ⟨by rw [e], dd, as, vs, rfl, a1, v1, ?_, k vs es nm e2.symm v2⟩
      have := congrArg List.length v1
      rw [List.length_map, List.length_map] at this
      rw [← this]; exact h3
    · have e : ¬ C = x.C := of_decide_eq_false hb
      unfold toldX at h
      rw [if_neg e] at h
      exact told_er hx xa k (fun y hy => hh y (List.mem_cons_of_mem _ hy)) h
variable {TB : List (Addr × Str)} {B : XKt TB}
theorem di_told {M : Addr} {hs : Hds} {n : Nat} {Φ : List O → Rz (O × List O)} {ta : XK → TA} {ga : DEnv → Rz (List D × DEnv)} (ha : ∀ E : XKt TB, DA K E (ta E) ga) (hh : ∀ y ∈ hs, ErrAt K M y.1 ∧ y.1 ≠ M ∧ y.2.2.length ≤ 1000) :
    DI K B (LamX.tLam TB (TToldM K hs) (fun E => tCall (spD K TB n [] Φ) [] E (ta E))) (gTold hs n Φ ga) := fun c R δ σ F H s Q q => by
  refine ⟨s.tabs, fun H1 eN T1 => ?_⟩
  have eX : Ext H H1 := ⟨fun a o h n => eN a o h fun ps e => n (by rw [e]; trivial)⟩
  have s1 := s.grow eX T1
  unfold gTold at q
  rw [Rz.post_bind] at q
  refine ha (wTold K Q hs) c R δ σ F H1 s1 _ (Rz.post_mono (Rz.post_nox q) (fun p q vs F2 H2 s2 l2 h2 z2 => ?_) fun _ z => z)
  by_cases hl : p.1.length = n
  · rw [if_pos hl, Rz.post_bind] at q
    rw [List.append_nil]
    refine ⟨p.1.map .fz, F2, fun _ => False, by rw [List.length_map]; exact hl, s2.sub, s2.nt, OwL.leaves z2, fun a z => z.elim, s2.tabs, ?_⟩
    have s2' : Sim K c (fun a => R a ∨ False) p.2 σ F2 H2 := s2.drop _ fun a z => z.elim id False.elim
    have hR : Held R H H2 := (Held.of eX).trans h2
    cases e : Φ (p.1.map .fz) with
    | no => rw [e] at q; exact q.elim
    | ok r =>
      obtain ⟨o, ws⟩ := r
      rw [e] at q
      cases ws with
      | cons _ _ => exact q.elim
      | nil =>
        intro v F3 H3 Sr S' ch dj w _
        have s3 : Sim K c (fun a => R a ∨ Sr a) p.2 σ F3 H3 := (s2'.step (fun a z => z.elim) ch).drop _ fun a z => z.imp id .inl
        have nr : ∀ a, Sr a → ¬ R a := fun a z y => by
          rcases (ch.own a (.inl z)).1 with k | k
          · exact k
          · exact k (s2.rs a y).2.1
        obtain ⟨F4, l4, s4, z4⟩ := s3.freeze w nr
        refine ⟨by show 2 ≤ sizeLine; rw [PySem.sizeLine_eq]; omega, fun a ha => ?_⟩
        refine q (.ref a) (upd F4 a (.tup [.str "value", v])) _ (s4.new ha fun z => z) (((l2.trans ch.le).trans l4).trans (Le.new (s4.fresh ha))) ?_ (.tup (sqT_of upd_same) (.cons (.str _) (.cons (z4.mono (Le.new (s4.fresh ha))) .nil)))
        exact (hR.trans fun b u _ hb hn => ch.keep b u (fun z => z) hb hn).trans (.of (.new ha))
    | er x =>
      rw [e] at q
      show ∀ d F' H', _ → _ → wTold K Q hs (.ref x.C) (some d) H'
      intro dd F3 H3 ch xa
      obtain ⟨d, e2, q⟩ := Rz.post_of q
      obtain ⟨y, y1, y2⟩ := told_mem e2
      have s3 : Sim K c R p.2 σ F3 H3 := (s2'.step (fun a z => z.elim) ch).drop _ fun a z => .inl z
      refine told_er (y2 ▸ (hh y y1).1) xa (fun vs ds nm ed zl a ha => ?_) hh e2
      subst ed
      refine q (.ref a) (upd F3 a (.tup (.str nm :: vs))) _ (s3.new ha fun z => z) ((l2.trans ch.le).trans (Le.new (s3.fresh ha))) ?_ (.tup (sqT_of upd_same) (.cons (.str _) (zl.mono (Le.new (s3.fresh ha)))))
      exact (hR.trans fun b u _ hb hn => ch.keep b u (fun z => z) hb hn).trans (.of (.new ha))
  · rw [if_neg hl] at q; exact q.elim
end
end DL

set_option maxHeartbeats 4000000
/-! DLV: words of the printed text for errors, told and lambdas. -/
namespace DL
open PySem L2
/-- a class of errors with its __init__ -/
structure GE (K : PySem.W.Frag) (mg : Str → Option Value) (cn qual : Str) (st : Stmt) (f : Addr) (fd : FuncData) (ps : List Str) (C : Addr) (fld : Str) : Prop where
  F : Fun K "__init__" qual st f fd
  b : Binds K fd ps []
  i : PySem.W.findIn K (.ref C) "__init__" = some (some (.ref f))
  t : PySem.W.typeIn K (.ref f) = some (.type "function")
  n : PySem.W.findIn K (.ref C) fld = some none
  o : OexE K C
  m : mg cn = some (.ref C)
section
variable {X : Cx} {e : Expr} {es : List Expr} {ta : TA} {x qual fld : Str} {p pos pos' : Pos} {CX : CXT} {C f : Addr} {k : Nat} {fd : FuncData} {ps : List Str} {st : Stmt} {E : XK}
theorem ps_raiseE (D : GE X.K X.mg x qual st f fd ps C fld) (F1 : FnOk X.prog X.w X.K X.mg X.base CX k f fd ps (spInit X.K C fld)) (hr : Room (k + 1) X.A) (hx : Passes CX X (fun _ _ _ => False)) (hg : Gl X x) (hc : X.calm = true) (tk : Takes X (fun cls d _ H => E cls d H)) (ha : PA X (e :: es) ta)
    (hdb : (x == ("__debug__" : Str)) = false := by decide) (hse : starEach (e :: es) X.env = (false, eval e X.env) :: starEach es X.env := by rfl) (hpl : (backTo pos (starEach es X.env)).any (·.1) = false := by rfl) :
    PS X (.Raise (some (.Call (.Name x p) (e :: es) [] pos)) none pos') (tRaise1 C fld E ta) :=
  ps_raise1 hc tk (pmk1 D.o D.i D.t D.n F1 hr D.b hx hg D.m ha hdb hse hpl)
end
/-! ### defs that make lambdas -/
/-- the code object of the def at f -/
def CodeAt (K : PySem.W.Frag) (f c : Addr) : Prop := ∃ (oc : Value) (od : Option Addr) (x qual : Str) (pa : Arguments) (bo : List Stmt) (sc : Scope) (kV doc pm : Value) (an : Option Addr) (ct : Value) (osl : Array (Option Value)),
  K.lookup f = some ⟨oc, od, .func (PySem.W.fnOf x qual pa bo sc .none kV doc pm an (.ref c) ct), osl⟩
section
variable {P : Program} {w : World} {K : PySem.W.Frag} {mg : Str → Option Value} {base : Heap}
theorem fun_okC {x qual : Str} {st : Stmt} {f c : Addr} {fd : FuncData} {N ps : List Str} {k : Nat} {sp : Sp} (F : Fun K x qual st f fd) (hcd : CodeAt K f c) (S : FnScope N ps (defScope st)) (len : ∀ vs H Q E, sp vs H Q E → vs.length = ps.length)
    (body : ∀ (A : Around) (outer : List Env) (s : Shared) (H : Hp) (vs : List V) (Q : VK) (E : XK), Room k (A.deeper (PyProof.Rows.envOfC qual (defScope st) s.heap.objs.size f (.ref c))) → sp vs H Q E →
      ∃ t, PSs (cxOf (L2.CX P w) P w K mg base N qual (defScope st) f (.ref c) A outer s H E) (defBody st) t ∧ t { nx := fun _ H' => Q .non H', rt := Q } (L2.start N vs) H) : FnOk P w K mg base (L2.CX P w) (k + 1) f fd ps sp := by
  obtain ⟨oc, od, kV, doc, pm, an, cdv, ct, osl, rfl, lk, hc⟩ := F.ex
  obtain ⟨_, _, _, _, _, _, _, _, _, _, _, _, _, lk2⟩ := hcd
  rw [lk] at lk2
  have e : cdv = .ref c := by
    have := congrArg (fun o : Option Obj => o.bind fun o => match o.data with | .func fd => some fd.code | _ => none) lk2
    simpa [PySem.W.fnOf] using this
  subst e
  exact fn_of lk hc S len fun A outer s H vs Q E hr hsp => body A outer s H vs Q E hr hsp
/-- as fn_R, for a def that makes lambdas -/
theorem fn_RC {TB : List (Addr × Str)} {x qual : Str} {st : Stmt} {f c : Addr} {fd : FuncData} {N ps : List Str} {k M n : Nat} {pin : List Nat} {r : Run} (F : Fun K x qual st f fd) (hcd : CodeAt K f c) (S : FnScope N ps (defScope st)) (hM : N.length = M) (hn : ps.length = n) (hN : n ≤ M) (nd : pin.Nodup) (hpin : ∀ i ∈ pin, i < n)
    (body : ∀ (A : Around) (outer : List Env) (s : Shared) (H : Hp) (E : XK), Room k (A.deeper (PyProof.Rows.envOfC qual (defScope st) s.heap.objs.size f (.ref c))) →
      ∃ t, PSs (cxOf (L2.CX P w) P w K mg base N qual (defScope st) f (.ref c) A outer s H E) (defBody st) t ∧ RS K (TB := TB) E pin t r) :
    FnOk P w K mg base (L2.CX P w) (k + 1) f fd ps (spD K TB n pin (phi M n pin r)) := by
  subst hM
  refine fun_okC F hcd S (fun vs H Q E h => (spD_len h).trans hn.symm) fun A outer s H vs Q E hr h => ?_
  obtain ⟨t, h1, h2⟩ := body A outer s H E hr
  exact ⟨t, h1, spD_run hN nd hpin h2 lift_T h⟩
end
/-- the tables: code object, table, name -/
abbrev Tabl := List ((Addr × Addr) × Str)
def tbOf (l : Tabl) : List (Addr × Str) := l.map fun x => (x.1.2, x.2 ++ "<lambda>")
theorem nodup_inj {α β : Type} (f : α → β) : ∀ {l : List α} {a b : α}, (l.map f).Nodup → a ∈ l → b ∈ l → f a = f b → a = b
  | [], _, _, _, h, _, _ => by cases h
  | x :: r, a, b, nd, ha, hb, e => by
    rw [List.map_cons] at nd
    obtain ⟨n1, n2⟩ := List.nodup_cons.mp nd
    rcases List.mem_cons.mp ha with h1 | h1
    · rcases List.mem_cons.mp hb with h2 | h2
      · rw [h1, h2]
      · exact absurd (by rw [← h1, e]; exact List.mem_map_of_mem h2) n1
    · rcases List.mem_cons.mp hb with h2 | h2
      · exact absurd (by rw [← h2, ← e]; exact List.mem_map_of_mem h1) n1
      · exact nodup_inj f n2 h1 h2 e
theorem tb_one {l : Tabl} (nd : (l.map fun x => x.1.2).Nodup) : ∀ {c P : Addr} {q : Str}, ((c, P), q) ∈ l → (P, q ++ "<lambda>") ∈ tbOf l ∧ ∀ p ∈ tbOf l, p.1 = P → p.2 = q ++ "<lambda>" := fun {c P q} h => by
  refine ⟨List.mem_map.mpr ⟨_, h, rfl⟩, fun p hp e => ?_⟩
  obtain ⟨y, hy, rfl⟩ := List.mem_map.mp hp
  have := nodup_inj (fun x : (Addr × Addr) × Str => x.1.2) nd hy h e
  rw [this]
section
variable {X : Cx} {K : PySem.W.Frag} {mg : Str → Option Value} {x a why : Str} {st : Stmt} {g c P : Addr} {fd : FuncData} {l : Tabl} {k j cx : Nat} {hs : Hds} {hd : ExceptHandler} {more : List ExceptHandler} {params : Arguments} {body : Expr} {scope sc : Scope} {t : XK → TE}
  {p p1 p2 p3 p4 p5 p6 lpos pos : Pos}
/-- told(lambda: body) -/
theorem pe_told (D : GF X.K X.mg x st g fd [a]) (S : FnScope [a, why] [a] (defScope st)) (hb : defBody st = [.Try [.Return (some (.Tuple [.Constant (.str "value") j p1, .Call (.Name a p2) [] [] p3] cx p4)) p5] (hd :: more) [] [] p6])
    (loc : (defScope st).names.lookup why = some .local) (hva : Vis (defScope st) a) (hAs : ∀ cdg A u s H, AsOk (toldCx X.prog X.w X.K X.mg X.base a why x (defScope st) g cdg A u s H) why (hd :: more) (toldL hs)) (nd : (l.map fun x => x.1.2).Nodup)
    (TB : ∀ p ∈ l, LamX.TabB X.base X.mg p.1.1 p.1.2) (hr : Room (k + 2) X.A)
    (hbody : ∀ (A : Around) (outer : List Env) (s : Shared) (H : Hp) (E : XK) (f c' : Addr), Room k (A.deeper (LamX.lamEnv X scope s.heap.objs.size f c')) → PE (LamX.lamCx X A outer s H E scope f c') body (t E))
    (hcode : X.env.code = .ref c := by rfl)
    (hm : ((c, P), X.env.qual) ∈ l := by first | exact List.Mem.head _ | exact .tail _ (.head _) | exact .tail _ (.tail _ (.head _)) | exact .tail _ (.tail _ (.tail _ (.head _))))
    (hg : Gl X x := by rfl) (L : LamX.LamS sc scope := by exact LamX.lamS_by (by decide +kernel)) (hsc : X.env.scope = sc := by rfl) (hdef : defaultsOf params X.env = ([], []) := by rfl)
    (hbind : ∀ (q : Str) (cl : List (Str × Addr)) (pm cv ctv : Value), bindArgs (PySem.W.kla_fn "<lambda>" q params body scope cl pm cv ctv) ⟨[], []⟩ = pure [] := by exact fun _ _ _ _ _ => rfl)
    (hdb : (x == ("__debug__" : Str)) = false := by decide) (h1 : (a == ("__debug__" : Str)) = false := by decide) (h2 : (a == ("__classdict__" : Str)) = false := by decide) :
    PE X (.Call (.Name x p) [.Lambda params body scope lpos] [] pos) (LamX.tLam (tbOf l) (TToldM X.K hs) t) := by
  obtain ⟨oc, od, kV, doc, pm, an, cdv, ct, osl, e, lk, hc⟩ := D.F.ex
  subst e
  have ndN : a ≠ why := by have := S.nd; simpa using this
  refine LamX.pe_lamcall hg D.m D.k lk hc D.b S rfl hva ?_ (TB _ hm) hcode (tb_one nd hm).1 (tb_one nd hm).2 hr (by rw [hsc]; exact L) hdef hbind hbody hdb h1 h2
  rw [hb]
  exact told_many ndN loc fun A u s H => hAs _ A u s H
end
end DL

/-! DLE: the law's own end, with tables. -/
namespace DL
open PySem L2
def spLT (K : PySem.W.Frag) (cs : Tabl) : Sp := fun vs H Q _ => ∃ (a : Addr) (ns : List Int), vs = [.ref a] ∧ SqL K H a (ns.map V.int) ∧ Small ns ∧ (∀ p ∈ cs, H p.1.2 = some (.tbl #[])) ∧ Q = fun v _ => v = .bl true
theorem spLT_D {K : PySem.W.Frag} {cs : Tabl} {Φ : List O → Rz (O × List O)} (h : ∀ ns : List Int, Small ns → Φ [scrO ns] = .ok (.fz (.bl true), [])) (vs : List V) (H : Hp) (Q : VK) (E : XK) (q : spLT K cs vs H Q E) : spD K (tbOf cs) 1 [] Φ vs H Q E := by
  obtain ⟨a, ns, rfl, hS, hs, hT, rfl⟩ := q
  have key : ∃ F : Hp, Le F H ∧ (∀ b o, F b = some o → ¬ isTbl o) ∧ SqL K F a (ns.map V.int) := by
    rcases hS with (z | ⟨o, z⟩) | z
    · refine ⟨upd (fun _ => none) a (.lst (ns.map V.int)), fun b o e => ?_, fun b o e => ?_, .inl (.inl upd_same)⟩
      · by_cases hb : b = a
        · subst hb; rw [upd_same] at e; rw [z, ← e]
        · rw [upd_ne hb] at e; cases e
      · by_cases hb : b = a
        · subst hb; rw [upd_same] at e; cases e; exact fun z => z
        · rw [upd_ne hb] at e; cases e
    · refine ⟨upd (fun _ => none) a (.frz o (.lst (ns.map V.int))), fun b u e => ?_, fun b u e => ?_, .inl (.inr ⟨o, upd_same⟩)⟩
      · by_cases hb : b = a
        · subst hb; rw [upd_same] at e; rw [z, ← e]
        · rw [upd_ne hb] at e; cases e
      · by_cases hb : b = a
        · subst hb; rw [upd_same] at e; cases e; exact fun z => z
        · rw [upd_ne hb] at e; cases e
    · exact ⟨fun _ => none, fun b u e => (by cases e), fun b u e => (by cases e), .inr z⟩
  obtain ⟨F, l, n, z⟩ := key
  refine ⟨[scrO ns], F, fun _ => False, rfl, l, n, .cons (S1 := fun _ => False) (S2 := fun _ => False) (fun _ z => z) (fun _ z => z) (fun _ _ z => z) (.fz (.scr z (FzL.ints ns))) .nil, fun _ z => z.elim, fun p hp => ?_, ?_⟩
  · obtain ⟨y, hy, rfl⟩ := List.mem_map.mp hp
    exact LamX.TabS.nil (hT y hy)
  · rw [h ns hs]
    intro v F' H' Sr S' _ _ w _
    cases w with
    | fz z => cases z; rfl
theorem walkDT {k : Nat} {l : PySem.W.OpenLaw} {q : Program} {loose : List Str} {XP : (Str → Option Value) → Heap → Prop} {YP : World → Heap → Prop} {d : DefRec} {K : Params → PySem.W.Frag} (hr : Room k callerA) (hn : l.most = some 63) (hdf : d.params.defaults = [])
    (hY : ∀ (w : World) (h : Heap), YP w h → (K w.params).In h)
    (F : ∀ (w : World) (mg : Str → Option Value) (fa : Addr) (h : Heap), YP w h → (K w.params).In h → h.Ns mainGlobals mg → mg d.name = some (.ref fa) →
      ∃ (fd : FuncData) (cs : Tabl), (∀ p ∈ cs, h.get? p.1.2 = some { cls := .none, data := .fields #[] }) ∧ (∀ p ∈ cs, (K w.params).lookup p.1.2 = none) ∧ (∀ p ∈ cs, PySem.W.CodeHd h p.1.1 p.1.2) ∧
        (∀ (s : Shared) (u : Value), BindsTo s fd ⟨[u], []⟩ [("script", u)]) ∧ ∀ base : Heap, (K w.params).In base → base.Ns mainGlobals mg → (∀ p ∈ cs, LamX.TabB base mg p.1.1 p.1.2) → FnOk l.prog w (K w.params) mg base (L2.CX l.prog w) k fa fd ["script"] (spLT (K w.params) cs)) :
    PySem.W.WalkO q loose XP YP l.row.toRowW d [] (fun f vs => PySem.call f vs) := by
  refine LamX.walk_ofTs (n := 63) (k := k) (x := "script") (CX := fun w => L2.CX l.prog w) hn (by decide) hdf hr hY (fun w mg fa h Y X G hm => ?_) fun _ _ _ _ _ z => cx_none z
  obtain ⟨fd, cs, h1, h2, h3, h4, h5⟩ := F w mg fa h Y X G hm
  refine ⟨fd, cs.map (·.1), spLT (K w.params) cs, fun p hp => ?_, fun p hp => ?_, fun p hp => ?_, h4, fun H a ns hl hb hT hS => ?_, fun base x g t => h5 base x g fun p hp => t p.1 (List.mem_map_of_mem hp)⟩
  · obtain ⟨y, hy, rfl⟩ := List.mem_map.mp hp; exact h1 y hy
  · obtain ⟨y, hy, rfl⟩ := List.mem_map.mp hp; exact h2 y hy
  · obtain ⟨y, hy, rfl⟩ := List.mem_map.mp hp; exact h3 y hy
  · exact ⟨a, ns, rfl, hS, ⟨hl, hb⟩, fun p hp => hT p.1 (List.mem_map_of_mem hp), rfl⟩
end DL

/-! DLF: further operations over data: -, gcd, lcm, tuple * int, list * int, slices of any kind, deep ==; zip, range with a step. -/
namespace DL
open PySem L2
section
variable {K : PySem.W.Frag} {TB : List (Addr × Str)} {B : XKt TB} {te ta tb : TE}
def fNeg : D → Option D
  | .int i => some (.int (-i))
  | _ => none
theorem on_neg : Op1 K (rU fun i => .int (-i)) fNeg := fun F H v d e l z q => by
  unfold fNeg at q
  split at q
  · next i => cases q; cases z; exact .inl ⟨_, .int _, fun Q hq => ⟨i, rfl, hq⟩⟩
  · cases q
def fGcd : List D → Option D
  | [.int a, .int b] => some (.int ((Nat.gcd a.natAbs b.natAbs : Nat) : Int))
  | _ => none
theorem on_gcd : OpN K rGcd fGcd := fun F H vs ds x l z q => by
  unfold fGcd at q
  split at q
  · next a b =>
    cases q
    cases z with
    | cons z1 z =>
      cases z with
      | cons z2 z => cases z; cases z1; cases z2; exact .inl ⟨_, .int _, fun Q hq => ⟨a, b, rfl, hq⟩⟩
  · cases q
def rLcm : List V → Hp → VK → Prop := fun vs H Q => ∃ a b : Int, vs = [.int a, .int b] ∧ a.natAbs < 2 ^ 64 ∧ b.natAbs < 2 ^ 64 ∧ Q (.int ((a.natAbs.lcm b.natAbs : Nat) : Int)) H
theorem cr_lcm {X : Cx} : CallR X (.builtin "math.lcm") rLcm := fun pins s σ H vs us Q I r h => by
  obtain ⟨a, b, rfl, h1, h2, q⟩ := h
  obtain ⟨t, u, rfl⟩ := Vals.int2 r
  exact PySem.W.mc_lcm h1 h2 fun _ => ⟨.int _, H, I.tok _, ⟨_, rfl⟩, q⟩
def fLcm : List D → Option D
  | [.int a, .int b] => if a.natAbs < 1000000000000 ∧ b.natAbs < 1000000000000 then some (.int ((Nat.lcm a.natAbs b.natAbs : Nat) : Int)) else none
  | _ => none
theorem on_lcm : OpN K rLcm fLcm := fun F H vs ds x l z q => by
  unfold fLcm at q
  split at q
  · next a b =>
    by_cases hc : a.natAbs < 1000000000000 ∧ b.natAbs < 1000000000000
    · rw [if_pos hc] at q
      cases q
      cases z with
      | cons z1 z =>
        cases z with
        | cons z2 z => cases z; cases z1; cases z2; exact .inl ⟨_, .int _, fun Q hq => ⟨a, b, rfl, by omega, by omega, hq⟩⟩
    · rw [if_neg hc] at q; cases q
  · cases q
def rMax2i : List V → Hp → VK → Prop := fun xs H Q => ∃ i j, xs = [.int i, .int j] ∧ Q (.int (if j > i then j else i)) H
theorem cr_max2 {X : Cx} (hc : X.calm = true) : CallR X (.builtin "max") rMax2i := call_max2 hc
def fMax2 : List D → Option D
  | [.int a, .int b] => some (.int (max a b))
  | _ => none
theorem on_max2 : OpN K rMax2i fMax2 := fun F H vs ds x l z q => by
  unfold fMax2 at q
  split at q
  · next a b =>
    cases q
    cases z with
    | cons z1 z =>
      cases z with
      | cons z2 z =>
        cases z; cases z1; cases z2
        refine .inl ⟨_, .int _, fun Q hq => ⟨a, b, rfl, ?_⟩⟩
        have : (if b > a then b else a) = max a b := by
          by_cases h : b > a
          · rw [if_pos h]; omega
          · rw [if_neg h]; omega
        rw [this]; exact hq
  · cases q
def rMin2i : List V → Hp → VK → Prop := fun xs H Q => ∃ i j, xs = [.int i, .int j] ∧ Q (.int (if j < i then j else i)) H
theorem cr_min2 {X : Cx} (hc : X.calm = true) : CallR X (.builtin "min") rMin2i := call_min2 hc
def fMin2 : List D → Option D
  | [.int a, .int b] => some (.int (min a b))
  | _ => none
theorem on_min2 : OpN K rMin2i fMin2 := fun F H vs ds x l z q => by
  unfold fMin2 at q
  split at q
  · next a b =>
    cases q
    cases z with
    | cons z1 z =>
      cases z with
      | cons z2 z =>
        cases z; cases z1; cases z2
        refine .inl ⟨_, .int _, fun Q hq => ⟨a, b, rfl, ?_⟩⟩
        have : (if b < a then b else a) = min a b := by
          by_cases h : b < a
          · rw [if_pos h]; omega
          · rw [if_neg h]; omega
        rw [this]; exact hq
  · cases q
/-! ### repeated sequences -/
theorem FzL.rep {F : Hp} {vs : List V} {ds : List D} (l : FzL K F vs ds) : ∀ n : Nat, FzL K F (List.replicate n vs).flatten (List.replicate n ds).flatten
  | 0 => .nil
  | n + 1 => by rw [List.replicate_succ, List.replicate_succ, List.flatten_cons, List.flatten_cons]; exact l.append (FzL.rep l n)
def fRepT : D → D → Option D
  | .tup ds, .int k => if ds ≠ [] ∧ 2 ≤ k ∧ k ≤ 1000 ∧ ds.length ≤ 1000 then some (.tup (List.replicate k.toNat ds).flatten) else none
  | _, _ => none
theorem op_repT' : Op2 K (rRepT K) fRepT := fun F H v w d e x l z1 z2 q => by
  unfold fRepT at q
  split at q
  · next ds k =>
    by_cases hc : ds ≠ [] ∧ 2 ≤ k ∧ k ≤ 1000 ∧ ds.length ≤ 1000
    · rw [if_pos hc] at q
      cases q
      cases z2
      cases z1 with
      | tup h m =>
        rename_i a xs
        refine .inr ⟨.tup (List.replicate k.toNat xs).flatten, fun z => z, fun p hp => .tup (sqT_of upd_same) ((m.rep _).mono (Le.new hp)), fun Q hq => ⟨a, k, xs, rfl, rfl, sqT_mono l h, fun e => ?_, hc.2.1, hc.2.2.1, by rw [m.length]; exact hc.2.2.2, hq⟩⟩
        subst e
        exact hc.1 (List.length_eq_zero_iff.mp m.length.symm)
    · rw [if_neg hc] at q; cases q
  · cases q
def fRepL : D → D → Option Dx
  | .lst ds, .int k => if 0 ≤ k ∧ k ≤ 100000 ∧ ds.length * k.toNat ≤ 100000 then some (.new (List.replicate k.toNat ds).flatten) else none
  | _, _ => none
theorem ox_repL : OpX2 K rRep fRepL := fun F H v w d e x l z1 z2 q => by
  unfold fRepL at q
  split at q
  · next ds k =>
    by_cases hc : 0 ≤ k ∧ k ≤ 100000 ∧ ds.length * k.toNat ≤ 100000
    · rw [if_pos hc] at q
      cases q
      cases z2
      cases z1 with
      | lst h m =>
        rename_i a xs
        exact ⟨_, m.rep k.toNat, fun Q hq => ⟨a, k, xs, rfl, rfl, l _ _ h, by omega, by omega, by rw [m.length]; exact big hc.2.2, hq⟩⟩
    · rw [if_neg hc] at q; cases q
  · cases q
/-! ### slices of any kind -/
def rSlU (K : PySem.W.Frag) : V → Option Int → Option Int → Hp → VK → Prop := fun x lo hi H Q => rSlL K x lo hi H Q ∨ (rSlA K x lo hi H Q ∨ rSlS x lo hi H Q)
theorem sl_any {X : Cx} : SlR X (rSlU X.K) := sl_list.or (sl_tupA.or sl_str)
theorem cutD_all {ds : List D} {lo hi : Option Int} (h : HT.sIx ds.length 0 lo = 0 ∧ HT.sIx ds.length ds.length hi = ds.length) : cutD ds lo hi = ds := by
  unfold cutD; rw [h.1, h.2]; simp
def gSlU (ga : DEnv → Rz (D × DEnv)) (gl gh : DEnv → Rz (Option Int × DEnv)) : DEnv → Rz (O × DEnv) := fun δ => (ga δ).bind fun p => (gl p.2).bind fun q => (gh q.2).bind fun r => match p.1 with
  | .lst ds => .ok (.lst ((cutD ds q.1 r.1).map .fz), r.2)
  | .scr ds => .ok (.lst ((cutD ds q.1 r.1).map .fz), r.2)
  | .tup ds => .ok (.fz (.tup (cutD ds q.1 r.1)), r.2)
  | .str z => if z.length ≤ 100000 then .ok (.fz (.str (cutS z q.1 r.1)), r.2) else .no
  | _ => .no
theorem df_slU {tl th : TO} {ga : DEnv → Rz (D × DEnv)} {gl gh : DEnv → Rz (Option Int × DEnv)} (ha : DI K B ta ga) (hl : DO K B tl gl) (hh : DO K B th gh) : DF K B (tSl (rSlU K) ta tl th) (gSlU ga gl gh) := fun c R δ σ F H s Q q => by
  unfold gSlU at q
  rw [Rz.post_bind] at q
  refine ha c R δ σ F H s _ (Rz.post_mono q (fun p q v F1 H1 s1 l1 h1 z1 => ?_) fun _ z => z)
  rw [Rz.post_bind] at q
  refine hl c R p.2 σ F1 H1 s1 _ (Rz.post_mono q (fun x q F2 H2 s2 l2 h2 => ?_) fun _ z => z)
  rw [Rz.post_bind] at q
  refine hh c R x.2 σ F2 H2 s2 _ (Rz.post_mono q (fun y q F3 H3 s3 l3 h3 => ?_) fun _ z => z)
  obtain ⟨d, δ1⟩ := p
  have z3 := z1.mono (l2.trans l3)
  have l := (l1.trans l2).trans l3
  have hd := (h1.trans h2).trans h3
  cases z3 with
  | lst a m =>
    refine .inl ⟨_, _, rfl, sqL_of (s3.sub _ _ a), fun p hp => ?_⟩
    obtain ⟨s4, n, w⟩ := s3.newList hp (m.cut x.1 y.1)
    exact q _ F3 _ _ s4 n l (hd.trans (.of (.new hp))) w
  | scr a m =>
    refine .inl ⟨_, _, rfl, sqL_mono s3.sub a, fun p hp => ?_⟩
    obtain ⟨s4, n, w⟩ := s3.newList hp (m.cut x.1 y.1)
    exact q _ F3 _ _ s4 n l (hd.trans (.of (.new hp))) w
  | @tup pa xs ds a m =>
    refine .inr (.inl ⟨pa, xs, rfl, sqT_mono s3.sub a, fun hw => ?_, fun _ p hp => ?_⟩)
    · rw [m.length] at hw
      have q' := q (.ref pa) F3 H3 (fun _ => False) (s3.drop _ fun a z => z.elim id False.elim) (fun _ z => z.elim) l hd
      rw [cutD_all hw] at q'
      exact q' (.fz (.tup a m))
    · exact q (.ref p) (upd F3 p (.tup (cutV xs x.1 y.1))) _ (fun _ => False) ((s3.new (o := .tup (cutV xs x.1 y.1)) hp fun z => z).drop _ fun a z => z.elim id False.elim) (fun _ z => z.elim) (l.trans (Le.new (s3.fresh hp))) (hd.trans (.of (.new hp))) (.fz (.tup (sqT_of upd_same) ((m.cut x.1 y.1).mono (Le.new (s3.fresh hp)))))
  | str z =>
    dsimp only at q
    by_cases hz : z.length ≤ 100000
    · rw [if_pos hz] at q
      exact .inr (.inr ⟨z, rfl, big hz, q _ F3 H3 (fun _ => False) (s3.drop _ fun a z => z.elim id False.elim) (fun _ z => z.elim) l hd (.fz (.str _))⟩)
    · rw [if_neg hz] at q; exact q.elim
  | _ => exact q.elim
/-! ### deep == -/
mutual
def toP : D → Option PyData
  | .non => some .none
  | .bl b => some (.bool b)
  | .int i => some (.int i)
  | .str x => some (.str x)
  | .lst l => (toPs l).map .list
  | .tup l => (toPs l).map .tuple
  | .scr l => (toPs l).map .list
  | _ => none
def toPs : List D → Option (List PyData)
  | [] => some []
  | d :: r => match toP d, toPs r with
    | some p, some q => some (p :: q)
    | _, _ => none
end
mutual
theorem toP_dp {F H : Hp} (l : Le F H) : ∀ {v : V} {d : D} {p : PyData}, Fz K F v d → toP d = some p → Dp K H v p
  | _, _, _, .non, h => by cases h; exact .non
  | _, _, _, .bl b, h => by cases h; exact .bl b
  | _, _, _, .int b, h => by cases h; exact .int b
  | _, _, _, .str b, h => by cases h; exact .str b
  | _, _, _, .lst a m, h => by
    rw [toP] at h
    obtain ⟨ps, e, rfl⟩ := Option.map_eq_some_iff.mp h
    exact .lst (sqL_of (l _ _ a)) (toPs_dp l m e)
  | _, _, _, .tup a m, h => by
    rw [toP] at h
    obtain ⟨ps, e, rfl⟩ := Option.map_eq_some_iff.mp h
    exact .tup (sqT_mono l a) (toPs_dp l m e)
  | _, _, _, .scr a m, h => by
    rw [toP] at h
    obtain ⟨ps, e, rfl⟩ := Option.map_eq_some_iff.mp h
    exact .lst (sqL_mono l a) (toPs_dp l m e)
  | _, _, _, .ty _, h => by cases h
  | _, _, _, .dk _ _ _, h => by cases h
  | _, _, _, .dt _ _ _, h => by cases h
  | _, _, _, .obj _ _ _, h => by cases h
theorem toPs_dp {F H : Hp} (l : Le F H) : ∀ {v : List V} {d : List D} {p : List PyData}, FzL K F v d → toPs d = some p → DpAll K H v p
  | _, _, _, .nil, h => by cases h; exact .nil
  | _, _, _, .cons (d := d) (ds := ds) z m, h => by
    rw [toPs] at h
    cases e1 : toP d with
    | none => rw [e1] at h; cases h
    | some p =>
      rw [e1] at h
      cases e2 : toPs ds with
      | none => rw [e2] at h; cases h
      | some q => rw [e2] at h; cases h; exact .cons (toP_dp l z e1) (toPs_dp l m e2)
end
def fEqP (f : Bool → Bool) (d e : D) : Option D := match toP d, toP e with
  | some p, some q => if SeqAt.shaped p = true ∧ SeqAt.shaped q = true then some (.bl (f (PyData.eqv p q))) else none
  | _, _ => none
theorem os_eqP : OpS2 K (rEqD K) (fEqP id) := fun F H v w d e x l z1 z2 q => by
  unfold fEqP at q
  split at q
  · next p r e1 e2 =>
    by_cases hc : SeqAt.shaped p = true ∧ SeqAt.shaped r = true
    · rw [if_pos hc] at q; cases q
      exact ⟨_, .bl _, fun Q hq => ⟨p, r, toP_dp l z1 e1, toP_dp l z2 e2, hc.1, hc.2, hq⟩⟩
    · rw [if_neg hc] at q; cases q
  · cases q
theorem os_neP : OpS2 K (rNeD K) (fEqP not) := fun F H v w d e x l z1 z2 q => by
  unfold fEqP at q
  split at q
  · next p r e1 e2 =>
    by_cases hc : SeqAt.shaped p = true ∧ SeqAt.shaped r = true
    · rw [if_pos hc] at q; cases q
      exact ⟨_, .bl _, fun Q hq => ⟨p, r, toP_dp l z1 e1, toP_dp l z2 e2, hc.1, hc.2, hq⟩⟩
    · rw [if_neg hc] at q; cases q
  · cases q
theorem hu64 {A : Around} {k : Nat} (hr : Room k A) : A.units + 64 < cLine := hr.units
/-! ### zip, range with a step -/
def zipD (a b : List D) : List D := List.zipWith (fun x y => .tup [x, y]) a b
theorem zipD_get {a b : List D} {k : Nat} {d : D} (h : (zipD a b)[k]? = some d) : ∃ x y, a[k]? = some x ∧ b[k]? = some y ∧ d = .tup [x, y] := by
  unfold zipD at h
  rw [List.getElem?_zipWith] at h
  cases e1 : a[k]? with
  | none => rw [e1] at h; simp at h
  | some x =>
    cases e2 : b[k]? with
    | none => rw [e1, e2] at h; simp at h
    | some y => rw [e1, e2] at h; simp at h; exact ⟨x, y, rfl, rfl, h.symm⟩
theorem zipD_lt {a b : List D} {k : Nat} (h : k < (zipD a b).length) : k < a.length ∧ k < b.length := by
  unfold zipD at h
  rw [List.length_zipWith] at h
  omega
theorem walk_zipL {F : Hp} {p q : Addr} {xs ys : List V} {a b : List D} (h1 : SqL K F p xs) (h2 : SqL K F q ys) (l1 : FzL K F xs a) (l2 : FzL K F ys b) : Walk K F (Itz K p q) (zipD a b) where
  go := fun k F2 H2 m1 m2 hk => by
    obtain ⟨k1, k2⟩ := zipD_lt hk
    rw [← l1.length] at k1
    rw [← l2.length] at k2
    exact ⟨xs, ys, xs[k], ys[k], sqL_mono (m1.trans m2) h1, sqL_mono (m1.trans m2) h2, by simp [k1], by simp [k2]⟩
  yld := fun k F2 H2 x H3 d m1 m2 hd y => by
    obtain ⟨T, u, w, e1, e2, e3, e4, e5⟩ := y
    obtain ⟨dx, dy, g1, g2, rfl⟩ := zipD_get hd
    obtain ⟨v1, n1, z1⟩ := l1.get g1
    obtain ⟨v2, n2, z2⟩ := l2.get g2
    have f1 := e4 xs (sqL_mono (m1.trans m2) h1)
    have f2 := e5 ys (sqL_mono (m1.trans m2) h2)
    rw [n1] at f1; cases f1
    rw [n2] at f2; cases f2
    have hT : F2 T = none := by
      cases z : F2 T with
      | none => rfl
      | some o => rw [m2 T o z] at e2; cases e2
    refine .inr ⟨T, .tup [u, w], fun z => z, e2, e3, ?_⟩
    rw [e1]
    exact .tup (sqT_of upd_same) (.cons (z1.mono (m1.trans (Le.new hT))) (.cons (z2.mono (m1.trans (Le.new hT))) .nil))
  stop := fun F2 H2 m1 m2 => by
    refine ⟨xs, ys, sqL_mono (m1.trans m2) h1, sqL_mono (m1.trans m2) h2, ?_⟩
    unfold zipD
    rw [List.length_zipWith, l1.length, l2.length]
    omega
theorem walk_zipT {F : Hp} {p q : Addr} {xs ys : List V} {a b : List D} (h1 : SqT K F p xs) (h2 : SqT K F q ys) (l1 : FzL K F xs a) (l2 : FzL K F ys b) : Walk K F (RZ.ItzT K p q) (zipD a b) where
  go := fun k F2 H2 m1 m2 hk => by
    obtain ⟨k1, k2⟩ := zipD_lt hk
    rw [← l1.length] at k1
    rw [← l2.length] at k2
    exact ⟨xs, ys, xs[k], ys[k], sqT_mono (m1.trans m2) h1, sqT_mono (m1.trans m2) h2, by simp [k1], by simp [k2]⟩
  yld := fun k F2 H2 x H3 d m1 m2 hd y => by
    obtain ⟨T, u, w, e1, e2, e3, e4, e5⟩ := y
    obtain ⟨dx, dy, g1, g2, rfl⟩ := zipD_get hd
    obtain ⟨v1, n1, z1⟩ := l1.get g1
    obtain ⟨v2, n2, z2⟩ := l2.get g2
    have f1 := e4 xs (sqT_mono (m1.trans m2) h1)
    have f2 := e5 ys (sqT_mono (m1.trans m2) h2)
    rw [n1] at f1; cases f1
    rw [n2] at f2; cases f2
    have hT : F2 T = none := by
      cases z : F2 T with
      | none => rfl
      | some o => rw [m2 T o z] at e2; cases e2
    refine .inr ⟨T, .tup [u, w], fun z => z, e2, e3, ?_⟩
    rw [e1]
    exact .tup (sqT_of upd_same) (.cons (z1.mono (m1.trans (Le.new hT))) (.cons (z2.mono (m1.trans (Le.new hT))) .nil))
  stop := fun F2 H2 m1 m2 => by
    refine ⟨xs, ys, sqT_mono (m1.trans m2) h1, sqT_mono (m1.trans m2) h2, ?_⟩
    unfold zipD
    rw [List.length_zipWith, l1.length, l2.length]
    omega
def wZip (g : DEnv → Rz (List D × DEnv)) : DEnv → Rz (List D × DEnv) := fun δ => (g δ).bind fun p => match p.1 with
  | [.lst a, .lst b] => .ok (zipD a b, p.2)
  | [.tup a, .tup b] => .ok (zipD a b, p.2)
  | _ => .no
theorem dw_zip {t : TA} {g : DEnv → Rz (List D × DEnv)} (h : DA K B t g) : DW K B (RZ.iZipA K t) (wZip g) := fun c R δ σ F H s Q q => by
  unfold wZip at q
  rw [Rz.post_bind] at q
  refine h c R δ σ F H s _ (Rz.post_mono q (fun p q v F1 H1 s1 l1 h1 z1 => ?_) fun _ z => z)
  obtain ⟨ds, δ1⟩ := p
  simp only at q z1
  split at q
  · cases z1 with
    | cons z zr =>
      cases zr with
      | cons y zr =>
        cases zr
        cases z with
        | lst a1 m1 =>
          cases y with
          | lst a2 m2 => exact ⟨_, _, _, _, rfl, .inl ⟨sqL_of (s1.sub _ _ a1), sqL_of (s1.sub _ _ a2), q _ F1 H1 s1 l1 h1 (walk_zipL (sqL_of a1) (sqL_of a2) m1 m2)⟩⟩
  · cases z1 with
    | cons z zr =>
      cases zr with
      | cons y zr =>
        cases zr
        cases z with
        | tup a1 m1 =>
          cases y with
          | tup a2 m2 => exact ⟨_, _, _, _, rfl, .inr ⟨sqT_mono s1.sub a1, sqT_mono s1.sub a2, q _ F1 H1 s1 l1 h1 (walk_zipT a1 a2 m1 m2)⟩⟩
  · exact q.elim
/-- the items of range(i, j, c), c > 0 -/
def stepN (i j c : Int) : Nat := if i < j then ((j - i - 1) / c + 1).toNat else 0
def stepD (i j c : Int) : List D := (List.range (stepN i j c)).map fun k => .int (i + (k : Nat) * c)
theorem walk_step {F : Hp} {i j c : Int} : Walk K F (Itc i c (stepN i j c)) (stepD i j c) where
  go := fun k F2 H2 _ _ hk => by
    have : (stepD i j c).length = stepN i j c := by simp [stepD]
    rw [this] at hk; exact hk
  yld := fun k F2 H2 x H3 d _ _ hd y => by
    obtain ⟨e, rfl⟩ := y
    unfold stepD at hd
    rw [List.getElem?_map] at hd
    cases q : (List.range (stepN i j c))[k]? with
    | none => rw [q] at hd; cases hd
    | some m =>
      rw [q] at hd
      obtain ⟨hk, e2⟩ := List.getElem?_eq_some_iff.mp q
      rw [List.getElem_range] at e2
      subst e2
      cases hd
      exact .inl ⟨e, .int _⟩
  stop := fun F2 H2 _ _ => by
    have : (stepD i j c).length = stepN i j c := by simp [stepD]
    rw [this]; exact Nat.le_refl _
theorem stepN_size {i j c : Int} (hc : 0 < c) : Builtin.Range.rangeSize i j c = ((stepN i j c : Nat) : Int) := by
  unfold Builtin.Range.rangeSize stepN
  rw [if_pos hc]
  by_cases h : i < j
  · rw [if_pos h, if_pos h]
    have : 0 ≤ (j - i - 1) / c := Int.ediv_nonneg (by omega) (by omega)
    omega
  · rw [if_neg h, if_neg h]; rfl
theorem step_small {i j c : Int} (h1 : -(2 ^ 60) ≤ i) (h2 : i < 2 ^ 60) (h3 : -(2 ^ 60) ≤ j) (h4 : j < 2 ^ 60) (hc : 0 < c) (hc2 : c < 1073741824) : Builtin.Range.small i j c = true := by
  have e := stepN_size (i := i) (j := j) hc
  have hn : stepN i j c ≤ (j - i).toNat := by
    unfold stepN
    by_cases h : i < j
    · rw [if_pos h]
      have := Int.ediv_le_self c (show (0 : Int) ≤ j - i - 1 by omega)
      omega
    · rw [if_neg h]; omega
  unfold Builtin.Range.small
  rw [e]
  simp only [Builtin.Range.rangeFitsLong, Bool.and_eq_true, Bool.or_eq_true, decide_eq_true_eq, beq_iff_eq, gt_iff_lt, hc, if_true]
  omega
def wR3 (g : DEnv → Rz (List D × DEnv)) : DEnv → Rz (List D × DEnv) := fun δ => (g δ).bind fun p => match p.1 with
  | [.int i, .int j, .int c] => if (-(2 ^ 60) ≤ i ∧ i < 2 ^ 60) ∧ (-(2 ^ 60) ≤ j ∧ j < 2 ^ 60) ∧ 0 < c ∧ c < 1073741824 then .ok (stepD i j c, p.2) else .no
  | _ => .no
theorem dw_range3 {t : TA} {g : DEnv → Rz (List D × DEnv)} (h : DA K B t g) : DW K B (iRng3 t) (wR3 g) := fun c R δ σ F H s Q q => by
  unfold wR3 at q
  rw [Rz.post_bind] at q
  refine h c R δ σ F H s _ (Rz.post_mono q (fun p q v F1 H1 s1 l1 h1 z1 => ?_) fun _ z => z)
  obtain ⟨ds, δ1⟩ := p
  simp only at q z1
  split at q
  · next i j c =>
    by_cases e : (-(2 ^ 60) ≤ i ∧ i < 2 ^ 60) ∧ (-(2 ^ 60) ≤ j ∧ j < 2 ^ 60) ∧ 0 < c ∧ c < 1073741824
    · rw [if_pos e] at q
      cases z1 with
      | cons z zr =>
        cases z
        cases zr with
        | cons z zr =>
          cases z
          cases zr with
          | cons z zr =>
            cases z; cases zr
            obtain ⟨⟨e1, e2⟩, ⟨e3, e4⟩, e5, e6⟩ := e
            exact ⟨i, j, c, stepN i j c, rfl, ⟨by omega, by omega, step_small e1 e2 e3 e4 e5 e6, stepN_size e5⟩, q _ F1 H1 s1 l1 h1 walk_step⟩
    · rw [if_neg e] at q; exact q.elim
  · exact q.elim
end
end DL

/-! DLG: dicts of ints and texts; calls that only look. -/
namespace DL
open PySem L2
def keyD : D → Option Key
  | .int i => some (.inl i)
  | .str x => some (.inr x)
  | _ => none
section
variable {κ : Type} [DecidableEq κ] {α : Type}
def lookK (kvs : List (κ × α)) (k : κ) : Option α := (kvs.find? fun kv => decide (kv.1 = k)).map (·.2)
def putD (kvs : List (κ × α)) (k : κ) (v : α) : List (κ × α) := if (kvs.any fun kv => decide (kv.1 = k)) = true then kvs.map (fun kv => if kv.1 = k then (kv.1, v) else kv) else kvs ++ [(k, v)]
end
section
variable {K : PySem.W.Frag} {TB : List (Addr × Str)} {B : XKt TB} {te ta tb td ty tv : TE} {κ : Type} [DecidableEq κ]
theorem look_K {F : Hp} {k : κ} : ∀ {kvs : List (κ × V)} {ds : List (κ × D)}, kvs.map Prod.fst = ds.map Prod.fst → FzL K F (kvs.map Prod.snd) (ds.map Prod.snd) →
    (lookK ds k = none ∧ valV kvs k = none) ∨ ∃ v d, lookK ds k = some d ∧ valV kvs k = some v ∧ Fz K F v d
  | [], [], _, _ => .inl ⟨rfl, rfl⟩
  | [], _ :: _, h, _ => by simp at h
  | _ :: _, [], h, _ => by simp at h
  | (k1, v) :: r, (k2, d) :: s, h, l => by
    simp only [List.map_cons, List.cons.injEq] at h
    obtain ⟨rfl, h⟩ := h
    cases l with
    | cons z l =>
      by_cases e : k1 = k
      · exact .inr ⟨v, d, by simp [lookK, e], valV_pos (p := (k1, v)) e, z⟩
      · rcases look_K (k := k) h l with ⟨h1, h2⟩ | ⟨v', d', h1, h2, h3⟩
        · exact .inl ⟨by rw [← h1]; simp [lookK, List.find?_cons, e], (valV_neg (p := (k1, v)) e).trans h2⟩
        · exact .inr ⟨v', d', by rw [← h1]; simp [lookK, List.find?_cons, e], (valV_neg (p := (k1, v)) e).trans h2, h3⟩
theorem any_K {k : κ} : ∀ {kvs : List (κ × V)} {ds : List (κ × D)}, kvs.map Prod.fst = ds.map Prod.fst → (kvs.any fun kv => decide (kv.1 = k)) = ds.any fun kv => decide (kv.1 = k)
  | [], [], _ => rfl
  | [], _ :: _, h => by simp at h
  | _ :: _, [], h => by simp at h
  | (k1, v) :: r, (k2, d) :: s, h => by
    simp only [List.map_cons, List.cons.injEq] at h
    obtain ⟨rfl, h⟩ := h
    rw [List.any_cons, List.any_cons, any_K h]
theorem repl_K {F : Hp} {k : κ} {v : V} {d : D} (z : Fz K F v d) : ∀ {kvs : List (κ × V)} {ds : List (κ × D)}, kvs.map Prod.fst = ds.map Prod.fst → FzL K F (kvs.map Prod.snd) (ds.map Prod.snd) →
    (kvs.map (fun kv => if kv.1 = k then (kv.1, v) else kv)).map Prod.fst = (ds.map (fun kv => if kv.1 = k then (kv.1, d) else kv)).map Prod.fst ∧
    FzL K F ((kvs.map (fun kv => if kv.1 = k then (kv.1, v) else kv)).map Prod.snd) ((ds.map (fun kv => if kv.1 = k then (kv.1, d) else kv)).map Prod.snd)
  | [], [], _, _ => ⟨rfl, .nil⟩
  | [], _ :: _, h, _ => by simp at h
  | _ :: _, [], h, _ => by simp at h
  | (k1, w) :: r, (k2, e) :: s, h, l => by
    simp only [List.map_cons, List.cons.injEq] at h
    obtain ⟨rfl, h⟩ := h
    cases l with
    | cons zw l =>
      obtain ⟨g1, g2⟩ := repl_K z h l
      by_cases q : k1 = k
      · simp only [List.map_cons, q, if_true]
        exact ⟨by rw [g1], .cons z g2⟩
      · simp only [List.map_cons, if_neg q]
        exact ⟨by rw [g1], .cons zw g2⟩
theorem put_K {F : Hp} {k : κ} {v : V} {d : D} (z : Fz K F v d) {kvs : List (κ × V)} {ds : List (κ × D)} (h : kvs.map Prod.fst = ds.map Prod.fst) (l : FzL K F (kvs.map Prod.snd) (ds.map Prod.snd)) :
    (putK kvs k v).map Prod.fst = (putD ds k d).map Prod.fst ∧ FzL K F ((putK kvs k v).map Prod.snd) ((putD ds k d).map Prod.snd) := by
  unfold putK putD
  rw [any_K (k := k) h]
  by_cases q : (ds.any fun kv => decide (kv.1 = k)) = true
  · rw [if_pos q, if_pos q]; exact repl_K z h l
  · rw [if_neg q, if_neg q, List.map_append, List.map_append, List.map_append, List.map_append, h]
    exact ⟨rfl, l.append (.cons z .nil)⟩
theorem keyD_V {F : Hp} {v : V} {d : D} {k : Key} (z : Fz K F v d) (h : keyD d = some k) : v = kV k := by
  cases z <;> simp [keyD] at h <;> subst h <;> rfl
/-! ### looked up -/
def rDGet : R2 := fun x y H Q => ∃ a v, x = .ref a ∧ DGet H a y (some v) ∧ Q v H
def rDIn (f : Bool → Bool) : R2 := fun y x H Q => ∃ a o, x = .ref a ∧ DGet H a y o ∧ Q (.bl (f o.isSome)) H
theorem dget_op : tDGet td ty = tOp rDGet td ty := rfl
theorem din_op : tDIn ty td = tOp (rDIn id) ty td := rfl
theorem dnotin_op : tDNotIn ty td = tOp (rDIn not) ty td := rfl
def fDGet : D → D → Option D
  | .dk kvs, k => (keyD k).bind fun k => lookK kvs k
  | _, _ => none
def fDIn (f : Bool → Bool) : D → D → Option D
  | k, .dk kvs => (keyD k).bind fun k => some (.bl (f (lookK kvs k).isSome))
  | _, _ => none
theorem os_dget : OpS2 K rDGet fDGet := fun F H v w d e x l z1 z2 q => by
  unfold fDGet at q
  split at q
  · next kvs =>
    obtain ⟨k, e1, e2⟩ := Option.bind_eq_some_iff.mp q
    cases z1 with
    | dk h en m =>
      rcases look_K (k := k) en m with ⟨h1, _⟩ | ⟨v', d', h1, h2, h3⟩
      · rw [h1] at e2; cases e2
      · rw [h1] at e2; cases e2
        exact ⟨v', h3, fun Q hq => ⟨_, v', rfl, .inl ⟨_, k, .inl (l _ _ h), keyD_V z2 e1, h2.symm⟩, hq⟩⟩
  · cases q
theorem os_din {f : Bool → Bool} : OpS2 K (rDIn f) (fDIn f) := fun F H v w d e x l z1 z2 q => by
  unfold fDIn at q
  split at q
  · next kvs =>
    obtain ⟨k, e1, e2⟩ := Option.bind_eq_some_iff.mp q
    cases e2
    cases z2 with
    | dk h en m =>
      refine ⟨.bl _, .bl _, fun Q hq => ⟨_, valV _ k, rfl, .inl ⟨_, k, .inl (l _ _ h), keyD_V z1 e1, rfl⟩, ?_⟩⟩
      rcases look_K (k := k) en m with ⟨h1, h2⟩ | ⟨v', d', h1, h2, h3⟩
      · rw [h2]; rw [h1] at hq; exact hq
      · rw [h2]; rw [h1] at hq; exact hq
  · cases q
variable {i : Nat} {p : DEnv → Option (List Step × O)}
/-- d[k], d a place (a tree or data) -/
def fDGetP (p : DEnv → Option (List Step × O)) (fk : DEnv → Option D) : DEnv → Option D := fun δ => (p δ).bind fun x => (fk δ).bind fun kd => (keyD kd).bind fun k => match x.2 with
  | .dk kvs => lookK kvs k
  | .fz (.dk kvs) => lookK kvs k
  | _ => none
theorem sx_dgetP {fk : DEnv → Option D} (h : PL K td i p) (hk : SX K ty fk) : SX K (tDGet td ty) (fDGetP p fk) := fun c R δ σ F H s d e => by
  unfold fDGetP at e
  obtain ⟨x, e1, e⟩ := Option.bind_eq_some_iff.mp e
  obtain ⟨kd, e2, e⟩ := Option.bind_eq_some_iff.mp e
  obtain ⟨k, e3, e⟩ := Option.bind_eq_some_iff.mp e
  obtain ⟨π, o⟩ := x
  obtain ⟨⟨r, h1, h2⟩, g⟩ := h c R δ σ F H s π _ e1
  obtain ⟨v, v1, S1, m1, m2, m3, _⟩ := s.see h1 h2
  obtain ⟨y, zy, ky⟩ := hk c R δ σ F H s kd e2
  have yk := keyD_V zy e3
  simp only at e
  split at e
  · next kvs eo =>
    cases m3 with
    | dk z1 z2 z3 en m =>
      rcases look_K (k := k) en m with ⟨h1, _⟩ | ⟨v', d', h1, h2, h3⟩
      · rw [h1] at e; cases e
      · rw [h1] at e; cases e
        exact ⟨v', h3, fun Q hq => g v _ m1 m2 _ (ky _ ⟨_, v', rfl, .inl ⟨_, k, .inl z1, yk, h2.symm⟩, hq⟩)⟩
  · next kvs eo =>
    cases m3 with
    | fz z =>
      cases z with
      | dk z1 en m =>
        rcases look_K (k := k) en m with ⟨h1, _⟩ | ⟨v', d', h1, h2, h3⟩
        · rw [h1] at e; cases e
        · rw [h1] at e; cases e
          exact ⟨v', h3, fun Q hq => g v _ m1 m2 _ (ky _ ⟨_, v', rfl, .inl ⟨_, k, .inl (s.sub _ _ z1), yk, h2.symm⟩, hq⟩)⟩
  · cases e
/-- k in d, d a place -/
def fDInP (f : Bool → Bool) (p : DEnv → Option (List Step × O)) (fk : DEnv → Option D) : DEnv → Option D := fun δ => (p δ).bind fun x => (fk δ).bind fun kd => (keyD kd).bind fun k => match x.2 with
  | .dk kvs => some (.bl (f (lookK kvs k).isSome))
  | .fz (.dk kvs) => some (.bl (f (lookK kvs k).isSome))
  | _ => none
theorem sx_dinP {f : Bool → Bool} {fk : DEnv → Option D} (h : PL K td i p) (hk : SX K ty fk) : SX K (tOp (rDIn f) ty td) (fDInP f p fk) := fun c R δ σ F H s d e => by
  unfold fDInP at e
  obtain ⟨x, e1, e⟩ := Option.bind_eq_some_iff.mp e
  obtain ⟨kd, e2, e⟩ := Option.bind_eq_some_iff.mp e
  obtain ⟨k, e3, e⟩ := Option.bind_eq_some_iff.mp e
  obtain ⟨π, o⟩ := x
  obtain ⟨⟨r, h1, h2⟩, g⟩ := h c R δ σ F H s π _ e1
  obtain ⟨v, v1, S1, m1, m2, m3, _⟩ := s.see h1 h2
  obtain ⟨y, zy, ky⟩ := hk c R δ σ F H s kd e2
  have yk := keyD_V zy e3
  simp only at e
  split at e
  · next kvs eo =>
    cases e
    cases m3 with
    | dk z1 z2 z3 en m =>
      refine ⟨.bl _, .bl _, fun Q hq => ky _ (g v _ m1 m2 _ ⟨_, valV _ k, rfl, .inl ⟨_, k, .inl z1, yk, rfl⟩, ?_⟩)⟩
      rcases look_K (k := k) en m with ⟨h1, h2⟩ | ⟨v', d', h1, h2, h3⟩
      · rw [h2]; rw [h1] at hq; exact hq
      · rw [h2]; rw [h1] at hq; exact hq
  · next kvs eo =>
    cases e
    cases m3 with
    | fz z =>
      cases z with
      | dk z1 en m =>
        refine ⟨.bl _, .bl _, fun Q hq => ky _ (g v _ m1 m2 _ ⟨_, valV _ k, rfl, .inl ⟨_, k, .inl (s.sub _ _ z1), yk, rfl⟩, ?_⟩)⟩
        rcases look_K (k := k) en m with ⟨h1, h2⟩ | ⟨v', d', h1, h2, h3⟩
        · rw [h2]; rw [h1] at hq; exact hq
        · rw [h2]; rw [h1] at hq; exact hq
  · cases e
/-! ### made, stored -/
def gDNew : DEnv → Rz (O × DEnv) := fun δ => .ok (.dk [], δ)
theorem df_dnew : DF K B tDNewK gDNew := fun c R δ σ F H s Q q => fun a ha =>
  q (.ref a) F _ (fun b => b = a) (s.hold ha fun z => z) (fun b e z => by subst e; exact (s.rs b z).2.1.ne ha) (Le.refl F) (.of (.new ha)) (.dk upd_same (s.fresh ha) rfl rfl .nil)
/-- a dict in a tree -/
theorem Sim.dict {c : Cn TB} {R : Addr → Prop} {δ : DEnv} {σ : L2.St} {F H : Hp} {π : List Step} {o : O} {ds : List (Key × D)} (s : Sim K c R δ σ F H) (h : δ[i]? = some (some o)) (hg : O.get π o = some (.dk ds)) :
    ∃ (v : V) (a : Addr) (kvs : List (Key × V)), σ[i]? = some (some v) ∧ At H π v (.ref a) ∧ H a = some (.dK kvs) ∧ kvs.map Prod.fst = ds.map Prod.fst ∧ FzL K F (kvs.map Prod.snd) (ds.map Prod.snd) ∧ ¬ R a ∧
      ∀ (kvs' : List (Key × V)) (ds' : List (Key × D)), kvs'.map Prod.fst = ds'.map Prod.fst → FzL K F (kvs'.map Prod.snd) (ds'.map Prod.snd) → Sim K c R (δ.set i (some (O.put (.dk ds') π o))) σ F (upd H a (.dK kvs')) := by
  obtain ⟨v, v1, S, h1, h2, h3, h4, h5⟩ := s.focus h hg
  cases h3 with
  | dk z1 z2 z3 en m =>
    rename_i a kvs
    refine ⟨v, a, kvs, h1, h2, z1, en, m, (h4 a z3).1, fun kvs' ds' en' m' => ?_⟩
    refine h5 F (upd H a (.dK kvs')) S (.dk ds') ⟨fun b u n hb _ => by rw [upd_ne (fun e => n (by rw [e]; exact z3))]; exact hb, fun b hb => hb.up fun z => z, Le.refl F, fun b u hb => ?_, s.nt, fun b z => .inl z, fun b z => ⟨.inl z, (h4 b z).2.1, (h4 b z).2.2.1.up fun z => z⟩, fun t => tabs_upd t z1 (fun z => z) (by intro c q z; cases z)⟩ ?_
    · rw [upd_ne (fun e => by rw [e, z2] at hb; cases hb)]; exact s.sub b u hb
    · exact .dk upd_same z2 z3 en' m'
/-- d[k] = e: d a place, k touching nothing -/
def rDPut (i : Nat) (p : DEnv → Option (List Step × O)) (fk : DEnv → Option D) (g : DEnv → Rz (D × DEnv)) : Run := fun δ => (g δ).bind fun q => match p q.2, fk q.2 with
  | some (π, .dk ds), some kd => match keyD kd with
    | some k => if ds.length < 100000 then .ok (.nx (putAt q.2 i π (.dk (putD ds k q.1)))) else .no
    | none => .no
  | _, _ => .no
theorem rs_dput {pin : List Nat} {fk : DEnv → Option D} {g : DEnv → Rz (D × DEnv)} (hpl : PL K td i p) (hk : SX K ty fk) (h : DI K B tv g) : RS K B pin (sDPut td ty tv) (rDPut i p fk g) := fun c δ σ F H D de hp s q r => by
  unfold lift rDPut at q
  rw [Rz.post_bind] at q
  refine h c nR δ σ F H s _ (Rz.post_mono q (fun p' q v F1 H1 s1 l1 _ z1 => ?_) r.er)
  split at q
  · next π ds kd e1 e2 =>
    split at q
    · next k e3 =>
      by_cases hl : ds.length < 100000
      · rw [if_pos hl] at q
        obtain ⟨⟨o, g1, g2⟩, g⟩ := hpl c nR p'.2 σ F1 H1 s1 π _ e1
        obtain ⟨w, a, kvs, h1, h2, h3, en, m, _, h8⟩ := s1.dict g1 g2
        obtain ⟨y, zy, ky⟩ := hk c nR p'.2 σ F1 H1 s1 kd e2
        obtain ⟨en', m'⟩ := put_K (k := k) z1 en m
        refine g w (.ref a) h1 h2 _ (ky _ ⟨a, _, rfl, .inl ⟨kvs, k, h3, keyD_V zy e3, ?_, rfl⟩, ?_⟩)
        · have := congrArg List.length en
          rw [List.length_map, List.length_map] at this
          rw [this]; exact small5 hl
        · have q' : de.nx (putAt p'.2 i π (.dk (putD ds k p'.1))) := q
          rw [putAt_eq g1] at q'
          exact r.nx _ σ F1 _ (h8 _ _ en' m') l1 q'
      · rw [if_neg hl] at q; exact q.elim
    · exact q.elim
  · exact q.elim
end
end DL

/-! DLH: calls that only look at what is handed. -/
namespace DL
open PySem L2
mutual
/-- a tree without shared data -/
def clean : O → Bool
  | .fz d => d.flat
  | .lst l => cleanL l
  | .dk k => k.all fun x => x.2.flat
  | .dt k => k.all fun x => x.2.flat
  | .ins _ fs => cleanF fs
def cleanL : List O → Bool
  | [] => true
  | o :: r => clean o && cleanL r
def cleanF : List (Str × O) → Bool
  | [] => true
  | (_, o) :: r => clean o && cleanF r
end
theorem cleanF_map : ∀ fs : List (Str × O), cleanF fs = cleanL (fs.map Prod.snd)
  | [] => rfl
  | (f, o) :: r => by rw [cleanF, List.map_cons, cleanL, cleanF_map r]
section
variable {K : PySem.W.Frag} {TB : List (Addr × Str)} {B : XKt TB} {F F' H : Hp}
theorem Fz.flat {v : V} {d : D} (z : Fz K F' v d) (h : d.flat = true) : Fz K F v d := by
  cases z with
  | non => exact .non
  | bl b => exact .bl b
  | int i => exact .int i
  | str x => exact .str x
  | _ => cases h
theorem FzL.flat : ∀ {vs : List V} {ds : List D}, FzL K F' vs ds → ds.all D.flat = true → FzL K F vs ds
  | _, _, .nil, _ => .nil
  | _, _, .cons z l, h => by
    rw [List.all_cons, Bool.and_eq_true] at h
    exact .cons (z.flat h.1) (l.flat h.2)
mutual
theorem Ow.rebase : ∀ {S : Addr → Prop} {v : V} {o : O}, Ow K F' H S v o → clean o = true → (∀ b, S b → F b = none) → Ow K F H S v o
  | _, _, _, .fz z, h, _ => .fz (z.flat h)
  | _, _, _, .lst h n s s1 l, hc, hn => .lst h (hn _ s) s s1 (OwL.rebase l (by rw [clean] at hc; exact hc) fun b z => hn b (s1 b z).1)
  | _, _, _, .dk (ds := ds) h n s e l, hc, hn => .dk h (hn _ s) s e (l.flat (by rw [clean] at hc; rw [List.all_map]; exact hc))
  | _, _, _, .dt h n s e l, hc, hn => .dt h (hn _ s) s e (l.flat (by rw [clean] at hc; rw [List.all_map]; exact hc))
  | _, _, _, .ins h n s s1 e l, hc, hn => .ins h (hn _ s) s s1 e (OwL.rebase l (by rw [clean, cleanF_map] at hc; exact hc) fun b z => hn b (s1 b z).1)
theorem OwL.rebase : ∀ {S : Addr → Prop} {v : List V} {o : List O}, OwL K F' H S v o → cleanL o = true → (∀ b, S b → F b = none) → OwL K F H S v o
  | _, _, _, .nil, _, _ => .nil
  | _, _, _, .cons s1 s2 dj h l, hc, hn => by
    rw [cleanL, Bool.and_eq_true] at hc
    exact .cons s1 s2 dj (Ow.rebase h hc.1 fun b z => hn b (s1 b z)) (OwL.rebase l hc.2 fun b z => hn b (s2 b z))
end
/-- all that the slots own, seen as frozen -/
theorem Sim.view {c : Cn TB} {R : Addr → Prop} {δ : DEnv} {σ : L2.St} (s : Sim K c R δ σ F H) : ∃ F1, Le F F1 ∧ Le F1 H ∧ (∀ a o, F1 a = some o → ¬ isTbl o) ∧ ∀ (i : Nat) (o : O), δ[i]? = some (some o) → ∃ v : V, σ[i]? = some (some v) ∧ Fz K F1 v o.toD := by
  obtain ⟨T, E⟩ := s.env
  refine ⟨frz F H (fun a => ∃ i, T i a), frz_le _ _ _, frz_sub s.sub, fun a o h => ?_, fun i o h => ?_⟩
  · rcases frz_of h with z | z
    · exact s.nt a o z
    · exact z.2.2.2
  · obtain ⟨v, h1, h2⟩ := E.at_ i o h
    exact ⟨v, h1, h2.fz' (frz_le _ _ _) fun b u z hb n => frz_at s.sub ⟨i, z⟩ hb n⟩
theorem FzA.look {δ : DEnv} {σ : L2.St} {F1 : Hp} (le : Le F F1) (hv : ∀ (i : Nat) (o : O), δ[i]? = some (some o) → ∃ v : V, σ[i]? = some (some v) ∧ Fz K F1 v o.toD) : ∀ {vs : List V} {as : List Arg} {os : List O}, FzA K F σ vs as → alO δ (alI as) = some os →
    ∃ ds, mixO as (os.map fun o => .fz o.toD) = ds.map .fz ∧ FzL K F1 vs ds
  | _, _, _, .nil, _ => ⟨[], rfl, .nil⟩
  | _, _, os, @FzA.d _ _ _ _ dd _ _ h l, e => by
    obtain ⟨ds, e1, e2⟩ := FzA.look le hv l e
    exact ⟨dd :: ds, by show O.fz dd :: mixO _ _ = _; rw [e1]; rfl, .cons (h.mono le) e2⟩
  | _, _, os, @FzA.al _ _ _ _ i _ _ h l, e => by
    unfold alI at e
    unfold alO at e
    split at e
    · next o ho =>
      obtain ⟨os', q1, q2⟩ := Option.map_eq_some_iff.mp e
      obtain ⟨ds, e1, e2⟩ := FzA.look le hv l q1
      obtain ⟨v, v1, v2⟩ := hv i o ho
      rw [h] at v1; cases v1
      subst q2
      exact ⟨o.toD :: ds, by show O.fz o.toD :: mixO _ _ = _; rw [e1]; rfl, .cons v2 e2⟩
    · cases e
/-- f(..): what is handed is only looked at -/
def gCallBV (n : Nat) (Φ : List O → Rz (O × List O)) (as : List Arg) (δ : DEnv) : Rz (O × DEnv) :=
  if as.length = n then (Rz.of (alO δ (alI as))).bind fun os => match Φ (mixO as (os.map fun o => .fz o.toD)) with
    | .ok (o, []) => if clean o = true then .ok (o, δ) else .no
    | _ => .no
  else .no
theorem callB_core {n : Nat} {Φ : List O → Rz (O × List O)} {c : Cn TB} {R : Addr → Prop} {δ : DEnv} {σ : L2.St} {as : List Arg} {vs : List V} {Q : VK} (s1 : Sim K c R δ σ F H) (z1 : FzA K F σ vs as)
    (q : (gCallBV n Φ as δ).post (fun p => ∀ v F' H' S, Sim K c (fun a => R a ∨ S a) p.2 σ F' H' → (∀ a, S a → ¬ R a) → Le F F' → Held R H H' → Ow K F' H' S v p.1 → Q v H') (Wish K B c)) : spD K TB n [] Φ vs H Q B := by
  unfold gCallBV at q
  by_cases hc : as.length = n
  · rw [if_pos hc, Rz.post_bind] at q
    obtain ⟨os, eo, q⟩ := Rz.post_of q
    obtain ⟨F1, l1, l2, nt, hv⟩ := s1.view
    obtain ⟨ds, e1, e2⟩ := FzA.look l1 hv z1 eo
    refine ⟨mixO as (os.map fun o => .fz o.toD), F1, fun _ => False, by rw [mixO_len]; exact hc, l2, nt, by rw [e1]; exact OwL.leaves e2, fun a z => z.elim, s1.tabs, ?_⟩
    cases e : Φ (mixO as (os.map fun o => .fz o.toD)) with
    | no => rw [e] at q; exact q.elim
    | er x => rw [e] at q; exact q.elim
    | ok r =>
      obtain ⟨o, ws⟩ := r
      rw [e] at q
      cases ws with
      | cons _ _ => exact q.elim
      | nil =>
        dsimp only at q
        by_cases hcl : clean o = true
        · rw [if_pos hcl] at q
          intro v F' H' Sr S' ch dj w _
          have eX : Ext H H' := ⟨fun a u h t => ch.keep a u (fun z => z) h t⟩
          have s2 := s1.grow eX (ch.tabs s1.tabs)
          have fr : ∀ a, Sr a → F a = none ∧ Hv H' a ∧ ¬ Hv H a := fun a z => by
            obtain ⟨h1, h2, h3⟩ := ch.own a (.inl z)
            refine ⟨?_, h3, h1.elim (fun z => z.elim) id⟩
            cases q : F a with
            | none => rfl
            | some u => rw [ch.le a u (l1 a u q)] at h2; cases h2
          have nr : ∀ a, Sr a → ¬ R a := fun a z y => (fr a z).2.2 (s1.rs a y).2.1
          have s3 : Sim K c (fun a => R a ∨ Sr a) δ σ F H' := by
            obtain ⟨T, E⟩ := s1.env
            refine ⟨s2.sub, s2.nt, s2.f0, s2.fn, s2.keep, s2.thr, fun a z => ?_, ⟨T, fun i u hi => ?_, E.dj, fun i a y z => ?_, E.own, fun i a z => eX.thr a (E.hv i a z), E.nf⟩, s2.pin, s2.len, s2.tabs⟩
            · rcases z with z | z
              · exact s2.rs a z
              · exact ⟨(fr a z).1, (fr a z).2.1, s1.mine' (fr a z).2.2⟩
            · obtain ⟨w1, w2, w3⟩ := E.at_ i u hi
              exact ⟨w1, w2, w3.stand ⟨Le.refl F, fun b y _ hb t => eX.keep b y hb t, fun b _ _ f => f⟩⟩
            · rcases z with z | z
              · exact E.nr i a y z
              · exact (fr a z).2.2 (E.hv i a y)
          exact q v F H' Sr s3 nr (Le.refl F) (.of eX) (w.rebase hcl fun b z => (fr b z).1)
        · rw [if_neg hcl] at q; exact q.elim
  · rw [if_neg hc] at q; exact q.elim
def gCallB (n : Nat) (Φ : List O → Rz (O × List O)) (ga : DEnv → Rz (List Arg × DEnv)) : DEnv → Rz (O × DEnv) := fun δ => (ga δ).bind fun p => gCallBV n Φ p.1 p.2
theorem df_callB {n : Nat} {Φ : List O → Rz (O × List O)} {t : TA} {ga : DEnv → Rz (List Arg × DEnv)} (ha : DAA K B t ga) : DF K B (tCall (spD K TB n [] Φ) [] B t) (gCallB n Φ ga) := fun c R δ σ F H s Q q => by
  unfold gCallB at q
  rw [Rz.post_bind] at q
  refine ha c R δ σ F H s _ (Rz.post_mono q (fun p q vs F1 H1 s1 l1 h1 z1 => ?_) fun _ z => z)
  rw [List.append_nil]
  exact callB_core s1 z1 (Rz.post_mono q (fun p q v F' H' S s' dj l hd w => q v F' H' S s' dj (l1.trans l) (h1.trans hd) w) fun _ z => z)
end
end DL

namespace DL
open PySem L2
structure Cs where
  MendError : Addr
  BadValue : Addr
  BadText : Addr
  Unknown : Addr
  NoChance : Addr
  Crowded : Addr
  NoDay : Addr
  Missing : Addr
  TakenName : Addr
  Short : Addr
  nd : [MendError, BadValue, BadText, Unknown, NoChance, Crowded, NoDay, Missing, TakenName, Short].Nodup

theorem ne_MendError_BadValue (c : Cs) : c.MendError ≠ c.BadValue := fun e => by have h := c.nd; simp [e] at h
theorem ne_BadValue_MendError (c : Cs) : c.BadValue ≠ c.MendError := fun e => ne_MendError_BadValue c e.symm
theorem ne_MendError_BadText (c : Cs) : c.MendError ≠ c.BadText := fun e => by have h := c.nd; simp [e] at h
theorem ne_BadText_MendError (c : Cs) : c.BadText ≠ c.MendError := fun e => ne_MendError_BadText c e.symm
theorem ne_BadValue_BadText (c : Cs) : c.BadValue ≠ c.BadText := fun e => by have h := c.nd; simp [e] at h
theorem ne_BadText_BadValue (c : Cs) : c.BadText ≠ c.BadValue := fun e => ne_BadValue_BadText c e.symm
theorem ne_MendError_Unknown (c : Cs) : c.MendError ≠ c.Unknown := fun e => by have h := c.nd; simp [e] at h
theorem ne_Unknown_MendError (c : Cs) : c.Unknown ≠ c.MendError := fun e => ne_MendError_Unknown c e.symm
theorem ne_BadValue_Unknown (c : Cs) : c.BadValue ≠ c.Unknown := fun e => by have h := c.nd; simp [e] at h
theorem ne_Unknown_BadValue (c : Cs) : c.Unknown ≠ c.BadValue := fun e => ne_BadValue_Unknown c e.symm
theorem ne_BadText_Unknown (c : Cs) : c.BadText ≠ c.Unknown := fun e => by have h := c.nd; simp [e] at h
theorem ne_Unknown_BadText (c : Cs) : c.Unknown ≠ c.BadText := fun e => ne_BadText_Unknown c e.symm
theorem ne_MendError_NoChance (c : Cs) : c.MendError ≠ c.NoChance := fun e => by have h := c.nd; simp [e] at h
theorem ne_NoChance_MendError (c : Cs) : c.NoChance ≠ c.MendError := fun e => ne_MendError_NoChance c e.symm
theorem ne_BadValue_NoChance (c : Cs) : c.BadValue ≠ c.NoChance := fun e => by have h := c.nd; simp [e] at h
theorem ne_NoChance_BadValue (c : Cs) : c.NoChance ≠ c.BadValue := fun e => ne_BadValue_NoChance c e.symm
theorem ne_BadText_NoChance (c : Cs) : c.BadText ≠ c.NoChance := fun e => by have h := c.nd; simp [e] at h
theorem ne_NoChance_BadText (c : Cs) : c.NoChance ≠ c.BadText := fun e => ne_BadText_NoChance c e.symm
theorem ne_Unknown_NoChance (c : Cs) : c.Unknown ≠ c.NoChance := fun e => by have h := c.nd; simp [e] at h
theorem ne_NoChance_Unknown (c : Cs) : c.NoChance ≠ c.Unknown := fun e => ne_Unknown_NoChance c e.symm
theorem ne_MendError_Crowded (c : Cs) : c.MendError ≠ c.Crowded := fun e => by have h := c.nd; simp [e] at h
theorem ne_Crowded_MendError (c : Cs) : c.Crowded ≠ c.MendError := fun e => ne_MendError_Crowded c e.symm
theorem ne_BadValue_Crowded (c : Cs) : c.BadValue ≠ c.Crowded := fun e => by have h := c.nd; simp [e] at h
theorem ne_Crowded_BadValue (c : Cs) : c.Crowded ≠ c.BadValue := fun e => ne_BadValue_Crowded c e.symm
theorem ne_BadText_Crowded (c : Cs) : c.BadText ≠ c.Crowded := fun e => by have h := c.nd; simp [e] at h
theorem ne_Crowded_BadText (c : Cs) : c.Crowded ≠ c.BadText := fun e => ne_BadText_Crowded c e.symm
theorem ne_Unknown_Crowded (c : Cs) : c.Unknown ≠ c.Crowded := fun e => by have h := c.nd; simp [e] at h
theorem ne_Crowded_Unknown (c : Cs) : c.Crowded ≠ c.Unknown := fun e => ne_Unknown_Crowded c e.symm
theorem ne_NoChance_Crowded (c : Cs) : c.NoChance ≠ c.Crowded := fun e => by have h := c.nd; simp [e] at h
theorem ne_Crowded_NoChance (c : Cs) : c.Crowded ≠ c.NoChance := fun e => ne_NoChance_Crowded c e.symm
theorem ne_MendError_NoDay (c : Cs) : c.MendError ≠ c.NoDay := fun e => by have h := c.nd; simp [e] at h
theorem ne_NoDay_MendError (c : Cs) : c.NoDay ≠ c.MendError := fun e => ne_MendError_NoDay c e.symm
theorem ne_BadValue_NoDay (c : Cs) : c.BadValue ≠ c.NoDay := fun e => by have h := c.nd; simp [e] at h
theorem ne_NoDay_BadValue (c : Cs) : c.NoDay ≠ c.BadValue := fun e => ne_BadValue_NoDay c e.symm
theorem ne_BadText_NoDay (c : Cs) : c.BadText ≠ c.NoDay := fun e => by have h := c.nd; simp [e] at h
theorem ne_NoDay_BadText (c : Cs) : c.NoDay ≠ c.BadText := fun e => ne_BadText_NoDay c e.symm
theorem ne_Unknown_NoDay (c : Cs) : c.Unknown ≠ c.NoDay := fun e => by have h := c.nd; simp [e] at h
theorem ne_NoDay_Unknown (c : Cs) : c.NoDay ≠ c.Unknown := fun e => ne_Unknown_NoDay c e.symm
theorem ne_NoChance_NoDay (c : Cs) : c.NoChance ≠ c.NoDay := fun e => by have h := c.nd; simp [e] at h
theorem ne_NoDay_NoChance (c : Cs) : c.NoDay ≠ c.NoChance := fun e => ne_NoChance_NoDay c e.symm
theorem ne_Crowded_NoDay (c : Cs) : c.Crowded ≠ c.NoDay := fun e => by have h := c.nd; simp [e] at h
theorem ne_NoDay_Crowded (c : Cs) : c.NoDay ≠ c.Crowded := fun e => ne_Crowded_NoDay c e.symm
theorem ne_MendError_Missing (c : Cs) : c.MendError ≠ c.Missing := fun e => by have h := c.nd; simp [e] at h
theorem ne_Missing_MendError (c : Cs) : c.Missing ≠ c.MendError := fun e => ne_MendError_Missing c e.symm
theorem ne_BadValue_Missing (c : Cs) : c.BadValue ≠ c.Missing := fun e => by have h := c.nd; simp [e] at h
theorem ne_Missing_BadValue (c : Cs) : c.Missing ≠ c.BadValue := fun e => ne_BadValue_Missing c e.symm
theorem ne_BadText_Missing (c : Cs) : c.BadText ≠ c.Missing := fun e => by have h := c.nd; simp [e] at h
theorem ne_Missing_BadText (c : Cs) : c.Missing ≠ c.BadText := fun e => ne_BadText_Missing c e.symm
theorem ne_Unknown_Missing (c : Cs) : c.Unknown ≠ c.Missing := fun e => by have h := c.nd; simp [e] at h
theorem ne_Missing_Unknown (c : Cs) : c.Missing ≠ c.Unknown := fun e => ne_Unknown_Missing c e.symm
theorem ne_NoChance_Missing (c : Cs) : c.NoChance ≠ c.Missing := fun e => by have h := c.nd; simp [e] at h
theorem ne_Missing_NoChance (c : Cs) : c.Missing ≠ c.NoChance := fun e => ne_NoChance_Missing c e.symm
theorem ne_Crowded_Missing (c : Cs) : c.Crowded ≠ c.Missing := fun e => by have h := c.nd; simp [e] at h
theorem ne_Missing_Crowded (c : Cs) : c.Missing ≠ c.Crowded := fun e => ne_Crowded_Missing c e.symm
theorem ne_NoDay_Missing (c : Cs) : c.NoDay ≠ c.Missing := fun e => by have h := c.nd; simp [e] at h
theorem ne_Missing_NoDay (c : Cs) : c.Missing ≠ c.NoDay := fun e => ne_NoDay_Missing c e.symm
theorem ne_MendError_TakenName (c : Cs) : c.MendError ≠ c.TakenName := fun e => by have h := c.nd; simp [e] at h
theorem ne_TakenName_MendError (c : Cs) : c.TakenName ≠ c.MendError := fun e => ne_MendError_TakenName c e.symm
theorem ne_BadValue_TakenName (c : Cs) : c.BadValue ≠ c.TakenName := fun e => by have h := c.nd; simp [e] at h
theorem ne_TakenName_BadValue (c : Cs) : c.TakenName ≠ c.BadValue := fun e => ne_BadValue_TakenName c e.symm
theorem ne_BadText_TakenName (c : Cs) : c.BadText ≠ c.TakenName := fun e => by have h := c.nd; simp [e] at h
theorem ne_TakenName_BadText (c : Cs) : c.TakenName ≠ c.BadText := fun e => ne_BadText_TakenName c e.symm
theorem ne_Unknown_TakenName (c : Cs) : c.Unknown ≠ c.TakenName := fun e => by have h := c.nd; simp [e] at h
theorem ne_TakenName_Unknown (c : Cs) : c.TakenName ≠ c.Unknown := fun e => ne_Unknown_TakenName c e.symm
theorem ne_NoChance_TakenName (c : Cs) : c.NoChance ≠ c.TakenName := fun e => by have h := c.nd; simp [e] at h
theorem ne_TakenName_NoChance (c : Cs) : c.TakenName ≠ c.NoChance := fun e => ne_NoChance_TakenName c e.symm
theorem ne_Crowded_TakenName (c : Cs) : c.Crowded ≠ c.TakenName := fun e => by have h := c.nd; simp [e] at h
theorem ne_TakenName_Crowded (c : Cs) : c.TakenName ≠ c.Crowded := fun e => ne_Crowded_TakenName c e.symm
theorem ne_NoDay_TakenName (c : Cs) : c.NoDay ≠ c.TakenName := fun e => by have h := c.nd; simp [e] at h
theorem ne_TakenName_NoDay (c : Cs) : c.TakenName ≠ c.NoDay := fun e => ne_NoDay_TakenName c e.symm
theorem ne_Missing_TakenName (c : Cs) : c.Missing ≠ c.TakenName := fun e => by have h := c.nd; simp [e] at h
theorem ne_TakenName_Missing (c : Cs) : c.TakenName ≠ c.Missing := fun e => ne_Missing_TakenName c e.symm
theorem ne_MendError_Short (c : Cs) : c.MendError ≠ c.Short := fun e => by have h := c.nd; simp [e] at h
theorem ne_Short_MendError (c : Cs) : c.Short ≠ c.MendError := fun e => ne_MendError_Short c e.symm
theorem ne_BadValue_Short (c : Cs) : c.BadValue ≠ c.Short := fun e => by have h := c.nd; simp [e] at h
theorem ne_Short_BadValue (c : Cs) : c.Short ≠ c.BadValue := fun e => ne_BadValue_Short c e.symm
theorem ne_BadText_Short (c : Cs) : c.BadText ≠ c.Short := fun e => by have h := c.nd; simp [e] at h
theorem ne_Short_BadText (c : Cs) : c.Short ≠ c.BadText := fun e => ne_BadText_Short c e.symm
theorem ne_Unknown_Short (c : Cs) : c.Unknown ≠ c.Short := fun e => by have h := c.nd; simp [e] at h
theorem ne_Short_Unknown (c : Cs) : c.Short ≠ c.Unknown := fun e => ne_Unknown_Short c e.symm
theorem ne_NoChance_Short (c : Cs) : c.NoChance ≠ c.Short := fun e => by have h := c.nd; simp [e] at h
theorem ne_Short_NoChance (c : Cs) : c.Short ≠ c.NoChance := fun e => ne_NoChance_Short c e.symm
theorem ne_Crowded_Short (c : Cs) : c.Crowded ≠ c.Short := fun e => by have h := c.nd; simp [e] at h
theorem ne_Short_Crowded (c : Cs) : c.Short ≠ c.Crowded := fun e => ne_Crowded_Short c e.symm
theorem ne_NoDay_Short (c : Cs) : c.NoDay ≠ c.Short := fun e => by have h := c.nd; simp [e] at h
theorem ne_Short_NoDay (c : Cs) : c.Short ≠ c.NoDay := fun e => ne_NoDay_Short c e.symm
theorem ne_Missing_Short (c : Cs) : c.Missing ≠ c.Short := fun e => by have h := c.nd; simp [e] at h
theorem ne_Short_Missing (c : Cs) : c.Short ≠ c.Missing := fun e => ne_Missing_Short c e.symm
theorem ne_TakenName_Short (c : Cs) : c.TakenName ≠ c.Short := fun e => by have h := c.nd; simp [e] at h
theorem ne_Short_TakenName (c : Cs) : c.Short ≠ c.TakenName := fun e => ne_TakenName_Short c e.symm
def hds (c : Cs) : Hds := [(c.BadValue, "BadValue", ["at"]), (c.BadText, "BadText", ["at"]), (c.Unknown, "Unknown", ["name"]), (c.NoChance, "NoChance", ["word"]), (c.Crowded, "Crowded", ["first", "last"]), (c.NoDay, "NoDay", ["name"]), (c.Missing, "Missing", ["at"]), (c.TakenName, "TakenName", ["name"]), (c.Short, "Short", ["rows"])]
abbrev Ph := List O → Rz (O × List O)
noncomputable def body1_law_numbers (c : Cs) : Run :=
  (rSeq (rIf (gB (g2 fEq (gV 3) (gC (D.int 0)))) rBreak rNext)
  (rSeq (rApp 1 (gO (g2 fMod (gN fInt (gaCons (gV 3) gaNil)) (gC (D.int 997)))))
  (rSet 3 (gO (g2 fDiv (gV 3) (gC (D.int 997)))))))
noncomputable def body2_law_numbers (c : Cs) : Run :=
  (rSeq (rSet 5 (gO (g2 fMod (gN fInt (gaCons (gZ (gX2 fAdd (gZ (gX2 fAdd (g2 fMulI (gV 2) (gC (D.int 48271))) (g2 fMulI (gV 4) (gC (D.int 69621))))) (gC (D.int 11)))) gaNil)) (gC (D.int 2147483647)))))
  (rApp 1 (gO (g2 fMod (gN fInt (gaCons (gZ (gX2 fAdd (g2 fMulI (gV 5) (gC (D.int 16807))) (gV 4))) gaNil)) (gC (D.int 2147483629))))))
noncomputable def body3_law_numbers (c : Cs) : Run :=
  (rIf (gB (g2 fGe (gV 2) (g2 fPow (gC (D.int 10)) (gC (D.int 18))))) (rSeq (rSet 3 (gO (gV 2)))
  (rFor (wR1 (gaCons (gC (D.int 60)) gaNil)) (tgN 4) (body1_law_numbers c))) (rFor (wR1 (gaCons (gC (D.int 4)) gaNil)) (tgN 4) (body2_law_numbers c)))
noncomputable def run_law_numbers (c : Cs) : Run :=
  (rSeq (rSet 1 (gaLst gaNil))
  (rSeq (rFor (wA (gZ (gSlU (gV 0) (fun δ => .ok (none, δ)) (gPart (gC (D.int 63)))))) (tgN 2) (body3_law_numbers c))
  (rSeq (rIf (gB (g2 fEq (gS (fLenP (pV 1))) (gC (D.int 0)))) (rApp 1 (gO (gC (D.int 0)))) rNext)
  (rRet (gO (gV 1))))))
noncomputable def phi_law_numbers (c : Cs) : Ph := phi 6 1 [] (run_law_numbers c)
noncomputable def run_law_draw (c : Cs) : Run :=
  (rSeq (rIf (gB (g2 fLt (gV 1) (gN fLen (gaCons (gV 0) gaNil)))) (rRet (gO (g2 fMod (gN fInt (gaCons (g2 fIx (gV 0) (gV 1)) gaNil)) (gV 2)))) rNext)
  (rSeq (rSet 3 (gO (g2 fMod (gN fInt (gaCons (gZ (gX2 fAdd (gZ (gX2 fAdd (g2 fMulI (g2 fIx (gV 0) (g2 fMod (gN fInt (gaCons (gV 1) gaNil)) (gN fLen (gaCons (gV 0) gaNil)))) (gC (D.int 40692))) (g2 fMulI (gV 1) (gC (D.int 7919))))) (gC (D.int 3)))) gaNil)) (gC (D.int 2147483399)))))
  (rRet (gO (g2 fMod (gN fInt (gaCons (g2 fMod (gN fInt (gaCons (gZ (gX2 fAdd (g2 fMulI (gV 3) (gC (D.int 48271))) (gV 1))) gaNil)) (gC (D.int 2147483647))) gaNil)) (gV 2))))))
noncomputable def phi_law_draw (c : Cs) : Ph := phi 4 3 [] (run_law_draw c)
noncomputable def run_law_take (c : Cs) : Run :=
  (rSeq (rSetIx 1 (gZ (gX2 fAdd (gS (fP (pI (pV 1) (fun _ => some (D.int 0))))) (gC (D.int 1)))) (gC (D.int 0)))
  (rRet (gCall 3 [] (phi_law_draw c) (gAD (gV 0) (gAD (g2 fSub (gS (fP (pI (pV 1) (fun _ => some (D.int 0))))) (gC (D.int 1))) (gAD (gV 2) gANil))))))
noncomputable def phi_law_take (c : Cs) : Ph := phi 3 3 [1] (run_law_take c)
noncomputable def run_law_pick (c : Cs) : Run :=
  (rRet (gO (g2 fIx (gV 2) (gZ (gCall 3 [1] (phi_law_take c) (gAD (gV 0) (gAA 1 (gAD (gN fLen (gaCons (gV 2) gaNil)) gANil))))))))
noncomputable def phi_law_pick (c : Cs) : Ph := phi 3 3 [1] (run_law_pick c)
noncomputable def body1_law_gcd (c : Cs) : Run :=
  (rSeq (rIf (gB (g2 fEq (gV 3) (gC (D.int 0)))) rBreak rNext)
  (rSeq (rSet 5 (gO (g2 fMod (gN fInt (gaCons (gV 2) gaNil)) (gV 3))))
  (rSeq (rSet 2 (gO (gV 3)))
  (rSet 3 (gO (gV 5))))))
noncomputable def run_law_gcd (c : Cs) : Run :=
  (rSeq (rSet 2 (gO (gIf (gB (g2 fGe (gV 0) (gC (D.int 0)))) (gV 0) (g1 fNeg (gV 0)))))
  (rSeq (rSet 3 (gO (gIf (gB (g2 fGe (gV 1) (gC (D.int 0)))) (gV 1) (g1 fNeg (gV 1)))))
  (rSeq (rFor (wR1 (gaCons (gC (D.int 20000)) gaNil)) (tgN 4) (body1_law_gcd c))
  (rRet (gO (gV 2))))))
noncomputable def phi_law_gcd (c : Cs) : Ph := phi 6 2 [] (run_law_gcd c)
noncomputable def body1_law_apart_days (c : Cs) : Run :=
  (rSeq (rSet 4 (gCall 2 [] (phi_law_gcd c) (gAD (g2 fIx (gV 0) (gV 3)) (gAD (g2 fIx (gV 0) (gV 2)) gANil))))
  (rIf (gB (g2 fEq (g2 fMod (gN fInt (gaCons (gN fMax2 (gaCons (g2 fSub (g2 fIx (gV 1) (gV 3)) (g2 fIx (gV 1) (gV 2))) (gaCons (g2 fSub (g2 fIx (gV 1) (gV 2)) (g2 fIx (gV 1) (gV 3))) gaNil))) gaNil)) (gV 4)) (gC (D.int 0)))) (rRet (gO (gC (D.bl false)))) rNext))
noncomputable def body2_law_apart_days (c : Cs) : Run :=
  (rFor (wR1 (gaCons (gV 2) gaNil)) (tgN 3) (body1_law_apart_days c))
noncomputable def run_law_apart_days (c : Cs) : Run :=
  (rSeq (rFor (wR1 (gaCons (gN fLen (gaCons (gV 0) gaNil)) gaNil)) (tgN 2) (body2_law_apart_days c))
  (rRet (gO (gC (D.bl true)))))
noncomputable def phi_law_apart_days (c : Cs) : Ph := phi 5 2 [] (run_law_apart_days c)
noncomputable def body1_law_starts (c : Cs) (Φ_law_starts : Ph) : Run :=
  (rSeq (rSet 3 (gX2 fAdd (gV 1) (gaTup (gaCons (gV 2) gaNil))))
  (rIf (gB (gZ (gCall 2 [] (phi_law_apart_days c) (gAD (gZ (gSlU (gV 0) (fun δ => .ok (none, δ)) (gPart (gN fLen (gaCons (gV 3) gaNil))))) (gAD (gV 3) gANil))))) (rSeq (rSet 4 (gCall 2 [] Φ_law_starts (gAD (gV 0) (gAD (gV 3) gANil))))
  (rIf (gB (g2 fNotN (gV 4) (gC D.non))) (rRet (gO (gV 4))) rNext)) rNext))
noncomputable def run_law_starts (c : Cs) (Φ_law_starts : Ph) : Run :=
  (rSeq (rIf (gB (g2 fEq (gN fLen (gaCons (gV 1) gaNil)) (gN fLen (gaCons (gV 0) gaNil)))) (rRet (gO (gV 1))) rNext)
  (rSeq (rFor (wR1 (gaCons (g2 fIx (gV 0) (gN fLen (gaCons (gV 1) gaNil))) gaNil)) (tgN 2) (body1_law_starts c Φ_law_starts))
  (rRet (gO (gC D.non)))))
noncomputable def phi_law_starts (c : Cs) : Nat → Ph
  | 0 => fun _ => .no
  | n + 1 => phi 5 2 [] (run_law_starts c (phi_law_starts c n))
noncomputable def body1_law_so (c : Cs) (Φ_law_so : Ph) : Run :=
  (rIf (gNot (gB (gZ (gCall 2 [] Φ_law_so (gAD (g2 fIx (gV 0) (gV 2)) (gAD (g2 fIx (gV 1) (gV 2)) gANil)))))) (rRet (gO (gC (D.bl false)))) rNext)
noncomputable def run_law_so (c : Cs) (Φ_law_so : Ph) : Run :=
  (rSeq (rIf (gB (g2 fIsN (gV 1) (gC D.non))) (rRet (gO (g2 fIsN (gV 0) (gC D.non)))) rNext)
  (rSeq (rIf (gB (gIs isTup (gV 1))) (rSeq (rIf (gOr (gNot (gB (gIs isTup (gV 0)))) (gB (g2 fNe (gN fLen (gaCons (gV 0) gaNil)) (gN fLen (gaCons (gV 1) gaNil))))) (rRet (gO (gC (D.bl false)))) rNext)
  (rSeq (rFor (wR1 (gaCons (gN fLen (gaCons (gV 1) gaNil)) gaNil)) (tgN 2) (body1_law_so c Φ_law_so))
  (rRet (gO (gC (D.bl true)))))) rNext)
  (rSeq (rIf (gOr (gB (gIs isBool (gV 1))) (gB (gIs isBool (gV 0)))) (rRet (gO (gAndV (gIs isBool (gV 1)) (gAndV (gIs isBool (gV 0)) (g2 fEq (gV 0) (gV 1)))))) rNext)
  (rSeq (rIf (gB (gIs isInt (gV 1))) (rRet (gO (gAndV (gIs isInt (gV 0)) (g2 fEq (gV 0) (gV 1))))) rNext)
  (rRet (gO (gAndV (gIs isStr (gV 1)) (gAndV (gIs isStr (gV 0)) (g2 fEq (gV 0) (gV 1))))))))))
noncomputable def phi_law_so (c : Cs) : Nat → Ph
  | 0 => fun _ => .no
  | n + 1 => phi 3 2 [] (run_law_so c (phi_law_so c n))
noncomputable def run_is_sequence (c : Cs) : Run :=
  (rRet (gO (gIs isSeq (gV 0))))
noncomputable def phi_is_sequence (c : Cs) : Ph := phi 1 1 [] (run_is_sequence c)
noncomputable def run_is_row (c : Cs) : Run :=
  (rRet (gO (gAndV (gZ (gCall 1 [] (phi_is_sequence c) (gAD (gV 0) gANil))) (gAndV (g2 fLe (gV 1) (gN fLen (gaCons (gV 0) gaNil))) (g2 fLe (gN fLen (gaCons (gV 0) gaNil)) (gV 2))))))
noncomputable def phi_is_row (c : Cs) : Ph := phi 3 3 [] (run_is_row c)
noncomputable def run_is_integer (c : Cs) : Run :=
  (rRet (gO (gAndV (gIs isInt (gV 0)) (gNotV (gIs isBool (gV 0))))))
noncomputable def phi_is_integer (c : Cs) : Ph := phi 1 1 [] (run_is_integer c)
noncomputable def run_is_within (c : Cs) : Run :=
  (rRet (gO (gAndV (gZ (gCall 1 [] (phi_is_integer c) (gAD (gV 0) gANil))) (gAndV (g2 fLe (gV 1) (gV 0)) (g2 fLe (gV 0) (gV 2))))))
noncomputable def phi_is_within (c : Cs) : Ph := phi 3 3 [] (run_is_within c)
noncomputable def elt1_check_periods (c : Cs) : DEnv → Rz (O × DEnv) :=
  (gCall 3 [] (phi_is_within c) (gAD (gV 1) (gAD (gC (D.int 1)) (gAD (gC (D.int 12)) gANil))))
noncomputable def run_check_periods (c : Cs) : Run :=
  (rIf (gOr (gNot (gB (gZ (gCall 3 [] (phi_is_row c) (gAD (gV 0) (gAD (gC (D.int 0)) (gAD (gC (D.int 5)) gANil))))))) (gNot (gB (gN fAll (gaCons (gZ (gLc (wA (gV 0)) (tgN 1) (fun δ => .ok (true, δ)) (elt1_check_periods c) [1])) gaNil))))) (rRaise c.BadValue "at" (gaCons (gC (D.int 0)) gaNil)) rNext)
noncomputable def phi_check_periods (c : Cs) : Ph := phi 2 1 [] (run_check_periods c)
noncomputable def run_meet (c : Cs) : Run :=
  (rRet (gO (g2 fEq (g2 fMod (g2 fSub (gV 1) (gV 3)) (gN fGcd (gaCons (gV 0) (gaCons (gV 2) gaNil)))) (gC (D.int 0)))))
noncomputable def phi_meet (c : Cs) : Ph := phi 4 4 [] (run_meet c)
noncomputable def elt1_meets_one (c : Cs) : DEnv → Rz (O × DEnv) :=
  (gCall 4 [] (phi_meet c) (gAD (gV 3) (gAD (gV 2) (gAD (g2 fIx (gV 0) (gV 4)) (gAD (gV 5) gANil)))))
noncomputable def run_meets_one (c : Cs) : Run :=
  (rSeq (rSet 3 (gO (g2 fIx (gV 0) (gN fLen (gaCons (gV 1) gaNil)))))
  (rRet (gO (gN fAny (gaCons (gZ (gLc (wE (gaCons (gV 1) gaNil)) (tgTup 2 (tgCons (tgN 4) (tgCons (tgN 5) tgNil))) (fun δ => .ok (true, δ)) (elt1_meets_one c) [4, 5])) gaNil)))))
noncomputable def phi_meets_one (c : Cs) : Ph := phi 6 3 [] (run_meets_one c)
noncomputable def body1_next_start (c : Cs) : Run :=
  (rIf (gNot (gB (gZ (gCall 3 [] (phi_meets_one c) (gAD (gV 0) (gAD (gV 1) (gAD (gV 3) gANil))))))) (rRet (gO (gV 3))) rNext)
noncomputable def run_next_start (c : Cs) : Run :=
  (rSeq (rFor (wR2 (gaCons (gV 2) (gaCons (g2 fIx (gV 0) (gN fLen (gaCons (gV 1) gaNil))) gaNil))) (tgN 3) (body1_next_start c))
  (rRet (gO (gC D.non))))
noncomputable def phi_next_start (c : Cs) : Ph := phi 4 3 [] (run_next_start c)
noncomputable def body1_starts (c : Cs) : Run :=
  (rSeq (rSet 3 (gCallB 3 (phi_next_start c) (gAD (gV 0) (gAA 1 (gAD (gV 2) gANil)))))
  (rIf (gB (g2 fNotN (gV 3) (gC D.non))) (rSeq (rApp 1 (gO (gV 3)))
  (rSet 2 (gO (gC (D.int 0))))) (rIf (gB (g2 fGt (gS (fLenP (pV 1))) (gC (D.int 1)))) (rSet 2 (gX2 fAdd (gPop 1 (pV 1)) (gC (D.int 1)))) (rRet (gO (gC D.non))))))
noncomputable def run_starts (c : Cs) : Run :=
  (rSeq (rDrop (gZ (gCall 1 [] (phi_check_periods c) (gAD (gV 0) gANil))))
  (rSeq (rSet 1 (gaLst gaNil))
  (rSeq (rSet 2 (gO (gC (D.int 0))))
  (rSeq (rWhile (gB (g2 fLt (gS (fLenP (pV 1))) (gN fLen (gaCons (gV 0) gaNil)))) (body1_starts c))
  (rRet (gO (gN fTupOf (gaCons (gV 1) gaNil))))))))
noncomputable def phi_starts (c : Cs) : Ph := phi 4 1 [] (run_starts c)
noncomputable def elt1_law_listed (c : Cs) (Φ_law_listed : Ph) : DEnv → Rz (O × DEnv) :=
  (gCall 1 [] Φ_law_listed (gAD (gV 1) gANil))
noncomputable def run_law_listed (c : Cs) (Φ_law_listed : Ph) : Run :=
  (rSeq (rIf (gB (gIs isTup (gV 0))) (rRet (gLc (wA (gV 0)) (tgN 1) (fun δ => .ok (true, δ)) (elt1_law_listed c Φ_law_listed) [1])) rNext)
  (rRet (gO (gV 0))))
noncomputable def phi_law_listed (c : Cs) : Nat → Ph
  | 0 => fun _ => .no
  | n + 1 => phi 2 1 [] (run_law_listed c (phi_law_listed c n))
noncomputable def run_law_handed (c : Cs) : Run :=
  (rRet (gO (gIf (gB (g2 fEq (gZ (gCall 3 [1] (phi_law_take c) (gAD (gV 0) (gAA 1 (gAD (gC (D.int 2)) gANil))))) (gC (D.int 0)))) (gZ (gCall 1 [] (phi_law_listed c 3) (gAD (gV 2) gANil))) (gV 2))))
noncomputable def phi_law_handed (c : Cs) : Ph := phi 3 3 [1] (run_law_handed c)
noncomputable def elt1_starts_prove (c : Cs) : DEnv → Rz (O × DEnv) :=
  (gCall 3 [] (phi_is_within c) (gAD (gV 3) (gAD (gC (D.int 0)) (gAD (g2 fSub (gC (D.int 12)) (gC (D.int 1))) gANil))))
noncomputable def body2_starts_prove (c : Cs) : Run :=
  (rIf (gOr (gB (g2 fGe (gV 3) (g2 fIx (gV 0) (gV 2)))) (gB (gZ (gCall 3 [] (phi_meets_one c) (gAD (gV 0) (gAD (gZ (gSlU (gV 1) (fun δ => .ok (none, δ)) (gPart (gV 2)))) (gAD (gV 3) gANil))))))) (rRet (gO (gC (D.bl false)))) rNext)
noncomputable def run_starts_prove (c : Cs) : Run :=
  (rSeq (rDrop (gZ (gCall 1 [] (phi_check_periods c) (gAD (gV 0) gANil))))
  (rSeq (rIf (gOr (gNot (gB (gZ (gCall 1 [] (phi_is_sequence c) (gAD (gV 1) gANil))))) (gNot (gB (gN fAll (gaCons (gZ (gLc (wA (gV 1)) (tgN 3) (fun δ => .ok (true, δ)) (elt1_starts_prove c) [3])) gaNil))))) (rRaise c.BadValue "at" (gaCons (gC (D.int 1)) gaNil)) rNext)
  (rSeq (rIf (gB (g2 fNe (gN fLen (gaCons (gV 1) gaNil)) (gN fLen (gaCons (gV 0) gaNil)))) (rRaise c.BadValue "at" (gaCons (gC (D.int 1)) gaNil)) rNext)
  (rSeq (rFor (wE (gaCons (gV 1) gaNil)) (tgTup 2 (tgCons (tgN 2) (tgCons (tgN 3) tgNil))) (body2_starts_prove c))
  (rRet (gO (gC (D.bl true))))))))
noncomputable def phi_starts_prove (c : Cs) : Ph := phi 4 2 [] (run_starts_prove c)
noncomputable def elt1_check_starts (c : Cs) : DEnv → Rz (O × DEnv) :=
  (gO (gAndV (gZ (gCall 1 [] (phi_is_integer c) (gAD (gV 3) gANil))) (g2 fGe (gV 3) (gC (D.int 0)))))
noncomputable def body2_check_starts (c : Cs) : Run :=
  (rIf (gB (g2 fGe (gV 3) (gV 2))) (rRaise c.BadValue "at" (gaCons (gC (D.int 1)) gaNil)) rNext)
noncomputable def run_check_starts (c : Cs) : Run :=
  (rSeq (rDrop (gZ (gCall 1 [] (phi_check_periods c) (gAD (gV 0) gANil))))
  (rSeq (rIf (gOr (gNot (gB (gZ (gCall 1 [] (phi_is_sequence c) (gAD (gV 1) gANil))))) (gNot (gB (gN fAll (gaCons (gZ (gLc (wA (gV 1)) (tgN 3) (fun δ => .ok (true, δ)) (elt1_check_starts c) [3])) gaNil))))) (rRaise c.BadValue "at" (gaCons (gC (D.int 1)) gaNil)) rNext)
  (rSeq (rIf (gB (g2 fNe (gN fLen (gaCons (gV 1) gaNil)) (gN fLen (gaCons (gV 0) gaNil)))) (rRaise c.BadValue "at" (gaCons (gC (D.int 1)) gaNil)) rNext)
  (rFor (wZip (gaCons (gV 0) (gaCons (gV 1) gaNil))) (tgTup 2 (tgCons (tgN 2) (tgCons (tgN 3) tgNil))) (body2_check_starts c)))))
noncomputable def phi_check_starts (c : Cs) : Ph := phi 4 2 [] (run_check_starts c)
noncomputable def body1_busy_days (c : Cs) : Run :=
  (rSet 2 (gO (gN fLcm (gaCons (gV 2) (gaCons (gV 3) gaNil)))))
noncomputable def body2_busy_days (c : Cs) : Run :=
  (rAugIx 4 (pV 4) (fP (pV 6)) (fun _ => some (D.int 1)) fAddI)
noncomputable def body3_busy_days (c : Cs) : Run :=
  (rFor (wR3 (gaCons (gV 5) (gaCons (gV 2) (gaCons (gV 3) gaNil)))) (tgN 6) (body2_busy_days c))
noncomputable def tst4_busy_days (c : Cs) : DEnv → Rz (Bool × DEnv) :=
  (gB (g2 fGt (gV 7) (gC (D.int 0))))
noncomputable def elt5_busy_days (c : Cs) : DEnv → Rz (O × DEnv) :=
  (gO (gaTup (gaCons (gV 6) (gaCons (gV 7) gaNil))))
noncomputable def run_busy_days (c : Cs) : Run :=
  (rSeq (rDrop (gZ (gCall 2 [] (phi_check_starts c) (gAD (gV 0) (gAD (gV 1) gANil)))))
  (rSeq (rSet 2 (gO (gC (D.int 1))))
  (rSeq (rFor (wA (gV 0)) (tgN 3) (body1_busy_days c))
  (rSeq (rSet 4 (gX2 fRepL (gZ (gaLst (gaCons (gC (D.int 0)) gaNil))) (gV 2)))
  (rSeq (rFor (wZip (gaCons (gV 0) (gaCons (gV 1) gaNil))) (tgTup 2 (tgCons (tgN 3) (tgCons (tgN 5) tgNil))) (body3_busy_days c))
  (rRet (gO (gaTup (gaCons (gV 2) (gaCons (gN fTupOf (gaCons (gZ (gLc (wE (gaCons (gV 4) gaNil)) (tgTup 2 (tgCons (tgN 6) (tgCons (tgN 7) tgNil))) (tst4_busy_days c) (elt5_busy_days c) [6, 7])) gaNil)) gaNil))))))))))
noncomputable def phi_busy_days (c : Cs) : Ph := phi 8 2 [] (run_busy_days c)
noncomputable def elt1_law (c : Cs) : DEnv → Rz (O × DEnv) :=
  (gCall 3 [1] (phi_law_pick c) (gAD (gV 1) (gAA 2 (gAD (gV 3) gANil))))
noncomputable def elt2_law (c : Cs) : DEnv → Rz (O × DEnv) :=
  (gCall 3 [1] (phi_law_take c) (gAD (gV 1) (gAA 2 (gAD (gV 14) gANil))))
noncomputable def tst3_law (c : Cs) : DEnv → Rz (Bool × DEnv) :=
  (gB (g2 fGe (gS (fP (pI (pV 7) (fP (pV 16))))) (g2 fIx (gV 4) (gV 16))))
noncomputable def elt4_law (c : Cs) : DEnv → Rz (O × DEnv) :=
  (gO (gV 16))
noncomputable def tst5_law (c : Cs) : DEnv → Rz (Bool × DEnv) :=
  (gAnd (gB (g2 fGe (gV 10) (gS (fP (pI (pV 7) (fP (pV 16))))))) (gB (g2 fEq (g2 fMod (gN fInt (gaCons (g2 fSub (gV 10) (gS (fP (pI (pV 7) (fP (pV 16)))))) gaNil)) (g2 fIx (gV 4) (gV 16))) (gC (D.int 0)))))
noncomputable def elt6_law (c : Cs) : DEnv → Rz (O × DEnv) :=
  (gO (gV 16))
noncomputable def body7_law (c : Cs) : Run :=
  (rDPut 9 (pV 9) (fP (pV 10)) (gN fLen (gaCons (gZ (gLc (wR1 (gaCons (gN fLen (gaCons (gV 4) gaNil)) gaNil)) (tgN 16) (tst5_law c) (elt6_law c) [16])) gaNil)))
noncomputable def body8_law (c : Cs) : Run :=
  (rSet 13 (gO (g2 fDiv (g2 fMulI (gV 13) (gV 14)) (gZ (gCall 2 [] (phi_law_gcd c) (gAD (gV 13) (gAD (gV 14) gANil)))))))
noncomputable def tst9_law (c : Cs) : DEnv → Rz (Bool × DEnv) :=
  (gB (g2 fGt (gS (fDGetP (pV 9) (fP (pV 10)))) (gC (D.int 0))))
noncomputable def elt10_law (c : Cs) : DEnv → Rz (O × DEnv) :=
  (gO (gaTup (gaCons (gV 10) (gaCons (gS (fDGetP (pV 9) (fP (pV 10)))) gaNil))))
noncomputable def body11_law (c : Cs) : Run :=
  (rSeq (rSet 7 (gLc (wA (gV 4)) (tgN 14) (fun δ => .ok (true, δ)) (elt2_law c) [14]))
  (rSeq (rIf (gAnd (gB (g2 fLt (gV 6) (gC (D.int 2)))) (gB (g2 fNotN (gV 5) (gC D.non)))) (rSeq (rSet 7 (gXN fListOf (gaCons (gV 5) gaNil)))
  (rIf (gAnd (gB (g2 fEq (gV 6) (gC (D.int 1)))) (gB (g2 fGt (gS (fLenP (pV 7))) (gC (D.int 0))))) (rSetIx 7 (gZ (gCall 3 [1] (phi_law_take c) (gAD (gV 1) (gAA 2 (gAD (gC (D.int 12)) gANil))))) (gZ (gCall 3 [1] (phi_law_take c) (gAD (gV 1) (gAA 2 (gAD (gS (fLenP (pV 7))) gANil)))))) rNext)) rNext)
  (rSeq (rSet 8 (gO (g2 fEq (gN fLen (gaCons (gZ (gLc (wR1 (gaCons (gN fLen (gaCons (gV 4) gaNil)) gaNil)) (tgN 16) (tst3_law c) (elt4_law c) [16])) gaNil)) (gC (D.int 0)))))
  (rSeq (rSet 9 gDNew)
  (rSeq (rFor (wR1 (gaCons (gC (D.int 120)) gaNil)) (tgN 10) (body7_law c))
  (rSeq (rSet 11 (gO (gAndV (gV 8) (gNotV (gZ (gCall 2 [] (phi_law_apart_days c) (gAD (gV 4) (gAD (gV 7) gANil))))))))
  (rSeq (rIf (gNot (gB (gZ (gCall 2 [] (phi_law_so c 4) (gAD (gZ (gCall 2 [] (phi_starts_prove c) (gAD (gZ (gCall 3 [1] (phi_law_handed c) (gAD (gV 1) (gAA 2 (gAD (gV 4) gANil))))) (gAD (gZ (gCall 3 [1] (phi_law_handed c) (gAD (gV 1) (gAA 2 (gAD (gN fTupOf (gaCons (gV 7) gaNil)) gANil))))) gANil)))) (gAD (gAndV (gV 8) (gNotV (gV 11))) gANil)))))) (rRet (gO (gC (D.bl false)))) rNext)
  (rSeq (rSet 12 (gO (gTold (hds c) 2 (phi_busy_days c) (gaCons (gV 4) (gaCons (gN fTupOf (gaCons (gV 7) gaNil)) gaNil)))))
  (rIf (gNot (gTru (gV 8))) (rIf (gB (g2 (fEqP not) (gV 12) (gaTup (gaCons (gC (D.str "BadValue")) (gaCons (gC (D.int 1)) gaNil))))) (rRet (gO (gC (D.bl false)))) rNext) (rSeq (rSet 13 (gO (gC (D.int 1))))
  (rSeq (rFor (wA (gV 4)) (tgN 14) (body8_law c))
  (rSeq (rIf (gOr (gB (g2 fNe (g2 fIx (gV 12) (gC (D.int 0))) (gC (D.str "value")))) (gB (g2 fNe (g2 fIx (g2 fIx (gV 12) (gC (D.int 1))) (gC (D.int 0))) (gV 13)))) (rRet (gO (gC (D.bl false)))) rNext)
  (rIf (gAnd (gB (g2 fLe (gV 13) (gC (D.int 120)))) (gNot (gB (gZ (gCall 2 [] (phi_law_so c 4) (gAD (g2 fIx (g2 fIx (gV 12) (gC (D.int 1))) (gC (D.int 1))) (gAD (gN fTupOf (gaCons (gZ (gLc (wR1 (gaCons (gV 13) gaNil)) (tgN 10) (tst9_law c) (elt10_law c) [10])) gaNil)) gANil))))))) (rRet (gO (gC (D.bl false)))) rNext)))))))))))))
noncomputable def body12_law (c : Cs) : Run :=
  (rIf (gOr (gB (g2 (fEqP not) (gTold (hds c) 1 (phi_starts c) (gaCons (gV 15) gaNil)) (gaTup (gaCons (gC (D.str "BadValue")) (gaCons (gC (D.int 0)) gaNil))))) (gOr (gB (g2 (fEqP not) (gTold (hds c) 2 (phi_starts_prove c) (gaCons (gV 15) (gaCons (gaTup (gaCons (gC (D.int 0)) gaNil)) gaNil))) (gaTup (gaCons (gC (D.str "BadValue")) (gaCons (gC (D.int 0)) gaNil))))) (gB (g2 (fEqP not) (gTold (hds c) 2 (phi_busy_days c) (gaCons (gV 15) (gaCons (gaTup (gaCons (gC (D.int 0)) gaNil)) gaNil))) (gaTup (gaCons (gC (D.str "BadValue")) (gaCons (gC (D.int 0)) gaNil))))))) (rRet (gO (gC (D.bl false)))) rNext)
noncomputable def body13_law (c : Cs) : Run :=
  (rIf (gOr (gB (g2 (fEqP not) (gTold (hds c) 2 (phi_starts_prove c) (gaCons (gaTup (gaCons (gC (D.int 12)) gaNil)) (gaCons (gV 15) gaNil))) (gaTup (gaCons (gC (D.str "BadValue")) (gaCons (gC (D.int 1)) gaNil))))) (gB (g2 (fEqP not) (gTold (hds c) 2 (phi_busy_days c) (gaCons (gaTup (gaCons (gC (D.int 12)) gaNil)) (gaCons (gV 15) gaNil))) (gaTup (gaCons (gC (D.str "BadValue")) (gaCons (gC (D.int 1)) gaNil)))))) (rRet (gO (gC (D.bl false)))) rNext)
noncomputable def run_law (c : Cs) : Run :=
  (rSeq (rSet 1 (gCall 1 [] (phi_law_numbers c) (gAD (gV 0) gANil)))
  (rSeq (rSet 2 (gaLst (gaCons (gC (D.int 0)) gaNil)))
  (rSeq (rSet 3 (gCall 3 [1] (phi_law_pick c) (gAD (gV 1) (gAA 2 (gAD (gZ (gaLst (gaCons (gZ (gaLst (gaCons (gC (D.int 2)) (gaCons (gC (D.int 4)) (gaCons (gC (D.int 8)) (gaCons (gC (D.int 12)) gaNil)))))) (gaCons (gZ (gaLst (gaCons (gC (D.int 3)) (gaCons (gC (D.int 6)) (gaCons (gC (D.int 9)) (gaCons (gC (D.int 12)) gaNil)))))) (gaCons (gZ (gaLst (gaCons (gC (D.int 4)) (gaCons (gC (D.int 8)) (gaCons (gC (D.int 10)) (gaCons (gC (D.int 6)) (gaCons (gC (D.int 12)) gaNil))))))) (gaCons (gZ (gaLst (gaCons (gC (D.int 1)) (gaCons (gC (D.int 2)) (gaCons (gC (D.int 3)) (gaCons (gC (D.int 5)) (gaCons (gC (D.int 7)) (gaCons (gC (D.int 12)) gaNil)))))))) gaNil)))))) gANil)))))
  (rSeq (rSet 4 (gO (gN fTupOf (gaCons (gZ (gLc (wR1 (gaCons (gZ (gCall 3 [1] (phi_law_take c) (gAD (gV 1) (gAA 2 (gAD (gC (D.int 6)) gANil))))) gaNil)) (tgN 6) (fun δ => .ok (true, δ)) (elt1_law c) [6])) gaNil))))
  (rSeq (rSet 5 (gCall 2 [] (phi_law_starts c 7) (gAD (gV 4) (gAD (gaTup gaNil) gANil))))
  (rSeq (rIf (gNot (gB (gZ (gCall 2 [] (phi_law_so c 4) (gAD (gZ (gCall 1 [] (phi_starts c) (gAD (gZ (gCall 3 [1] (phi_law_handed c) (gAD (gV 1) (gAA 2 (gAD (gV 4) gANil))))) gANil))) (gAD (gV 5) gANil)))))) (rRet (gO (gC (D.bl false)))) rNext)
  (rSeq (rFor (wR1 (gaCons (gC (D.int 5)) gaNil)) (tgN 6) (body11_law c))
  (rSeq (rFor (wA (gZ (gaLst (gaCons (gaTup (gaCons (gC (D.int 0)) gaNil)) (gaCons (gaTup (gaCons (gC (D.int 13)) gaNil)) (gaCons (gaTup (gaCons (gC (D.bl true)) gaNil)) (gaCons (gC D.non) (gaCons (gC (D.int 5)) (gaCons (g2 fRepT (gaTup (gaCons (gC (D.int 1)) gaNil)) (gC (D.int 6))) (gaCons (gaTup (gaCons (gC (D.str "1")) gaNil)) (gaCons (gaTup (gaCons (g1 fNeg (gC (D.int 1))) gaNil)) gaNil))))))))))) (tgN 15) (body12_law c))
  (rSeq (rFor (wA (gZ (gaLst (gaCons (gaTup gaNil) (gaCons (gaTup (gaCons (gC (D.int 0)) (gaCons (gC (D.int 0)) gaNil))) (gaCons (gaTup (gaCons (g1 fNeg (gC (D.int 1))) gaNil)) (gaCons (gaTup (gaCons (gC (D.int 12)) gaNil)) (gaCons (gaTup (gaCons (gC (D.bl true)) gaNil)) (gaCons (gC D.non) (gaCons (gC (D.int 5)) (gaCons (gaTup (gaCons (gC (D.str "0")) gaNil)) gaNil))))))))))) (tgN 15) (body13_law c))
  (rSeq (rIf (gNot (gB (gZ (gCall 2 [] (phi_law_so c 4) (gAD (gZ (gCall 1 [] (phi_starts c) (gAD (gaTup (gaCons (gC (D.int 4)) (gaCons (gC (D.int 4)) (gaCons (gC (D.int 2)) gaNil)))) gANil))) (gAD (gaTup (gaCons (gC (D.int 0)) (gaCons (gC (D.int 2)) (gaCons (gC (D.int 1)) gaNil)))) gANil)))))) (rRet (gO (gC (D.bl false)))) rNext)
  (rRet (gO (gAndV (gZ (gCall 2 [] (phi_law_so c 4) (gAD (gZ (gCall 1 [] (phi_starts c) (gAD (gaTup gaNil) gANil))) (gAD (gaTup gaNil) gANil)))) (gAndV (gZ (gCall 2 [] (phi_law_so c 4) (gAD (gZ (gCall 2 [] (phi_busy_days c) (gAD (gaTup gaNil) (gAD (gaTup gaNil) gANil)))) (gAD (gaTup (gaCons (gC (D.int 1)) (gaCons (gaTup gaNil) gaNil))) gANil)))) (gAndV (gZ (gCall 2 [] (phi_law_so c 4) (gAD (gZ (gCall 1 [] (phi_starts c) (gAD (gaTup (gaCons (gC (D.int 12)) (gaCons (gC (D.int 12)) (gaCons (gC (D.int 12)) (gaCons (gC (D.int 12)) (gaCons (gC (D.int 12)) gaNil)))))) gANil))) (gAD (gaTup (gaCons (gC (D.int 0)) (gaCons (gC (D.int 1)) (gaCons (gC (D.int 2)) (gaCons (gC (D.int 3)) (gaCons (gC (D.int 4)) gaNil)))))) gANil)))) (gZ (gCall 2 [] (phi_law_so c 4) (gAD (gZ (gCall 2 [] (phi_starts_prove c) (gAD (gaTup (gaCons (gC (D.int 2)) gaNil)) (gAD (gaTup (gaCons (gC (D.int 5)) gaNil)) gANil)))) (gAD (gC (D.bl false)) gANil)))))))))))))))))))
noncomputable def phi_law (c : Cs) : Ph := phi 17 1 [] (run_law c)
theorem go_law_numbers (c : Cs) (a0 : O) : phi_law_numbers c [a0] = (run_law_numbers c [some a0, none, none, none, none, none]).bind (finR []) := rfl
theorem go_law_draw (c : Cs) (a0 a1 a2 : O) : phi_law_draw c [a0, a1, a2] = (run_law_draw c [some a0, some a1, some a2, none]).bind (finR []) := rfl
theorem go_law_take (c : Cs) (a0 a1 a2 : O) : phi_law_take c [a0, a1, a2] = (run_law_take c [some a0, some a1, some a2]).bind (finR [1]) := rfl
theorem go_law_pick (c : Cs) (a0 a1 a2 : O) : phi_law_pick c [a0, a1, a2] = (run_law_pick c [some a0, some a1, some a2]).bind (finR [1]) := rfl
theorem go_law_gcd (c : Cs) (a0 a1 : O) : phi_law_gcd c [a0, a1] = (run_law_gcd c [some a0, some a1, none, none, none, none]).bind (finR []) := rfl
theorem go_law_apart_days (c : Cs) (a0 a1 : O) : phi_law_apart_days c [a0, a1] = (run_law_apart_days c [some a0, some a1, none, none, none]).bind (finR []) := rfl
theorem go_law_starts (c : Cs) (n : Nat) (a0 a1 : O) : phi_law_starts c (n + 1) [a0, a1] = (run_law_starts c (phi_law_starts c n) [some a0, some a1, none, none, none]).bind (finR []) := rfl
theorem go_law_so (c : Cs) (n : Nat) (a0 a1 : O) : phi_law_so c (n + 1) [a0, a1] = (run_law_so c (phi_law_so c n) [some a0, some a1, none]).bind (finR []) := rfl
theorem go_is_sequence (c : Cs) (a0 : O) : phi_is_sequence c [a0] = (run_is_sequence c [some a0]).bind (finR []) := rfl
theorem go_is_row (c : Cs) (a0 a1 a2 : O) : phi_is_row c [a0, a1, a2] = (run_is_row c [some a0, some a1, some a2]).bind (finR []) := rfl
theorem go_is_integer (c : Cs) (a0 : O) : phi_is_integer c [a0] = (run_is_integer c [some a0]).bind (finR []) := rfl
theorem go_is_within (c : Cs) (a0 a1 a2 : O) : phi_is_within c [a0, a1, a2] = (run_is_within c [some a0, some a1, some a2]).bind (finR []) := rfl
theorem go_check_periods (c : Cs) (a0 : O) : phi_check_periods c [a0] = (run_check_periods c [some a0, none]).bind (finR []) := rfl
theorem go_meet (c : Cs) (a0 a1 a2 a3 : O) : phi_meet c [a0, a1, a2, a3] = (run_meet c [some a0, some a1, some a2, some a3]).bind (finR []) := rfl
theorem go_meets_one (c : Cs) (a0 a1 a2 : O) : phi_meets_one c [a0, a1, a2] = (run_meets_one c [some a0, some a1, some a2, none, none, none]).bind (finR []) := rfl
theorem go_next_start (c : Cs) (a0 a1 a2 : O) : phi_next_start c [a0, a1, a2] = (run_next_start c [some a0, some a1, some a2, none]).bind (finR []) := rfl
theorem go_starts (c : Cs) (a0 : O) : phi_starts c [a0] = (run_starts c [some a0, none, none, none]).bind (finR []) := rfl
theorem go_law_listed (c : Cs) (n : Nat) (a0 : O) : phi_law_listed c (n + 1) [a0] = (run_law_listed c (phi_law_listed c n) [some a0, none]).bind (finR []) := rfl
theorem go_law_handed (c : Cs) (a0 a1 a2 : O) : phi_law_handed c [a0, a1, a2] = (run_law_handed c [some a0, some a1, some a2]).bind (finR [1]) := rfl
theorem go_starts_prove (c : Cs) (a0 a1 : O) : phi_starts_prove c [a0, a1] = (run_starts_prove c [some a0, some a1, none, none]).bind (finR []) := rfl
theorem go_check_starts (c : Cs) (a0 a1 : O) : phi_check_starts c [a0, a1] = (run_check_starts c [some a0, some a1, none, none]).bind (finR []) := rfl
theorem go_busy_days (c : Cs) (a0 a1 : O) : phi_busy_days c [a0, a1] = (run_busy_days c [some a0, some a1, none, none, none, none, none, none]).bind (finR []) := rfl
theorem go_law (c : Cs) (a0 : O) : phi_law c [a0] = (run_law c [some a0, none, none, none, none, none, none, none, none, none, none, none, none, none, none, none, none]).bind (finR []) := rfl
end DL

set_option maxHeartbeats 4000000
namespace DL
open PySem L2
def top (i : Nat) : Stmt := PySem.Challenge.pw_mendplan_k88_whole_services.main.body.getD i (.Pass ⟨0, 0, 0, 0⟩)
abbrev s_law_numbers : Stmt := top 30
abbrev s_law_draw : Stmt := top 31
abbrev s_law_take : Stmt := top 32
abbrev s_law_pick : Stmt := top 35
abbrev s_law_gcd : Stmt := top 36
abbrev s_law_apart_days : Stmt := top 38
abbrev s_law_starts : Stmt := top 39
abbrev s_law_so : Stmt := top 29
abbrev s_is_sequence : Stmt := top 4
abbrev s_is_row : Stmt := top 5
abbrev s_is_integer : Stmt := top 2
abbrev s_is_within : Stmt := top 3
abbrev s_check_periods : Stmt := top 20
abbrev s_meet : Stmt := top 21
abbrev s_meets_one : Stmt := top 22
abbrev s_next_start : Stmt := top 24
abbrev s_starts : Stmt := top 25
abbrev s_law_listed : Stmt := top 33
abbrev s_law_handed : Stmt := top 34
abbrev s_starts_prove : Stmt := top 23
abbrev s_check_starts : Stmt := top 26
abbrev s_busy_days : Stmt := top 27
abbrev s_law : Stmt := top 40
abbrev s_BadValue_init : Stmt := inClass (top 8) 0
theorem sc_BadValue_init : FnScope ["self", "at"] ["self", "at"] (defScope s_BadValue_init) := ⟨rfl, rfl, rfl, by decide +kernel, rfl, by decide +kernel, by decide +kernel⟩
abbrev s_law_told : Stmt := top 37
theorem sc_law_told : FnScope ["deed", "why"] ["deed"] (defScope s_law_told) := ⟨rfl, rfl, rfl, by decide +kernel, rfl, by decide +kernel, by decide +kernel⟩
def trys : List Stmt → List ExceptHandler
  | [.Try _ hs _ _ _] => hs
  | _ => []
theorem sc_law_numbers : FnScope ["script", "row", "cell", "left", "k", "mixed"] ["script"] (defScope s_law_numbers) := ⟨rfl, rfl, rfl, by decide +kernel, rfl, by decide +kernel, by decide +kernel⟩
theorem sc_law_draw : FnScope ["row", "at", "limit", "mixed"] ["row", "at", "limit"] (defScope s_law_draw) := ⟨rfl, rfl, rfl, by decide +kernel, rfl, by decide +kernel, by decide +kernel⟩
theorem sc_law_take : FnScope ["row", "spot", "limit"] ["row", "spot", "limit"] (defScope s_law_take) := ⟨rfl, rfl, rfl, by decide +kernel, rfl, by decide +kernel, by decide +kernel⟩
theorem sc_law_pick : FnScope ["row", "spot", "things"] ["row", "spot", "things"] (defScope s_law_pick) := ⟨rfl, rfl, rfl, by decide +kernel, rfl, by decide +kernel, by decide +kernel⟩
theorem sc_law_gcd : FnScope ["one", "other", "left", "right", "k", "rest"] ["one", "other"] (defScope s_law_gcd) := ⟨rfl, rfl, rfl, by decide +kernel, rfl, by decide +kernel, by decide +kernel⟩
theorem sc_law_apart_days : FnScope ["periods", "starts_at", "j", "i", "step"] ["periods", "starts_at"] (defScope s_law_apart_days) := ⟨rfl, rfl, rfl, by decide +kernel, rfl, by decide +kernel, by decide +kernel⟩
theorem sc_law_starts : FnScope ["periods", "made", "start", "longer", "found"] ["periods", "made"] (defScope s_law_starts) := ⟨rfl, rfl, rfl, by decide +kernel, rfl, by decide +kernel, by decide +kernel⟩
theorem sc_law_so : FnScope ["found", "meant", "k"] ["found", "meant"] (defScope s_law_so) := ⟨rfl, rfl, rfl, by decide +kernel, rfl, by decide +kernel, by decide +kernel⟩
theorem sc_is_sequence : FnScope ["x"] ["x"] (defScope s_is_sequence) := ⟨rfl, rfl, rfl, by decide +kernel, rfl, by decide +kernel, by decide +kernel⟩
theorem sc_is_row : FnScope ["x", "least", "most"] ["x", "least", "most"] (defScope s_is_row) := ⟨rfl, rfl, rfl, by decide +kernel, rfl, by decide +kernel, by decide +kernel⟩
theorem sc_is_integer : FnScope ["x"] ["x"] (defScope s_is_integer) := ⟨rfl, rfl, rfl, by decide +kernel, rfl, by decide +kernel, by decide +kernel⟩
theorem sc_is_within : FnScope ["x", "low", "high"] ["x", "low", "high"] (defScope s_is_within) := ⟨rfl, rfl, rfl, by decide +kernel, rfl, by decide +kernel, by decide +kernel⟩
theorem sc_check_periods : FnScope ["periods", "period"] ["periods"] (defScope s_check_periods) := ⟨rfl, rfl, rfl, by decide +kernel, rfl, by decide +kernel, by decide +kernel⟩
theorem sc_meet : FnScope ["period", "start", "other", "begin"] ["period", "start", "other", "begin"] (defScope s_meet) := ⟨rfl, rfl, rfl, by decide +kernel, rfl, by decide +kernel, by decide +kernel⟩
theorem sc_meets_one : FnScope ["periods", "begun", "start", "period", "k", "begin"] ["periods", "begun", "start"] (defScope s_meets_one) := ⟨rfl, rfl, rfl, by decide +kernel, rfl, by decide +kernel, by decide +kernel⟩
theorem sc_next_start : FnScope ["periods", "begun", "least", "start"] ["periods", "begun", "least"] (defScope s_next_start) := ⟨rfl, rfl, rfl, by decide +kernel, rfl, by decide +kernel, by decide +kernel⟩
theorem sc_starts : FnScope ["periods", "begun", "least", "start"] ["periods"] (defScope s_starts) := ⟨rfl, rfl, rfl, by decide +kernel, rfl, by decide +kernel, by decide +kernel⟩
theorem sc_law_listed : FnScope ["value", "one"] ["value"] (defScope s_law_listed) := ⟨rfl, rfl, rfl, by decide +kernel, rfl, by decide +kernel, by decide +kernel⟩
theorem sc_law_handed : FnScope ["row", "spot", "value"] ["row", "spot", "value"] (defScope s_law_handed) := ⟨rfl, rfl, rfl, by decide +kernel, rfl, by decide +kernel, by decide +kernel⟩
theorem sc_starts_prove : FnScope ["periods", "starts", "k", "start"] ["periods", "starts"] (defScope s_starts_prove) := ⟨rfl, rfl, rfl, by decide +kernel, rfl, by decide +kernel, by decide +kernel⟩
theorem sc_check_starts : FnScope ["periods", "starts", "period", "start"] ["periods", "starts"] (defScope s_check_starts) := ⟨rfl, rfl, rfl, by decide +kernel, rfl, by decide +kernel, by decide +kernel⟩
theorem sc_busy_days : FnScope ["periods", "starts", "whole", "period", "counts", "start", "day", "count"] ["periods", "starts"] (defScope s_busy_days) := ⟨rfl, rfl, rfl, by decide +kernel, rfl, by decide +kernel, by decide +kernel⟩
theorem sc_law : FnScope ["script", "row", "spot", "menu", "periods", "meant", "k", "some", "good", "days", "day", "meets", "told", "whole", "one", "bad", "j"] ["script"] (defScope s_law) := ⟨rfl, rfl, rfl, by decide +kernel, rfl, by decide +kernel, by decide +kernel⟩
structure Tx (K : PySem.W.Frag) (mg : Str → Option Value) where
  c : Cs
  f_law_numbers : Addr
  fd_law_numbers : FuncData
  d_law_numbers : GF K mg "_law_numbers" s_law_numbers f_law_numbers fd_law_numbers ["script"]
  f_law_draw : Addr
  fd_law_draw : FuncData
  d_law_draw : GF K mg "_law_draw" s_law_draw f_law_draw fd_law_draw ["row", "at", "limit"]
  f_law_take : Addr
  fd_law_take : FuncData
  d_law_take : GF K mg "_law_take" s_law_take f_law_take fd_law_take ["row", "spot", "limit"]
  f_law_pick : Addr
  fd_law_pick : FuncData
  d_law_pick : GF K mg "_law_pick" s_law_pick f_law_pick fd_law_pick ["row", "spot", "things"]
  f_law_gcd : Addr
  fd_law_gcd : FuncData
  d_law_gcd : GF K mg "_law_gcd" s_law_gcd f_law_gcd fd_law_gcd ["one", "other"]
  f_law_apart_days : Addr
  fd_law_apart_days : FuncData
  d_law_apart_days : GF K mg "_law_apart_days" s_law_apart_days f_law_apart_days fd_law_apart_days ["periods", "starts_at"]
  f_law_starts : Addr
  fd_law_starts : FuncData
  d_law_starts : GF K mg "_law_starts" s_law_starts f_law_starts fd_law_starts ["periods", "made"]
  f_law_so : Addr
  fd_law_so : FuncData
  d_law_so : GF K mg "_law_so" s_law_so f_law_so fd_law_so ["found", "meant"]
  f_is_sequence : Addr
  fd_is_sequence : FuncData
  d_is_sequence : GF K mg "is_sequence" s_is_sequence f_is_sequence fd_is_sequence ["x"]
  f_is_row : Addr
  fd_is_row : FuncData
  d_is_row : GF K mg "is_row" s_is_row f_is_row fd_is_row ["x", "least", "most"]
  f_is_integer : Addr
  fd_is_integer : FuncData
  d_is_integer : GF K mg "is_integer" s_is_integer f_is_integer fd_is_integer ["x"]
  f_is_within : Addr
  fd_is_within : FuncData
  d_is_within : GF K mg "is_within" s_is_within f_is_within fd_is_within ["x", "low", "high"]
  f_check_periods : Addr
  fd_check_periods : FuncData
  d_check_periods : GF K mg "check_periods" s_check_periods f_check_periods fd_check_periods ["periods"]
  f_meet : Addr
  fd_meet : FuncData
  d_meet : GF K mg "meet" s_meet f_meet fd_meet ["period", "start", "other", "begin"]
  f_meets_one : Addr
  fd_meets_one : FuncData
  d_meets_one : GF K mg "meets_one" s_meets_one f_meets_one fd_meets_one ["periods", "begun", "start"]
  f_next_start : Addr
  fd_next_start : FuncData
  d_next_start : GF K mg "next_start" s_next_start f_next_start fd_next_start ["periods", "begun", "least"]
  f_starts : Addr
  fd_starts : FuncData
  d_starts : GF K mg "starts" s_starts f_starts fd_starts ["periods"]
  f_law_listed : Addr
  fd_law_listed : FuncData
  d_law_listed : GF K mg "_law_listed" s_law_listed f_law_listed fd_law_listed ["value"]
  f_law_handed : Addr
  fd_law_handed : FuncData
  d_law_handed : GF K mg "_law_handed" s_law_handed f_law_handed fd_law_handed ["row", "spot", "value"]
  f_starts_prove : Addr
  fd_starts_prove : FuncData
  d_starts_prove : GF K mg "starts_prove" s_starts_prove f_starts_prove fd_starts_prove ["periods", "starts"]
  f_check_starts : Addr
  fd_check_starts : FuncData
  d_check_starts : GF K mg "check_starts" s_check_starts f_check_starts fd_check_starts ["periods", "starts"]
  f_busy_days : Addr
  fd_busy_days : FuncData
  d_busy_days : GF K mg "busy_days" s_busy_days f_busy_days fd_busy_days ["periods", "starts"]
  f_law : Addr
  fd_law : FuncData
  d_law : GF K mg "law" s_law f_law fd_law ["script"]
  f_BadValue_init : Addr
  fd_BadValue_init : FuncData
  e_BadValue : GE K mg "BadValue" "BadValue.__init__" s_BadValue_init f_BadValue_init fd_BadValue_init ["self", "at"] c.BadValue "at"
  f_law_told : Addr
  fd_law_told : FuncData
  d_law_told : GF K mg "_law_told" s_law_told f_law_told fd_law_told ["deed"]
  h_BadValue : mg "BadValue" = some (.ref c.BadValue)
  x_BadValue : XfC K c.BadValue
  ea_BadValue : ErrAt K c.MendError c.BadValue
  xn_BadValue_at : PySem.W.findIn K (.ref c.BadValue) "at" = some none
  h_BadText : mg "BadText" = some (.ref c.BadText)
  x_BadText : XfC K c.BadText
  ea_BadText : ErrAt K c.MendError c.BadText
  xn_BadText_at : PySem.W.findIn K (.ref c.BadText) "at" = some none
  h_Unknown : mg "Unknown" = some (.ref c.Unknown)
  x_Unknown : XfC K c.Unknown
  ea_Unknown : ErrAt K c.MendError c.Unknown
  xn_Unknown_name : PySem.W.findIn K (.ref c.Unknown) "name" = some none
  h_NoChance : mg "NoChance" = some (.ref c.NoChance)
  x_NoChance : XfC K c.NoChance
  ea_NoChance : ErrAt K c.MendError c.NoChance
  xn_NoChance_word : PySem.W.findIn K (.ref c.NoChance) "word" = some none
  h_Crowded : mg "Crowded" = some (.ref c.Crowded)
  x_Crowded : XfC K c.Crowded
  ea_Crowded : ErrAt K c.MendError c.Crowded
  xn_Crowded_first : PySem.W.findIn K (.ref c.Crowded) "first" = some none
  xn_Crowded_last : PySem.W.findIn K (.ref c.Crowded) "last" = some none
  h_NoDay : mg "NoDay" = some (.ref c.NoDay)
  x_NoDay : XfC K c.NoDay
  ea_NoDay : ErrAt K c.MendError c.NoDay
  xn_NoDay_name : PySem.W.findIn K (.ref c.NoDay) "name" = some none
  h_Missing : mg "Missing" = some (.ref c.Missing)
  x_Missing : XfC K c.Missing
  ea_Missing : ErrAt K c.MendError c.Missing
  xn_Missing_at : PySem.W.findIn K (.ref c.Missing) "at" = some none
  h_TakenName : mg "TakenName" = some (.ref c.TakenName)
  x_TakenName : XfC K c.TakenName
  ea_TakenName : ErrAt K c.MendError c.TakenName
  xn_TakenName_name : PySem.W.findIn K (.ref c.TakenName) "name" = some none
  h_Short : mg "Short" = some (.ref c.Short)
  x_Short : XfC K c.Short
  ea_Short : ErrAt K c.MendError c.Short
  xn_Short_rows : PySem.W.findIn K (.ref c.Short) "rows" = some none
  cc_law : Addr
  p_law : Addr
  ca_law : CodeAt K f_law cc_law
  nd_tabs : [p_law].Nodup
  m_gcd : mg "gcd" = some (.builtin "math.gcd")
  m_lcm : mg "lcm" = some (.builtin "math.lcm")
  n_range : mg "range" = none
  n_int : mg "int" = none
  n_len : mg "len" = none
  n_max : mg "max" = none
  n_isinstance : mg "isinstance" = none
  n_tuple : mg "tuple" = none
  n_bool : mg "bool" = none
  n_str : mg "str" = none
  n_list : mg "list" = none
  n_all : mg "all" = none
  n_enumerate : mg "enumerate" = none
  n_any : mg "any" = none
  n_zip : mg "zip" = none
  t_MOST_SERVICES : Tok
  c_MOST_SERVICES : mg "MOST_SERVICES" = some (.int 5 t_MOST_SERVICES)
  t_MOST_PERIOD : Tok
  c_MOST_PERIOD : mg "MOST_PERIOD" = some (.int 12 t_MOST_PERIOD)
end DL

set_option maxHeartbeats 4000000
namespace DL
open PySem L2
section
variable {P : Program} {w : World} {K : PySem.W.Frag} {mg : Str → Option Value} {base : Heap}
theorem hxl {X : Cx} {A : Around} {outer : List Env} {s : Shared} {H : Hp} {E : XK} {scope : Scope} {f c : Addr} : Passes (L2.CX (LamX.lamCx X A outer s H E scope f c).prog (LamX.lamCx X A outer s H E scope f c).w) (LamX.lamCx X A outer s H E scope f c) E := passes_call (takes_of rfl rfl rfl rfl) fun _ _ _ _ z => z
def tabs (T : Tx K mg) : Tabl := [((T.cc_law, T.p_law), ("law" : Str) ++ ".<locals>.")]
theorem nd_tb (T : Tx K mg) : ((tabs T).map fun x => x.1.2).Nodup := T.nd_tabs
theorem ok_BadValue_init (T : Tx K mg) : FnOk P w K mg base (L2.CX P w) (1) T.f_BadValue_init T.fd_BadValue_init ["self", "at"] (spInit K T.c.BadValue "at") :=
  init_ok (k := 0) T.e_BadValue.F sc_BadValue_init rfl (.inl rfl) (.inl rfl)
theorem as_told (T : Tx K mg) {cdg : Value} {A : Around} {u : List Env} {s : Shared} {H : Hp} : AsOk (toldCx P w K mg base "deed" "why" "_law_told" (defScope s_law_told) T.f_law_told cdg A u s H) "why" (trys (defBody s_law_told)) (toldL (hds T.c)) :=
    (.cons ⟨rfl, rfl, .inl T.h_BadValue⟩ (fun a oe cls d pn hz hf => pss_one (ps_ret (pe_tup (pa_cons pe_str (pa_cons (pe_xf T.x_BadValue T.xn_BadValue_at hz hf (pv 1)) pa_nil)))))
      (.cons ⟨rfl, rfl, .inl T.h_BadText⟩ (fun a oe cls d pn hz hf => pss_one (ps_ret (pe_tup (pa_cons pe_str (pa_cons (pe_xf T.x_BadText T.xn_BadText_at hz hf (pv 1)) pa_nil)))))
      (.cons ⟨rfl, rfl, .inl T.h_Unknown⟩ (fun a oe cls d pn hz hf => pss_one (ps_ret (pe_tup (pa_cons pe_str (pa_cons (pe_xf T.x_Unknown T.xn_Unknown_name hz hf (pv 1)) pa_nil)))))
      (.cons ⟨rfl, rfl, .inl T.h_NoChance⟩ (fun a oe cls d pn hz hf => pss_one (ps_ret (pe_tup (pa_cons pe_str (pa_cons (pe_xf T.x_NoChance T.xn_NoChance_word hz hf (pv 1)) pa_nil)))))
      (.cons ⟨rfl, rfl, .inl T.h_Crowded⟩ (fun a oe cls d pn hz hf => pss_one (ps_ret (pe_tup (pa_cons pe_str (pa_cons (pe_xf T.x_Crowded T.xn_Crowded_first hz hf (pv 1)) (pa_cons (pe_xf T.x_Crowded T.xn_Crowded_last hz hf (pv 1)) pa_nil))))))
      (.cons ⟨rfl, rfl, .inl T.h_NoDay⟩ (fun a oe cls d pn hz hf => pss_one (ps_ret (pe_tup (pa_cons pe_str (pa_cons (pe_xf T.x_NoDay T.xn_NoDay_name hz hf (pv 1)) pa_nil)))))
      (.cons ⟨rfl, rfl, .inl T.h_Missing⟩ (fun a oe cls d pn hz hf => pss_one (ps_ret (pe_tup (pa_cons pe_str (pa_cons (pe_xf T.x_Missing T.xn_Missing_at hz hf (pv 1)) pa_nil)))))
      (.cons ⟨rfl, rfl, .inl T.h_TakenName⟩ (fun a oe cls d pn hz hf => pss_one (ps_ret (pe_tup (pa_cons pe_str (pa_cons (pe_xf T.x_TakenName T.xn_TakenName_name hz hf (pv 1)) pa_nil)))))
      (.cons ⟨rfl, rfl, .inl T.h_Short⟩ (fun a oe cls d pn hz hf => pss_one (ps_ret (pe_tup (pa_cons pe_str (pa_cons (pe_xf T.x_Short T.xn_Short_rows hz hf (pv 1)) pa_nil)))))
      .nil)))))))))
theorem hds_ok (T : Tx K mg) : ∀ y ∈ hds T.c, ErrAt K T.c.MendError y.1 ∧ y.1 ≠ T.c.MendError ∧ y.2.2.length ≤ 1000 := fun y hy => by
  simp only [hds, List.mem_cons, List.not_mem_nil, or_false] at hy
  rcases hy with rfl | rfl | rfl | rfl | rfl | rfl | rfl | rfl | rfl
  · exact ⟨T.ea_BadValue, ne_BadValue_MendError T.c, by simp⟩
  · exact ⟨T.ea_BadText, ne_BadText_MendError T.c, by simp⟩
  · exact ⟨T.ea_Unknown, ne_Unknown_MendError T.c, by simp⟩
  · exact ⟨T.ea_NoChance, ne_NoChance_MendError T.c, by simp⟩
  · exact ⟨T.ea_Crowded, ne_Crowded_MendError T.c, by simp⟩
  · exact ⟨T.ea_NoDay, ne_NoDay_MendError T.c, by simp⟩
  · exact ⟨T.ea_Missing, ne_Missing_MendError T.c, by simp⟩
  · exact ⟨T.ea_TakenName, ne_TakenName_MendError T.c, by simp⟩
  · exact ⟨T.ea_Short, ne_Short_MendError T.c, by simp⟩
theorem ok_law_numbers (T : Tx K mg) (hB : ∀ p ∈ tabs T, LamX.TabB base mg p.1.1 p.1.2) : FnOk P w K mg base (L2.CX P w) (1) T.f_law_numbers T.fd_law_numbers ["script"] (spD K (tbOf (tabs T)) 1 [] (phi_law_numbers T.c)) := by
  refine fn_R (k := 0) T.d_law_numbers.F sc_law_numbers rfl rfl (by decide) (by decide) (by decide) fun cdv A outer s H E hr => ?_
  exact ⟨_, (pss_cons (ps_set (i := 1) sc_law_numbers.nd rfl (by first | exact Or.inl rfl | exact Or.inr rfl) (pe_lst pa_nil))
      (pss_cons (ps_for hpx rfl (pi_any (pe_slice sl_any (pv 0) po_none (po_some pe_int))) (pg_name (i := 2) sc_law_numbers.nd rfl (by first | exact Or.inl rfl | exact Or.inr rfl)) (pss_one (ps_if (pt_cmpR op_ge (pv 2) (pe_op op_pow pe_int pe_int) (nomark _)) (pss_cons (ps_set (i := 3) sc_law_numbers.nd rfl (by first | exact Or.inl rfl | exact Or.inr rfl) (pv 2))
      (pss_one (ps_for hpx rfl (pi_range1 rfl T.n_range (pa_cons pe_int pa_nil)) (pg_name (i := 4) sc_law_numbers.nd rfl (by first | exact Or.inl rfl | exact Or.inr rfl)) (pss_cons (ps_if (pt_cmpR op_eq (pv 3) pe_int (nomark _)) (pss_one ps_break) pss_nil)
      (pss_cons (ps_expr (pe_bm PySem.F.plainAttrs_list PySem.F.slot_list_append PySem.F.type_list_append mt_append (pv 1) (pa_cons (pe_op op_mod (pe_callTy cr_int rfl T.n_int b_int (pa_cons (pv 3) pa_nil)) pe_int) pa_nil)))
      (pss_one (ps_set (i := 3) sc_law_numbers.nd rfl (by first | exact Or.inl rfl | exact Or.inr rfl) (pe_op op_fdiv (pv 3) pe_int)))))))) (pss_one (ps_for hpx rfl (pi_range1 rfl T.n_range (pa_cons pe_int pa_nil)) (pg_name (i := 4) sc_law_numbers.nd rfl (by first | exact Or.inl rfl | exact Or.inr rfl)) (pss_cons (ps_set (i := 5) sc_law_numbers.nd rfl (by first | exact Or.inl rfl | exact Or.inr rfl) (pe_op op_mod (pe_callTy cr_int rfl T.n_int b_int (pa_cons (pe_op op_addU (pe_op op_addU (pe_op op_mul (pv 2) pe_int) (pe_op op_mul (pv 4) pe_int)) pe_int) pa_nil)) pe_int))
      (pss_one (ps_expr (pe_bm PySem.F.plainAttrs_list PySem.F.slot_list_append PySem.F.type_list_append mt_append (pv 1) (pa_cons (pe_op op_mod (pe_callTy cr_int rfl T.n_int b_int (pa_cons (pe_op op_addU (pe_op op_mul (pv 5) pe_int) (pv 4)) pa_nil)) pe_int) pa_nil))))))))))
      (pss_cons (ps_if (pt_cmpR op_eq (pe_callB cr_len rfl T.n_len b_len (pa_cons (pv 1) pa_nil)) pe_int (nomark _)) (pss_one (ps_expr (pe_bm PySem.F.plainAttrs_list PySem.F.slot_list_append PySem.F.type_list_append mt_append (pv 1) (pa_cons pe_int pa_nil)))) pss_nil)
      (pss_one (ps_ret (pv 1)))))), (rs_seq (rs_set (df_lst da_nil) (by decide))
      (rs_seq (rs_for (dw_any (DF.di (df_slU di_var do_none (do_some di_k)))) (dg_name (by decide)) (rs_if (dt_test (di_op os_ge.op di_var (di_op os_pow.op di_k di_k))) (rs_seq (rs_set (DI.df di_var) (by decide))
      (rs_for (dw_range1 (da_cons di_k da_nil)) (dg_name (by decide)) (rs_seq (rs_if (dt_test (di_op os_eq.op di_var di_k)) rs_break rs_next)
      (rs_seq (rs_app (DI.df (di_op os_mod.op (di_cb on_int (da_cons di_var da_nil)) di_k)))
      (rs_set (DI.df (di_op os_div.op di_var di_k)) (by decide)))))) (rs_for (dw_range1 (da_cons di_k da_nil)) (dg_name (by decide)) (rs_seq (rs_set (DI.df (di_op os_mod.op (di_cb on_int (da_cons (DF.di (df_op ox_add (DF.di (df_op ox_add (di_op os_mul.op di_var di_k) (di_op os_mul.op di_var di_k))) di_k)) da_nil)) di_k)) (by decide))
      (rs_app (DI.df (di_op os_mod.op (di_cb on_int (da_cons (DF.di (df_op ox_add (di_op os_mul.op di_var di_k) di_var)) da_nil)) di_k)))))))
      (rs_seq (rs_if (dt_test (di_op os_eq.op (SX.di (sx_lenP pl_var)) di_k)) (rs_app (DI.df di_k)) rs_next)
      (rs_ret (DI.df di_var)))))⟩
theorem ok_law_draw (T : Tx K mg) (hB : ∀ p ∈ tabs T, LamX.TabB base mg p.1.1 p.1.2) : FnOk P w K mg base (L2.CX P w) (1) T.f_law_draw T.fd_law_draw ["row", "at", "limit"] (spD K (tbOf (tabs T)) 3 [] (phi_law_draw T.c)) := by
  refine fn_R (k := 0) T.d_law_draw.F sc_law_draw rfl rfl (by decide) (by decide) (by decide) fun cdv A outer s H E hr => ?_
  exact ⟨_, (pss_cons (ps_if (pt_cmpR op_lt (pv 1) (pe_callB cr_len rfl T.n_len b_len (pa_cons (pv 0) pa_nil)) (nomark _)) (pss_one (ps_ret (pe_op op_mod (pe_callTy cr_int rfl T.n_int b_int (pa_cons (pe_ix ix_seq (pv 0) (pv 1) (fun _ _ => rfl)) pa_nil)) (pv 2)))) pss_nil)
      (pss_cons (ps_set (i := 3) sc_law_draw.nd rfl (by first | exact Or.inl rfl | exact Or.inr rfl) (pe_op op_mod (pe_callTy cr_int rfl T.n_int b_int (pa_cons (pe_op op_addU (pe_op op_addU (pe_op op_mul (pe_ix ix_seq (pv 0) (pe_op op_mod (pe_callTy cr_int rfl T.n_int b_int (pa_cons (pv 1) pa_nil)) (pe_callB cr_len rfl T.n_len b_len (pa_cons (pv 0) pa_nil))) (fun _ _ => rfl)) pe_int) (pe_op op_mul (pv 1) pe_int)) pe_int) pa_nil)) pe_int))
      (pss_one (ps_ret (pe_op op_mod (pe_callTy cr_int rfl T.n_int b_int (pa_cons (pe_op op_mod (pe_callTy cr_int rfl T.n_int b_int (pa_cons (pe_op op_addU (pe_op op_mul (pv 3) pe_int) (pv 1)) pa_nil)) pe_int) pa_nil)) (pv 2)))))), (rs_seq (rs_if (dt_test (di_op os_lt.op di_var (di_cb on_len (da_cons di_var da_nil)))) (rs_ret (DI.df (di_op os_mod.op (di_cb on_int (da_cons (di_op os_ix.op di_var di_var) da_nil)) di_var))) rs_next)
      (rs_seq (rs_set (DI.df (di_op os_mod.op (di_cb on_int (da_cons (DF.di (df_op ox_add (DF.di (df_op ox_add (di_op os_mul.op (di_op os_ix.op di_var (di_op os_mod.op (di_cb on_int (da_cons di_var da_nil)) (di_cb on_len (da_cons di_var da_nil)))) di_k) (di_op os_mul.op di_var di_k))) di_k)) da_nil)) di_k)) (by decide))
      (rs_ret (DI.df (di_op os_mod.op (di_cb on_int (da_cons (di_op os_mod.op (di_cb on_int (da_cons (DF.di (df_op ox_add (di_op os_mul.op di_var di_k) di_var)) da_nil)) di_k) da_nil)) di_var)))))⟩
theorem ok_law_take (T : Tx K mg) (hB : ∀ p ∈ tabs T, LamX.TabB base mg p.1.1 p.1.2) : FnOk P w K mg base (L2.CX P w) (2) T.f_law_take T.fd_law_take ["row", "spot", "limit"] (spD K (tbOf (tabs T)) 3 [1] (phi_law_take T.c)) := by
  refine fn_R (k := 1) T.d_law_take.F sc_law_take rfl rfl (by decide) (by decide) (by decide) fun cdv A outer s H E hr => ?_
  exact ⟨_, (pss_cons (ps_asg (pe_op op_addU (pe_ix ix_seq (pv 1) pe_int (fun _ _ => rfl)) pe_int) (pg_sub (pv 1) pe_int set_list))
      (pss_one (ps_ret (pe_call (ok_law_draw T hB) (hr.mono (by decide)) rfl T.d_law_draw.m T.d_law_draw.k T.d_law_draw.b .nil hxx (pa_cons (pv 0) (pa_cons (pe_op op_sub (pe_ix ix_seq (pv 1) pe_int (fun _ _ => rfl)) pe_int) (pa_cons (pv 2) pa_nil))))))), (rs_seq (rs_setIx (DF.di (df_op ox_add (SX.di (PL.sx (pl_ix pl_var sx_k))) di_k)) di_k)
      (rs_ret (df_call (daa_d di_var (daa_d (di_op os_sub.op (SX.di (PL.sx (pl_ix pl_var sx_k))) di_k) (daa_d di_var daa_nil))))))⟩
theorem ok_law_pick (T : Tx K mg) (hB : ∀ p ∈ tabs T, LamX.TabB base mg p.1.1 p.1.2) : FnOk P w K mg base (L2.CX P w) (3) T.f_law_pick T.fd_law_pick ["row", "spot", "things"] (spD K (tbOf (tabs T)) 3 [1] (phi_law_pick T.c)) := by
  refine fn_R (k := 2) T.d_law_pick.F sc_law_pick rfl rfl (by decide) (by decide) (by decide) fun cdv A outer s H E hr => ?_
  exact ⟨_, (pss_one (ps_ret (pe_ix ix_seq (pv 2) (pe_call (ok_law_take T hB) (hr.mono (by decide)) rfl T.d_law_take.m T.d_law_take.k T.d_law_take.b .nil hxx (pa_cons (pv 0) (pa_cons (pv 1) (pa_cons (pe_callB cr_len rfl T.n_len b_len (pa_cons (pv 2) pa_nil)) pa_nil)))) (fun _ _ => rfl)))), (rs_ret (DI.df (di_op os_ix.op di_var (DF.di (df_call (daa_d di_var (daa_al (daa_d (di_cb on_len (da_cons di_var da_nil)) daa_nil))))))))⟩
theorem ok_law_gcd (T : Tx K mg) (hB : ∀ p ∈ tabs T, LamX.TabB base mg p.1.1 p.1.2) : FnOk P w K mg base (L2.CX P w) (1) T.f_law_gcd T.fd_law_gcd ["one", "other"] (spD K (tbOf (tabs T)) 2 [] (phi_law_gcd T.c)) := by
  refine fn_R (k := 0) T.d_law_gcd.F sc_law_gcd rfl rfl (by decide) (by decide) (by decide) fun cdv A outer s H E hr => ?_
  exact ⟨_, (pss_cons (ps_set (i := 2) sc_law_gcd.nd rfl (by first | exact Or.inl rfl | exact Or.inr rfl) (pe_ifExp (pt_cmpR op_ge (pv 0) pe_int (nomark _)) (pv 0) (pe_un un_neg (pv 0))))
      (pss_cons (ps_set (i := 3) sc_law_gcd.nd rfl (by first | exact Or.inl rfl | exact Or.inr rfl) (pe_ifExp (pt_cmpR op_ge (pv 1) pe_int (nomark _)) (pv 1) (pe_un un_neg (pv 1))))
      (pss_cons (ps_for hpx rfl (pi_range1 rfl T.n_range (pa_cons pe_int pa_nil)) (pg_name (i := 4) sc_law_gcd.nd rfl (by first | exact Or.inl rfl | exact Or.inr rfl)) (pss_cons (ps_if (pt_cmpR op_eq (pv 3) pe_int (nomark _)) (pss_one ps_break) pss_nil)
      (pss_cons (ps_set (i := 5) sc_law_gcd.nd rfl (by first | exact Or.inl rfl | exact Or.inr rfl) (pe_op op_mod (pe_callTy cr_int rfl T.n_int b_int (pa_cons (pv 2) pa_nil)) (pv 3)))
      (pss_cons (ps_set (i := 2) sc_law_gcd.nd rfl (by first | exact Or.inl rfl | exact Or.inr rfl) (pv 3))
      (pss_one (ps_set (i := 3) sc_law_gcd.nd rfl (by first | exact Or.inl rfl | exact Or.inr rfl) (pv 5)))))))
      (pss_one (ps_ret (pv 2)))))), (rs_seq (rs_set (DI.df (di_if (dt_test (di_op os_ge.op di_var di_k)) di_var (di_un on_neg di_var))) (by decide))
      (rs_seq (rs_set (DI.df (di_if (dt_test (di_op os_ge.op di_var di_k)) di_var (di_un on_neg di_var))) (by decide))
      (rs_seq (rs_for (dw_range1 (da_cons di_k da_nil)) (dg_name (by decide)) (rs_seq (rs_if (dt_test (di_op os_eq.op di_var di_k)) rs_break rs_next)
      (rs_seq (rs_set (DI.df (di_op os_mod.op (di_cb on_int (da_cons di_var da_nil)) di_var)) (by decide))
      (rs_seq (rs_set (DI.df di_var) (by decide))
      (rs_set (DI.df di_var) (by decide))))))
      (rs_ret (DI.df di_var)))))⟩
theorem ok_law_apart_days (T : Tx K mg) (hB : ∀ p ∈ tabs T, LamX.TabB base mg p.1.1 p.1.2) : FnOk P w K mg base (L2.CX P w) (2) T.f_law_apart_days T.fd_law_apart_days ["periods", "starts_at"] (spD K (tbOf (tabs T)) 2 [] (phi_law_apart_days T.c)) := by
  refine fn_R (k := 1) T.d_law_apart_days.F sc_law_apart_days rfl rfl (by decide) (by decide) (by decide) fun cdv A outer s H E hr => ?_
  exact ⟨_, (pss_cons (ps_for hpx rfl (pi_range1 rfl T.n_range (pa_cons (pe_callB cr_len rfl T.n_len b_len (pa_cons (pv 0) pa_nil)) pa_nil)) (pg_name (i := 2) sc_law_apart_days.nd rfl (by first | exact Or.inl rfl | exact Or.inr rfl)) (pss_one (ps_for hpx rfl (pi_range1 rfl T.n_range (pa_cons (pv 2) pa_nil)) (pg_name (i := 3) sc_law_apart_days.nd rfl (by first | exact Or.inl rfl | exact Or.inr rfl)) (pss_cons (ps_set (i := 4) sc_law_apart_days.nd rfl (by first | exact Or.inl rfl | exact Or.inr rfl) (pe_call (ok_law_gcd T hB) (hr.mono (by decide)) rfl T.d_law_gcd.m T.d_law_gcd.k T.d_law_gcd.b .nil hxx (pa_cons (pe_ix ix_seq (pv 0) (pv 3) (fun _ _ => rfl)) (pa_cons (pe_ix ix_seq (pv 0) (pv 2) (fun _ _ => rfl)) pa_nil))))
      (pss_one (ps_if (pt_cmpR op_eq (pe_op op_mod (pe_callTy cr_int rfl T.n_int b_int (pa_cons (pe_callB (cr_max2 rfl) rfl T.n_max b_max (pa_cons (pe_op op_sub (pe_ix ix_seq (pv 1) (pv 3) (fun _ _ => rfl)) (pe_ix ix_seq (pv 1) (pv 2) (fun _ _ => rfl))) (pa_cons (pe_op op_sub (pe_ix ix_seq (pv 1) (pv 2) (fun _ _ => rfl)) (pe_ix ix_seq (pv 1) (pv 3) (fun _ _ => rfl))) pa_nil))) pa_nil)) (pv 4)) pe_int (nomark _)) (pss_one (ps_ret pe_bl)) pss_nil))))))
      (pss_one (ps_ret pe_bl))), (rs_seq (rs_for (dw_range1 (da_cons (di_cb on_len (da_cons di_var da_nil)) da_nil)) (dg_name (by decide)) (rs_for (dw_range1 (da_cons di_var da_nil)) (dg_name (by decide)) (rs_seq (rs_set (df_call (daa_d (di_op os_ix.op di_var di_var) (daa_d (di_op os_ix.op di_var di_var) daa_nil))) (by decide))
      (rs_if (dt_test (di_op os_eq.op (di_op os_mod.op (di_cb on_int (da_cons (di_cb on_max2 (da_cons (di_op os_sub.op (di_op os_ix.op di_var di_var) (di_op os_ix.op di_var di_var)) (da_cons (di_op os_sub.op (di_op os_ix.op di_var di_var) (di_op os_ix.op di_var di_var)) da_nil))) da_nil)) di_var) di_k)) (rs_ret (DI.df di_k)) rs_next))))
      (rs_ret (DI.df di_k)))⟩
theorem st_law_starts (T : Tx K mg) (hB : ∀ p ∈ tabs T, LamX.TabB base mg p.1.1 p.1.2) {k_law_starts : Nat} {Φ : Ph} (hb : 2 ≤ k_law_starts) (G_law_starts : FnOk P w K mg base (L2.CX P w) (k_law_starts) T.f_law_starts T.fd_law_starts ["periods", "made"] (spD K (tbOf (tabs T)) 2 [] Φ)) : FnOk P w K mg base (L2.CX P w) (k_law_starts + 1) T.f_law_starts T.fd_law_starts ["periods", "made"] (spD K (tbOf (tabs T)) 2 [] (phi 5 2 [] (run_law_starts T.c Φ))) := by
  refine fn_R (k := k_law_starts + 0) T.d_law_starts.F sc_law_starts rfl rfl (by decide) (by decide) (by decide) fun cdv A outer s H E hr => ?_
  exact ⟨_, (pss_cons (ps_if (pt_cmpR op_eq (pe_callB cr_len rfl T.n_len b_len (pa_cons (pv 1) pa_nil)) (pe_callB cr_len rfl T.n_len b_len (pa_cons (pv 0) pa_nil)) (nomark _)) (pss_one (ps_ret (pv 1))) pss_nil)
      (pss_cons (ps_for hpx rfl (pi_range1 rfl T.n_range (pa_cons (pe_ix ix_seq (pv 0) (pe_callB cr_len rfl T.n_len b_len (pa_cons (pv 1) pa_nil)) (fun _ _ => rfl)) pa_nil)) (pg_name (i := 2) sc_law_starts.nd rfl (by first | exact Or.inl rfl | exact Or.inr rfl)) (pss_cons (ps_set (i := 3) sc_law_starts.nd rfl (by first | exact Or.inl rfl | exact Or.inr rfl) (pe_op op_addU (pv 1) (pe_tup (pa_cons (pv 2) pa_nil))))
      (pss_one (ps_if (pt_val (pe_call (ok_law_apart_days T hB) (hr.mono (by omega)) rfl T.d_law_apart_days.m T.d_law_apart_days.k T.d_law_apart_days.b .nil hxx (pa_cons (pe_slice sl_any (pv 0) po_none (po_some (pe_callB cr_len rfl T.n_len b_len (pa_cons (pv 3) pa_nil)))) (pa_cons (pv 3) pa_nil)))) (pss_cons (ps_set (i := 4) sc_law_starts.nd rfl (by first | exact Or.inl rfl | exact Or.inr rfl) (pe_call G_law_starts (hr.mono (by omega)) rfl T.d_law_starts.m T.d_law_starts.k T.d_law_starts.b .nil hxx (pa_cons (pv 0) (pa_cons (pv 3) pa_nil))))
      (pss_one (ps_if (pt_cmpR op_notN' (pv 4) pe_non (nomark _)) (pss_one (ps_ret (pv 4))) pss_nil))) pss_nil))))
      (pss_one (ps_ret pe_non)))), (rs_seq (rs_if (dt_test (di_op os_eq.op (di_cb on_len (da_cons di_var da_nil)) (di_cb on_len (da_cons di_var da_nil)))) (rs_ret (DI.df di_var)) rs_next)
      (rs_seq (rs_for (dw_range1 (da_cons (di_op os_ix.op di_var (di_cb on_len (da_cons di_var da_nil))) da_nil)) (dg_name (by decide)) (rs_seq (rs_set (df_op ox_add di_var (di_tup (da_cons di_var da_nil))) (by decide))
      (rs_if (dt_B (DF.di (df_call (daa_d (DF.di (df_slU di_var do_none (do_some (di_cb on_len (da_cons di_var da_nil))))) (daa_d di_var daa_nil))))) (rs_seq (rs_set (df_call (daa_d di_var (daa_d di_var daa_nil))) (by decide))
      (rs_if (dt_test (di_op os_notN.op di_var di_k)) (rs_ret (DI.df di_var)) rs_next)) rs_next)))
      (rs_ret (DI.df di_k))))⟩
theorem ok_law_starts (T : Tx K mg) (hB : ∀ p ∈ tabs T, LamX.TabB base mg p.1.1 p.1.2) : ∀ n : Nat, FnOk P w K mg base (L2.CX P w) (n * 1 + 2) T.f_law_starts T.fd_law_starts ["periods", "made"] (spD K (tbOf (tabs T)) 2 [] (phi_law_starts T.c n))
  | 0 => fn_no rfl
  | n + 1 => by
    have z := st_law_starts T hB (k_law_starts := n * 1 + 2) (Nat.le_add_left _ _) (ok_law_starts T hB n)
    rw [show (n + 1) * 1 + 2 = n * 1 + 2 + 1 by omega]
    exact z
theorem st_law_so (T : Tx K mg) (hB : ∀ p ∈ tabs T, LamX.TabB base mg p.1.1 p.1.2) {k_law_so : Nat} {Φ : Ph} (hb : 0 ≤ k_law_so) (G_law_so : FnOk P w K mg base (L2.CX P w) (k_law_so) T.f_law_so T.fd_law_so ["found", "meant"] (spD K (tbOf (tabs T)) 2 [] Φ)) : FnOk P w K mg base (L2.CX P w) (k_law_so + 1) T.f_law_so T.fd_law_so ["found", "meant"] (spD K (tbOf (tabs T)) 2 [] (phi 3 2 [] (run_law_so T.c Φ))) := by
  refine fn_R (k := k_law_so + 0) T.d_law_so.F sc_law_so rfl rfl (by decide) (by decide) (by decide) fun cdv A outer s H E hr => ?_
  exact ⟨_, (pss_cons (ps_if (pt_cmpR op_isN' (pv 1) pe_non (nomark _)) (pss_one (ps_ret (pe_cmpR op_isN' (pv 0) pe_non (nomark _)))) pss_nil)
      (pss_cons (ps_if (pt_val (pe_callB call_isi rfl T.n_isinstance b_isinstance (pa_cons (pv 1) (pa_cons (pe_bltn (v := .ty "tuple") rfl T.n_tuple b_tuple rfl) pa_nil)))) (pss_cons (ps_if (PW.pt (pw_or (pt_not (pt_val (pe_callB call_isi rfl T.n_isinstance b_isinstance (pa_cons (pv 0) (pa_cons (pe_bltn (v := .ty "tuple") rfl T.n_tuple b_tuple rfl) pa_nil))))) (pw_or1 (pt_cmpR op_ne (pe_callB cr_len rfl T.n_len b_len (pa_cons (pv 0) pa_nil)) (pe_callB cr_len rfl T.n_len b_len (pa_cons (pv 1) pa_nil)) (nomark _))))) (pss_one (ps_ret pe_bl)) pss_nil)
      (pss_cons (ps_for hpx rfl (pi_range1 rfl T.n_range (pa_cons (pe_callB cr_len rfl T.n_len b_len (pa_cons (pv 1) pa_nil)) pa_nil)) (pg_name (i := 2) sc_law_so.nd rfl (by first | exact Or.inl rfl | exact Or.inr rfl)) (pss_one (ps_if (pt_not (pt_val (pe_call G_law_so (hr.mono (by omega)) rfl T.d_law_so.m T.d_law_so.k T.d_law_so.b .nil hxx (pa_cons (pe_ix ix_seq (pv 0) (pv 2) (fun _ _ => rfl)) (pa_cons (pe_ix ix_seq (pv 1) (pv 2) (fun _ _ => rfl)) pa_nil))))) (pss_one (ps_ret pe_bl)) pss_nil)))
      (pss_one (ps_ret pe_bl)))) pss_nil)
      (pss_cons (ps_if (PW.pt (pw_or (pt_val (pe_callB call_isi rfl T.n_isinstance b_isinstance (pa_cons (pv 1) (pa_cons (pe_bltn (v := .ty "bool") rfl T.n_bool b_bool rfl) pa_nil)))) (pw_or1 (pt_val (pe_callB call_isi rfl T.n_isinstance b_isinstance (pa_cons (pv 0) (pa_cons (pe_bltn (v := .ty "bool") rfl T.n_bool b_bool rfl) pa_nil))))))) (pss_one (ps_ret (pe_and (pe_callB call_isi rfl T.n_isinstance b_isinstance (pa_cons (pv 1) (pa_cons (pe_bltn (v := .ty "bool") rfl T.n_bool b_bool rfl) pa_nil))) (pe_and (pe_callB call_isi rfl T.n_isinstance b_isinstance (pa_cons (pv 0) (pa_cons (pe_bltn (v := .ty "bool") rfl T.n_bool b_bool rfl) pa_nil))) (pe_one (pe_cmpR op_eq (pv 0) (pv 1) (nomark _))))))) pss_nil)
      (pss_cons (ps_if (pt_val (pe_callB call_isi rfl T.n_isinstance b_isinstance (pa_cons (pv 1) (pa_cons (pe_bltn (v := .ty "int") rfl T.n_int b_int rfl) pa_nil)))) (pss_one (ps_ret (pe_and (pe_callB call_isi rfl T.n_isinstance b_isinstance (pa_cons (pv 0) (pa_cons (pe_bltn (v := .ty "int") rfl T.n_int b_int rfl) pa_nil))) (pe_one (pe_cmpR op_eq (pv 0) (pv 1) (nomark _)))))) pss_nil)
      (pss_one (ps_ret (pe_and (pe_callB call_isi rfl T.n_isinstance b_isinstance (pa_cons (pv 1) (pa_cons (pe_bltn (v := .ty "str") rfl T.n_str b_str rfl) pa_nil))) (pe_and (pe_callB call_isi rfl T.n_isinstance b_isinstance (pa_cons (pv 0) (pa_cons (pe_bltn (v := .ty "str") rfl T.n_str b_str rfl) pa_nil))) (pe_one (pe_cmpR op_eq (pv 0) (pv 1) (nomark _))))))))))), (rs_seq (rs_if (dt_test (di_op os_isN.op di_var di_k)) (rs_ret (DI.df (di_op os_isN.op di_var di_k))) rs_next)
      (rs_seq (rs_if (dt_B (di_isi isTup_T di_var)) (rs_seq (rs_if (dt_or (dt_not (dt_B (di_isi isTup_T di_var))) (dt_test (di_op os_ne.op (di_cb on_len (da_cons di_var da_nil)) (di_cb on_len (da_cons di_var da_nil))))) (rs_ret (DI.df di_k)) rs_next)
      (rs_seq (rs_for (dw_range1 (da_cons (di_cb on_len (da_cons di_var da_nil)) da_nil)) (dg_name (by decide)) (rs_if (dt_not (dt_B (DF.di (df_call (daa_d (di_op os_ix.op di_var di_var) (daa_d (di_op os_ix.op di_var di_var) daa_nil)))))) (rs_ret (DI.df di_k)) rs_next))
      (rs_ret (DI.df di_k)))) rs_next)
      (rs_seq (rs_if (dt_or (dt_B (di_isi isBool_T di_var)) (dt_B (di_isi isBool_T di_var))) (rs_ret (DI.df (di_andV (di_isi isBool_T di_var) (di_andV (di_isi isBool_T di_var) (di_op os_eq.op di_var di_var))))) rs_next)
      (rs_seq (rs_if (dt_B (di_isi isInt_T di_var)) (rs_ret (DI.df (di_andV (di_isi isInt_T di_var) (di_op os_eq.op di_var di_var)))) rs_next)
      (rs_ret (DI.df (di_andV (di_isi isStr_T di_var) (di_andV (di_isi isStr_T di_var) (di_op os_eq.op di_var di_var)))))))))⟩
theorem ok_law_so (T : Tx K mg) (hB : ∀ p ∈ tabs T, LamX.TabB base mg p.1.1 p.1.2) : ∀ n : Nat, FnOk P w K mg base (L2.CX P w) (n * 1 + 0) T.f_law_so T.fd_law_so ["found", "meant"] (spD K (tbOf (tabs T)) 2 [] (phi_law_so T.c n))
  | 0 => fn_no rfl
  | n + 1 => by
    have z := st_law_so T hB (k_law_so := n * 1 + 0) (Nat.le_add_left _ _) (ok_law_so T hB n)
    rw [show (n + 1) * 1 + 0 = n * 1 + 0 + 1 by omega]
    exact z
theorem ok_is_sequence (T : Tx K mg) (hB : ∀ p ∈ tabs T, LamX.TabB base mg p.1.1 p.1.2) : FnOk P w K mg base (L2.CX P w) (1) T.f_is_sequence T.fd_is_sequence ["x"] (spD K (tbOf (tabs T)) 1 [] (phi_is_sequence T.c)) := by
  refine fn_R (k := 0) T.d_is_sequence.F sc_is_sequence rfl rfl (by decide) (by decide) (by decide) fun cdv A outer s H E hr => ?_
  exact ⟨_, (pss_one (ps_ret (pe_callB call_isiT rfl T.n_isinstance b_isinstance (pa_cons (pv 0) (pa_cons (pe_tup (pa_cons (pe_bltn (v := .ty "list") rfl T.n_list b_list rfl) (pa_cons (pe_bltn (v := .ty "tuple") rfl T.n_tuple b_tuple rfl) pa_nil))) pa_nil))))), (rs_ret (DI.df (di_isSeq di_var)))⟩
theorem ok_is_row (T : Tx K mg) (hB : ∀ p ∈ tabs T, LamX.TabB base mg p.1.1 p.1.2) : FnOk P w K mg base (L2.CX P w) (2) T.f_is_row T.fd_is_row ["x", "least", "most"] (spD K (tbOf (tabs T)) 3 [] (phi_is_row T.c)) := by
  refine fn_R (k := 1) T.d_is_row.F sc_is_row rfl rfl (by decide) (by decide) (by decide) fun cdv A outer s H E hr => ?_
  exact ⟨_, (pss_one (ps_ret (pe_and (pe_call (ok_is_sequence T hB) (hr.mono (by decide)) rfl T.d_is_sequence.m T.d_is_sequence.k T.d_is_sequence.b .nil hxx (pa_cons (pv 0) pa_nil)) (pe_and (pe_cmpR op_le (pv 1) (pe_callB cr_len rfl T.n_len b_len (pa_cons (pv 0) pa_nil)) (nomark _)) (pe_one (pe_cmpR op_le (pe_callB cr_len rfl T.n_len b_len (pa_cons (pv 0) pa_nil)) (pv 2) (nomark _))))))), (rs_ret (DI.df (di_andV (DF.di (df_call (daa_d di_var daa_nil))) (di_andV (di_op os_le.op di_var (di_cb on_len (da_cons di_var da_nil))) (di_op os_le.op (di_cb on_len (da_cons di_var da_nil)) di_var)))))⟩
theorem ok_is_integer (T : Tx K mg) (hB : ∀ p ∈ tabs T, LamX.TabB base mg p.1.1 p.1.2) : FnOk P w K mg base (L2.CX P w) (1) T.f_is_integer T.fd_is_integer ["x"] (spD K (tbOf (tabs T)) 1 [] (phi_is_integer T.c)) := by
  refine fn_R (k := 0) T.d_is_integer.F sc_is_integer rfl rfl (by decide) (by decide) (by decide) fun cdv A outer s H E hr => ?_
  exact ⟨_, (pss_one (ps_ret (pe_and (pe_callB call_isi rfl T.n_isinstance b_isinstance (pa_cons (pv 0) (pa_cons (pe_bltn (v := .ty "int") rfl T.n_int b_int rfl) pa_nil))) (pe_one (pe_not (pe_callB call_isi rfl T.n_isinstance b_isinstance (pa_cons (pv 0) (pa_cons (pe_bltn (v := .ty "bool") rfl T.n_bool b_bool rfl) pa_nil)))))))), (rs_ret (DI.df (di_andV (di_isi isInt_T di_var) (di_notV (di_isi isBool_T di_var)))))⟩
theorem ok_is_within (T : Tx K mg) (hB : ∀ p ∈ tabs T, LamX.TabB base mg p.1.1 p.1.2) : FnOk P w K mg base (L2.CX P w) (2) T.f_is_within T.fd_is_within ["x", "low", "high"] (spD K (tbOf (tabs T)) 3 [] (phi_is_within T.c)) := by
  refine fn_R (k := 1) T.d_is_within.F sc_is_within rfl rfl (by decide) (by decide) (by decide) fun cdv A outer s H E hr => ?_
  exact ⟨_, (pss_one (ps_ret (pe_and (pe_call (ok_is_integer T hB) (hr.mono (by decide)) rfl T.d_is_integer.m T.d_is_integer.k T.d_is_integer.b .nil hxx (pa_cons (pv 0) pa_nil)) (pe_and (pe_cmpR op_le (pv 1) (pv 0) (nomark _)) (pe_one (pe_cmpR op_le (pv 0) (pv 2) (nomark _))))))), (rs_ret (DI.df (di_andV (DF.di (df_call (daa_d di_var daa_nil))) (di_andV (di_op os_le.op di_var di_var) (di_op os_le.op di_var di_var)))))⟩
theorem ok_check_periods (T : Tx K mg) (hB : ∀ p ∈ tabs T, LamX.TabB base mg p.1.1 p.1.2) : FnOk P w K mg base (L2.CX P w) (3) T.f_check_periods T.fd_check_periods ["periods"] (spD K (tbOf (tabs T)) 1 [] (phi_check_periods T.c)) := by
  refine fn_R (k := 2) T.d_check_periods.F sc_check_periods rfl rfl (by decide) (by decide) (by decide) fun cdv A outer s H E hr => ?_
  exact ⟨_, (pss_one (ps_if (PW.pt (pw_or (pt_not (pt_val (pe_call (ok_is_row T hB) (hr.mono (by decide)) rfl T.d_is_row.m T.d_is_row.k T.d_is_row.b .nil hxx (pa_cons (pv 0) (pa_cons pe_int (pa_cons (pe_glob (v := .int 5) rfl T.c_MOST_SERVICES ⟨_, rfl⟩) pa_nil)))))) (pw_or1 (pt_not (pt_val (pe_callB (cr_all rfl) rfl T.n_all b_all (pa_cons (pe_lc rfl sc_check_periods.nd (pi_any (pv 0)) (blkOk_by (N := ["periods", "period"]) (sc := defScope s_check_periods) (own := [("period", 1)]) (by decide +kernel)) (fun _ _ _ _ _ => (pg_name (i := 1) sc_check_periods.nd rfl (by first | exact Or.inl rfl | exact Or.inr rfl))) (fun _ _ _ _ _ => pts_nil) (fun _ _ _ _ _ => (pe_call (ok_is_within T hB) (hr.mono (by decide)) rfl T.d_is_within.m T.d_is_within.k T.d_is_within.b .nil passL (pa_cons (pv 1) (pa_cons pe_int (pa_cons (pe_glob (v := .int 12) rfl T.c_MOST_PERIOD ⟨_, rfl⟩) pa_nil)))))) pa_nil))))))) (pss_one (ps_raiseE T.e_BadValue (ok_BadValue_init T) (hr.mono (by decide)) passL rfl rfl (takes_of rfl rfl rfl rfl) (pa_cons pe_int pa_nil))) pss_nil)), (rs_if (dt_or (dt_not (dt_B (DF.di (df_call (daa_d di_var (daa_d di_k (daa_d di_k daa_nil))))))) (dt_not (dt_B (di_cb on_all (da_cons (DF.di (df_lc (vs := [1]) (dw_any di_var) (dg_name (by decide)) gYes (df_call (daa_d di_var (daa_d di_k (daa_d di_k daa_nil)))) (by decide))) da_nil))))) (rs_raise (da_cons di_k da_nil)) rs_next)⟩
theorem ok_meet (T : Tx K mg) (hB : ∀ p ∈ tabs T, LamX.TabB base mg p.1.1 p.1.2) : FnOk P w K mg base (L2.CX P w) (1) T.f_meet T.fd_meet ["period", "start", "other", "begin"] (spD K (tbOf (tabs T)) 4 [] (phi_meet T.c)) := by
  refine fn_R (k := 0) T.d_meet.F sc_meet rfl rfl (by decide) (by decide) (by decide) fun cdv A outer s H E hr => ?_
  exact ⟨_, (pss_one (ps_ret (pe_cmpR op_eq (pe_op op_mod (pe_op op_sub (pv 1) (pv 3)) (pe_callBfun cr_gcd rfl T.m_gcd (pa_cons (pv 0) (pa_cons (pv 2) pa_nil)))) pe_int (nomark _)))), (rs_ret (DI.df (di_op os_eq.op (di_op os_mod.op (di_op os_sub.op di_var di_var) (di_cb on_gcd (da_cons di_var (da_cons di_var da_nil)))) di_k)))⟩
theorem ok_meets_one (T : Tx K mg) (hB : ∀ p ∈ tabs T, LamX.TabB base mg p.1.1 p.1.2) : FnOk P w K mg base (L2.CX P w) (2) T.f_meets_one T.fd_meets_one ["periods", "begun", "start"] (spD K (tbOf (tabs T)) 3 [] (phi_meets_one T.c)) := by
  refine fn_R (k := 1) T.d_meets_one.F sc_meets_one rfl rfl (by decide) (by decide) (by decide) fun cdv A outer s H E hr => ?_
  exact ⟨_, (pss_cons (ps_set (i := 3) sc_meets_one.nd rfl (by first | exact Or.inl rfl | exact Or.inr rfl) (pe_ix ix_seq (pv 0) (pe_callB cr_len rfl T.n_len b_len (pa_cons (pv 1) pa_nil)) (fun _ _ => rfl)))
      (pss_one (ps_ret (pe_callB (cr_any rfl) rfl T.n_any b_any (pa_cons (pe_lc rfl sc_meets_one.nd (pi_enA rfl T.n_enumerate (pa_cons (pv 1) pa_nil)) (blkOk_by (N := ["periods", "begun", "start", "period", "k", "begin"]) (sc := defScope s_meets_one) (own := [("k", 4), ("begin", 5)]) (by decide +kernel)) (fun _ _ _ _ _ => (pg_tup rfl (pgs_cons (pg_name (i := 4) sc_meets_one.nd rfl (by first | exact Or.inl rfl | exact Or.inr rfl)) (pgs_cons (pg_name (i := 5) sc_meets_one.nd rfl (by first | exact Or.inl rfl | exact Or.inr rfl)) pgs_nil)))) (fun _ _ _ _ _ => pts_nil) (fun _ _ _ _ _ => (pe_call (ok_meet T hB) (hr.mono (by decide)) rfl T.d_meet.m T.d_meet.k T.d_meet.b .nil passL (pa_cons (pv 3) (pa_cons (pv 2) (pa_cons (pe_ix ix_seq (pv 0) (pv 4) (fun _ _ => rfl)) (pa_cons (pv 5) pa_nil))))))) pa_nil))))), (rs_seq (rs_set (DI.df (di_op os_ix.op di_var (di_cb on_len (da_cons di_var da_nil)))) (by decide))
      (rs_ret (DI.df (di_cb on_any (da_cons (DF.di (df_lc (vs := [4, 5]) (dw_enA (da_cons di_var da_nil)) (dg_tup (dg_cons (dg_name (by decide)) (dg_cons (dg_name (by decide)) dg_nil))) gYes (df_call (daa_d di_var (daa_d di_var (daa_d (di_op os_ix.op di_var di_var) (daa_d di_var daa_nil))))) (by decide))) da_nil)))))⟩
theorem ok_next_start (T : Tx K mg) (hB : ∀ p ∈ tabs T, LamX.TabB base mg p.1.1 p.1.2) : FnOk P w K mg base (L2.CX P w) (3) T.f_next_start T.fd_next_start ["periods", "begun", "least"] (spD K (tbOf (tabs T)) 3 [] (phi_next_start T.c)) := by
  refine fn_R (k := 2) T.d_next_start.F sc_next_start rfl rfl (by decide) (by decide) (by decide) fun cdv A outer s H E hr => ?_
  exact ⟨_, (pss_cons (ps_for hpx rfl (pi_range2 rfl T.n_range (pa_cons (pv 2) (pa_cons (pe_ix ix_seq (pv 0) (pe_callB cr_len rfl T.n_len b_len (pa_cons (pv 1) pa_nil)) (fun _ _ => rfl)) pa_nil))) (pg_name (i := 3) sc_next_start.nd rfl (by first | exact Or.inl rfl | exact Or.inr rfl)) (pss_one (ps_if (pt_not (pt_val (pe_call (ok_meets_one T hB) (hr.mono (by decide)) rfl T.d_meets_one.m T.d_meets_one.k T.d_meets_one.b .nil hxx (pa_cons (pv 0) (pa_cons (pv 1) (pa_cons (pv 3) pa_nil)))))) (pss_one (ps_ret (pv 3))) pss_nil)))
      (pss_one (ps_ret pe_non))), (rs_seq (rs_for (dw_range2 (da_cons di_var (da_cons (di_op os_ix.op di_var (di_cb on_len (da_cons di_var da_nil))) da_nil))) (dg_name (by decide)) (rs_if (dt_not (dt_B (DF.di (df_call (daa_d di_var (daa_d di_var (daa_d di_var daa_nil))))))) (rs_ret (DI.df di_var)) rs_next))
      (rs_ret (DI.df di_k)))⟩
theorem ok_starts (T : Tx K mg) (hB : ∀ p ∈ tabs T, LamX.TabB base mg p.1.1 p.1.2) : FnOk P w K mg base (L2.CX P w) (4) T.f_starts T.fd_starts ["periods"] (spD K (tbOf (tabs T)) 1 [] (phi_starts T.c)) := by
  refine fn_R (k := 3) T.d_starts.F sc_starts rfl rfl (by decide) (by decide) (by decide) fun cdv A outer s H E hr => ?_
  exact ⟨_, (pss_cons (ps_expr (pe_call (ok_check_periods T hB) (hr.mono (by decide)) rfl T.d_check_periods.m T.d_check_periods.k T.d_check_periods.b .nil hxx (pa_cons (pv 0) pa_nil)))
      (pss_cons (ps_set (i := 1) sc_starts.nd rfl (by first | exact Or.inl rfl | exact Or.inr rfl) (pe_lst pa_nil))
      (pss_cons (ps_set (i := 2) sc_starts.nd rfl (by first | exact Or.inl rfl | exact Or.inr rfl) pe_int)
      (pss_cons (ps_while hpx (pt_cmpR op_lt (pe_callB cr_len rfl T.n_len b_len (pa_cons (pv 1) pa_nil)) (pe_callB cr_len rfl T.n_len b_len (pa_cons (pv 0) pa_nil)) (nomark _)) (pss_cons (ps_set (i := 3) sc_starts.nd rfl (by first | exact Or.inl rfl | exact Or.inr rfl) (pe_call (ok_next_start T hB) (hr.mono (by decide)) rfl T.d_next_start.m T.d_next_start.k T.d_next_start.b .nil hxx (pa_cons (pv 0) (pa_cons (pv 1) (pa_cons (pv 2) pa_nil)))))
      (pss_one (ps_if (pt_cmpR op_notN' (pv 3) pe_non (nomark _)) (pss_cons (ps_expr (pe_bm PySem.F.plainAttrs_list PySem.F.slot_list_append PySem.F.type_list_append mt_append (pv 1) (pa_cons (pv 3) pa_nil)))
      (pss_one (ps_set (i := 2) sc_starts.nd rfl (by first | exact Or.inl rfl | exact Or.inr rfl) pe_int))) (pss_one (ps_if (pt_cmpR op_gt (pe_callB cr_len rfl T.n_len b_len (pa_cons (pv 1) pa_nil)) pe_int (nomark _)) (pss_one (ps_set (i := 2) sc_starts.nd rfl (by first | exact Or.inl rfl | exact Or.inr rfl) (pe_op op_addU (pe_bm0 PySem.F.plainAttrs_list PySem.F.slot_list_pop PySem.F.type_list_pop mt_pop (pv 1)) pe_int))) (pss_one (ps_ret pe_non))))))))
      (pss_one (ps_ret (pe_callTy cr_tupOf rfl T.n_tuple b_tuple (pa_cons (pv 1) pa_nil)))))))), (rs_seq (rs_drop (DF.di (df_call (daa_d di_var daa_nil))))
      (rs_seq (rs_set (df_lst da_nil) (by decide))
      (rs_seq (rs_set (DI.df di_k) (by decide))
      (rs_seq (rs_while (dt_test (di_op os_lt.op (SX.di (sx_lenP pl_var)) (di_cb on_len (da_cons di_var da_nil)))) (rs_seq (rs_set (df_callB (daa_d di_var (daa_al (daa_d di_var daa_nil)))) (by decide))
      (rs_if (dt_test (di_op os_notN.op di_var di_k)) (rs_seq (rs_app (DI.df di_var))
      (rs_set (DI.df di_k) (by decide))) (rs_if (dt_test (di_op os_gt.op (SX.di (sx_lenP pl_var)) di_k)) (rs_set (df_op ox_add (di_pop pl_var) di_k) (by decide)) (rs_ret (DI.df di_k))))))
      (rs_ret (DI.df (di_cb on_tupOf (da_cons di_var da_nil))))))))⟩
theorem st_law_listed (T : Tx K mg) (hB : ∀ p ∈ tabs T, LamX.TabB base mg p.1.1 p.1.2) {k_law_listed : Nat} {Φ : Ph} (hb : 0 ≤ k_law_listed) (G_law_listed : FnOk P w K mg base (L2.CX P w) (k_law_listed) T.f_law_listed T.fd_law_listed ["value"] (spD K (tbOf (tabs T)) 1 [] Φ)) : FnOk P w K mg base (L2.CX P w) (k_law_listed + 1) T.f_law_listed T.fd_law_listed ["value"] (spD K (tbOf (tabs T)) 1 [] (phi 2 1 [] (run_law_listed T.c Φ))) := by
  refine fn_R (k := k_law_listed + 0) T.d_law_listed.F sc_law_listed rfl rfl (by decide) (by decide) (by decide) fun cdv A outer s H E hr => ?_
  exact ⟨_, (pss_cons (ps_if (pt_val (pe_callB call_isi rfl T.n_isinstance b_isinstance (pa_cons (pv 0) (pa_cons (pe_bltn (v := .ty "tuple") rfl T.n_tuple b_tuple rfl) pa_nil)))) (pss_one (ps_ret (pe_lc rfl sc_law_listed.nd (pi_any (pv 0)) (blkOk_by (N := ["value", "one"]) (sc := defScope s_law_listed) (own := [("one", 1)]) (by decide +kernel)) (fun _ _ _ _ _ => (pg_name (i := 1) sc_law_listed.nd rfl (by first | exact Or.inl rfl | exact Or.inr rfl))) (fun _ _ _ _ _ => pts_nil) (fun _ _ _ _ _ => (pe_call G_law_listed (hr.mono (by omega)) rfl T.d_law_listed.m T.d_law_listed.k T.d_law_listed.b .nil passL (pa_cons (pv 1) pa_nil)))))) pss_nil)
      (pss_one (ps_ret (pv 0)))), (rs_seq (rs_if (dt_B (di_isi isTup_T di_var)) (rs_ret (df_lc (vs := [1]) (dw_any di_var) (dg_name (by decide)) gYes (df_call (daa_d di_var daa_nil)) (by decide))) rs_next)
      (rs_ret (DI.df di_var)))⟩
theorem ok_law_listed (T : Tx K mg) (hB : ∀ p ∈ tabs T, LamX.TabB base mg p.1.1 p.1.2) : ∀ n : Nat, FnOk P w K mg base (L2.CX P w) (n * 1 + 0) T.f_law_listed T.fd_law_listed ["value"] (spD K (tbOf (tabs T)) 1 [] (phi_law_listed T.c n))
  | 0 => fn_no rfl
  | n + 1 => by
    have z := st_law_listed T hB (k_law_listed := n * 1 + 0) (Nat.le_add_left _ _) (ok_law_listed T hB n)
    rw [show (n + 1) * 1 + 0 = n * 1 + 0 + 1 by omega]
    exact z
theorem ok_law_handed (T : Tx K mg) (hB : ∀ p ∈ tabs T, LamX.TabB base mg p.1.1 p.1.2) : FnOk P w K mg base (L2.CX P w) (4) T.f_law_handed T.fd_law_handed ["row", "spot", "value"] (spD K (tbOf (tabs T)) 3 [1] (phi_law_handed T.c)) := by
  refine fn_R (k := 3) T.d_law_handed.F sc_law_handed rfl rfl (by decide) (by decide) (by decide) fun cdv A outer s H E hr => ?_
  exact ⟨_, (pss_one (ps_ret (pe_ifExp (pt_cmpR op_eq (pe_call (ok_law_take T hB) (hr.mono (by decide)) rfl T.d_law_take.m T.d_law_take.k T.d_law_take.b .nil hxx (pa_cons (pv 0) (pa_cons (pv 1) (pa_cons pe_int pa_nil)))) pe_int (nomark _)) (pe_call (ok_law_listed T hB 3) (hr.mono (by decide)) rfl T.d_law_listed.m T.d_law_listed.k T.d_law_listed.b .nil hxx (pa_cons (pv 2) pa_nil)) (pv 2)))), (rs_ret (DI.df (di_if (dt_test (di_op os_eq.op (DF.di (df_call (daa_d di_var (daa_al (daa_d di_k daa_nil))))) di_k)) (DF.di (df_call (daa_d di_var daa_nil))) di_var)))⟩
theorem ok_starts_prove (T : Tx K mg) (hB : ∀ p ∈ tabs T, LamX.TabB base mg p.1.1 p.1.2) : FnOk P w K mg base (L2.CX P w) (4) T.f_starts_prove T.fd_starts_prove ["periods", "starts"] (spD K (tbOf (tabs T)) 2 [] (phi_starts_prove T.c)) := by
  refine fn_R (k := 3) T.d_starts_prove.F sc_starts_prove rfl rfl (by decide) (by decide) (by decide) fun cdv A outer s H E hr => ?_
  exact ⟨_, (pss_cons (ps_expr (pe_call (ok_check_periods T hB) (hr.mono (by decide)) rfl T.d_check_periods.m T.d_check_periods.k T.d_check_periods.b .nil hxx (pa_cons (pv 0) pa_nil)))
      (pss_cons (ps_if (PW.pt (pw_or (pt_not (pt_val (pe_call (ok_is_sequence T hB) (hr.mono (by decide)) rfl T.d_is_sequence.m T.d_is_sequence.k T.d_is_sequence.b .nil hxx (pa_cons (pv 1) pa_nil)))) (pw_or1 (pt_not (pt_val (pe_callB (cr_all rfl) rfl T.n_all b_all (pa_cons (pe_lc rfl sc_starts_prove.nd (pi_any (pv 1)) (blkOk_by (N := ["periods", "starts", "k", "start"]) (sc := defScope s_starts_prove) (own := [("start", 3)]) (by decide +kernel)) (fun _ _ _ _ _ => (pg_name (i := 3) sc_starts_prove.nd rfl (by first | exact Or.inl rfl | exact Or.inr rfl))) (fun _ _ _ _ _ => pts_nil) (fun _ _ _ _ _ => (pe_call (ok_is_within T hB) (hr.mono (by decide)) rfl T.d_is_within.m T.d_is_within.k T.d_is_within.b .nil passL (pa_cons (pv 3) (pa_cons pe_int (pa_cons (pe_op op_sub (pe_glob (v := .int 12) rfl T.c_MOST_PERIOD ⟨_, rfl⟩) pe_int) pa_nil)))))) pa_nil))))))) (pss_one (ps_raiseE T.e_BadValue (ok_BadValue_init T) (hr.mono (by decide)) passL rfl rfl (takes_of rfl rfl rfl rfl) (pa_cons pe_int pa_nil))) pss_nil)
      (pss_cons (ps_if (pt_cmpR op_ne (pe_callB cr_len rfl T.n_len b_len (pa_cons (pv 1) pa_nil)) (pe_callB cr_len rfl T.n_len b_len (pa_cons (pv 0) pa_nil)) (nomark _)) (pss_one (ps_raiseE T.e_BadValue (ok_BadValue_init T) (hr.mono (by decide)) passL rfl rfl (takes_of rfl rfl rfl rfl) (pa_cons pe_int pa_nil))) pss_nil)
      (pss_cons (ps_for hpx rfl (pi_enA rfl T.n_enumerate (pa_cons (pv 1) pa_nil)) (pg_tup rfl (pgs_cons (pg_name (i := 2) sc_starts_prove.nd rfl (by first | exact Or.inl rfl | exact Or.inr rfl)) (pgs_cons (pg_name (i := 3) sc_starts_prove.nd rfl (by first | exact Or.inl rfl | exact Or.inr rfl)) pgs_nil))) (pss_one (ps_if (PW.pt (pw_or (pt_cmpR op_ge (pv 3) (pe_ix ix_seq (pv 0) (pv 2) (fun _ _ => rfl)) (nomark _)) (pw_or1 (pt_val (pe_call (ok_meets_one T hB) (hr.mono (by decide)) rfl T.d_meets_one.m T.d_meets_one.k T.d_meets_one.b .nil hxx (pa_cons (pv 0) (pa_cons (pe_slice sl_any (pv 1) po_none (po_some (pv 2))) (pa_cons (pv 3) pa_nil)))))))) (pss_one (ps_ret pe_bl)) pss_nil)))
      (pss_one (ps_ret pe_bl)))))), (rs_seq (rs_drop (DF.di (df_call (daa_d di_var daa_nil))))
      (rs_seq (rs_if (dt_or (dt_not (dt_B (DF.di (df_call (daa_d di_var daa_nil))))) (dt_not (dt_B (di_cb on_all (da_cons (DF.di (df_lc (vs := [3]) (dw_any di_var) (dg_name (by decide)) gYes (df_call (daa_d di_var (daa_d di_k (daa_d (di_op os_sub.op di_k di_k) daa_nil)))) (by decide))) da_nil))))) (rs_raise (da_cons di_k da_nil)) rs_next)
      (rs_seq (rs_if (dt_test (di_op os_ne.op (di_cb on_len (da_cons di_var da_nil)) (di_cb on_len (da_cons di_var da_nil)))) (rs_raise (da_cons di_k da_nil)) rs_next)
      (rs_seq (rs_for (dw_enA (da_cons di_var da_nil)) (dg_tup (dg_cons (dg_name (by decide)) (dg_cons (dg_name (by decide)) dg_nil))) (rs_if (dt_or (dt_test (di_op os_ge.op di_var (di_op os_ix.op di_var di_var))) (dt_B (DF.di (df_call (daa_d di_var (daa_d (DF.di (df_slU di_var do_none (do_some di_var))) (daa_d di_var daa_nil))))))) (rs_ret (DI.df di_k)) rs_next))
      (rs_ret (DI.df di_k))))))⟩
theorem ok_check_starts (T : Tx K mg) (hB : ∀ p ∈ tabs T, LamX.TabB base mg p.1.1 p.1.2) : FnOk P w K mg base (L2.CX P w) (4) T.f_check_starts T.fd_check_starts ["periods", "starts"] (spD K (tbOf (tabs T)) 2 [] (phi_check_starts T.c)) := by
  refine fn_R (k := 3) T.d_check_starts.F sc_check_starts rfl rfl (by decide) (by decide) (by decide) fun cdv A outer s H E hr => ?_
  exact ⟨_, (pss_cons (ps_expr (pe_call (ok_check_periods T hB) (hr.mono (by decide)) rfl T.d_check_periods.m T.d_check_periods.k T.d_check_periods.b .nil hxx (pa_cons (pv 0) pa_nil)))
      (pss_cons (ps_if (PW.pt (pw_or (pt_not (pt_val (pe_call (ok_is_sequence T hB) (hr.mono (by decide)) rfl T.d_is_sequence.m T.d_is_sequence.k T.d_is_sequence.b .nil hxx (pa_cons (pv 1) pa_nil)))) (pw_or1 (pt_not (pt_val (pe_callB (cr_all rfl) rfl T.n_all b_all (pa_cons (pe_lc rfl sc_check_starts.nd (pi_any (pv 1)) (blkOk_by (N := ["periods", "starts", "period", "start"]) (sc := defScope s_check_starts) (own := [("start", 3)]) (by decide +kernel)) (fun _ _ _ _ _ => (pg_name (i := 3) sc_check_starts.nd rfl (by first | exact Or.inl rfl | exact Or.inr rfl))) (fun _ _ _ _ _ => pts_nil) (fun _ _ _ _ _ => (pe_and (pe_call (ok_is_integer T hB) (hr.mono (by decide)) rfl T.d_is_integer.m T.d_is_integer.k T.d_is_integer.b .nil passL (pa_cons (pv 3) pa_nil)) (pe_one (pe_cmpR op_ge (pv 3) pe_int (nomark _)))))) pa_nil))))))) (pss_one (ps_raiseE T.e_BadValue (ok_BadValue_init T) (hr.mono (by decide)) passL rfl rfl (takes_of rfl rfl rfl rfl) (pa_cons pe_int pa_nil))) pss_nil)
      (pss_cons (ps_if (pt_cmpR op_ne (pe_callB cr_len rfl T.n_len b_len (pa_cons (pv 1) pa_nil)) (pe_callB cr_len rfl T.n_len b_len (pa_cons (pv 0) pa_nil)) (nomark _)) (pss_one (ps_raiseE T.e_BadValue (ok_BadValue_init T) (hr.mono (by decide)) passL rfl rfl (takes_of rfl rfl rfl rfl) (pa_cons pe_int pa_nil))) pss_nil)
      (pss_one (ps_for hpx rfl (RZ.pi_zipA rfl T.n_zip (pa_cons (pv 0) (pa_cons (pv 1) pa_nil))) (pg_tup rfl (pgs_cons (pg_name (i := 2) sc_check_starts.nd rfl (by first | exact Or.inl rfl | exact Or.inr rfl)) (pgs_cons (pg_name (i := 3) sc_check_starts.nd rfl (by first | exact Or.inl rfl | exact Or.inr rfl)) pgs_nil))) (pss_one (ps_if (pt_cmpR op_ge (pv 3) (pv 2) (nomark _)) (pss_one (ps_raiseE T.e_BadValue (ok_BadValue_init T) (hr.mono (by decide)) passL rfl rfl (takes_of rfl rfl rfl rfl) (pa_cons pe_int pa_nil))) pss_nil))))))), (rs_seq (rs_drop (DF.di (df_call (daa_d di_var daa_nil))))
      (rs_seq (rs_if (dt_or (dt_not (dt_B (DF.di (df_call (daa_d di_var daa_nil))))) (dt_not (dt_B (di_cb on_all (da_cons (DF.di (df_lc (vs := [3]) (dw_any di_var) (dg_name (by decide)) gYes (DI.df (di_andV (DF.di (df_call (daa_d di_var daa_nil))) (di_op os_ge.op di_var di_k))) (by decide))) da_nil))))) (rs_raise (da_cons di_k da_nil)) rs_next)
      (rs_seq (rs_if (dt_test (di_op os_ne.op (di_cb on_len (da_cons di_var da_nil)) (di_cb on_len (da_cons di_var da_nil)))) (rs_raise (da_cons di_k da_nil)) rs_next)
      (rs_for (dw_zip (da_cons di_var (da_cons di_var da_nil))) (dg_tup (dg_cons (dg_name (by decide)) (dg_cons (dg_name (by decide)) dg_nil))) (rs_if (dt_test (di_op os_ge.op di_var di_var)) (rs_raise (da_cons di_k da_nil)) rs_next)))))⟩
theorem ok_busy_days (T : Tx K mg) (hB : ∀ p ∈ tabs T, LamX.TabB base mg p.1.1 p.1.2) : FnOk P w K mg base (L2.CX P w) (5) T.f_busy_days T.fd_busy_days ["periods", "starts"] (spD K (tbOf (tabs T)) 2 [] (phi_busy_days T.c)) := by
  refine fn_R (k := 4) T.d_busy_days.F sc_busy_days rfl rfl (by decide) (by decide) (by decide) fun cdv A outer s H E hr => ?_
  exact ⟨_, (pss_cons (ps_expr (pe_call (ok_check_starts T hB) (hr.mono (by decide)) rfl T.d_check_starts.m T.d_check_starts.k T.d_check_starts.b .nil hxx (pa_cons (pv 0) (pa_cons (pv 1) pa_nil))))
      (pss_cons (ps_set (i := 2) sc_busy_days.nd rfl (by first | exact Or.inl rfl | exact Or.inr rfl) pe_int)
      (pss_cons (ps_for hpx rfl (pi_any (pv 0)) (pg_name (i := 3) sc_busy_days.nd rfl (by first | exact Or.inl rfl | exact Or.inr rfl)) (pss_one (ps_set (i := 2) sc_busy_days.nd rfl (by first | exact Or.inl rfl | exact Or.inr rfl) (pe_callBfun cr_lcm rfl T.m_lcm (pa_cons (pv 2) (pa_cons (pv 3) pa_nil))))))
      (pss_cons (ps_set (i := 4) sc_busy_days.nd rfl (by first | exact Or.inl rfl | exact Or.inr rfl) (pe_op op_rep (pe_lst (pa_cons pe_int pa_nil)) (pv 2)))
      (pss_cons (ps_for hpx rfl (RZ.pi_zipA rfl T.n_zip (pa_cons (pv 0) (pa_cons (pv 1) pa_nil))) (pg_tup rfl (pgs_cons (pg_name (i := 3) sc_busy_days.nd rfl (by first | exact Or.inl rfl | exact Or.inr rfl)) (pgs_cons (pg_name (i := 5) sc_busy_days.nd rfl (by first | exact Or.inl rfl | exact Or.inr rfl)) pgs_nil))) (pss_one (ps_for hpx rfl (pi_range3 rfl T.n_range (pa_cons (pv 5) (pa_cons (pv 2) (pa_cons (pv 3) pa_nil)))) (pg_name (i := 6) sc_busy_days.nd rfl (by first | exact Or.inl rfl | exact Or.inr rfl)) (pss_one (ps_augS (pv 4) (pv 6) pget_list pe_int iop_add set_list)))))
      (pss_one (ps_ret (pe_tup (pa_cons (pv 2) (pa_cons (pe_callTy cr_tupOf rfl T.n_tuple b_tuple (pa_cons (pe_lc rfl sc_busy_days.nd (pi_enA rfl T.n_enumerate (pa_cons (pv 4) pa_nil)) (blkOk_by (N := ["periods", "starts", "whole", "period", "counts", "start", "day", "count"]) (sc := defScope s_busy_days) (own := [("day", 6), ("count", 7)]) (by decide +kernel)) (fun _ _ _ _ _ => (pg_tup rfl (pgs_cons (pg_name (i := 6) sc_busy_days.nd rfl (by first | exact Or.inl rfl | exact Or.inr rfl)) (pgs_cons (pg_name (i := 7) sc_busy_days.nd rfl (by first | exact Or.inl rfl | exact Or.inr rfl)) pgs_nil)))) (fun _ _ _ _ _ => (pts_one (pt_cmpR op_gt (pv 7) pe_int (nomark _)))) (fun _ _ _ _ _ => (pe_tup (pa_cons (pv 6) (pa_cons (pv 7) pa_nil))))) pa_nil)) pa_nil)))))))))), (rs_seq (rs_drop (DF.di (df_call (daa_d di_var (daa_d di_var daa_nil)))))
      (rs_seq (rs_set (DI.df di_k) (by decide))
      (rs_seq (rs_for (dw_any di_var) (dg_name (by decide)) (rs_set (DI.df (di_cb on_lcm (da_cons di_var (da_cons di_var da_nil)))) (by decide)))
      (rs_seq (rs_set (df_op ox_repL (DF.di (df_lst (da_cons di_k da_nil))) di_var) (by decide))
      (rs_seq (rs_for (dw_zip (da_cons di_var (da_cons di_var da_nil))) (dg_tup (dg_cons (dg_name (by decide)) (dg_cons (dg_name (by decide)) dg_nil))) (rs_for (dw_range3 (da_cons di_var (da_cons di_var (da_cons di_var da_nil)))) (dg_name (by decide)) (rs_augIx os_add pl_var (PL.sx pl_var) sx_k)))
      (rs_ret (DI.df (di_tup (da_cons di_var (da_cons (di_cb on_tupOf (da_cons (DF.di (df_lc (vs := [6, 7]) (dw_enA (da_cons di_var da_nil)) (dg_tup (dg_cons (dg_name (by decide)) (dg_cons (dg_name (by decide)) dg_nil))) (dt_test (di_op os_gt.op di_var di_k)) (DI.df (di_tup (da_cons di_var (da_cons di_var da_nil)))) (by decide))) da_nil)) da_nil))))))))))⟩
theorem ok_law (T : Tx K mg) (hB : ∀ p ∈ tabs T, LamX.TabB base mg p.1.1 p.1.2) : FnOk P w K mg base (L2.CX P w) (10) T.f_law T.fd_law ["script"] (spD K (tbOf (tabs T)) 1 [] (phi_law T.c)) := by
  refine fn_RC (k := 9) T.d_law.F T.ca_law sc_law rfl rfl (by decide) (by decide) (by decide) fun A outer s H E hr => ?_
  exact ⟨_, (pss_cons (ps_set (i := 1) sc_law.nd rfl (by first | exact Or.inl rfl | exact Or.inr rfl) (pe_call (ok_law_numbers T hB) (hr.mono (by decide)) rfl T.d_law_numbers.m T.d_law_numbers.k T.d_law_numbers.b .nil hxx (pa_cons (pv 0) pa_nil)))
      (pss_cons (ps_set (i := 2) sc_law.nd rfl (by first | exact Or.inl rfl | exact Or.inr rfl) (pe_lst (pa_cons pe_int pa_nil)))
      (pss_cons (ps_set (i := 3) sc_law.nd rfl (by first | exact Or.inl rfl | exact Or.inr rfl) (pe_call (ok_law_pick T hB) (hr.mono (by decide)) rfl T.d_law_pick.m T.d_law_pick.k T.d_law_pick.b .nil hxx (pa_cons (pv 1) (pa_cons (pv 2) (pa_cons (pe_lst (pa_cons (pe_lst (pa_cons pe_int (pa_cons pe_int (pa_cons pe_int (pa_cons pe_int pa_nil))))) (pa_cons (pe_lst (pa_cons pe_int (pa_cons pe_int (pa_cons pe_int (pa_cons pe_int pa_nil))))) (pa_cons (pe_lst (pa_cons pe_int (pa_cons pe_int (pa_cons pe_int (pa_cons pe_int (pa_cons pe_int pa_nil)))))) (pa_cons (pe_lst (pa_cons pe_int (pa_cons pe_int (pa_cons pe_int (pa_cons pe_int (pa_cons pe_int (pa_cons pe_int pa_nil))))))) pa_nil))))) pa_nil)))))
      (pss_cons (ps_set (i := 4) sc_law.nd rfl (by first | exact Or.inl rfl | exact Or.inr rfl) (pe_callTy cr_tupOf rfl T.n_tuple b_tuple (pa_cons (pe_lc rfl sc_law.nd (pi_range1 rfl T.n_range (pa_cons (pe_call (ok_law_take T hB) (hr.mono (by decide)) rfl T.d_law_take.m T.d_law_take.k T.d_law_take.b .nil hxx (pa_cons (pv 1) (pa_cons (pv 2) (pa_cons pe_int pa_nil)))) pa_nil)) (blkOk_by (N := ["script", "row", "spot", "menu", "periods", "meant", "k", "some", "good", "days", "day", "meets", "told", "whole", "one", "bad", "j"]) (sc := defScope s_law) (own := [("k", 6)]) (by decide +kernel)) (fun _ _ _ _ _ => (pg_name (i := 6) sc_law.nd rfl (by first | exact Or.inl rfl | exact Or.inr rfl))) (fun _ _ _ _ _ => pts_nil) (fun _ _ _ _ _ => (pe_call (ok_law_pick T hB) (hr.mono (by decide)) rfl T.d_law_pick.m T.d_law_pick.k T.d_law_pick.b .nil passL (pa_cons (pv 1) (pa_cons (pv 2) (pa_cons (pv 3) pa_nil)))))) pa_nil)))
      (pss_cons (ps_set (i := 5) sc_law.nd rfl (by first | exact Or.inl rfl | exact Or.inr rfl) (pe_call (ok_law_starts T hB 7) (hr.mono (by decide)) rfl T.d_law_starts.m T.d_law_starts.k T.d_law_starts.b .nil hxx (pa_cons (pv 4) (pa_cons (pe_tup pa_nil) pa_nil))))
      (pss_cons (ps_if (pt_not (pt_val (pe_call (ok_law_so T hB 4) (hr.mono (by decide)) rfl T.d_law_so.m T.d_law_so.k T.d_law_so.b .nil hxx (pa_cons (pe_call (ok_starts T hB) (hr.mono (by decide)) rfl T.d_starts.m T.d_starts.k T.d_starts.b .nil hxx (pa_cons (pe_call (ok_law_handed T hB) (hr.mono (by decide)) rfl T.d_law_handed.m T.d_law_handed.k T.d_law_handed.b .nil hxx (pa_cons (pv 1) (pa_cons (pv 2) (pa_cons (pv 4) pa_nil)))) pa_nil)) (pa_cons (pv 5) pa_nil))))) (pss_one (ps_ret pe_bl)) pss_nil)
      (pss_cons (ps_for hpx rfl (pi_range1 rfl T.n_range (pa_cons pe_int pa_nil)) (pg_name (i := 6) sc_law.nd rfl (by first | exact Or.inl rfl | exact Or.inr rfl)) (pss_cons (ps_set (i := 7) sc_law.nd rfl (by first | exact Or.inl rfl | exact Or.inr rfl) (pe_lc rfl sc_law.nd (pi_any (pv 4)) (blkOk_by (N := ["script", "row", "spot", "menu", "periods", "meant", "k", "some", "good", "days", "day", "meets", "told", "whole", "one", "bad", "j"]) (sc := defScope s_law) (own := [("one", 14)]) (by decide +kernel)) (fun _ _ _ _ _ => (pg_name (i := 14) sc_law.nd rfl (by first | exact Or.inl rfl | exact Or.inr rfl))) (fun _ _ _ _ _ => pts_nil) (fun _ _ _ _ _ => (pe_call (ok_law_take T hB) (hr.mono (by decide)) rfl T.d_law_take.m T.d_law_take.k T.d_law_take.b .nil passL (pa_cons (pv 1) (pa_cons (pv 2) (pa_cons (pv 14) pa_nil)))))))
      (pss_cons (ps_if (PW.pt (pw_and (pt_cmpR op_lt (pv 6) pe_int (nomark _)) (pw_and1 (pt_cmpR op_notN' (pv 5) pe_non (nomark _))))) (pss_cons (ps_set (i := 7) sc_law.nd rfl (by first | exact Or.inl rfl | exact Or.inr rfl) (pe_callTy cr_listOf rfl T.n_list b_list (pa_cons (pv 5) pa_nil)))
      (pss_one (ps_if (PW.pt (pw_and (pt_cmpR op_eq (pv 6) pe_int (nomark _)) (pw_and1 (pt_cmpR op_gt (pe_callB cr_len rfl T.n_len b_len (pa_cons (pv 7) pa_nil)) pe_int (nomark _))))) (pss_one (ps_asg (pe_call (ok_law_take T hB) (hr.mono (by decide)) rfl T.d_law_take.m T.d_law_take.k T.d_law_take.b .nil hxx (pa_cons (pv 1) (pa_cons (pv 2) (pa_cons pe_int pa_nil)))) (pg_sub (pv 7) (pe_call (ok_law_take T hB) (hr.mono (by decide)) rfl T.d_law_take.m T.d_law_take.k T.d_law_take.b .nil hxx (pa_cons (pv 1) (pa_cons (pv 2) (pa_cons (pe_callB cr_len rfl T.n_len b_len (pa_cons (pv 7) pa_nil)) pa_nil)))) set_list))) pss_nil))) pss_nil)
      (pss_cons (ps_set (i := 8) sc_law.nd rfl (by first | exact Or.inl rfl | exact Or.inr rfl) (pe_cmpR op_eq (pe_callB cr_len rfl T.n_len b_len (pa_cons (pe_lc rfl sc_law.nd (pi_range1 rfl T.n_range (pa_cons (pe_callB cr_len rfl T.n_len b_len (pa_cons (pv 4) pa_nil)) pa_nil)) (blkOk_by (N := ["script", "row", "spot", "menu", "periods", "meant", "k", "some", "good", "days", "day", "meets", "told", "whole", "one", "bad", "j"]) (sc := defScope s_law) (own := [("j", 16)]) (by decide +kernel)) (fun _ _ _ _ _ => (pg_name (i := 16) sc_law.nd rfl (by first | exact Or.inl rfl | exact Or.inr rfl))) (fun _ _ _ _ _ => (pts_one (pt_cmpR op_ge (pe_ix ix_seq (pv 7) (pv 16) (fun _ _ => rfl)) (pe_ix ix_seq (pv 4) (pv 16) (fun _ _ => rfl)) (nomark _)))) (fun _ _ _ _ _ => (pv 16))) pa_nil)) pe_int (nomark _)))
      (pss_cons (ps_set (i := 9) sc_law.nd rfl (by first | exact Or.inl rfl | exact Or.inr rfl) pe_dnewK)
      (pss_cons (ps_for hpx rfl (pi_range1 rfl T.n_range (pa_cons pe_int pa_nil)) (pg_name (i := 10) sc_law.nd rfl (by first | exact Or.inl rfl | exact Or.inr rfl)) (pss_one (ps_dput (hu_of hr) (pv 9) (pv 10) (pe_callB cr_len rfl T.n_len b_len (pa_cons (pe_lc rfl sc_law.nd (pi_range1 rfl T.n_range (pa_cons (pe_callB cr_len rfl T.n_len b_len (pa_cons (pv 4) pa_nil)) pa_nil)) (blkOk_by (N := ["script", "row", "spot", "menu", "periods", "meant", "k", "some", "good", "days", "day", "meets", "told", "whole", "one", "bad", "j"]) (sc := defScope s_law) (own := [("j", 16)]) (by decide +kernel)) (fun _ _ _ _ _ => (pg_name (i := 16) sc_law.nd rfl (by first | exact Or.inl rfl | exact Or.inr rfl))) (fun _ _ _ _ _ => (pts_one (PW.pt (pw_and (pt_cmpR op_ge (pv 10) (pe_ix ix_seq (pv 7) (pv 16) (fun _ _ => rfl)) (nomark _)) (pw_and1 (pt_cmpR op_eq (pe_op op_mod (pe_callTy cr_int rfl T.n_int b_int (pa_cons (pe_op op_sub (pv 10) (pe_ix ix_seq (pv 7) (pv 16) (fun _ _ => rfl))) pa_nil)) (pe_ix ix_seq (pv 4) (pv 16) (fun _ _ => rfl))) pe_int (nomark _))))))) (fun _ _ _ _ _ => (pv 16))) pa_nil)) (by rfl))))
      (pss_cons (ps_set (i := 11) sc_law.nd rfl (by first | exact Or.inl rfl | exact Or.inr rfl) (pe_and (pv 8) (pe_one (pe_not (pe_call (ok_law_apart_days T hB) (hr.mono (by decide)) rfl T.d_law_apart_days.m T.d_law_apart_days.k T.d_law_apart_days.b .nil hxx (pa_cons (pv 4) (pa_cons (pv 7) pa_nil)))))))
      (pss_cons (ps_if (pt_not (pt_val (pe_call (ok_law_so T hB 4) (hr.mono (by decide)) rfl T.d_law_so.m T.d_law_so.k T.d_law_so.b .nil hxx (pa_cons (pe_call (ok_starts_prove T hB) (hr.mono (by decide)) rfl T.d_starts_prove.m T.d_starts_prove.k T.d_starts_prove.b .nil hxx (pa_cons (pe_call (ok_law_handed T hB) (hr.mono (by decide)) rfl T.d_law_handed.m T.d_law_handed.k T.d_law_handed.b .nil hxx (pa_cons (pv 1) (pa_cons (pv 2) (pa_cons (pv 4) pa_nil)))) (pa_cons (pe_call (ok_law_handed T hB) (hr.mono (by decide)) rfl T.d_law_handed.m T.d_law_handed.k T.d_law_handed.b .nil hxx (pa_cons (pv 1) (pa_cons (pv 2) (pa_cons (pe_callTy cr_tupOf rfl T.n_tuple b_tuple (pa_cons (pv 7) pa_nil)) pa_nil)))) pa_nil))) (pa_cons (pe_and (pv 8) (pe_one (pe_not (pv 11)))) pa_nil))))) (pss_one (ps_ret pe_bl)) pss_nil)
      (pss_cons (ps_set (i := 12) sc_law.nd rfl (by first | exact Or.inl rfl | exact Or.inr rfl) (pe_told (k := 5) (c := T.cc_law) (P := T.p_law) (sc := defScope s_law) T.d_law_told sc_law_told rfl rfl (.inl rfl) (fun _ _ _ _ _ => as_told T) (nd_tb T) hB (hr.mono (by decide)) (fun A outer s H E f c' hr => (pe_call (ok_busy_days T hB) (hr.mono (by decide)) rfl T.d_busy_days.m T.d_busy_days.k T.d_busy_days.b .nil hxl (pa_cons (pv 4) (pa_cons (pe_callTy cr_tupOf rfl T.n_tuple b_tuple (pa_cons (pv 7) pa_nil)) pa_nil))))))
      (pss_one (ps_if (pt_not (pt_truth (pv 8) (fun _ => rfl))) (pss_one (ps_if (pt_cmpR (op_neD (hu64 hr)) (pv 12) (pe_tup (pa_cons pe_str (pa_cons pe_int pa_nil))) (nomark _)) (pss_one (ps_ret pe_bl)) pss_nil)) (pss_cons (ps_set (i := 13) sc_law.nd rfl (by first | exact Or.inl rfl | exact Or.inr rfl) pe_int)
      (pss_cons (ps_for hpx rfl (pi_any (pv 4)) (pg_name (i := 14) sc_law.nd rfl (by first | exact Or.inl rfl | exact Or.inr rfl)) (pss_one (ps_set (i := 13) sc_law.nd rfl (by first | exact Or.inl rfl | exact Or.inr rfl) (pe_op op_fdiv (pe_op op_mul (pv 13) (pv 14)) (pe_call (ok_law_gcd T hB) (hr.mono (by decide)) rfl T.d_law_gcd.m T.d_law_gcd.k T.d_law_gcd.b .nil hxx (pa_cons (pv 13) (pa_cons (pv 14) pa_nil)))))))
      (pss_cons (ps_if (PW.pt (pw_or (pt_cmpR op_ne (pe_ix ix_seq (pv 12) pe_int (fun _ _ => rfl)) pe_str (nomark _)) (pw_or1 (pt_cmpR op_ne (pe_ix ix_seq (pe_ix ix_seq (pv 12) pe_int (fun _ _ => rfl)) pe_int (fun _ _ => rfl)) (pv 13) (nomark _))))) (pss_one (ps_ret pe_bl)) pss_nil)
      (pss_one (ps_if (PW.pt (pw_and (pt_cmpR op_le (pv 13) pe_int (nomark _)) (pw_and1 (pt_not (pt_val (pe_call (ok_law_so T hB 4) (hr.mono (by decide)) rfl T.d_law_so.m T.d_law_so.k T.d_law_so.b .nil hxx (pa_cons (pe_ix ix_seq (pe_ix ix_seq (pv 12) pe_int (fun _ _ => rfl)) pe_int (fun _ _ => rfl)) (pa_cons (pe_callTy cr_tupOf rfl T.n_tuple b_tuple (pa_cons (pe_lc rfl sc_law.nd (pi_range1 rfl T.n_range (pa_cons (pv 13) pa_nil)) (blkOk_by (N := ["script", "row", "spot", "menu", "periods", "meant", "k", "some", "good", "days", "day", "meets", "told", "whole", "one", "bad", "j"]) (sc := defScope s_law) (own := [("day", 10)]) (by decide +kernel)) (fun _ _ _ _ _ => (pg_name (i := 10) sc_law.nd rfl (by first | exact Or.inl rfl | exact Or.inr rfl))) (fun _ _ _ _ _ => (pts_one (pt_cmpR op_gt (pe_dget (hu_of hr) (pv 9) (pv 10) (fun _ _ => rfl)) pe_int (nomark _)))) (fun _ _ _ _ _ => (pe_tup (pa_cons (pv 10) (pa_cons (pe_dget (hu_of hr) (pv 9) (pv 10) (fun _ _ => rfl)) pa_nil))))) pa_nil)) pa_nil)))))))) (pss_one (ps_ret pe_bl)) pss_nil))))))))))))))))
      (pss_cons (ps_for hpx rfl (pi_any (pe_lst (pa_cons (pe_tup (pa_cons pe_int pa_nil)) (pa_cons (pe_tup (pa_cons pe_int pa_nil)) (pa_cons (pe_tup (pa_cons pe_bl pa_nil)) (pa_cons pe_non (pa_cons pe_int (pa_cons (pe_op op_repT (pe_tup (pa_cons pe_int pa_nil)) pe_int) (pa_cons (pe_tup (pa_cons pe_str pa_nil)) (pa_cons (pe_tup (pa_cons (pe_un un_neg pe_int) pa_nil)) pa_nil)))))))))) (pg_name (i := 15) sc_law.nd rfl (by first | exact Or.inl rfl | exact Or.inr rfl)) (pss_one (ps_if (PW.pt (pw_or (pt_cmpR (op_neD (hu64 hr)) (pe_told (k := 4) (c := T.cc_law) (P := T.p_law) (sc := defScope s_law) T.d_law_told sc_law_told rfl rfl (.inl rfl) (fun _ _ _ _ _ => as_told T) (nd_tb T) hB (hr.mono (by decide)) (fun A outer s H E f c' hr => (pe_call (ok_starts T hB) (hr.mono (by decide)) rfl T.d_starts.m T.d_starts.k T.d_starts.b .nil hxl (pa_cons (pv 15) pa_nil)))) (pe_tup (pa_cons pe_str (pa_cons pe_int pa_nil))) (nomark _)) (pw_or (pt_cmpR (op_neD (hu64 hr)) (pe_told (k := 4) (c := T.cc_law) (P := T.p_law) (sc := defScope s_law) T.d_law_told sc_law_told rfl rfl (.inl rfl) (fun _ _ _ _ _ => as_told T) (nd_tb T) hB (hr.mono (by decide)) (fun A outer s H E f c' hr => (pe_call (ok_starts_prove T hB) (hr.mono (by decide)) rfl T.d_starts_prove.m T.d_starts_prove.k T.d_starts_prove.b .nil hxl (pa_cons (pv 15) (pa_cons (pe_tup (pa_cons pe_int pa_nil)) pa_nil))))) (pe_tup (pa_cons pe_str (pa_cons pe_int pa_nil))) (nomark _)) (pw_or1 (pt_cmpR (op_neD (hu64 hr)) (pe_told (k := 5) (c := T.cc_law) (P := T.p_law) (sc := defScope s_law) T.d_law_told sc_law_told rfl rfl (.inl rfl) (fun _ _ _ _ _ => as_told T) (nd_tb T) hB (hr.mono (by decide)) (fun A outer s H E f c' hr => (pe_call (ok_busy_days T hB) (hr.mono (by decide)) rfl T.d_busy_days.m T.d_busy_days.k T.d_busy_days.b .nil hxl (pa_cons (pv 15) (pa_cons (pe_tup (pa_cons pe_int pa_nil)) pa_nil))))) (pe_tup (pa_cons pe_str (pa_cons pe_int pa_nil))) (nomark _)))))) (pss_one (ps_ret pe_bl)) pss_nil)))
      (pss_cons (ps_for hpx rfl (pi_any (pe_lst (pa_cons (pe_tup pa_nil) (pa_cons (pe_tup (pa_cons pe_int (pa_cons pe_int pa_nil))) (pa_cons (pe_tup (pa_cons (pe_un un_neg pe_int) pa_nil)) (pa_cons (pe_tup (pa_cons pe_int pa_nil)) (pa_cons (pe_tup (pa_cons pe_bl pa_nil)) (pa_cons pe_non (pa_cons pe_int (pa_cons (pe_tup (pa_cons pe_str pa_nil)) pa_nil)))))))))) (pg_name (i := 15) sc_law.nd rfl (by first | exact Or.inl rfl | exact Or.inr rfl)) (pss_one (ps_if (PW.pt (pw_or (pt_cmpR (op_neD (hu64 hr)) (pe_told (k := 4) (c := T.cc_law) (P := T.p_law) (sc := defScope s_law) T.d_law_told sc_law_told rfl rfl (.inl rfl) (fun _ _ _ _ _ => as_told T) (nd_tb T) hB (hr.mono (by decide)) (fun A outer s H E f c' hr => (pe_call (ok_starts_prove T hB) (hr.mono (by decide)) rfl T.d_starts_prove.m T.d_starts_prove.k T.d_starts_prove.b .nil hxl (pa_cons (pe_tup (pa_cons pe_int pa_nil)) (pa_cons (pv 15) pa_nil))))) (pe_tup (pa_cons pe_str (pa_cons pe_int pa_nil))) (nomark _)) (pw_or1 (pt_cmpR (op_neD (hu64 hr)) (pe_told (k := 5) (c := T.cc_law) (P := T.p_law) (sc := defScope s_law) T.d_law_told sc_law_told rfl rfl (.inl rfl) (fun _ _ _ _ _ => as_told T) (nd_tb T) hB (hr.mono (by decide)) (fun A outer s H E f c' hr => (pe_call (ok_busy_days T hB) (hr.mono (by decide)) rfl T.d_busy_days.m T.d_busy_days.k T.d_busy_days.b .nil hxl (pa_cons (pe_tup (pa_cons pe_int pa_nil)) (pa_cons (pv 15) pa_nil))))) (pe_tup (pa_cons pe_str (pa_cons pe_int pa_nil))) (nomark _))))) (pss_one (ps_ret pe_bl)) pss_nil)))
      (pss_cons (ps_if (pt_not (pt_val (pe_call (ok_law_so T hB 4) (hr.mono (by decide)) rfl T.d_law_so.m T.d_law_so.k T.d_law_so.b .nil hxx (pa_cons (pe_call (ok_starts T hB) (hr.mono (by decide)) rfl T.d_starts.m T.d_starts.k T.d_starts.b .nil hxx (pa_cons (pe_tup (pa_cons pe_int (pa_cons pe_int (pa_cons pe_int pa_nil)))) pa_nil)) (pa_cons (pe_tup (pa_cons pe_int (pa_cons pe_int (pa_cons pe_int pa_nil)))) pa_nil))))) (pss_one (ps_ret pe_bl)) pss_nil)
      (pss_one (ps_ret (pe_and (pe_call (ok_law_so T hB 4) (hr.mono (by decide)) rfl T.d_law_so.m T.d_law_so.k T.d_law_so.b .nil hxx (pa_cons (pe_call (ok_starts T hB) (hr.mono (by decide)) rfl T.d_starts.m T.d_starts.k T.d_starts.b .nil hxx (pa_cons (pe_tup pa_nil) pa_nil)) (pa_cons (pe_tup pa_nil) pa_nil))) (pe_and (pe_call (ok_law_so T hB 4) (hr.mono (by decide)) rfl T.d_law_so.m T.d_law_so.k T.d_law_so.b .nil hxx (pa_cons (pe_call (ok_busy_days T hB) (hr.mono (by decide)) rfl T.d_busy_days.m T.d_busy_days.k T.d_busy_days.b .nil hxx (pa_cons (pe_tup pa_nil) (pa_cons (pe_tup pa_nil) pa_nil))) (pa_cons (pe_tup (pa_cons pe_int (pa_cons (pe_tup pa_nil) pa_nil))) pa_nil))) (pe_and (pe_call (ok_law_so T hB 4) (hr.mono (by decide)) rfl T.d_law_so.m T.d_law_so.k T.d_law_so.b .nil hxx (pa_cons (pe_call (ok_starts T hB) (hr.mono (by decide)) rfl T.d_starts.m T.d_starts.k T.d_starts.b .nil hxx (pa_cons (pe_tup (pa_cons pe_int (pa_cons pe_int (pa_cons pe_int (pa_cons pe_int (pa_cons pe_int pa_nil)))))) pa_nil)) (pa_cons (pe_tup (pa_cons pe_int (pa_cons pe_int (pa_cons pe_int (pa_cons pe_int (pa_cons pe_int pa_nil)))))) pa_nil))) (pe_one (pe_call (ok_law_so T hB 4) (hr.mono (by decide)) rfl T.d_law_so.m T.d_law_so.k T.d_law_so.b .nil hxx (pa_cons (pe_call (ok_starts_prove T hB) (hr.mono (by decide)) rfl T.d_starts_prove.m T.d_starts_prove.k T.d_starts_prove.b .nil hxx (pa_cons (pe_tup (pa_cons pe_int pa_nil)) (pa_cons (pe_tup (pa_cons pe_int pa_nil)) pa_nil))) (pa_cons pe_bl pa_nil))))))))))))))))))), (rs_seq (rs_set (df_call (daa_d di_var daa_nil)) (by decide))
      (rs_seq (rs_set (df_lst (da_cons di_k da_nil)) (by decide))
      (rs_seq (rs_set (df_call (daa_d di_var (daa_al (daa_d (DF.di (df_lst (da_cons (DF.di (df_lst (da_cons di_k (da_cons di_k (da_cons di_k (da_cons di_k da_nil)))))) (da_cons (DF.di (df_lst (da_cons di_k (da_cons di_k (da_cons di_k (da_cons di_k da_nil)))))) (da_cons (DF.di (df_lst (da_cons di_k (da_cons di_k (da_cons di_k (da_cons di_k (da_cons di_k da_nil))))))) (da_cons (DF.di (df_lst (da_cons di_k (da_cons di_k (da_cons di_k (da_cons di_k (da_cons di_k (da_cons di_k da_nil)))))))) da_nil)))))) daa_nil)))) (by decide))
      (rs_seq (rs_set (DI.df (di_cb on_tupOf (da_cons (DF.di (df_lc (vs := [6]) (dw_range1 (da_cons (DF.di (df_call (daa_d di_var (daa_al (daa_d di_k daa_nil))))) da_nil)) (dg_name (by decide)) gYes (df_call (daa_d di_var (daa_al (daa_d di_var daa_nil)))) (by decide))) da_nil))) (by decide))
      (rs_seq (rs_set (df_call (daa_d di_var (daa_d (di_tup da_nil) daa_nil))) (by decide))
      (rs_seq (rs_if (dt_not (dt_B (DF.di (df_call (daa_d (DF.di (df_call (daa_d (DF.di (df_call (daa_d di_var (daa_al (daa_d di_var daa_nil))))) daa_nil))) (daa_d di_var daa_nil)))))) (rs_ret (DI.df di_k)) rs_next)
      (rs_seq (rs_for (dw_range1 (da_cons di_k da_nil)) (dg_name (by decide)) (rs_seq (rs_set (df_lc (vs := [14]) (dw_any di_var) (dg_name (by decide)) gYes (df_call (daa_d di_var (daa_al (daa_d di_var daa_nil)))) (by decide)) (by decide))
      (rs_seq (rs_if (dt_and (dt_test (di_op os_lt.op di_var di_k)) (dt_test (di_op os_notN.op di_var di_k))) (rs_seq (rs_set (df_cb ox_listOf (da_cons di_var da_nil)) (by decide))
      (rs_if (dt_and (dt_test (di_op os_eq.op di_var di_k)) (dt_test (di_op os_gt.op (SX.di (sx_lenP pl_var)) di_k))) (rs_setIx (DF.di (df_call (daa_d di_var (daa_al (daa_d di_k daa_nil))))) (DF.di (df_call (daa_d di_var (daa_al (daa_d (SX.di (sx_lenP pl_var)) daa_nil)))))) rs_next)) rs_next)
      (rs_seq (rs_set (DI.df (di_op os_eq.op (di_cb on_len (da_cons (DF.di (df_lc (vs := [16]) (dw_range1 (da_cons (di_cb on_len (da_cons di_var da_nil)) da_nil)) (dg_name (by decide)) (dt_test (di_op os_ge.op (SX.di (PL.sx (pl_ix pl_var (PL.sx pl_var)))) (di_op os_ix.op di_var di_var))) (DI.df di_var) (by decide))) da_nil)) di_k)) (by decide))
      (rs_seq (rs_set df_dnew (by decide))
      (rs_seq (rs_for (dw_range1 (da_cons di_k da_nil)) (dg_name (by decide)) (rs_dput pl_var (PL.sx pl_var) (di_cb on_len (da_cons (DF.di (df_lc (vs := [16]) (dw_range1 (da_cons (di_cb on_len (da_cons di_var da_nil)) da_nil)) (dg_name (by decide)) (dt_and (dt_test (di_op os_ge.op di_var (SX.di (PL.sx (pl_ix pl_var (PL.sx pl_var)))))) (dt_test (di_op os_eq.op (di_op os_mod.op (di_cb on_int (da_cons (di_op os_sub.op di_var (SX.di (PL.sx (pl_ix pl_var (PL.sx pl_var))))) da_nil)) (di_op os_ix.op di_var di_var)) di_k))) (DI.df di_var) (by decide))) da_nil))))
      (rs_seq (rs_set (DI.df (di_andV di_var (di_notV (DF.di (df_call (daa_d di_var (daa_d di_var daa_nil))))))) (by decide))
      (rs_seq (rs_if (dt_not (dt_B (DF.di (df_call (daa_d (DF.di (df_call (daa_d (DF.di (df_call (daa_d di_var (daa_al (daa_d di_var daa_nil))))) (daa_d (DF.di (df_call (daa_d di_var (daa_al (daa_d (di_cb on_tupOf (da_cons di_var da_nil)) daa_nil))))) daa_nil)))) (daa_d (di_andV di_var (di_notV di_var)) daa_nil)))))) (rs_ret (DI.df di_k)) rs_next)
      (rs_seq (rs_set (DI.df (di_told (fun _ => (da_cons di_var (da_cons (di_cb on_tupOf (da_cons di_var da_nil)) da_nil))) (hds_ok T))) (by decide))
      (rs_if (dt_not (dt_tru di_var)) (rs_if (dt_test (di_op os_neP.op di_var (di_tup (da_cons di_k (da_cons di_k da_nil))))) (rs_ret (DI.df di_k)) rs_next) (rs_seq (rs_set (DI.df di_k) (by decide))
      (rs_seq (rs_for (dw_any di_var) (dg_name (by decide)) (rs_set (DI.df (di_op os_div.op (di_op os_mul.op di_var di_var) (DF.di (df_call (daa_d di_var (daa_d di_var daa_nil)))))) (by decide)))
      (rs_seq (rs_if (dt_or (dt_test (di_op os_ne.op (di_op os_ix.op di_var di_k) di_k)) (dt_test (di_op os_ne.op (di_op os_ix.op (di_op os_ix.op di_var di_k) di_k) di_var))) (rs_ret (DI.df di_k)) rs_next)
      (rs_if (dt_and (dt_test (di_op os_le.op di_var di_k)) (dt_not (dt_B (DF.di (df_call (daa_d (di_op os_ix.op (di_op os_ix.op di_var di_k) di_k) (daa_d (di_cb on_tupOf (da_cons (DF.di (df_lc (vs := [10]) (dw_range1 (da_cons di_var da_nil)) (dg_name (by decide)) (dt_test (di_op os_gt.op (SX.di (sx_dgetP pl_var (PL.sx pl_var))) di_k)) (DI.df (di_tup (da_cons di_var (da_cons (SX.di (sx_dgetP pl_var (PL.sx pl_var))) da_nil)))) (by decide))) da_nil)) daa_nil))))))) (rs_ret (DI.df di_k)) rs_next))))))))))))))
      (rs_seq (rs_for (dw_any (DF.di (df_lst (da_cons (di_tup (da_cons di_k da_nil)) (da_cons (di_tup (da_cons di_k da_nil)) (da_cons (di_tup (da_cons di_k da_nil)) (da_cons di_k (da_cons di_k (da_cons (di_op op_repT' (di_tup (da_cons di_k da_nil)) di_k) (da_cons (di_tup (da_cons di_k da_nil)) (da_cons (di_tup (da_cons (di_un on_neg di_k) da_nil)) da_nil))))))))))) (dg_name (by decide)) (rs_if (dt_or (dt_test (di_op os_neP.op (di_told (fun _ => (da_cons di_var da_nil)) (hds_ok T)) (di_tup (da_cons di_k (da_cons di_k da_nil))))) (dt_or (dt_test (di_op os_neP.op (di_told (fun _ => (da_cons di_var (da_cons (di_tup (da_cons di_k da_nil)) da_nil))) (hds_ok T)) (di_tup (da_cons di_k (da_cons di_k da_nil))))) (dt_test (di_op os_neP.op (di_told (fun _ => (da_cons di_var (da_cons (di_tup (da_cons di_k da_nil)) da_nil))) (hds_ok T)) (di_tup (da_cons di_k (da_cons di_k da_nil))))))) (rs_ret (DI.df di_k)) rs_next))
      (rs_seq (rs_for (dw_any (DF.di (df_lst (da_cons (di_tup da_nil) (da_cons (di_tup (da_cons di_k (da_cons di_k da_nil))) (da_cons (di_tup (da_cons (di_un on_neg di_k) da_nil)) (da_cons (di_tup (da_cons di_k da_nil)) (da_cons (di_tup (da_cons di_k da_nil)) (da_cons di_k (da_cons di_k (da_cons (di_tup (da_cons di_k da_nil)) da_nil))))))))))) (dg_name (by decide)) (rs_if (dt_or (dt_test (di_op os_neP.op (di_told (fun _ => (da_cons (di_tup (da_cons di_k da_nil)) (da_cons di_var da_nil))) (hds_ok T)) (di_tup (da_cons di_k (da_cons di_k da_nil))))) (dt_test (di_op os_neP.op (di_told (fun _ => (da_cons (di_tup (da_cons di_k da_nil)) (da_cons di_var da_nil))) (hds_ok T)) (di_tup (da_cons di_k (da_cons di_k da_nil)))))) (rs_ret (DI.df di_k)) rs_next))
      (rs_seq (rs_if (dt_not (dt_B (DF.di (df_call (daa_d (DF.di (df_call (daa_d (di_tup (da_cons di_k (da_cons di_k (da_cons di_k da_nil)))) daa_nil))) (daa_d (di_tup (da_cons di_k (da_cons di_k (da_cons di_k da_nil)))) daa_nil)))))) (rs_ret (DI.df di_k)) rs_next)
      (rs_ret (DI.df (di_andV (DF.di (df_call (daa_d (DF.di (df_call (daa_d (di_tup da_nil) daa_nil))) (daa_d (di_tup da_nil) daa_nil)))) (di_andV (DF.di (df_call (daa_d (DF.di (df_call (daa_d (di_tup da_nil) (daa_d (di_tup da_nil) daa_nil)))) (daa_d (di_tup (da_cons di_k (da_cons (di_tup da_nil) da_nil))) daa_nil)))) (di_andV (DF.di (df_call (daa_d (DF.di (df_call (daa_d (di_tup (da_cons di_k (da_cons di_k (da_cons di_k (da_cons di_k (da_cons di_k da_nil)))))) daa_nil))) (daa_d (di_tup (da_cons di_k (da_cons di_k (da_cons di_k (da_cons di_k (da_cons di_k da_nil)))))) daa_nil)))) (DF.di (df_call (daa_d (DF.di (df_call (daa_d (di_tup (da_cons di_k da_nil)) (daa_d (di_tup (da_cons di_k da_nil)) daa_nil)))) (daa_d di_k daa_nil)))))))))))))))))))⟩
end
end DL

/-! DLS: the combinators at work. -/
namespace DL
open PySem L2

@[simp] theorem e_gV (i : Nat) (x0 : Option O) (xs : DEnv) : gV i (x0 :: xs) = (match (x0 :: xs)[i]? with
  | some (some (.fz d)) => .ok (d, (x0 :: xs))
  | some (some o) => .ok (o.toD, (x0 :: xs).set i (some (.fz o.toD)))
  | _ => .no) := rfl
@[simp] theorem e_gC (d : D) (x0 : Option O) (xs : DEnv) : gC d (x0 :: xs) = (.ok (d, (x0 :: xs))) := rfl
@[simp] theorem e_gS (f : DEnv → Option D) (x0 : Option O) (xs : DEnv) : gS f (x0 :: xs) = ((Rz.of (f (x0 :: xs))).bind fun d => .ok (d, (x0 :: xs))) := rfl
@[simp] theorem e_gZ (g : DEnv → Rz (O × DEnv)) (x0 : Option O) (xs : DEnv) : gZ g (x0 :: xs) = ((g (x0 :: xs)).bind fun p => .ok (p.1.toD, p.2)) := rfl
@[simp] theorem e_gO (g : DEnv → Rz (D × DEnv)) (x0 : Option O) (xs : DEnv) : gO g (x0 :: xs) = ((g (x0 :: xs)).bind fun p => .ok (.fz p.1, p.2)) := rfl
@[simp] theorem e_pV (i : Nat) (x0 : Option O) (xs : DEnv) : pV i (x0 :: xs) = (match (x0 :: xs)[i]? with
  | some (some o) => some ([], o)
  | _ => none) := rfl
@[simp] theorem e_fP (p : DEnv → Option (List Step × O)) (x0 : Option O) (xs : DEnv) : fP p (x0 :: xs) = ((p (x0 :: xs)).bind fun x => match x.2 with
  | .fz d => some d
  | _ => none) := rfl
@[simp] theorem e_pF (C : Addr) (f : Str) (p : DEnv → Option (List Step × O)) (x0 : Option O) (xs : DEnv) : pF C f p (x0 :: xs) = ((p (x0 :: xs)).bind fun x => match x.2 with
  | .ins C' fs => if C' = C then (fs.lookup f).map fun y => (x.1 ++ [.at f], y) else none
  | _ => none) := rfl
@[simp] theorem e_pI (p : DEnv → Option (List Step × O)) (f : DEnv → Option D) (x0 : Option O) (xs : DEnv) : pI p f (x0 :: xs) = ((p (x0 :: xs)).bind fun x => match x.2, f (x0 :: xs) with
  | .lst os, some (.int k) => (ixN os.length k).bind fun j => (os[j]?).map fun y => (x.1 ++ [.ix j], y)
  | _, _ => none) := rfl
@[simp] theorem e_gaNil  (x0 : Option O) (xs : DEnv) : gaNil  (x0 :: xs) = (.ok ([], (x0 :: xs))) := rfl
@[simp] theorem e_gaCons (ga : DEnv → Rz (D × DEnv)) (gr : DEnv → Rz (List D × DEnv)) (x0 : Option O) (xs : DEnv) : gaCons ga gr (x0 :: xs) = ((ga (x0 :: xs)).bind fun p => (gr p.2).bind fun q => .ok (p.1 :: q.1, q.2)) := rfl
@[simp] theorem e_g1 (f : D → Option D) (ga : DEnv → Rz (D × DEnv)) (x0 : Option O) (xs : DEnv) : g1 f ga (x0 :: xs) = ((ga (x0 :: xs)).bind fun p => (Rz.of (f p.1)).bind fun x => .ok (x, p.2)) := rfl
@[simp] theorem e_g2 (f : D → D → Option D) (ga gb : DEnv → Rz (D × DEnv)) (x0 : Option O) (xs : DEnv) : g2 f ga gb (x0 :: xs) = ((ga (x0 :: xs)).bind fun p => (gb p.2).bind fun q => (Rz.of (f p.1 q.1)).bind fun x => .ok (x, q.2)) := rfl
@[simp] theorem e_gN (f : List D → Option D) (ga : DEnv → Rz (List D × DEnv)) (x0 : Option O) (xs : DEnv) : gN f ga (x0 :: xs) = ((ga (x0 :: xs)).bind fun p => (Rz.of (f p.1)).bind fun x => .ok (x, p.2)) := rfl
@[simp] theorem e_gX2 (f : D → D → Option Dx) (ga gb : DEnv → Rz (D × DEnv)) (x0 : Option O) (xs : DEnv) : gX2 f ga gb (x0 :: xs) = ((ga (x0 :: xs)).bind fun p => (gb p.2).bind fun q => (Rz.of (f p.1 q.1)).bind fun x => .ok (x.o, q.2)) := rfl
@[simp] theorem e_gXN (f : List D → Option Dx) (ga : DEnv → Rz (List D × DEnv)) (x0 : Option O) (xs : DEnv) : gXN f ga (x0 :: xs) = ((ga (x0 :: xs)).bind fun p => (Rz.of (f p.1)).bind fun x => .ok (x.o, p.2)) := rfl
@[simp] theorem e_gB (ga : DEnv → Rz (D × DEnv)) (x0 : Option O) (xs : DEnv) : gB ga (x0 :: xs) = ((ga (x0 :: xs)).bind fun p => (Rz.of (fBl p.1)).bind fun b => .ok (b, p.2)) := rfl
@[simp] theorem e_gTru (ga : DEnv → Rz (D × DEnv)) (x0 : Option O) (xs : DEnv) : gTru ga (x0 :: xs) = ((ga (x0 :: xs)).bind fun p => (Rz.of (truD p.1)).bind fun b => .ok (b, p.2)) := rfl
@[simp] theorem e_gAnd (ga gb : DEnv → Rz (Bool × DEnv)) (x0 : Option O) (xs : DEnv) : gAnd ga gb (x0 :: xs) = ((ga (x0 :: xs)).bind fun p => if p.1 = true then gb p.2 else .ok (false, p.2)) := rfl
@[simp] theorem e_gOr (ga gb : DEnv → Rz (Bool × DEnv)) (x0 : Option O) (xs : DEnv) : gOr ga gb (x0 :: xs) = ((ga (x0 :: xs)).bind fun p => if p.1 = true then .ok (true, p.2) else gb p.2) := rfl
@[simp] theorem e_gNot (ga : DEnv → Rz (Bool × DEnv)) (x0 : Option O) (xs : DEnv) : gNot ga (x0 :: xs) = ((ga (x0 :: xs)).bind fun p => .ok (!p.1, p.2)) := rfl
@[simp] theorem e_gIf (gt : DEnv → Rz (Bool × DEnv)) (ga gb : DEnv → Rz (D × DEnv)) (x0 : Option O) (xs : DEnv) : gIf gt ga gb (x0 :: xs) = ((gt (x0 :: xs)).bind fun p => if p.1 = true then ga p.2 else gb p.2) := rfl
@[simp] theorem e_gAndV (ga gb : DEnv → Rz (D × DEnv)) (x0 : Option O) (xs : DEnv) : gAndV ga gb (x0 :: xs) = ((ga (x0 :: xs)).bind fun p => (Rz.of (fBl p.1)).bind fun b => if b = true then gb p.2 else .ok (.bl false, p.2)) := rfl
@[simp] theorem e_gOrV (ga gb : DEnv → Rz (D × DEnv)) (x0 : Option O) (xs : DEnv) : gOrV ga gb (x0 :: xs) = ((ga (x0 :: xs)).bind fun p => (Rz.of (fBl p.1)).bind fun b => if b = true then .ok (.bl true, p.2) else gb p.2) := rfl
@[simp] theorem e_gNotV (ga : DEnv → Rz (D × DEnv)) (x0 : Option O) (xs : DEnv) : gNotV ga (x0 :: xs) = ((ga (x0 :: xs)).bind fun p => (Rz.of (fBl p.1)).bind fun b => .ok (.bl (!b), p.2)) := rfl
@[simp] theorem e_gaTup (ga : DEnv → Rz (List D × DEnv)) (x0 : Option O) (xs : DEnv) : gaTup ga (x0 :: xs) = ((ga (x0 :: xs)).bind fun p => if p.1.length ≤ 100000 then .ok (.tup p.1, p.2) else .no) := rfl
@[simp] theorem e_gaLst (ga : DEnv → Rz (List D × DEnv)) (x0 : Option O) (xs : DEnv) : gaLst ga (x0 :: xs) = ((ga (x0 :: xs)).bind fun p => if p.1.length ≤ 100000 then .ok (.lst (p.1.map .fz), p.2) else .no) := rfl
@[simp] theorem e_gIs (f : D → Option Bool) (ga : DEnv → Rz (D × DEnv)) (x0 : Option O) (xs : DEnv) : gIs f ga (x0 :: xs) = ((ga (x0 :: xs)).bind fun p => (Rz.of (f p.1)).bind fun b => .ok (.bl b, p.2)) := rfl
@[simp] theorem e_gFld (C : Addr) (f : Str) (ga : DEnv → Rz (D × DEnv)) (x0 : Option O) (xs : DEnv) : gFld C f ga (x0 :: xs) = ((ga (x0 :: xs)).bind fun p => match p.1 with
  | .obj C' fs => if C' = C then (Rz.of (fs.lookup f)).bind fun x => .ok (x, p.2) else .no
  | _ => .no) := rfl
@[simp] theorem e_gSlL (ga : DEnv → Rz (D × DEnv)) (gl gh : DEnv → Rz (Option Int × DEnv)) (x0 : Option O) (xs : DEnv) : gSlL ga gl gh (x0 :: xs) = ((ga (x0 :: xs)).bind fun p => (gl p.2).bind fun q => (gh q.2).bind fun r => match p.1 with
  | .lst ds => .ok (.lst ((cutD ds q.1 r.1).map .fz), r.2)
  | .scr ds => .ok (.lst ((cutD ds q.1 r.1).map .fz), r.2)
  | _ => .no) := rfl
@[simp] theorem e_gPart (ga : DEnv → Rz (D × DEnv)) (x0 : Option O) (xs : DEnv) : gPart ga (x0 :: xs) = ((ga (x0 :: xs)).bind fun p => match p.1 with
  | .int i => .ok (some i, p.2)
  | _ => .no) := rfl
@[simp] theorem e_gANil  (x0 : Option O) (xs : DEnv) : gANil  (x0 :: xs) = (.ok ([], (x0 :: xs))) := rfl
@[simp] theorem e_gAD (ga : DEnv → Rz (D × DEnv)) (gr : DEnv → Rz (List Arg × DEnv)) (x0 : Option O) (xs : DEnv) : gAD ga gr (x0 :: xs) = ((ga (x0 :: xs)).bind fun p => (gr p.2).bind fun q => .ok (.d p.1 :: q.1, q.2)) := rfl
@[simp] theorem e_gAA (i : Nat) (gr : DEnv → Rz (List Arg × DEnv)) (x0 : Option O) (xs : DEnv) : gAA i gr (x0 :: xs) = (match (x0 :: xs)[i]? with
  | some (some _) => (gr (x0 :: xs)).bind fun q => .ok (.al i :: q.1, q.2)
  | _ => .no) := rfl
@[simp] theorem e_gCall (n : Nat) (cp : List Nat) (Φ : List O → Rz (O × List O)) (ga : DEnv → Rz (List Arg × DEnv)) (x0 : Option O) (xs : DEnv) : gCall n cp Φ ga (x0 :: xs) = ((ga (x0 :: xs)).bind fun p => gCallV n cp Φ p.1 p.2) := rfl
@[simp] theorem e_gMethA (C : Addr) (m : Str) (i n : Nat) (cp : List Nat) (Φ : List O → Rz (O × List O)) (ga : DEnv → Rz (List Arg × DEnv)) (x0 : Option O) (xs : DEnv) : gMethA C m i n cp Φ ga (x0 :: xs) = (match (x0 :: xs)[i]? with
  | some (some (.ins C' fs)) => if C' = C ∧ fs.lookup m = none then (ga (x0 :: xs)).bind fun p => gCallV n cp Φ (.al i :: p.1) p.2 else .no
  | _ => .no) := rfl
@[simp] theorem e_gMethD (C : Addr) (m : Str) (n : Nat) (cp : List Nat) (Φ : List O → Rz (O × List O)) (go : DEnv → Rz (D × DEnv)) (ga : DEnv → Rz (List Arg × DEnv)) (x0 : Option O) (xs : DEnv) : gMethD C m n cp Φ go ga (x0 :: xs) = ((go (x0 :: xs)).bind fun r => match r.1 with
  | .obj C' fs => if C' = C ∧ fs.lookup m = none then (ga r.2).bind fun p => gCallV n cp Φ (.d r.1 :: p.1) p.2 else .no
  | _ => .no) := rfl
@[simp] theorem e_gMake (C : Addr) (n : Nat) (Φ : List O → Rz (O × List O)) (ga : DEnv → Rz (List D × DEnv)) (x0 : Option O) (xs : DEnv) : gMake C n Φ ga (x0 :: xs) = ((ga (x0 :: xs)).bind fun p =>
  if p.1.length + 1 = n then (Φ (.ins C [] :: p.1.map .fz)).bind fun q => match q with
    | (.fz .non, [o]) => .ok (o, p.2)
    | _ => .no else .no) := rfl
@[simp] theorem e_gLc (gi : DEnv → Rz (List D × DEnv)) (tg : D → DEnv → Option DEnv) (gt : DEnv → Rz (Bool × DEnv)) (ge : DEnv → Rz (O × DEnv)) (vs : List Nat) (x0 : Option O) (xs : DEnv) : gLc gi tg gt ge vs (x0 :: xs) = ((gi (x0 :: xs)).bind fun p =>
  if p.1.length ≤ 100000 ∧ plainAt p.2 vs = true then (lcL tg gt ge vs p.1 (wipeD p.2 vs)).bind fun x => .ok (.lst x.1, backD p.2 x.2 vs) else .no) := rfl
@[simp] theorem e_gPop (i : Nat) (p : DEnv → Option (List Step × O)) (x0 : Option O) (xs : DEnv) : gPop i p (x0 :: xs) = (match p (x0 :: xs) with
  | some (π, .lst os) => match os[os.length - 1]? with
    | some (.fz d) => .ok (d, putAt (x0 :: xs) i π (.lst os.dropLast))
    | _ => .no
  | _ => .no) := rfl
@[simp] theorem e_fTruP (p : DEnv → Option (List Step × O)) (x0 : Option O) (xs : DEnv) : fTruP p (x0 :: xs) = (match p (x0 :: xs) with
  | some (_, .lst os) => .ok (!os.isEmpty, (x0 :: xs))
  | _ => .no) := rfl
@[simp] theorem e_fLenP (p : DEnv → Option (List Step × O)) (x0 : Option O) (xs : DEnv) : fLenP p (x0 :: xs) = ((p (x0 :: xs)).bind fun x => match x.2 with
  | .lst os => some (.int (os.length : Int))
  | .fz (.lst ds) => some (.int (ds.length : Int))
  | .fz (.tup ds) => some (.int (ds.length : Int))
  | _ => none) := rfl
@[simp] theorem e_rSeq (f g : Run) (x0 : Option O) (xs : DEnv) : rSeq f g (x0 :: xs) = ((f (x0 :: xs)).bind fun o => match o with
  | .nx δ' => g δ'
  | .rt o δ' => .ok (.rt o δ')
  | .bk δ' => .ok (.bk δ')
  | .ct δ' => .ok (.ct δ')) := rfl
@[simp] theorem e_rIf (g : DEnv → Rz (Bool × DEnv)) (f u : Run) (x0 : Option O) (xs : DEnv) : rIf g f u (x0 :: xs) = ((g (x0 :: xs)).bind fun p => if p.1 = true then f p.2 else u p.2) := rfl
@[simp] theorem e_rRet (g : DEnv → Rz (O × DEnv)) (x0 : Option O) (xs : DEnv) : rRet g (x0 :: xs) = ((g (x0 :: xs)).bind fun p => .ok (.rt p.1 p.2)) := rfl
@[simp] theorem e_rRetN  (x0 : Option O) (xs : DEnv) : rRetN  (x0 :: xs) = (.ok (.rt (.fz .non) (x0 :: xs))) := rfl
@[simp] theorem e_rSet (i : Nat) (g : DEnv → Rz (O × DEnv)) (x0 : Option O) (xs : DEnv) : rSet i g (x0 :: xs) = ((g (x0 :: xs)).bind fun p => .ok (.nx (p.2.set i (some p.1)))) := rfl
@[simp] theorem e_rAsg (g : DEnv → Rz (D × DEnv)) (t : D → DEnv → Option DEnv) (x0 : Option O) (xs : DEnv) : rAsg g t (x0 :: xs) = ((g (x0 :: xs)).bind fun p => (Rz.of (t p.1 p.2)).bind fun δ' => .ok (.nx δ')) := rfl
@[simp] theorem e_rFor (g : DEnv → Rz (List D × DEnv)) (t : D → DEnv → Option DEnv) (f : Run) (x0 : Option O) (xs : DEnv) : rFor g t f (x0 :: xs) = ((g (x0 :: xs)).bind fun p => forR t f p.1 p.2) := rfl
@[simp] theorem e_rAug (i : Nat) (f : D → D → Option D) (g : DEnv → Rz (D × DEnv)) (x0 : Option O) (xs : DEnv) : rAug i f g (x0 :: xs) = (match (x0 :: xs)[i]? with
  | some (some (.fz d)) => (g (x0 :: xs)).bind fun p => (Rz.of (f d p.1)).bind fun x => .ok (.nx (p.2.set i (some (.fz x))))
  | _ => .no) := rfl
@[simp] theorem e_rAugIx (i : Nat) (p : DEnv → Option (List Step × O)) (fi f : DEnv → Option D) (op : D → D → Option D) (x0 : Option O) (xs : DEnv) : rAugIx i p fi f op (x0 :: xs) = (match p (x0 :: xs), fi (x0 :: xs), f (x0 :: xs) with
  | some (π, .lst os), some (.int k), some e => match ixN os.length k with
    | some j => match os[j]? with
      | some (.fz d) => (Rz.of (op d e)).bind fun x => .ok (.nx (putAt (x0 :: xs) i π (.lst (os.set j (.fz x)))))
      | _ => .no
    | none => .no
  | _, _, _ => .no) := rfl
@[simp] theorem e_rSetIx (i : Nat) (g gi : DEnv → Rz (D × DEnv)) (x0 : Option O) (xs : DEnv) : rSetIx i g gi (x0 :: xs) = ((g (x0 :: xs)).bind fun p => match p.2[i]? with
  | some (some (.lst _)) => (gi p.2).bind fun q => match q.2[i]?, q.1 with
    | some (some (.lst os)), .int k => match ixN os.length k with
      | some j => .ok (.nx (q.2.set i (some (.lst (os.set j (.fz p.1))))))
      | none => .no
    | _, _ => .no
  | _ => .no) := rfl
@[simp] theorem e_rApp (i : Nat) (g : DEnv → Rz (O × DEnv)) (x0 : Option O) (xs : DEnv) : rApp i g (x0 :: xs) = (match (x0 :: xs)[i]? with
  | some (some (.lst _)) => (g (x0 :: xs)).bind fun p => appR i p.1 p.2
  | _ => .no) := rfl
@[simp] theorem e_rAppP (i : Nat) (p : DEnv → Option (List Step × O)) (f : DEnv → Option D) (x0 : Option O) (xs : DEnv) : rAppP i p f (x0 :: xs) = (match p (x0 :: xs), f (x0 :: xs) with
  | some (π, .lst os), some d => if os.length < 100000 then .ok (.nx (putAt (x0 :: xs) i π (.lst (os ++ [.fz d])))) else .no
  | _, _ => .no) := rfl
@[simp] theorem e_rAttr (C : Addr) (f : Str) (i : Nat) (g : DEnv → Rz (O × DEnv)) (x0 : Option O) (xs : DEnv) : rAttr C f i g (x0 :: xs) = ((g (x0 :: xs)).bind fun p => attrR C f i p.1 p.2) := rfl
@[simp] theorem e_rDrop (g : DEnv → Rz (D × DEnv)) (x0 : Option O) (xs : DEnv) : rDrop g (x0 :: xs) = ((g (x0 :: xs)).bind fun p => .ok (.nx p.2)) := rfl
@[simp] theorem e_rNext  (x0 : Option O) (xs : DEnv) : rNext  (x0 :: xs) = (.ok (.nx (x0 :: xs))) := rfl
@[simp] theorem e_rBreak  (x0 : Option O) (xs : DEnv) : rBreak  (x0 :: xs) = (.ok (.bk (x0 :: xs))) := rfl
@[simp] theorem e_rCont  (x0 : Option O) (xs : DEnv) : rCont  (x0 :: xs) = (.ok (.ct (x0 :: xs))) := rfl
@[simp] theorem e_rNever  (x0 : Option O) (xs : DEnv) : rNever  (x0 :: xs) = (.no) := rfl
@[simp] theorem e_wL (g : DEnv → Rz (D × DEnv)) (x0 : Option O) (xs : DEnv) : wL g (x0 :: xs) = ((g (x0 :: xs)).bind fun p => match p.1 with
  | .lst l => .ok (l, p.2)
  | .scr l => .ok (l, p.2)
  | _ => .no) := rfl
@[simp] theorem e_wT (g : DEnv → Rz (D × DEnv)) (x0 : Option O) (xs : DEnv) : wT g (x0 :: xs) = ((g (x0 :: xs)).bind fun p => match p.1 with
  | .tup l => .ok (l, p.2)
  | _ => .no) := rfl
@[simp] theorem e_wA (g : DEnv → Rz (D × DEnv)) (x0 : Option O) (xs : DEnv) : wA g (x0 :: xs) = ((g (x0 :: xs)).bind fun p => (Rz.of (anyD p.1)).bind fun l => .ok (l, p.2)) := rfl
@[simp] theorem e_wS (g : DEnv → Rz (D × DEnv)) (x0 : Option O) (xs : DEnv) : wS g (x0 :: xs) = ((g (x0 :: xs)).bind fun p => match p.1 with
  | .str z => .ok (signsD z, p.2)
  | _ => .no) := rfl
@[simp] theorem e_wE (g : DEnv → Rz (List D × DEnv)) (x0 : Option O) (xs : DEnv) : wE g (x0 :: xs) = ((g (x0 :: xs)).bind fun p => match p.1 with
  | [.lst l] => .ok (enumD 0 l, p.2)
  | [.tup l] => .ok (enumD 0 l, p.2)
  | _ => .no) := rfl
@[simp] theorem e_wR1 (g : DEnv → Rz (List D × DEnv)) (x0 : Option O) (xs : DEnv) : wR1 g (x0 :: xs) = ((g (x0 :: xs)).bind fun p => match p.1 with
  | [.int j] => if -(2 ^ 62) ≤ j ∧ j < 2 ^ 62 then .ok (rangeD 0 j.toNat, p.2) else .no
  | _ => .no) := rfl
@[simp] theorem e_wR2 (g : DEnv → Rz (List D × DEnv)) (x0 : Option O) (xs : DEnv) : wR2 g (x0 :: xs) = ((g (x0 :: xs)).bind fun p => match p.1 with
  | [.int i, .int j] => if -(2 ^ 62) ≤ i ∧ i < 2 ^ 62 ∧ -(2 ^ 62) ≤ j ∧ j < 2 ^ 62 then .ok (rangeD i (j - i).toNat, p.2) else .no
  | _ => .no) := rfl
@[simp] theorem e_fS2 (f : D → D → Option D) (fa fb : DEnv → Option D) (x0 : Option O) (xs : DEnv) : fS2 f fa fb (x0 :: xs) = ((fa (x0 :: xs)).bind fun a => (fb (x0 :: xs)).bind fun b => f a b) := rfl
@[simp] theorem e_gSlU (ga : DEnv → Rz (D × DEnv)) (gl gh : DEnv → Rz (Option Int × DEnv)) (x0 : Option O) (xs : DEnv) : gSlU ga gl gh (x0 :: xs) = ((ga (x0 :: xs)).bind fun p => (gl p.2).bind fun q => (gh q.2).bind fun r => match p.1 with
  | .lst ds => .ok (.lst ((cutD ds q.1 r.1).map .fz), r.2)
  | .scr ds => .ok (.lst ((cutD ds q.1 r.1).map .fz), r.2)
  | .tup ds => .ok (.fz (.tup (cutD ds q.1 r.1)), r.2)
  | .str z => if z.length ≤ 100000 then .ok (.fz (.str (cutS z q.1 r.1)), r.2) else .no
  | _ => .no) := rfl
@[simp] theorem e_gTold (hs : Hds) (n : Nat) (Φ : List O → Rz (O × List O)) (ga : DEnv → Rz (List D × DEnv)) (x0 : Option O) (xs : DEnv) : gTold hs n Φ ga (x0 :: xs) = ((ga (x0 :: xs)).nox.bind fun p =>
  if p.1.length = n then (toldR hs (Φ (p.1.map .fz))).bind fun d => .ok (d, p.2) else .no) := rfl
@[simp] theorem e_gCallB (n : Nat) (Φ : List O → Rz (O × List O)) (ga : DEnv → Rz (List Arg × DEnv)) (x0 : Option O) (xs : DEnv) : gCallB n Φ ga (x0 :: xs) = ((ga (x0 :: xs)).bind fun p => gCallBV n Φ p.1 p.2) := rfl
@[simp] theorem e_wZip (g : DEnv → Rz (List D × DEnv)) (x0 : Option O) (xs : DEnv) : wZip g (x0 :: xs) = ((g (x0 :: xs)).bind fun p => match p.1 with
  | [.lst a, .lst b] => .ok (zipD a b, p.2)
  | [.tup a, .tup b] => .ok (zipD a b, p.2)
  | _ => .no) := rfl
@[simp] theorem e_wR3 (g : DEnv → Rz (List D × DEnv)) (x0 : Option O) (xs : DEnv) : wR3 g (x0 :: xs) = ((g (x0 :: xs)).bind fun p => match p.1 with
  | [.int i, .int j, .int c] => if (-(2 ^ 60) ≤ i ∧ i < 2 ^ 60) ∧ (-(2 ^ 60) ≤ j ∧ j < 2 ^ 60) ∧ 0 < c ∧ c < 1073741824 then .ok (stepD i j c, p.2) else .no
  | _ => .no) := rfl
@[simp] theorem e_gDNew  (x0 : Option O) (xs : DEnv) : gDNew  (x0 :: xs) = (.ok (.dk [], (x0 :: xs))) := rfl
@[simp] theorem e_fDGetP (p : DEnv → Option (List Step × O)) (fk : DEnv → Option D) (x0 : Option O) (xs : DEnv) : fDGetP p fk (x0 :: xs) = ((p (x0 :: xs)).bind fun x => (fk (x0 :: xs)).bind fun kd => (keyD kd).bind fun k => match x.2 with
  | .dk kvs => lookK kvs k
  | .fz (.dk kvs) => lookK kvs k
  | _ => none) := rfl
@[simp] theorem e_fDInP (f : Bool → Bool) (p : DEnv → Option (List Step × O)) (fk : DEnv → Option D) (x0 : Option O) (xs : DEnv) : fDInP f p fk (x0 :: xs) = ((p (x0 :: xs)).bind fun x => (fk (x0 :: xs)).bind fun kd => (keyD kd).bind fun k => match x.2 with
  | .dk kvs => some (.bl (f (lookK kvs k).isSome))
  | .fz (.dk kvs) => some (.bl (f (lookK kvs k).isSome))
  | _ => none) := rfl
@[simp] theorem e_rDPut (i : Nat) (p : DEnv → Option (List Step × O)) (fk : DEnv → Option D) (g : DEnv → Rz (D × DEnv)) (x0 : Option O) (xs : DEnv) : rDPut i p fk g (x0 :: xs) = ((g (x0 :: xs)).bind fun q => match p q.2, fk q.2 with
  | some (π, .dk ds), some kd => match keyD kd with
    | some k => if ds.length < 100000 then .ok (.nx (putAt q.2 i π (.dk (putD ds k q.1)))) else .no
    | none => .no
  | _, _ => .no) := rfl
@[simp] theorem e_rRaise (C : Addr) (f : Str) (ga : DEnv → Rz (List D × DEnv)) (x0 : Option O) (xs : DEnv) : rRaise C f ga (x0 :: xs) = ((ga (x0 :: xs)).bind fun p => match p.1 with
  | [d] => .er ⟨C, [(f, d)]⟩
  | _ => .no) := rfl
@[simp] theorem e_fBl_1  : fBl  (.bl b) = (some b) := rfl
@[simp] theorem e_fI2_1 (g : Int → Int → D) : fI2 g (.int a) (.int b) = (some (g a b)) := rfl
@[simp] theorem e_fI2c_1 (C : Int → Int → Prop) [∀ a b, Decidable (C a b)] (g : Int → Int → D) : fI2c C g (.int a) (.int b) = (if C a b then some (g a b) else none) := rfl
@[simp] theorem e_fIx_1  : fIx  (.lst ds) (.int k) = (atI ds k) := rfl
@[simp] theorem e_fIx_2  : fIx  (.tup ds) (.int k) = (atI ds k) := rfl
@[simp] theorem e_fIx_3  : fIx  (.str z) (.int k) = (if z.length ≤ 100000 then (atI z.cps.toList k).map fun c => .str ⟨#[c]⟩ else none) := rfl
@[simp] theorem e_fLen_1  : fLen  ([.lst ds]) = (some (.int (ds.length : Int))) := rfl
@[simp] theorem e_fLen_2  : fLen  ([.tup ds]) = (some (.int (ds.length : Int))) := rfl
@[simp] theorem e_fLen_3  : fLen  ([.str z]) = (if z.length ≤ 100000 then some (.int (z.length : Int)) else none) := rfl
@[simp] theorem e_fInt_1  : fInt  ([.int i]) = (some (.int i)) := rfl
@[simp] theorem e_fInt_2  : fInt  ([.bl b]) = (some (.int (if b then 1 else 0))) := rfl
@[simp] theorem e_fListOf_1  : fListOf  ([.lst ds]) = (some (.new ds)) := rfl
@[simp] theorem e_fListOf_2  : fListOf  ([.tup ds]) = (some (.new ds)) := rfl
@[simp] theorem e_fTupOf_1  : fTupOf  ([.lst ds]) = (some (.tup ds)) := rfl
@[simp] theorem e_fTupOf_2  : fTupOf  ([.tup ds]) = (some (.tup ds)) := rfl
@[simp] theorem e_fAdd_1  : fAdd  (.int a) (.int b) = (some (.dat (.int (a + b)))) := rfl
@[simp] theorem e_fAdd_2  : fAdd  (.lst a) (.lst b) = (if a.length + b.length ≤ 100000 then some (.new (a ++ b)) else none) := rfl
@[simp] theorem e_fAdd_3  : fAdd  (.str a) (.str b) = (if a.length + b.length ≤ 100000 then some (.dat (.str (a ++ b))) else none) := rfl
@[simp] theorem e_fAdd_4  : fAdd  (.tup a) (.tup b) = (if a.length + b.length ≤ 100000 then some (.dat (.tup (a ++ b))) else none) := rfl
@[simp] theorem e_tgTup_1 (n : Nat) (u : List D → DEnv → Option DEnv) : tgTup n u (.tup ds) (δ) = (if ds.length = n then u ds δ else none) := rfl
@[simp] theorem e_tgCons_1 (t : D → DEnv → Option DEnv) (u : List D → DEnv → Option DEnv) : tgCons t u ([]) (u0) = (none) := rfl
@[simp] theorem e_tgCons_2 (t : D → DEnv → Option DEnv) (u : List D → DEnv → Option DEnv) : tgCons t u (d :: r) (δ) = ((t d δ).bind (u r)) := rfl
@[simp] theorem e_tgNil_1  : tgNil  ([]) (δ) = (some δ) := rfl
@[simp] theorem e_finR_1 (pin : List Nat) : finR pin (.nx δ) = ((Rz.of (alO δ pin)).bind fun ps => .ok (.fz .non, ps)) := rfl
@[simp] theorem e_finR_2 (pin : List Nat) : finR pin (.rt o δ) = ((Rz.of (alO δ pin)).bind fun ps => .ok (o, ps)) := rfl
@[simp] theorem e_isInt_1  : isInt  (.int u0) = (some true) := rfl
@[simp] theorem e_isInt_2  : isInt  (.bl u0) = (some true) := rfl
@[simp] theorem e_isInt_3  : isInt  (.non) = (some false) := rfl
@[simp] theorem e_isInt_4  : isInt  (.str u0) = (some false) := rfl
@[simp] theorem e_isInt_5  : isInt  (.lst u0) = (some false) := rfl
@[simp] theorem e_isInt_6  : isInt  (.tup u0) = (some false) := rfl
@[simp] theorem e_isBool_1  : isBool  (.bl u0) = (some true) := rfl
@[simp] theorem e_isBool_2  : isBool  (.int u0) = (some false) := rfl
@[simp] theorem e_isBool_3  : isBool  (.non) = (some false) := rfl
@[simp] theorem e_isBool_4  : isBool  (.str u0) = (some false) := rfl
@[simp] theorem e_isBool_5  : isBool  (.lst u0) = (some false) := rfl
@[simp] theorem e_isBool_6  : isBool  (.tup u0) = (some false) := rfl
@[simp] theorem e_isStr_1  : isStr  (.str u0) = (some true) := rfl
@[simp] theorem e_isStr_2  : isStr  (.bl u0) = (some false) := rfl
@[simp] theorem e_isStr_3  : isStr  (.int u0) = (some false) := rfl
@[simp] theorem e_isStr_4  : isStr  (.non) = (some false) := rfl
@[simp] theorem e_isStr_5  : isStr  (.lst u0) = (some false) := rfl
@[simp] theorem e_isStr_6  : isStr  (.tup u0) = (some false) := rfl
@[simp] theorem e_isTup_1  : isTup  (.tup u0) = (some true) := rfl
@[simp] theorem e_isTup_2  : isTup  (.str u0) = (some false) := rfl
@[simp] theorem e_isTup_3  : isTup  (.bl u0) = (some false) := rfl
@[simp] theorem e_isTup_4  : isTup  (.int u0) = (some false) := rfl
@[simp] theorem e_isTup_5  : isTup  (.non) = (some false) := rfl
@[simp] theorem e_isTup_6  : isTup  (.lst u0) = (some false) := rfl
@[simp] theorem e_isSeq_1  : isSeq  (.tup u0) = (some true) := rfl
@[simp] theorem e_isSeq_2  : isSeq  (.lst u0) = (some true) := rfl
@[simp] theorem e_isSeq_3  : isSeq  (.str u0) = (some false) := rfl
@[simp] theorem e_isSeq_4  : isSeq  (.bl u0) = (some false) := rfl
@[simp] theorem e_isSeq_5  : isSeq  (.int u0) = (some false) := rfl
@[simp] theorem e_isSeq_6  : isSeq  (.non) = (some false) := rfl
@[simp] theorem e_truD_1  : truD  (.non) = (some false) := rfl
@[simp] theorem e_truD_2  : truD  (.bl b) = (some b) := rfl
@[simp] theorem e_truD_3  : truD  (.int i) = (some (i != 0)) := rfl
@[simp] theorem e_truD_4  : truD  (.lst ds) = (some (!ds.isEmpty)) := rfl
@[simp] theorem e_truD_5  : truD  (.tup ds) = (some (!ds.isEmpty)) := rfl
@[simp] theorem e_anyD_1  : anyD  (.lst l) = (some l) := rfl
@[simp] theorem e_anyD_2  : anyD  (.scr l) = (some l) := rfl
@[simp] theorem e_anyD_3  : anyD  (.tup l) = (some l) := rfl
@[simp] theorem e_anyD_4  : anyD  (.str z) = (some (signsD z)) := rfl
@[simp] theorem e_boolsD_1  : boolsD  ([]) = (some []) := rfl
@[simp] theorem e_boolsD_2  : boolsD  (.bl b :: r) = ((boolsD r).map (b :: ·)) := rfl
@[simp] theorem e_intsD_1  : intsD  ([]) = (some []) := rfl
@[simp] theorem e_intsD_2  : intsD  (.int i :: r) = ((intsD r).map (i :: ·)) := rfl
@[simp] theorem e_fAll_1  : fAll  ([.lst ds]) = ((boolsD ds).map fun bs => .bl (bs.all id)) := rfl
@[simp] theorem e_fAny_1  : fAny  ([.lst ds]) = ((boolsD ds).map fun bs => .bl (bs.any id)) := rfl
@[simp] theorem e_fSum_1  : fSum  ([.lst ds]) = ((intsD ds).map fun ns => .int ns.sum) := rfl
@[simp] theorem e_Dx_o_1  : Dx.o  (.dat x) = (.fz x) := rfl
@[simp] theorem e_Dx_o_2  : Dx.o  (.new xs) = (.lst (xs.map .fz)) := rfl
@[simp] theorem e_O_toD_1  : O.toD  (.fz d) = (d) := rfl
@[simp] theorem e_O_toD_2  : O.toD  (.lst l) = (.lst (O.toDL l)) := rfl
@[simp] theorem e_O_toD_3  : O.toD  (.dk k) = (.dk k) := rfl
@[simp] theorem e_O_toD_4  : O.toD  (.dt k) = (.dt k) := rfl
@[simp] theorem e_O_toD_5  : O.toD  (.ins C fs) = (.obj C (O.toDF fs)) := rfl
@[simp] theorem e_O_toDL_1  : O.toDL  ([]) = ([]) := rfl
@[simp] theorem e_O_toDL_2  : O.toDL  (o :: r) = (o.toD :: O.toDL r) := rfl
@[simp] theorem e_O_toDF_1  : O.toDF  ([]) = ([]) := rfl
@[simp] theorem e_O_toDF_2  : O.toDF  ((f, o) :: r) = ((f, o.toD) :: O.toDF r) := rfl
@[simp] theorem e_alI_1  : alI  ([]) = ([]) := rfl
@[simp] theorem e_alI_2  : alI  (.d u0 :: r) = (alI r) := rfl
@[simp] theorem e_alI_3  : alI  (.al i :: r) = (i :: alI r) := rfl
@[simp] theorem e_alP_1 (k : Nat) : alP k ([]) = ([]) := rfl
@[simp] theorem e_alP_2 (k : Nat) : alP k (.d u0 :: r) = (alP (k + 1) r) := rfl
@[simp] theorem e_alP_3 (k : Nat) : alP k (.al u0 :: r) = (k :: alP (k + 1) r) := rfl
@[simp] theorem e_isNonD_1  : isNonD  (.non) = (true) := rfl
@[simp] theorem e_fIsN_1 (d : D) : fIsN d (.non) = (some (.bl (isNonD d))) := rfl
@[simp] theorem e_fNotN_1 (d : D) : fNotN d (.non) = (some (.bl (!isNonD d))) := rfl
@[simp] theorem e_fIn_1 (neg : Bool) (x : D) : fIn neg x (.lst ds) = (if x.flat = true ∧ ds.all D.flat = true then some (.bl (if neg then !inD x ds else inD x ds)) else none) := rfl
@[simp] theorem e_fIn_2 (neg : Bool) (x : D) : fIn neg x (.tup ds) = (if x.flat = true ∧ ds.all D.flat = true then some (.bl (if neg then !inD x ds else inD x ds)) else none) := rfl
@[simp] theorem e_forR_1 (t : D → DEnv → Option DEnv) (f : Run) : forR t f ([]) (δ) = (.ok (.nx δ)) := rfl
@[simp] theorem e_forR_2 (t : D → DEnv → Option DEnv) (f : Run) : forR t f (d :: r) (δ) = ((Rz.of (t d δ)).bind fun δ' => (f δ').bind fun o => loopR o (forR t f r)) := rfl
@[simp] theorem e_fNeg_1  : fNeg  (.int i) = (some (.int (-i))) := rfl
@[simp] theorem e_fGcd_1  : fGcd  ([.int a, .int b]) = (some (.int ((Nat.gcd a.natAbs b.natAbs : Nat) : Int))) := rfl
@[simp] theorem e_fLcm_1  : fLcm  ([.int a, .int b]) = (if a.natAbs < 1000000000000 ∧ b.natAbs < 1000000000000 then some (.int ((Nat.lcm a.natAbs b.natAbs : Nat) : Int)) else none) := rfl
@[simp] theorem e_fRepT_1  : fRepT  (.tup ds) (.int k) = (if ds ≠ [] ∧ 2 ≤ k ∧ k ≤ 1000 ∧ ds.length ≤ 1000 then some (.tup (List.replicate k.toNat ds).flatten) else none) := rfl
@[simp] theorem e_fRepL_1  : fRepL  (.lst ds) (.int k) = (if 0 ≤ k ∧ k ≤ 100000 ∧ ds.length * k.toNat ≤ 100000 then some (.new (List.replicate k.toNat ds).flatten) else none) := rfl
@[simp] theorem e_keyD_1  : keyD  (.int i) = (some (.inl i)) := rfl
@[simp] theorem e_keyD_2  : keyD  (.str x) = (some (.inr x)) := rfl
@[simp] theorem e_lookAll_1 (l : List (Str × D)) : lookAll l ([]) = (some []) := rfl
@[simp] theorem e_lookAll_2 (l : List (Str × D)) : lookAll l (f :: r) = ((l.lookup f).bind fun d => (lookAll l r).bind fun ds => some (d :: ds)) := rfl
@[simp] theorem e_toldX_1  : toldX  ([]) (u0) = (none) := rfl
@[simp] theorem e_toldX_2  : toldX  ((C, nm, fs) :: r) (x) = (if C = x.C then (lookAll x.fs fs).map fun ds => .tup (.str nm :: ds) else toldX r x) := rfl
@[simp] theorem e_toldR_1 (hs : Hds) : toldR hs (.ok (o, [])) = (.ok (.tup [.str "value", o.toD])) := rfl
@[simp] theorem e_toldR_2 (hs : Hds) : toldR hs (.er x) = (Rz.of (toldX hs x)) := rfl
@[simp] theorem e_clean_1  : clean  (.fz d) = (d.flat) := rfl
@[simp] theorem e_clean_2  : clean  (.lst l) = (cleanL l) := rfl
@[simp] theorem e_clean_3  : clean  (.dk k) = (k.all fun x => x.2.flat) := rfl
@[simp] theorem e_clean_4  : clean  (.dt k) = (k.all fun x => x.2.flat) := rfl
@[simp] theorem e_clean_5  : clean  (.ins u0 fs) = (cleanF fs) := rfl
@[simp] theorem e_cleanL_1  : cleanL  ([]) = (true) := rfl
@[simp] theorem e_cleanL_2  : cleanL  (o :: r) = (clean o && cleanL r) := rfl
@[simp] theorem e_cleanF_1  : cleanF  ([]) = (true) := rfl
@[simp] theorem e_cleanF_2  : cleanF  ((u0, o) :: r) = (clean o && cleanF r) := rfl
@[simp] theorem e_fDGet_1  : fDGet  (.dk kvs) (k) = ((keyD k).bind fun k => lookK kvs k) := rfl
@[simp] theorem e_fDIn_1 (f : Bool → Bool) : fDIn f (k) (.dk kvs) = ((keyD k).bind fun k => some (.bl (f (lookK kvs k).isSome))) := rfl
@[simp] theorem e_fMax2_1  : fMax2  ([.int a, .int b]) = (some (.int (max a b))) := rfl
@[simp] theorem e_fMin2_1  : fMin2  ([.int a, .int b]) = (some (.int (min a b))) := rfl
@[simp] theorem e_loop1 (k : Run) (δ : DEnv) : loopR (.nx δ) k = k δ := rfl
@[simp] theorem e_loop2 (k : Run) (δ : DEnv) : loopR (.ct δ) k = k δ := rfl
@[simp] theorem e_loop3 (k : Run) (δ : DEnv) : loopR (.bk δ) k = .ok (.nx δ) := rfl
@[simp] theorem e_loop4 (k : Run) (o : O) (δ : DEnv) : loopR (.rt o δ) k = .ok (.rt o δ) := rfl
@[simp] theorem e_mix1 (l : List O) : mixO [] l = [] := rfl
@[simp] theorem e_mix2 (d : D) (r : List Arg) (l : List O) : mixO (.d d :: r) l = .fz d :: mixO r l := rfl
@[simp] theorem e_mix3 (i : Nat) (r : List Arg) (o : O) (l : List O) : mixO (.al i :: r) (o :: l) = o :: mixO r l := rfl
@[simp] theorem e_setS1 (δ : DEnv) (l : List O) : setS δ [] l = δ := by cases l <;> rfl
@[simp] theorem e_setS2 (x0 : Option O) (xs : DEnv) (i : Nat) (r : List Nat) (o : O) (l : List O) : setS (x0 :: xs) (i :: r) (o :: l) = setS ((x0 :: xs).set i (some o)) r l := rfl
@[simp] theorem e_appR (i : Nat) (o : O) (x0 : Option O) (xs : DEnv) : appR i o (x0 :: xs) = (match (x0 :: xs)[i]? with
  | some (some (.lst l)) => if l.length < 100000 then .ok (.nx ((x0 :: xs).set i (some (.lst (l ++ [o]))))) else .no
  | _ => .no) := rfl
@[simp] theorem e_attrR (C : Addr) (f : Str) (i : Nat) (o : O) (x0 : Option O) (xs : DEnv) : attrR C f i o (x0 :: xs) = (match (x0 :: xs)[i]? with
  | some (some (.ins C' fs)) => if C' = C ∧ fs.length < 1000 then .ok (.nx ((x0 :: xs).set i (some (.ins C' (putA f o fs))))) else .no
  | _ => .no) := rfl
@[simp] theorem e_gCallV (n : Nat) (cp : List Nat) (Φ : List O → Rz (O × List O)) (as : List Arg) (x0 : Option O) (xs : DEnv) : gCallV n cp Φ as (x0 :: xs) =
  (if as.length = n ∧ alP 0 as = cp ∧ (alI as).Nodup then (Rz.of (alO (x0 :: xs) (alI as))).bind fun l => (Φ (mixO as l)).bind fun q => if q.2.length = cp.length then .ok (q.1, setS (x0 :: xs) (alI as) q.2) else .no else .no) := rfl
@[simp] theorem e_gCallBV (n : Nat) (Φ : List O → Rz (O × List O)) (as : List Arg) (x0 : Option O) (xs : DEnv) : gCallBV n Φ as (x0 :: xs) =
  (if as.length = n then (Rz.of (alO (x0 :: xs) (alI as))).bind fun l => match Φ (mixO as (l.map fun o => .fz o.toD)) with
    | .ok (o, []) => if clean o = true then .ok (o, (x0 :: xs)) else .no
    | _ => .no else .no) := rfl
@[simp] theorem e_putAt (x0 : Option O) (xs : DEnv) (i : Nat) (π : List Step) (o' : O) : putAt (x0 :: xs) i π o' = (match (x0 :: xs)[i]? with
  | some (some o) => (x0 :: xs).set i (some (O.put o' π o))
  | _ => (x0 :: xs)) := rfl
@[simp] theorem e_tgN (i : Nat) (d : D) (x0 : Option O) (xs : DEnv) : tgN i d (x0 :: xs) = some ((x0 :: xs).set i (some (.fz d))) := rfl
@[simp] theorem e_alO1 (δ : DEnv) : alO δ [] = some [] := rfl
@[simp] theorem e_alO2 (x0 : Option O) (xs : DEnv) (i : Nat) (r : List Nat) : alO (x0 :: xs) (i :: r) = (match (x0 :: xs)[i]? with
  | some (some o) => (alO (x0 :: xs) r).map (o :: ·)
  | _ => none) := rfl
@[simp] theorem e_backD1 (δ δ' : DEnv) : backD δ δ' [] = δ' := rfl
@[simp] theorem e_backD2 (δ δ' : DEnv) (v : Nat) (r : List Nat) : backD δ δ' (v :: r) = (backD δ δ' r).set v ((δ[v]?).getD none) := rfl
@[simp] theorem e_wipeD1 (δ : DEnv) : wipeD δ [] = δ := rfl
@[simp] theorem e_wipeD2 (x0 : Option O) (xs : DEnv) (v : Nat) (r : List Nat) : wipeD (x0 :: xs) (v :: r) = (wipeD (x0 :: xs) r).set v none := rfl
@[simp] theorem e_plain1 (δ : DEnv) : plainAt δ [] = true := rfl
@[simp] theorem e_plain2 (x0 : Option O) (xs : DEnv) (v : Nat) (r : List Nat) : plainAt (x0 :: xs) (v :: r) = ((match (x0 :: xs)[v]? with
  | some (some (.fz _)) => true
  | some none => true
  | _ => false) && plainAt (x0 :: xs) r) := rfl
@[simp] theorem e_fEq (d e : D) : fEq d e = (fEqB d e).map .bl := rfl
@[simp] theorem e_fNe (d e : D) : fNe d e = (fEqB d e).map fun b => .bl (!b) := rfl
@[simp] theorem e_eqI (a b : Int) : fEqB (.int a) (.int b) = some (decide (a = b)) := rfl
@[simp] theorem e_eqB (a b : Bool) : fEqB (.bl a) (.bl b) = some (decide (a = b)) := rfl
@[simp] theorem e_eqS (a b : Str) : fEqB (.str a) (.str b) = some (decide (a = b)) := rfl
@[simp] theorem e_eqNN : fEqB .non .non = some true := rfl
@[simp] theorem e_eqNS (a : Str) : fEqB .non (.str a) = some false := rfl
@[simp] theorem e_eqSN (a : Str) : fEqB (.str a) .non = some false := rfl
@[simp] theorem e_eqNI (a : Int) : fEqB .non (.int a) = some false := rfl
@[simp] theorem e_eqIN (a : Int) : fEqB (.int a) .non = some false := rfl
@[simp] theorem e_nox1 {α : Type} (a : α) : (Rz.ok a).nox = .ok a := rfl
@[simp] theorem e_get (o : O) : O.get [] o = some o := rfl
@[simp] theorem e_put (o' o : O) : O.put o' [] o = o' := rfl
@[simp] theorem e_putF (o' : O) (f : Str) (π : List Step) (C : Addr) (fs : List (Str × O)) : O.put o' (.at f :: π) (.ins C fs) = (fs.lookup f).elim (.ins C fs) fun x => .ins C (putA f (O.put o' π x) fs) := rfl
@[simp] theorem e_putI (o' : O) (n : Nat) (π : List Step) (l : List O) : O.put o' (.ix n :: π) (.lst l) = (l[n]?).elim (.lst l) fun x => .lst (l.set n (O.put o' π x)) := rfl
@[simp] theorem e_putA1 {α : Type} (f : Str) (v : α) : putA f v [] = [(f, v)] := rfl
@[simp] theorem e_putA2 {α : Type} (f g : Str) (v x : α) (r : List (Str × α)) : putA f v ((g, x) :: r) = if g = f then (g, v) :: r else (g, x) :: putA f v r := rfl

end DL

/-! DLW: evaluation from the head. -/
namespace DL
open PySem L2
theorem if_y {α : Type} {p : Prop} [Decidable p] (a b : α) (h : p) : (if p then a else b) = a := if_pos h
/-- the item at a place that is there -/
theorem atI_of {α : Type} {xs : List α} {i : Int} {v : α} (h0 : 0 ≤ i) (h : xs[i.toNat]? = some v) : atI xs i = some v := by
  have := atI_nat h
  rwa [Int.toNat_of_nonneg h0] at this
theorem atI_at {α : Type} {xs : List α} {i : Int} (h0 : 0 ≤ i) (h : i < xs.length) : ∃ v, atI xs i = some v ∧ v ∈ xs := by
  have hl : i.toNat < xs.length := by omega
  exact ⟨xs[i.toNat], atI_of h0 (by simp [hl]), List.getElem_mem hl⟩
theorem atI_int {row : List Int} {i : Int} (h0 : 0 ≤ i) (h : i < row.length) : ∃ n, atI (row.map D.int) i = some (.int n) := by
  obtain ⟨v, h1, h2⟩ := atI_at (xs := row.map D.int) h0 (by simpa using h)
  obtain ⟨n, _, rfl⟩ := List.mem_map.mp h2
  exact ⟨n, h1⟩
@[simp] theorem e_ixN0 (n : Nat) (i : Int) : ixN n i = if 0 ≤ i then (if i < n then some i.toNat else none) else if -(n : Int) ≤ i then some (i + n).toNat else none := rfl
/-- range(n) -/
theorem rng1 {g : DEnv → Rz (D × DEnv)} {n : Nat} {x : Option O} {xs δ' : DEnv} (h : g (x :: xs) = .ok (.int (n : Int), δ')) (hx : ∃ y ys, δ' = y :: ys) (hn : n ≤ 1000000) : wR1 (gaCons g gaNil) (x :: xs) = .ok (rangeD 0 n, δ') := by
  obtain ⟨y, ys, rfl⟩ := hx
  have e : gaCons g gaNil (x :: xs) = .ok ([.int (n : Int)], y :: ys) := by
    rw [e_gaCons, h]; rfl
  have c : -(2 ^ 62) ≤ (n : Int) ∧ (n : Int) < 2 ^ 62 := by
    have : (2 : Int) ^ 62 = 4611686018427387904 := by decide
    rw [this]; omega
  rw [e_wR1, e, Rz.bind_ok]
  show (if -(2 ^ 62) ≤ (n : Int) ∧ (n : Int) < 2 ^ 62 then Rz.ok (rangeD 0 (n : Int).toNat, y :: ys) else .no) = _
  rw [if_pos c, Int.toNat_natCast]
/-! ### loops -/
def stepOk (I : DEnv → Prop) (P : Out → Prop) : Out → Prop
  | .nx δ => I δ
  | .ct δ => I δ
  | .bk δ => P (.nx δ)
  | .rt o δ => P (.rt o δ)
theorem forR_gen {t : D → DEnv → Option DEnv} {f : Run} {P : Out → Prop} : ∀ (ds : List D) (I : Nat → DEnv → Prop) (δ : DEnv), (∀ δ, I ds.length δ → P (.nx δ)) →
    (∀ i d δ, ds[i]? = some d → I i δ → ∃ δ1, t d δ = some δ1 ∧ ∃ o, f δ1 = .ok o ∧ stepOk (I (i + 1)) P o) → I 0 δ → ∃ o, forR t f ds δ = .ok o ∧ P o
  | [], I, δ, he, _, h0 => ⟨.nx δ, rfl, he δ h0⟩
  | d :: r, I, δ, he, hs, h0 => by
    obtain ⟨δ1, e1, o, e2, k⟩ := hs 0 d δ rfl h0
    have go : ∀ δ2, I 1 δ2 → ∃ o, forR t f r δ2 = .ok o ∧ P o := fun δ2 h => forR_gen r (fun i => I (i + 1)) δ2 he (fun i d δ h => hs (i + 1) d δ (by simpa using h)) h
    unfold forR
    rw [e1, Rz.of_some, Rz.bind_ok, e2, Rz.bind_ok]
    cases o with
    | nx δ2 => exact go δ2 k
    | ct δ2 => exact go δ2 k
    | bk δ2 => exact ⟨_, rfl, k⟩
    | rt u δ2 => exact ⟨_, rfl, k⟩
/-- a loop that runs to its end -/
theorem forR_inv {t : D → DEnv → Option DEnv} {f : Run} (ds : List D) (I : Nat → DEnv → Prop) (δ : DEnv)
    (hs : ∀ i d δ, ds[i]? = some d → I i δ → ∃ δ1, t d δ = some δ1 ∧ ∃ δ2, f δ1 = .ok (.nx δ2) ∧ I (i + 1) δ2) (h0 : I 0 δ) : ∃ δ', forR t f ds δ = .ok (.nx δ') ∧ I ds.length δ' := by
  obtain ⟨o, e, δ', rfl, h⟩ := forR_gen (P := fun o => ∃ δ', o = .nx δ' ∧ I ds.length δ') ds I δ (fun δ h => ⟨δ, rfl, h⟩) (fun i d δ h h' => by
    obtain ⟨δ1, a, δ2, b, k⟩ := hs i d δ h h'
    exact ⟨δ1, a, _, b, k⟩) h0
  exact ⟨δ', e, h⟩
theorem rWhile_gen {g : DEnv → Rz (Bool × DEnv)} {f : Run} {P : Out → Prop} (μ : DEnv → Nat) (I : DEnv → Prop)
    (hs : ∀ δ, I δ → ∃ b δ1, g δ = .ok (b, δ1) ∧ (b = false → P (.nx δ1)) ∧ (b = true → ∃ o, f δ1 = .ok o ∧ stepOk (fun δ2 => I δ2 ∧ μ δ2 < μ δ) P o)) :
    ∀ (n : Nat) (δ : DEnv), μ δ ≤ n → I δ → ∃ o, rWhile g f δ = .ok o ∧ P o
  | n, δ, hn, h => by
    obtain ⟨b, δ1, e1, k1, k2⟩ := hs δ h
    rw [rWhile_eq, e1, Rz.bind_ok]
    cases b with
    | false => exact ⟨_, rfl, k1 rfl⟩
    | true =>
      obtain ⟨o, e2, k⟩ := k2 rfl
      rw [if_pos rfl, e2, Rz.bind_ok]
      cases o with
      | nx δ2 =>
        cases n with
        | zero => have := k.2; omega
        | succ m => exact rWhile_gen μ I hs m δ2 (by have := k.2; omega) k.1
      | ct δ2 =>
        cases n with
        | zero => have := k.2; omega
        | succ m => exact rWhile_gen μ I hs m δ2 (by have := k.2; omega) k.1
      | bk δ2 => exact ⟨_, rfl, k⟩
      | rt u δ2 => exact ⟨_, rfl, k⟩
theorem lcL_gen {tg : D → DEnv → Option DEnv} {gt : DEnv → Rz (Bool × DEnv)} {ge : DEnv → Rz (O × DEnv)} {vs : List Nat} : ∀ (ds : List D) (I : Nat → List O → DEnv → Prop) (acc : List O) (δ : DEnv),
    (∀ i d acc δ, ds[i]? = some d → I i acc δ → ∃ δ1 b δ2, tg d δ = some δ1 ∧ gt δ1 = .ok (b, δ2) ∧ (b = false → I (i + 1) acc (wipeD δ2 vs)) ∧ (b = true → ∃ o δ3, ge δ2 = .ok (o, δ3) ∧ I (i + 1) (acc ++ [o]) (wipeD δ3 vs))) →
    I 0 acc δ → ∃ l δ', lcL tg gt ge vs ds δ = .ok (l, δ') ∧ I ds.length (acc ++ l) δ'
  | [], I, acc, δ, _, h0 => ⟨[], δ, rfl, by rw [List.append_nil]; exact h0⟩
  | d :: r, I, acc, δ, hs, h0 => by
    obtain ⟨δ1, b, δ2, e1, e2, k1, k2⟩ := hs 0 d acc δ rfl h0
    have go : ∀ acc' δ', I 1 acc' δ' → ∃ l δ'', lcL tg gt ge vs r δ' = .ok (l, δ'') ∧ I (r.length + 1) (acc' ++ l) δ'' := fun acc' δ' h =>
      lcL_gen r (fun i => I (i + 1)) acc' δ' (fun i d acc δ h => hs (i + 1) d acc δ (by simpa using h)) h
    unfold lcL
    rw [e1, Rz.of_some, Rz.bind_ok, e2, e_nox1, Rz.bind_ok]
    cases b with
    | false =>
      obtain ⟨l, δ', e, k⟩ := go acc _ (k1 rfl)
      exact ⟨l, δ', by simpa using e, k⟩
    | true =>
      obtain ⟨o, δ3, e3, k3⟩ := k2 rfl
      obtain ⟨l, δ', e, k⟩ := go _ _ k3
      refine ⟨o :: l, δ', ?_, ?_⟩
      · simp only [if_pos, e3, e_nox1, Rz.bind_ok, e]
      · rw [List.append_assoc] at k; exact k
/-- a comprehension that touches nothing -/
theorem lcL_map {tg : D → DEnv → Option DEnv} {gt : DEnv → Rz (Bool × DEnv)} {ge : DEnv → Rz (O × DEnv)} {vs : List Nat} (G : D → Bool) (E : D → O) (δ : DEnv) : ∀ ds : List D,
    (∀ d ∈ ds, ∃ δ1 δ2, tg d δ = some δ1 ∧ gt δ1 = .ok (G d, δ2) ∧ (G d = false → wipeD δ2 vs = δ) ∧ (G d = true → ∃ δ3, ge δ2 = .ok (E d, δ3) ∧ wipeD δ3 vs = δ)) → lcL tg gt ge vs ds δ = .ok ((ds.filter G).map E, δ)
  | [], _ => rfl
  | d :: r, h => by
    obtain ⟨δ1, δ2, e1, e2, k1, k2⟩ := h d (by simp)
    have ih := lcL_map G E δ r fun d hd => h d (by simp [hd])
    unfold lcL
    rw [e1, Rz.of_some, Rz.bind_ok, e2, e_nox1, Rz.bind_ok]
    cases hb : G d with
    | false =>
      rw [List.filter_cons_of_neg (by simp [hb])]
      simp only [k1 hb, ih]
      rfl
    | true =>
      obtain ⟨δ3, e3, k3⟩ := k2 hb
      rw [List.filter_cons_of_pos (by simp [hb])]
      simp only [if_pos, e3, e_nox1, Rz.bind_ok, k3, ih, List.map_cons]
end DL

namespace DL
open PySem L2

/-! ### the numbers, the draws -/
abbrev ints_ (row : List Int) : D := .lst (row.map D.int)
abbrev intsO (row : List Int) : O := .lst (row.map fun n => .fz (.int n))
theorem intsO_snoc (row : List Int) (n : Int) : O.lst ((row.map fun n => O.fz (.int n)) ++ [.fz (.int n)]) = intsO (row ++ [n]) := by simp [intsO]
theorem intsO_toD (row : List Int) : (intsO row).toD = ints_ row := by
  simp [intsO, ints_, toDL_map, Function.comp_def]
theorem rangeD_get {lo : Int} {n i : Nat} {d : D} (h : (rangeD lo n)[i]? = some d) : i < n ∧ d = .int (lo + (i : Nat)) := by
  unfold rangeD at h
  rw [List.getElem?_map] at h
  cases q : (List.range n)[i]? with
  | none => rw [q] at h; cases h
  | some j =>
    rw [q] at h
    obtain ⟨hk, e2⟩ := List.getElem?_eq_some_iff.mp q
    rw [List.getElem_range] at e2
    subst e2
    cases h
    exact ⟨by simpa using hk, rfl⟩
theorem rangeD_len (lo : Int) (n : Nat) : (rangeD lo n).length = n := by simp [rangeD]
theorem b1_numbers (c : Cs) (s : O) (row : List Int) (x n k : Int) (w : Option O) (h : row.length < 100000) :
    body1_law_numbers c [some s, some (intsO row), some (.fz (.int x)), some (.fz (.int n)), some (.fz (.int k)), w] =
      if n = 0 then .ok (.bk [some s, some (intsO row), some (.fz (.int x)), some (.fz (.int n)), some (.fz (.int k)), w])
      else .ok (.nx [some s, some (intsO (row ++ [n % 997])), some (.fz (.int x)), some (.fz (.int (n / 997))), some (.fz (.int k)), w]) := by
  by_cases hn : n = 0
  · subst hn; simp [body1_law_numbers]
  · simp [body1_law_numbers, hn, h]
theorem b2_numbers (c : Cs) (s : O) (row : List Int) (x k : Int) (v w : Option O) (h : row.length < 100000) :
    ∃ m r : Int, body2_law_numbers c [some s, some (intsO row), some (.fz (.int x)), v, some (.fz (.int k)), w] =
      .ok (.nx [some s, some (intsO (row ++ [r])), some (.fz (.int x)), v, some (.fz (.int k)), some (.fz (.int m))]) := by
  refine ⟨(x * 48271 + k * 69621 + 11) % 2147483647, ((x * 48271 + k * 69621 + 11) % 2147483647 * 16807 + k) % 2147483629, ?_⟩
  simp [body2_law_numbers, h]
def NumI (s : O) (m : Nat) (δ : DEnv) : Prop := ∃ (row : List Int) (a b d e : Option O), δ = [some s, some (intsO row), a, b, d, e] ∧ row.length ≤ m
theorem b3_numbers (c : Cs) (s : O) (m : Nat) (hm : m ≤ 5000) (z : Int) (δ : DEnv) (h : NumI s m δ) : ∃ δ', body3_law_numbers c (δ.set 2 (some (.fz (.int z)))) = .ok (.nx δ') ∧ NumI s (m + 60) δ' := by
  obtain ⟨row, a, b, d, e, rfl, hr⟩ := h
  by_cases hz : (1000000000000000000 : Int) ≤ z
  · have L := forR_gen (t := tgN 4) (f := body1_law_numbers c) (P := fun o => ∃ δ', o = .nx δ' ∧ NumI s (m + 60) δ') (rangeD 0 60)
      (fun i δ => ∃ (row : List Int) (n : Int) (d : Option O), δ = [some s, some (intsO row), some (.fz (.int z)), some (.fz (.int n)), d, e] ∧ row.length ≤ m + i)
      [some s, some (intsO row), some (.fz (.int z)), some (.fz (.int z)), d, e]
      (fun δ h => by
        obtain ⟨row, n, d, rfl, h⟩ := h
        rw [rangeD_len] at h
        exact ⟨_, rfl, row, _, _, _, _, rfl, h⟩)
      (fun i x δ hx h => by
        obtain ⟨row, n, d, rfl, h⟩ := h
        obtain ⟨hi, rfl⟩ := rangeD_get hx
        refine ⟨_, rfl, ?_⟩
        show ∃ o, body1_law_numbers c [_, _, _, _, some (.fz (.int _)), _] = _ ∧ _
        rw [b1_numbers _ _ _ _ _ _ _ (by omega)]
        by_cases hn : n = 0
        · rw [if_pos hn]
          exact ⟨_, rfl, _, rfl, row, _, _, _, _, rfl, by omega⟩
        · rw [if_neg hn]
          exact ⟨_, rfl, _, n / 997, _, rfl, by simp; omega⟩) ⟨row, z, d, rfl, by omega⟩
    obtain ⟨o, e1, δ', rfl, k⟩ := L
    refine ⟨δ', ?_, k⟩
    simp [body3_law_numbers, hz, e1]
  · have L := forR_inv (t := tgN 4) (f := body2_law_numbers c) (rangeD 0 4)
      (fun i δ => ∃ (row : List Int) (d e : Option O), δ = [some s, some (intsO row), some (.fz (.int z)), b, d, e] ∧ row.length ≤ m + i)
      [some s, some (intsO row), some (.fz (.int z)), b, d, e]
      (fun i x δ hx h => by
        obtain ⟨row, d, e, rfl, h⟩ := h
        obtain ⟨hi, rfl⟩ := rangeD_get hx
        refine ⟨_, rfl, ?_⟩
        obtain ⟨u, r, q⟩ := b2_numbers c s row z (0 + (i : Nat)) b e (by omega)
        exact ⟨_, q, _, _, _, rfl, by simp; omega⟩) ⟨row, d, e, rfl, by omega⟩
    obtain ⟨δ', e1, row', d', e', rfl, k⟩ := L
    rw [rangeD_len] at k
    refine ⟨[some s, some (intsO row'), some (.fz (.int z)), b, d', e'], ?_, row', _, _, _, _, rfl, by omega⟩
    simp [body3_law_numbers, hz, e1]
theorem numbers_ok (c : Cs) (ns : List Int) (hs : ns.length ≤ 63) : ∃ row : List Int, row ≠ [] ∧ phi_law_numbers c [scrO ns] = .ok (.fz (ints_ row), []) := by
  have L := forR_inv (t := tgN 2) (f := body3_law_numbers c) (ns.map D.int) (fun i δ => NumI (scrO ns) (60 * i) δ) [some (scrO ns), some (intsO []), none, none, none, none]
    (fun i d δ hd h => by
      refine ⟨_, rfl, ?_⟩
      rw [List.getElem?_map] at hd
      cases q : ns[i]? with
      | none => rw [q] at hd; cases hd
      | some z =>
        rw [q] at hd; cases hd
        have hi := (List.getElem?_eq_some_iff.mp q).1
        obtain ⟨δ', e, k⟩ := b3_numbers c (scrO ns) (60 * i) (by omega) z δ h
        exact ⟨δ', e, by rw [Nat.mul_add]; exact k⟩) ⟨[], _, _, _, _, rfl, by simp⟩
  obtain ⟨δ', e, row, a, b, d, f, rfl, hr⟩ := L
  have ec : cutD (ns.map D.int) none (some 63) = ns.map D.int := by
    unfold cutD HT.sIx
    simp
    rw [List.take_of_length_le (by simp; omega)]
  rw [List.length_map] at hr
  refine ⟨if row = [] then [0] else row, by split <;> simp_all, ?_⟩
  rw [go_law_numbers]
  by_cases h0 : row = []
  · subst h0
    simp [run_law_numbers, ec, toDL_map, Function.comp_def, e, intsO] at e ⊢
    simp [e]
  · simp [run_law_numbers, ec, toDL_map, Function.comp_def, h0, intsO] at e ⊢
    simp [e, h0, toDL_map, Function.comp_def]
theorem draw_ok (c : Cs) (row : List Int) (hr : row ≠ []) (at_ : Int) (h0 : 0 ≤ at_) (lim : Int) (hl : 0 < lim) :
    ∃ r, 0 ≤ r ∧ r < lim ∧ phi_law_draw c [.fz (ints_ row), .fz (.int at_), .fz (.int lim)] = .ok (.fz (.int r), []) := by
  have hp : 0 < row.length := List.length_pos_iff.mpr hr
  have bd : ∀ x : Int, 0 ≤ x % lim ∧ x % lim < lim := fun x => ⟨Int.emod_nonneg _ (by omega), Int.emod_lt_of_pos _ hl⟩
  rw [go_law_draw]
  by_cases h : at_ < (row.length : Int)
  · obtain ⟨n, hn⟩ := atI_int h0 h
    refine ⟨n % lim, (bd _).1, (bd _).2, ?_⟩
    simp [run_law_draw, h, hn, hl]
  · obtain ⟨n, hn⟩ := atI_int (row := row) (i := at_ % (row.length : Int)) (Int.emod_nonneg _ (by omega)) (Int.emod_lt_of_pos _ (by omega))
    refine ⟨((n * 40692 + at_ * 7919 + 3) % 2147483399 * 48271 + at_) % 2147483647 % lim, (bd _).1, (bd _).2, ?_⟩
    simp [run_law_draw, h, hn, hl, hp]
abbrev spotO (p : Nat) : O := .lst [.fz (.int (p : Int))]
theorem take_ok (c : Cs) (row : List Int) (hr : row ≠ []) (p : Nat) (lim : Int) (hl : 0 < lim) :
    ∃ r, 0 ≤ r ∧ r < lim ∧ phi_law_take c [.fz (ints_ row), spotO p, .fz (.int lim)] = .ok (.fz (.int r), [spotO (p + 1)]) := by
  obtain ⟨r, h1, h2, h3⟩ := draw_ok c row hr p (by omega) lim hl
  refine ⟨r, h1, h2, ?_⟩
  have e : ((p : Int) + 1 - 1) = p := by omega
  rw [go_law_take]
  simp [run_law_take, e, h3]
theorem pick_ok (c : Cs) (row : List Int) (hr : row ≠ []) (p : Nat) (things : List D) (ht : things ≠ []) :
    ∃ x ∈ things, phi_law_pick c [.fz (ints_ row), spotO p, .fz (.lst things)] = .ok (.fz x, [spotO (p + 1)]) := by
  have hp : 0 < things.length := List.length_pos_iff.mpr ht
  obtain ⟨r, h1, h2, h3⟩ := take_ok c row hr p things.length (by omega)
  obtain ⟨x, e1, e2⟩ := atI_at h1 h2
  refine ⟨x, e2, ?_⟩
  rw [go_law_pick]
  simp [run_law_pick, h3, e1]
end DL

/-! S1: starts that stay apart: the search, in plain Lean. -/
namespace DL
/-- the first number from lo on, n of them, that gives something -/
def ff {α : Type} (f : Nat → Option α) : Nat → Nat → Option α
  | _, 0 => none
  | lo, n + 1 => match f lo with
    | some x => some x
    | none => ff f (lo + 1) n
theorem ff_some {α : Type} {f : Nat → Option α} {x : α} : ∀ {n lo : Nat}, ff f lo n = some x → ∃ k, lo ≤ k ∧ k < lo + n ∧ f k = some x
  | 0, _, h => by simp [ff] at h
  | n + 1, lo, h => by
    unfold ff at h
    cases e : f lo with
    | some y => rw [e] at h; exact ⟨lo, Nat.le_refl _, by omega, by rw [e]; exact h⟩
    | none =>
      rw [e] at h
      obtain ⟨k, h1, h2, h3⟩ := ff_some h
      exact ⟨k, by omega, by omega, h3⟩
theorem ff_none {α : Type} {f : Nat → Option α} : ∀ {n lo : Nat}, ff f lo n = none → ∀ k, lo ≤ k → k < lo + n → f k = none
  | 0, _, _, k, h1, h2 => by omega
  | n + 1, lo, h, k, h1, h2 => by
    unfold ff at h
    cases e : f lo with
    | some y => rw [e] at h; cases h
    | none =>
      rw [e] at h
      by_cases hk : k = lo
      · subst hk; exact e
      · exact ff_none h k (by omega) (by omega)
theorem ff_all_none {α : Type} {f : Nat → Option α} : ∀ {n lo : Nat}, (∀ k, lo ≤ k → k < lo + n → f k = none) → ff f lo n = none
  | 0, _, _ => rfl
  | n + 1, lo, h => by
    unfold ff
    rw [h lo (Nat.le_refl _) (by omega)]
    exact ff_all_none fun k h1 h2 => h k (by omega) (by omega)
def at_ (l : List Int) (k : Nat) : Int := l.getD k 0
/-- the starts s of p and b of q meet -/
def meetB (p s q b : Int) : Bool := decide ((s - b) % ((Int.gcd p q : Nat) : Int) = 0)
/-- start s behind b meets one of b -/
def mtB (ps b : List Int) (s : Int) : Bool := (List.range b.length).any fun k => meetB (at_ ps b.length) s (at_ ps k) (at_ b k)
def Sx (ps : List Int) : Nat → List Int → Option (List Int)
  | 0, b => some b
  | d + 1, b => ff (fun s => if mtB ps b s = true then none else Sx ps d (b ++ [(s : Int)])) 0 (at_ ps b.length).toNat
structure Good (ps b : List Int) : Prop where
  rng : ∀ k, k < b.length → 0 ≤ at_ b k ∧ at_ b k < at_ ps k
  apart : ∀ k, k < b.length → ∀ i, i < k → meetB (at_ ps k) (at_ b k) (at_ ps i) (at_ b i) = false
theorem at_app1 {l m : List Int} {k : Nat} (h : k < l.length) : at_ (l ++ m) k = at_ l k := by
  simp [at_, List.getD_eq_getElem?_getD, List.getElem?_append_left h]
theorem at_app2 {l : List Int} {x : Int} : at_ (l ++ [x]) l.length = x := by simp [at_, List.getD_eq_getElem?_getD]
theorem Good.nil {ps : List Int} : Good ps [] := ⟨fun k h => by simp at h, fun k h => by simp at h⟩
theorem mtB_false {ps b : List Int} {s : Int} (h : mtB ps b s = false) : ∀ k, k < b.length → meetB (at_ ps b.length) s (at_ ps k) (at_ b k) = false := fun k hk => by
  unfold mtB at h
  rw [List.any_eq_false] at h
  have := h k (by simpa using hk)
  simpa using this
theorem mtB_of {ps b : List Int} {s : Int} (h : ∀ k, k < b.length → meetB (at_ ps b.length) s (at_ ps k) (at_ b k) = false) : mtB ps b s = false := by
  unfold mtB
  rw [List.any_eq_false]
  intro k hk
  rw [h k (by simpa using hk)]; simp
theorem Good.snoc {ps b : List Int} {s : Int} (g : Good ps b) (h0 : 0 ≤ s) (h1 : s < at_ ps b.length) (h2 : mtB ps b s = false) : Good ps (b ++ [s]) := by
  refine ⟨fun k hk => ?_, fun k hk i hi => ?_⟩
  · by_cases e : k < b.length
    · rw [at_app1 e]; exact g.rng k e
    · have : k = b.length := by simp at hk; omega
      subst this
      rw [at_app2]; exact ⟨h0, h1⟩
  · by_cases e : k < b.length
    · rw [at_app1 e, at_app1 (by omega)]; exact g.apart k e i hi
    · have : k = b.length := by simp at hk; omega
      subst this
      rw [at_app2, at_app1 hi]; exact mtB_false h2 i hi
theorem Good.init {ps b : List Int} {s : Int} (g : Good ps (b ++ [s])) : Good ps b ∧ 0 ≤ s ∧ s < at_ ps b.length ∧ mtB ps b s = false := by
  refine ⟨⟨fun k hk => ?_, fun k hk i hi => ?_⟩, ?_, ?_, mtB_of fun k hk => ?_⟩
  · have := g.rng k (by simp; omega)
    rwa [at_app1 hk] at this
  · have := g.apart k (by simp; omega) i hi
    rwa [at_app1 hk, at_app1 (by omega)] at this
  · have := g.rng b.length (by simp)
    rw [at_app2] at this; exact this.1
  · have := g.rng b.length (by simp)
    rw [at_app2] at this; exact this.2
  · have := g.apart b.length (by simp) k hk
    rwa [at_app2, at_app1 hk] at this
theorem Good.pre {ps b : List Int} : ∀ {t : List Int}, Good ps (b ++ t) → Good ps b
  | [], g => by simpa using g
  | x :: t, g => by
    have h : Good ps ((b ++ [x]) ++ t) := by simpa using g
    exact (Good.pre h).init.1
theorem Sx_some {ps : List Int} : ∀ {d : Nat} {b r : List Int}, Sx ps d b = some r → Good ps b → Good ps r ∧ r.length = b.length + d ∧ ∃ t, r = b ++ t
  | 0, b, r, h, g => by cases h; exact ⟨g, rfl, [], by simp⟩
  | d + 1, b, r, h, g => by
    unfold Sx at h
    obtain ⟨s, _, h2, h3⟩ := ff_some h
    by_cases e : mtB ps b s = true
    · simp [e] at h3
    · simp only [if_neg e] at h3
      obtain ⟨g1, g2, t, g3⟩ := Sx_some h3 (g.snoc (by omega) (by omega) (by simpa using e))
      exact ⟨g1, by simp at g2; omega, _, by rw [g3, List.append_assoc]⟩
theorem Sx_none {ps : List Int} : ∀ {d : Nat} {b : List Int}, Sx ps d b = none → ∀ t : List Int, t.length = d → ¬ Good ps (b ++ t)
  | 0, b, h, t, ht, g => by cases h
  | d + 1, b, h, [], ht, g => by cases ht
  | d + 1, b, h, x :: t, ht, g => by
    unfold Sx at h
    have g' : Good ps ((b ++ [x]) ++ t) := by simpa using g
    obtain ⟨_, i1, i2, i3⟩ := (Good.pre g').init
    have := ff_none h x.toNat (Nat.zero_le _) (by omega)
    have e : ((x.toNat : Nat) : Int) = x := by omega
    rw [e, i3] at this
    simp only [Bool.false_eq_true, if_false] at this
    exact Sx_none this t (by simpa using ht) g'
/-- all starts turned by k days -/
def shift (k : Int) : List Int → List Int → List Int
  | s :: ss, p :: ps => (s - k) % p :: shift k ss ps
  | _, _ => []
theorem shift_len (k : Int) : ∀ (ss ps : List Int), ss.length = ps.length → (shift k ss ps).length = ps.length
  | [], [], _ => rfl
  | s :: ss, p :: ps, h => by simp [shift, shift_len k ss ps (by simpa using h)]
  | [], _ :: _, h => by simp at h
  | _ :: _, [], h => by simp at h
theorem shift_at (k : Int) : ∀ (ss ps : List Int) (i : Nat), ss.length = ps.length → i < ps.length → at_ (shift k ss ps) i = (at_ ss i - k) % at_ ps i
  | [], [], i, _, h => by simp at h
  | s :: ss, p :: ps, 0, _, _ => rfl
  | s :: ss, p :: ps, i + 1, h, hi => by
    have := shift_at k ss ps i (by simpa using h) (by simpa using hi)
    simpa [at_, shift] using this
  | [], _ :: _, _, h, _ => by simp at h
  | _ :: _, [], _, h, _ => by simp at h
theorem meet_shift {p q s b k : Int} : meetB p ((s - k) % p) q ((b - k) % q) = meetB p s q b := by
  unfold meetB
  have h1 : ((Int.gcd p q : Nat) : Int) ∣ p := Int.gcd_dvd_left ..
  have h2 : ((Int.gcd p q : Nat) : Int) ∣ q := Int.gcd_dvd_right ..
  generalize ((Int.gcd p q : Nat) : Int) = g at h1 h2
  obtain ⟨u, hu⟩ := h1
  obtain ⟨v, hv⟩ := h2
  have e : (s - k) % p - (b - k) % q = (s - b) + g * (v * ((b - k) / q) - u * ((s - k) / p)) := by
    have a1 := Int.emod_def (s - k) p
    have a2 := Int.emod_def (b - k) q
    rw [a1, a2]
    have e1 : p * ((s - k) / p) = g * (u * ((s - k) / p)) := by rw [← Int.mul_assoc, ← hu]
    have e2 : q * ((b - k) / q) = g * (v * ((b - k) / q)) := by rw [← Int.mul_assoc, ← hv]
    rw [e1, e2, Int.mul_sub]
    omega
  rw [e, Int.add_mul_emod_self_left]
/-- the first of good starts is 0, if there are any -/
theorem Sx_first {ps : List Int} {p : Int} {n : Nat} (hp : ps = p :: ps.tail) (hn : ps.length = n + 1) (hpos : ∀ k, k < ps.length → 1 ≤ at_ ps k) : Sx ps (n + 1) [] = Sx ps n [0] := by
  have p0 : at_ ps 0 = p := by rw [hp]; rfl
  have p1 := hpos 0 (by omega)
  show ff (fun s => if mtB ps [] s = true then none else Sx ps n ([] ++ [(s : Int)])) 0 (at_ ps 0).toNat = _
  have m0 : ∀ s : Int, mtB ps [] s = false := fun s => rfl
  obtain ⟨m, hm⟩ : ∃ m, (at_ ps 0).toNat = m + 1 := ⟨(at_ ps 0).toNat - 1, by omega⟩
  rw [hm]
  unfold ff
  simp only [m0, Bool.false_eq_true, if_false, List.nil_append]
  have z0 : ((0 : Nat) : Int) = 0 := rfl
  rw [z0]
  cases e : Sx ps n [0] with
  | some r => rfl
  | none =>
    refine ff_all_none fun k h1 h2 => ?_
    cases e2 : Sx ps n [(k : Int)] with
    | none => rfl
    | some r =>
      exfalso
      have gk : Good ps [(k : Int)] := by
        have := (Good.nil (ps := ps)).snoc (s := (k : Int)) (by omega) (by show (k : Int) < at_ ps 0; omega) rfl
        simpa using this
      obtain ⟨g1, g2, t, g3⟩ := Sx_some e2 gk
      have hl : r.length = ps.length := by simp at g2; omega
      have r0 : at_ r 0 = k := by rw [g3]; rfl
      have sl := shift_len k r ps hl
      have gs : Good ps (shift k r ps) := by
        refine ⟨fun i hi => ?_, fun i hi j hj => ?_⟩
        · rw [sl] at hi
          rw [shift_at k r ps i hl hi]
          have := hpos i hi
          exact ⟨Int.emod_nonneg _ (by omega), Int.emod_lt_of_pos _ (by omega)⟩
        · rw [sl] at hi
          rw [shift_at k r ps i hl hi, shift_at k r ps j hl (by omega), meet_shift]
          exact g1.apart i (by omega) j hj
      have s0 : at_ (shift k r ps) 0 = 0 := by
        rw [shift_at k r ps 0 hl (by omega), r0]; simp
      obtain ⟨x, t', ex⟩ : ∃ x t', shift k r ps = x :: t' := by
        cases q : shift k r ps with
        | nil => rw [q] at sl; simp at sl; omega
        | cons x t' => exact ⟨x, t', rfl⟩
      have x0 : x = 0 := by rw [ex] at s0; exact s0
      subst x0
      rw [ex] at gs sl
      exact Sx_none e t' (by simp at sl; omega) gs
end DL

/-! S2: the program's small functions of k88. -/
namespace DL
open PySem L2
/-- a sequence: a list or a tuple -/
def seqD (b : Bool) (l : List D) : D := if b = true then .lst l else .tup l
def isI : D → Bool
  | .int _ => true
  | _ => false
def wth (lo hi : Int) : D → Bool
  | .int x => decide (lo ≤ x) && decide (x ≤ hi)
  | _ => false
@[simp] theorem isSeq_seqD (b : Bool) (l : List D) : isSeq (seqD b l) = some true := by cases b <;> rfl
@[simp] theorem fLen_seqD (b : Bool) (l : List D) : fLen [seqD b l] = some (.int (l.length : Int)) := by cases b <;> rfl
@[simp] theorem anyD_seqD (b : Bool) (l : List D) : anyD (seqD b l) = some l := by cases b <;> rfl
theorem is_sequence_ok (c : Cs) (d : D) (b : Bool) (h : isSeq d = some b) : phi_is_sequence c [.fz d] = .ok (.fz (.bl b), []) := by
  rw [go_is_sequence]; simp [run_is_sequence, h]
theorem is_row_ok (c : Cs) (b : Bool) (l : List D) (lo hi : Int) : phi_is_row c [.fz (seqD b l), .fz (.int lo), .fz (.int hi)] = .ok (.fz (.bl (decide (lo ≤ (l.length : Int)) && decide ((l.length : Int) ≤ hi))), []) := by
  rw [go_is_row]
  by_cases h1 : lo ≤ (l.length : Int)
  · by_cases h2 : (l.length : Int) ≤ hi
    · simp [run_is_row, is_sequence_ok c (seqD b l) true (by simp), h1, h2]
    · simp [run_is_row, is_sequence_ok c (seqD b l) true (by simp), h1, h2]
  · simp [run_is_row, is_sequence_ok c (seqD b l) true (by simp), h1]
theorem is_row_no (c : Cs) (d : D) (h : isSeq d = some false) (lo hi : Int) : phi_is_row c [.fz d, .fz (.int lo), .fz (.int hi)] = .ok (.fz (.bl false), []) := by
  rw [go_is_row]; simp [run_is_row, is_sequence_ok c d false h]
theorem is_integer_ok (c : Cs) (d : D) (h : d.flat = true) : phi_is_integer c [.fz d] = .ok (.fz (.bl (isI d)), []) := by
  rw [go_is_integer]
  cases d <;> first | (simp [D.flat] at h; done) | simp [run_is_integer, isI]
theorem is_within_ok (c : Cs) (d : D) (h : d.flat = true) (lo hi : Int) : phi_is_within c [.fz d, .fz (.int lo), .fz (.int hi)] = .ok (.fz (.bl (wth lo hi d)), []) := by
  rw [go_is_within]
  have e := is_integer_ok c d h
  cases d with
  | int x =>
    by_cases h1 : lo ≤ x
    · simp [run_is_within, e, isI, wth, h1]
    · simp [run_is_within, e, isI, wth, h1]
  | non => simp [run_is_within, e, isI, wth]
  | bl b => simp [run_is_within, e, isI, wth]
  | str b => simp [run_is_within, e, isI, wth]
  | _ => simp [D.flat] at h
/-- all([.. for x in l]) of a test -/
theorem fAll_bl (l : List D) (G : D → Bool) : fAll [.lst (l.map fun d => .bl (G d))] = some (.bl (l.all G)) := by
  have h : boolsD (l.map fun d => D.bl (G d)) = some (l.map G) := by
    induction l with
    | nil => rfl
    | cons d r ih => simp [ih]
  simp [h]
end DL

/-! S3: check_periods, meet, meets_one. -/
namespace DL
open PySem L2
abbrev bad (c : Cs) (k : Int) : Xc := ⟨c.BadValue, [("at", .int k)]⟩
theorem filter_tt {α : Type} (l : List α) : l.filter (fun _ => true) = l := by induction l <;> simp_all
theorem lc_per (c : Cs) (P : D) (l : List D) (hl : ∀ d ∈ l, d.flat = true) : lcL (tgN 1) (fun δ => .ok (true, δ)) (elt1_check_periods c) [1] l [some (.fz P), none] = .ok (l.map fun d => .fz (.bl (wth 1 12 d)), [some (.fz P), none]) := by
  have L := lcL_map (tg := tgN 1) (gt := fun δ => .ok (true, δ)) (ge := elt1_check_periods c) (vs := [1]) (fun _ => true) (fun d => .fz (.bl (wth 1 12 d))) [some (.fz P), none] l (fun d hd => by
    refine ⟨_, _, rfl, rfl, (fun z => by cases z), fun _ => ⟨[some (.fz P), some (.fz d)], ?_, rfl⟩⟩
    show elt1_check_periods c [some (.fz P), some (.fz d)] = _
    simp [elt1_check_periods, is_within_ok c d (hl d hd)])
  rwa [filter_tt] at L
theorem toD_bls (l : List D) (G : D → Bool) : (O.lst (l.map fun d => .fz (.bl (G d)))).toD = .lst (l.map fun d => .bl (G d)) := by
  simp [toDL_map, Function.comp_def]
theorem check_periods_seq (c : Cs) (b : Bool) (l : List D) (hl : ∀ d ∈ l, d.flat = true) (h5 : l.length ≤ 100000) :
    phi_check_periods c [.fz (seqD b l)] = if l.length ≤ 5 ∧ l.all (wth 1 12) = true then .ok (.fz .non, []) else .er (bad c 0) := by
  rw [go_check_periods]
  have r := is_row_ok c b l 0 5
  have e := lc_per c (seqD b l) l hl
  have a := fAll_bl l (wth 1 12)
  by_cases h1 : l.length ≤ 5
  · have h1' : (l.length : Int) ≤ 5 := by omega
    by_cases h2 : l.all (wth 1 12) = true
    · rw [if_pos ⟨h1, h2⟩]
      simp [run_check_periods, r, h1', e, h5, toDL_map, Function.comp_def, a, h2, -e_fAll_1]
    · rw [if_neg (fun z => h2 z.2)]
      simp only [Bool.not_eq_true] at h2
      simp [run_check_periods, r, h1', e, h5, toDL_map, Function.comp_def, a, h2, -e_fAll_1]
  · have h1' : ¬ (l.length : Int) ≤ 5 := by omega
    rw [if_neg (fun z => h1 z.1)]
    simp [run_check_periods, r, h1']
theorem check_periods_no (c : Cs) (d : D) (h : isSeq d = some false) : phi_check_periods c [.fz d] = .er (bad c 0) := by
  rw [go_check_periods]
  simp [run_check_periods, is_row_no c d h]
theorem meet_ok (c : Cs) (p s q b : Int) (hp : p ≠ 0) : phi_meet c [.fz (.int p), .fz (.int s), .fz (.int q), .fz (.int b)] = .ok (.fz (.bl (meetB p s q b)), []) := by
  rw [go_meet]
  simp [run_meet, meetB, hp, Int.gcd]
  rfl
/-- the tests of one start against those ahead -/
def mts (ps : List Int) (n : Nat) (s : Int) (d : D) : Bool := match d with
  | .tup [.int k, .int b] => meetB (at_ ps n) s (at_ ps k.toNat) b
  | _ => false
abbrev intsD' (l : List Int) : List D := l.map D.int
theorem ix_seq' (b : Bool) (ps : List Int) (k : Nat) (h : k < ps.length) : fIx (seqD b (intsD' ps)) (.int (k : Int)) = some (.int (at_ ps k)) := by
  have e : atI (intsD' ps) (k : Int) = some (.int (at_ ps k)) := by
    rw [atI_nat (v := D.int (at_ ps k))]
    simp [at_, List.getD_eq_getElem?_getD, h]
  cases b <;> simp [seqD, e]
theorem lc_meets (c : Cs) (b : Bool) (Q : D) (ps beg : List Int) (s : Int) (n : Nat) (hn : n < ps.length) (hb : beg.length ≤ ps.length) (hp : ∀ k, k < ps.length → 1 ≤ at_ ps k) :
    lcL (tgTup 2 (tgCons (tgN 4) (tgCons (tgN 5) tgNil))) (fun δ => .ok (true, δ)) (elt1_meets_one c) [4, 5] (enumD 0 (intsD' beg)) [some (.fz (seqD b (intsD' ps))), some (.fz Q), some (.fz (.int s)), some (.fz (.int (at_ ps n))), none, none] =
      .ok ((enumD 0 (intsD' beg)).map fun d => .fz (.bl (mts ps n s d)), [some (.fz (seqD b (intsD' ps))), some (.fz Q), some (.fz (.int s)), some (.fz (.int (at_ ps n))), none, none]) := by
  have L := lcL_map (tg := tgTup 2 (tgCons (tgN 4) (tgCons (tgN 5) tgNil))) (gt := fun δ => .ok (true, δ)) (ge := elt1_meets_one c) (vs := [4, 5]) (fun _ => true) (fun d => .fz (.bl (mts ps n s d)))
    [some (.fz (seqD b (intsD' ps))), some (.fz Q), some (.fz (.int s)), some (.fz (.int (at_ ps n))), none, none] (enumD 0 (intsD' beg)) (fun d hd => by
    obtain ⟨i, hi⟩ := List.getElem?_of_mem hd
    obtain ⟨e, he, rfl⟩ := enumD_get hi
    rw [List.getElem?_map] at he
    cases q : beg[i]? with
    | none => rw [q] at he; cases he
    | some x =>
      rw [q] at he; cases he
      have hlt := (List.getElem?_eq_some_iff.mp q).1
      refine ⟨_, _, rfl, rfl, (fun z => by cases z), fun _ => ⟨[some (.fz (seqD b (intsD' ps))), some (.fz Q), some (.fz (.int s)), some (.fz (.int (at_ ps n))), some (.fz (.int (0 + (i : Nat)))), some (.fz (.int x))], ?_, rfl⟩⟩
      show elt1_meets_one c [some (.fz (seqD b (intsD' ps))), some (.fz Q), some (.fz (.int s)), some (.fz (.int (at_ ps n))), some (.fz (.int (0 + (i : Nat)))), some (.fz (.int x))] = _
      have ei := ix_seq' b ps i (by omega)
      have z0 : (0 : Int) + (i : Nat) = (i : Nat) := by omega
      rw [z0]
      have m := meet_ok c (at_ ps n) s (at_ ps i) x (by
        have := hp n hn
        omega)
      simp [elt1_meets_one, ei, m, mts])
  rwa [filter_tt] at L
theorem fAny_bl (l : List D) (G : D → Bool) : fAny [.lst (l.map fun d => .bl (G d))] = some (.bl (l.any G)) := by
  have h : boolsD (l.map fun d => D.bl (G d)) = some (l.map G) := by
    induction l with
    | nil => rfl
    | cons d r ih => simp [ih]
  simp [h]
theorem any_mts (ps beg : List Int) (s : Int) (n : Nat) (hn : n = beg.length) : (enumD 0 (intsD' beg)).any (mts ps n s) = mtB ps beg s := by
  subst hn
  rw [Bool.eq_iff_iff]
  unfold mtB
  rw [List.any_eq_true, List.any_eq_true]
  constructor
  · rintro ⟨d, hd, h⟩
    obtain ⟨i, hi⟩ := List.getElem?_of_mem hd
    obtain ⟨e, he, rfl⟩ := enumD_get hi
    rw [List.getElem?_map] at he
    cases q : beg[i]? with
    | none => rw [q] at he; cases he
    | some x =>
      rw [q] at he; cases he
      have hlt := (List.getElem?_eq_some_iff.mp q).1
      refine ⟨i, by simpa using hlt, ?_⟩
      have : at_ beg i = x := by simp [at_, List.getD_eq_getElem?_getD, q]
      simpa [mts, this] using h
  · rintro ⟨i, hi, h⟩
    have hlt : i < beg.length := by simpa using hi
    refine ⟨.tup [.int (0 + (i : Nat)), .int (at_ beg i)], ?_, by simpa [mts] using h⟩
    refine List.mem_of_getElem? (i := i) ?_
    unfold enumD
    rw [List.getElem?_mapIdx, List.getElem?_map]
    have : beg[i]? = some (at_ beg i) := by simp [at_, List.getD_eq_getElem?_getD, hlt]
    rw [this]; rfl
theorem meets_one_ok (c : Cs) (b b2 : Bool) (ps beg : List Int) (s : Int) (hn : beg.length < ps.length) (h5 : ps.length ≤ 100000) (hp : ∀ k, k < ps.length → 1 ≤ at_ ps k) :
    phi_meets_one c [.fz (seqD b (intsD' ps)), .fz (seqD b2 (intsD' beg)), .fz (.int s)] = .ok (.fz (.bl (mtB ps beg s)), []) := by
  rw [go_meets_one]
  have e := lc_meets c b (seqD b2 (intsD' beg)) ps beg s beg.length hn (by omega) hp
  have i := ix_seq' b ps beg.length hn
  have a := fAny_bl (enumD 0 (intsD' beg)) (mts ps beg.length s)
  rw [any_mts ps beg s _ rfl] at a
  have en : wE (gaCons (gV 1) gaNil) [some (.fz (seqD b (intsD' ps))), some (.fz (seqD b2 (intsD' beg))), some (.fz (.int s)), some (.fz (.int (at_ ps beg.length))), none, none] = .ok (enumD 0 (intsD' beg), [some (.fz (seqD b (intsD' ps))), some (.fz (seqD b2 (intsD' beg))), some (.fz (.int s)), some (.fz (.int (at_ ps beg.length))), none, none]) := by
    cases b2 <;> simp [seqD]
  have hl : (enumD 0 (intsD' beg)).length ≤ 100000 := by rw [enumD_len]; simp; omega
  simp [run_meets_one, i, en, e, hl, toDL_map, Function.comp_def, -e_wE, -e_fAny_1]
  rw [a]; simp
end DL

/-! S4: next_start, starts. -/
namespace DL
open PySem L2
theorem rangeD_succ (lo : Int) (n : Nat) : rangeD lo (n + 1) = .int lo :: rangeD (lo + 1) n := by
  unfold rangeD
  rw [List.range_succ_eq_map, List.map_cons, List.map_map]
  congr 1
  · simp
  · refine List.map_congr_left fun k _ => ?_
    simp; omega
/-- a loop that looks for the first -/
theorem forR_ff {α : Type} {t : D → DEnv → Option DEnv} {f : Run} (I : DEnv → Prop) (F : Nat → Option α) (P : α → O) : ∀ (n lo : Nat) (δ : DEnv),
    (∀ k δ, lo ≤ k → k < lo + n → I δ → ∃ δ1, t (.int (k : Nat)) δ = some δ1 ∧ (F k = none → ∃ δ2, f δ1 = .ok (.nx δ2) ∧ I δ2) ∧ ∀ x, F k = some x → ∃ δ2, f δ1 = .ok (.rt (P x) δ2)) → I δ →
    (ff F lo n = none → ∃ δ', forR t f (rangeD (lo : Nat) n) δ = .ok (.nx δ') ∧ I δ') ∧ ∀ x, ff F lo n = some x → ∃ δ', forR t f (rangeD (lo : Nat) n) δ = .ok (.rt (P x) δ')
  | 0, lo, δ, hs, h0 => ⟨fun _ => ⟨δ, rfl, h0⟩, fun x h => by cases h⟩
  | n + 1, lo, δ, hs, h0 => by
    obtain ⟨δ1, e1, k1, k2⟩ := hs lo δ (Nat.le_refl _) (by omega) h0
    rw [rangeD_succ]
    unfold ff forR
    rw [e1, Rz.of_some, Rz.bind_ok]
    cases e : F lo with
    | some x =>
      obtain ⟨δ2, e2⟩ := k2 x e
      refine ⟨fun h => (by cases h), fun y h => ?_⟩
      cases h
      rw [e2, Rz.bind_ok]
      exact ⟨δ2, rfl⟩
    | none =>
      obtain ⟨δ2, e2, i2⟩ := k1 e
      have ih := forR_ff I F P n (lo + 1) δ2 (fun k δ h1 h2 => hs k δ (by omega) (by omega)) i2
      rw [e2, Rz.bind_ok]
      exact ih
def optN : Option Nat → D
  | some s => .int (s : Nat)
  | none => .non
def nxt (ps beg : List Int) (least n : Nat) : Option Nat := ff (fun s => if mtB ps beg (s : Nat) = true then none else some s) least n
structure Per (ps : List Int) : Prop where
  len : ps.length ≤ 5
  pos : ∀ k, k < ps.length → 1 ≤ at_ ps k
  le : ∀ k, k < ps.length → at_ ps k ≤ 12
theorem next_start_ok (c : Cs) (b : Bool) (ps beg : List Int) (least : Nat) (hP : Per ps) (hn : beg.length < ps.length) (hl : least ≤ 13) :
    phi_next_start c [.fz (seqD b (intsD' ps)), .fz (seqD true (intsD' beg)), .fz (.int least)] = .ok (.fz (optN (nxt ps beg least ((at_ ps beg.length).toNat - least))), []) := by
  rw [go_next_start]
  have p1 := hP.pos _ hn
  have p2 := hP.le _ hn
  have i := ix_seq' b ps beg.length hn
  have L := forR_ff (t := tgN 3) (f := body1_next_start c) (fun δ => ∃ x, δ = [some (.fz (seqD b (intsD' ps))), some (.fz (seqD true (intsD' beg))), some (.fz (.int least)), x])
    (fun s => if mtB ps beg (s : Nat) = true then none else some s) (fun s : Nat => .fz (.int s)) ((at_ ps beg.length).toNat - least) least [some (.fz (seqD b (intsD' ps))), some (.fz (seqD true (intsD' beg))), some (.fz (.int least)), none]
    (fun k δ _ _ h => by
      obtain ⟨x, rfl⟩ := h
      have m := meets_one_ok c b true ps beg k hn (by have := hP.len; omega) hP.pos
      refine ⟨_, rfl, fun h => ?_, fun y h => ?_⟩
      · by_cases e : mtB ps beg (k : Nat) = true
        · refine ⟨[some (.fz (seqD b (intsD' ps))), some (.fz (seqD true (intsD' beg))), some (.fz (.int least)), some (.fz (.int k))], ?_, _, rfl⟩
          show body1_next_start c [some (.fz (seqD b (intsD' ps))), some (.fz (seqD true (intsD' beg))), some (.fz (.int least)), some (.fz (.int k))] = _
          simp [body1_next_start, m, e]
        · simp [e] at h
      · by_cases e : mtB ps beg (k : Nat) = true
        · simp [e] at h
        · simp only [if_neg e, Option.some.injEq] at h
          subst h
          simp only [Bool.not_eq_true] at e
          refine ⟨[some (.fz (seqD b (intsD' ps))), some (.fz (seqD true (intsD' beg))), some (.fz (.int least)), some (.fz (.int k))], ?_⟩
          show body1_next_start c [some (.fz (seqD b (intsD' ps))), some (.fz (seqD true (intsD' beg))), some (.fz (.int least)), some (.fz (.int k))] = _
          simp [body1_next_start, m, e]) ⟨none, rfl⟩
  have er : (at_ ps beg.length - (least : Int)).toNat = (at_ ps beg.length).toNat - least := by omega
  have c1 : -(2 ^ 62) ≤ (least : Int) ∧ (least : Int) < 2 ^ 62 ∧ -(2 ^ 62) ≤ at_ ps beg.length ∧ at_ ps beg.length < 2 ^ 62 := by
    have : (2 : Int) ^ 62 = 4611686018427387904 := by decide
    rw [this]; omega
  have w : wR2 (gaCons (gV 2) (gaCons (g2 fIx (gV 0) (gN fLen (gaCons (gV 1) gaNil))) gaNil)) [some (.fz (seqD b (intsD' ps))), some (.fz (seqD true (intsD' beg))), some (.fz (.int least)), none] =
      .ok (rangeD (least : Nat) ((at_ ps beg.length).toNat - least), [some (.fz (seqD b (intsD' ps))), some (.fz (seqD true (intsD' beg))), some (.fz (.int least)), none]) := by
    have hb : (intsD' beg).length = beg.length := by simp
    rw [e_wR2]
    have ea : gaCons (gV 2) (gaCons (g2 fIx (gV 0) (gN fLen (gaCons (gV 1) gaNil))) gaNil) [some (.fz (seqD b (intsD' ps))), some (.fz (seqD true (intsD' beg))), some (.fz (.int least)), none] =
        .ok ([.int (least : Nat), .int (at_ ps beg.length)], [some (.fz (seqD b (intsD' ps))), some (.fz (seqD true (intsD' beg))), some (.fz (.int least)), none]) := by
      simp [i]
    rw [ea, Rz.bind_ok]
    show (if _ then _ else _) = _
    rw [if_pos c1, er]
  have hns : run_next_start c [some (.fz (seqD b (intsD' ps))), some (.fz (seqD true (intsD' beg))), some (.fz (.int least)), none] = ((forR (tgN 3) (body1_next_start c) (rangeD (least : Nat) ((at_ ps beg.length).toNat - least)) [some (.fz (seqD b (intsD' ps))), some (.fz (seqD true (intsD' beg))), some (.fz (.int least)), none]).bind fun o => match o with
      | .nx δ' => rRet (gO (gC D.non)) δ'
      | .rt o δ' => .ok (.rt o δ')
      | .bk δ' => .ok (.bk δ')
      | .ct δ' => .ok (.ct δ')) := by
    unfold run_next_start
    rw [e_rSeq, e_rFor, w, Rz.bind_ok]
    try rfl
  rw [hns]
  unfold nxt
  cases e : ff (fun s => if mtB ps beg (s : Nat) = true then none else some s) least ((at_ ps beg.length).toNat - least) with
  | none =>
    obtain ⟨δ', e2, x, rfl⟩ := L.1 e
    rw [e2, Rz.bind_ok]
    simp [optN]
  | some s =>
    obtain ⟨δ', e2⟩ := L.2 s e
    rw [e2, Rz.bind_ok]
    simp [optN]
end DL

/-! S5: starts. -/
namespace DL
open PySem L2
noncomputable abbrev tailS (c : Cs) : Run := rSeq (rWhile (gB (g2 fLt (gS (fLenP (pV 1))) (gN fLen (gaCons (gV 0) gaNil)))) (body1_starts c)) (rRet (gO (gN fTupOf (gaCons (gV 1) gaNil))))
noncomputable def U (c : Cs) (P : D) (beg : List Int) (least : Int) (x : Option O) : Rz (O × List O) := (tailS c [some (.fz P), some (intsO beg), some (.fz (.int least)), x]).bind (finR [])
theorem U_eq (c : Cs) (b : Bool) (ps beg : List Int) (least : Int) (x : Option O) : U c (seqD b (intsD' ps)) beg least x =
    if beg.length < ps.length then ((body1_starts c [some (.fz (seqD b (intsD' ps))), some (intsO beg), some (.fz (.int least)), x]).bind fun o => (loopR o (rWhile (gB (g2 fLt (gS (fLenP (pV 1))) (gN fLen (gaCons (gV 0) gaNil)))) (body1_starts c))).bind fun o => match o with
      | .nx δ' => rRet (gO (gN fTupOf (gaCons (gV 1) gaNil))) δ'
      | .rt o δ' => .ok (.rt o δ')
      | .bk δ' => .ok (.bk δ')
      | .ct δ' => .ok (.ct δ')).bind (finR []) else .ok (.fz (.tup (intsD' beg)), []) := by
  unfold U tailS
  rw [e_rSeq, rWhile_eq]
  by_cases h : beg.length < ps.length
  · rw [if_pos h]
    have h' : (beg.length : Int) < (ps.length : Int) := by omega
    have g : gB (g2 fLt (gS (fLenP (pV 1))) (gN fLen (gaCons (gV 0) gaNil))) [some (.fz (seqD b (intsD' ps))), some (intsO beg), some (.fz (.int least)), x] = .ok (true, [some (.fz (seqD b (intsD' ps))), some (intsO beg), some (.fz (.int least)), x]) := by
      simp [h']
    rw [g, Rz.bind_ok, if_pos rfl]
    cases body1_starts c [some (.fz (seqD b (intsD' ps))), some (intsO beg), some (.fz (.int least)), x] <;> rfl
  · rw [if_neg h]
    have h' : ¬ (beg.length : Int) < (ps.length : Int) := by omega
    have g : gB (g2 fLt (gS (fLenP (pV 1))) (gN fLen (gaCons (gV 0) gaNil))) [some (.fz (seqD b (intsD' ps))), some (intsO beg), some (.fz (.int least)), x] = .ok (false, [some (.fz (seqD b (intsD' ps))), some (intsO beg), some (.fz (.int least)), x]) := by
      simp [h']
    rw [g, Rz.bind_ok]
    simp [intsO, toDL_map, Function.comp_def]
theorem intsO_clean (l : List Int) : (intsO l).toD = seqD true (intsD' l) := by rw [intsO_toD]; rfl
/-- one turn of the search -/
theorem U_some (c : Cs) (b : Bool) (ps beg : List Int) (least : Nat) (x : Option O) (hP : Per ps) (hn : beg.length < ps.length) (hl : least ≤ 13) (s : Nat) (h : nxt ps beg least ((at_ ps beg.length).toNat - least) = some s) :
    ∃ y, U c (seqD b (intsD' ps)) beg least x = U c (seqD b (intsD' ps)) (beg ++ [(s : Int)]) 0 y := by
  refine ⟨some (.fz (.int s)), ?_⟩
  rw [U_eq, if_pos hn]
  have n := next_start_ok c b ps beg least hP hn hl
  rw [h] at n
  have l5 : beg.length < 100000 := by have := hP.len; omega
  have e : body1_starts c [some (.fz (seqD b (intsD' ps))), some (intsO beg), some (.fz (.int least)), x] = .ok (.nx [some (.fz (seqD b (intsD' ps))), some (intsO (beg ++ [(s : Int)])), some (.fz (.int 0)), some (.fz (.int s))]) := by
    have n' : phi_next_start c [O.fz (seqD b (intsD' ps)), O.fz (.lst (intsD' beg)), O.fz (D.int least)] = .ok (O.fz (D.int s), []) := n
    simp [body1_starts, toDL_map, Function.comp_def, n', D.flat, l5, isNonD]
  rw [e, Rz.bind_ok]
  rfl
theorem U_none (c : Cs) (b : Bool) (ps beg : List Int) (least : Nat) (x : Option O) (hP : Per ps) (hn : beg.length < ps.length) (hl : least ≤ 13) (h : nxt ps beg least ((at_ ps beg.length).toNat - least) = none) :
    (beg.length ≤ 1 → U c (seqD b (intsD' ps)) beg least x = .ok (.fz .non, [])) ∧ ∀ (b' : List Int) (s : Int), beg = b' ++ [s] → b' ≠ [] → ∃ y, U c (seqD b (intsD' ps)) beg least x = U c (seqD b (intsD' ps)) b' (s + 1) y := by
  have n := next_start_ok c b ps beg least hP hn hl
  rw [h] at n
  have n' : phi_next_start c [O.fz (seqD b (intsD' ps)), O.fz (.lst (intsD' beg)), O.fz (D.int least)] = .ok (O.fz D.non, []) := n
  refine ⟨fun h1 => ?_, fun b' s hb hne => ⟨some (.fz .non), ?_⟩⟩
  · rw [U_eq, if_pos hn]
    have h1' : ¬ (1 : Int) < (beg.length : Int) := by omega
    have e : body1_starts c [some (.fz (seqD b (intsD' ps))), some (intsO beg), some (.fz (.int least)), x] = .ok (.rt (.fz .non) [some (.fz (seqD b (intsD' ps))), some (intsO beg), some (.fz (.int least)), some (.fz .non)]) := by
      simp [body1_starts, toDL_map, Function.comp_def, n', D.flat, h1', isNonD]
    rw [e, Rz.bind_ok]
    rfl
  · subst hb
    rw [U_eq, if_pos hn]
    have h1' : (0 : Int) < (b'.length : Int) := by
      have := List.length_pos_iff.mpr hne
      omega
    have h1 : (1 : Int) < (b'.length : Int) + 1 := by omega
    have e : body1_starts c [some (.fz (seqD b (intsD' ps))), some (intsO (b' ++ [s])), some (.fz (.int least)), x] = .ok (.nx [some (.fz (seqD b (intsD' ps))), some (intsO b'), some (.fz (.int (s + 1))), some (.fz .non)]) := by
      simp only [List.map_append, List.map_cons, List.map_nil] at n'
      simp [body1_starts, toDL_map, Function.comp_def, n', D.flat, h1', isNonD]
      omega
    rw [e, Rz.bind_ok]
    rfl
end DL

/-! S6: starts gives the first good starts. -/
namespace DL
open PySem L2
theorem ff_succ {α : Type} (f : Nat → Option α) (lo n : Nat) : ff f lo (n + 1) = match f lo with
    | some x => some x
    | none => ff f (lo + 1) n := rfl
theorem ff_split {α : Type} {m : Nat → Bool} {G : Nat → Option α} : ∀ (n lo : Nat),
    (ff (fun k => if m k = true then none else some k) lo n = none → ff (fun k => if m k = true then none else G k) lo n = none) ∧
    ∀ s, ff (fun k => if m k = true then none else some k) lo n = some s → lo ≤ s ∧ s < lo + n ∧ (∀ r, G s = some r → ff (fun k => if m k = true then none else G k) lo n = some r) ∧
      (G s = none → ff (fun k => if m k = true then none else G k) lo n = ff (fun k => if m k = true then none else G k) (s + 1) (lo + n - (s + 1)))
  | 0, lo => ⟨fun _ => rfl, fun s h => by cases h⟩
  | n + 1, lo => by
    obtain ⟨i1, i2⟩ := ff_split (m := m) (G := G) n (lo + 1)
    by_cases e : m lo = true
    · simp only [ff_succ, if_pos e]
      refine ⟨i1, fun s h => ?_⟩
      obtain ⟨j1, j2, j3, j4⟩ := i2 s h
      exact ⟨by omega, by omega, j3, fun q => by rw [j4 q, show lo + 1 + n - (s + 1) = lo + (n + 1) - (s + 1) by omega]⟩
    · simp only [ff_succ, if_neg e]
      refine ⟨fun h => (by cases h), fun s h => ?_⟩
      cases h
      refine ⟨Nat.le_refl _, by omega, fun r q => by rw [q], fun q => ?_⟩
      rw [q]
      show ff _ (lo + 1) n = ff _ (lo + 1) (lo + (n + 1) - (lo + 1))
      rw [show lo + (n + 1) - (lo + 1) = n by omega]
theorem rSeq_nx {f g : Run} {δ δ' : DEnv} (h : f δ = .ok (.nx δ')) : rSeq f g δ = g δ' := by
  unfold rSeq; rw [h]; rfl
theorem rSeq_rt {f g : Run} {δ δ' : DEnv} {o : O} (h : f δ = .ok (.rt o δ')) : rSeq f g δ = .ok (.rt o δ') := by
  unfold rSeq; rw [h]; rfl
theorem rSeq_er {f g : Run} {δ : DEnv} {x : Xc} (h : f δ = .er x) : rSeq f g δ = .er x := by
  unfold rSeq; rw [h]; rfl
def optT : Option (List Int) → D
  | some r => .tup (intsD' r)
  | none => .non
/-- what the loop does where the search behind beg fails -/
def Fails (c : Cs) (b : Bool) (ps beg : List Int) (u : Rz (O × List O)) : Prop :=
  (beg.length ≤ 1 → u = .ok (.fz .non, [])) ∧ ∀ (b' : List Int) (s : Int), beg = b' ++ [s] → b' ≠ [] → ∃ y, u = U c (seqD b (intsD' ps)) b' (s + 1) y
theorem U_Sx (c : Cs) (b : Bool) (ps : List Int) (hP : Per ps) : ∀ (d : Nat) (beg : List Int), beg.length + d = ps.length → beg ≠ [] → ∀ x,
    (∀ r, Sx ps d beg = some r → U c (seqD b (intsD' ps)) beg 0 x = .ok (.fz (.tup (intsD' r)), [])) ∧ (Sx ps d beg = none → Fails c b ps beg (U c (seqD b (intsD' ps)) beg 0 x))
  | 0, beg, hl, hne, x => by
    refine ⟨fun r h => ?_, fun h => by cases h⟩
    cases h
    rw [U_eq, if_neg (by omega)]
  | d + 1, beg, hl, hne, x => by
    have hn : beg.length < ps.length := by omega
    have p1 := hP.pos _ hn
    have p2 := hP.le _ hn
    have key : ∀ (m least : Nat) (x : Option O), (at_ ps beg.length).toNat - least = m → least ≤ 13 →
        (∀ r, ff (fun s => if mtB ps beg (s : Nat) = true then none else Sx ps d (beg ++ [(s : Int)])) least m = some r → U c (seqD b (intsD' ps)) beg least x = .ok (.fz (.tup (intsD' r)), [])) ∧
        (ff (fun s => if mtB ps beg (s : Nat) = true then none else Sx ps d (beg ++ [(s : Int)])) least m = none → Fails c b ps beg (U c (seqD b (intsD' ps)) beg least x)) := by
      intro m
      induction m using Nat.strongRecOn with
      | ind m ih =>
        intro least x hm hl13
        obtain ⟨f1, f2⟩ := ff_split (m := fun s => mtB ps beg (s : Nat)) (G := fun s => Sx ps d (beg ++ [(s : Int)])) m least
        cases e : nxt ps beg least m with
        | none =>
          have z := f1 e
          refine ⟨fun r h => ?_, fun _ => ?_⟩
          · rw [z] at h; cases h
          · exact U_none c b ps beg least x hP hn hl13 (by rw [hm]; exact e)
        | some s =>
          obtain ⟨g1, g2, g3, g4⟩ := f2 s e
          obtain ⟨y, hy⟩ := U_some c b ps beg least x hP hn hl13 s (by rw [hm]; exact e)
          obtain ⟨i1, i2⟩ := U_Sx c b ps hP d (beg ++ [(s : Int)]) (by simp; omega) (by simp) y
          cases q : Sx ps d (beg ++ [(s : Int)]) with
          | some r0 =>
            have w := g3 r0 q
            refine ⟨fun r h => ?_, fun h => ?_⟩
            · rw [w] at h; cases h
              rw [hy]; exact i1 _ q
            · rw [w] at h; cases h
          | none =>
            obtain ⟨y', hy'⟩ := (i2 q).2 beg s rfl hne
            have w := g4 q
            have em : least + m - (s + 1) = (at_ ps beg.length).toNat - (s + 1) := by omega
            have ihs := ih (least + m - (s + 1)) (by omega) (s + 1) y' em.symm (by omega)
            rw [w, hy, hy']
            exact ihs
    have := key (at_ ps beg.length).toNat 0 x (by omega) (by omega)
    exact this
theorem starts_ok (c : Cs) (b : Bool) (ps : List Int) (hP : Per ps) : phi_starts c [.fz (seqD b (intsD' ps))] = .ok (.fz (optT (Sx ps ps.length [])), []) := by
  have chk := check_periods_seq c b (intsD' ps) (fun d hd => by
    obtain ⟨x, _, rfl⟩ := List.mem_map.mp hd; rfl) (by have := hP.len; simp; omega)
  have al : (intsD' ps).all (wth 1 12) = true := by
    rw [List.all_eq_true]
    intro d hd
    obtain ⟨i, hi⟩ := List.getElem?_of_mem hd
    rw [List.getElem?_map] at hi
    cases q : ps[i]? with
    | none => rw [q] at hi; cases hi
    | some x =>
      rw [q] at hi; cases hi
      have hlt := (List.getElem?_eq_some_iff.mp q).1
      have ex : at_ ps i = x := by simp [at_, List.getD_eq_getElem?_getD, q]
      have h1 := hP.pos i hlt
      have h2 := hP.le i hlt
      rw [ex] at h1 h2
      simp [wth, h1, h2]
  rw [if_pos ⟨by simpa using hP.len, al⟩] at chk
  have start : phi_starts c [.fz (seqD b (intsD' ps))] = U c (seqD b (intsD' ps)) [] 0 none := by
    rw [go_starts]
    unfold run_starts U
    have e1 : rDrop (gZ (gCall 1 [] (phi_check_periods c) (gAD (gV 0) gANil))) [some (O.fz (seqD b (intsD' ps))), none, none, none] = .ok (.nx [some (O.fz (seqD b (intsD' ps))), none, none, none]) := by
      simp [chk]
    rw [rSeq_nx e1]
    have e2 : rSet 1 (gaLst gaNil) [some (O.fz (seqD b (intsD' ps))), none, none, none] = .ok (.nx [some (O.fz (seqD b (intsD' ps))), some (intsO []), none, none]) := by
      simp [intsO]
    rw [rSeq_nx e2]
    have e3 : rSet 2 (gO (gC (D.int 0))) [some (O.fz (seqD b (intsD' ps))), some (intsO []), none, none] = .ok (.nx [some (O.fz (seqD b (intsD' ps))), some (intsO []), some (.fz (.int 0)), none]) := by
      simp
    rw [rSeq_nx e3]
  rw [start]
  cases ps with
  | nil =>
    rw [U_eq, if_neg (by simp)]
    rfl
  | cons p t =>
    have hn : ([] : List Int).length < (p :: t).length := by simp
    have p1 := hP.pos 0 (by simp)
    have nx : nxt (p :: t) [] 0 ((at_ (p :: t) ([] : List Int).length).toNat - 0) = some 0 := by
      obtain ⟨m, hm⟩ : ∃ m, (at_ (p :: t) 0).toNat = m + 1 := ⟨(at_ (p :: t) 0).toNat - 1, by omega⟩
      show ff _ 0 ((at_ (p :: t) 0).toNat - 0) = _
      rw [hm]
      rfl
    obtain ⟨y, hy⟩ := U_some c b (p :: t) [] 0 none hP hn (by omega) 0 nx
    have hy' : U c (seqD b (intsD' (p :: t))) [] 0 none = U c (seqD b (intsD' (p :: t))) [0] 0 y := hy
    rw [hy']
    obtain ⟨i1, i2⟩ := U_Sx c b (p :: t) hP t.length [0] (by simp; omega) (by simp) y
    have fst := Sx_first (ps := p :: t) (p := p) (n := t.length) rfl (by simp) hP.pos
    show _ = Rz.ok (O.fz (optT (Sx (p :: t) (t.length + 1) [])), [])
    rw [fst]
    cases q : Sx (p :: t) t.length [0] with
    | some r => rw [i1 r q]; rfl
    | none => rw [(i2 q).1 (by simp)]; rfl
end DL

/-! S7: the law's own gcd, apart, starts. -/
namespace DL
open PySem L2
theorem law_gcd_ok (c : Cs) (a b : Nat) (hb : b < 20000) : phi_law_gcd c [.fz (.int (a : Nat)), .fz (.int (b : Nat))] = .ok (.fz (.int ((Nat.gcd a b : Nat) : Int)), []) := by
  rw [go_law_gcd]
  have L := forR_gen (t := tgN 4) (f := body1_law_gcd c) (P := fun o => ∃ u v, o = .nx [some (.fz (.int (a : Nat))), some (.fz (.int (b : Nat))), some (.fz (.int ((Nat.gcd a b : Nat) : Int))), some (.fz (.int 0)), u, v]) (rangeD 0 20000)
    (fun i δ => ∃ (l r : Nat) (u v : Option O), δ = [some (.fz (.int (a : Nat))), some (.fz (.int (b : Nat))), some (.fz (.int (l : Nat))), some (.fz (.int (r : Nat))), u, v] ∧ Nat.gcd l r = Nat.gcd a b ∧ r + i ≤ b)
    [some (.fz (.int (a : Nat))), some (.fz (.int (b : Nat))), some (.fz (.int (a : Nat))), some (.fz (.int (b : Nat))), none, none]
    (fun δ h => by
      obtain ⟨l, r, u, v, rfl, _, h⟩ := h
      rw [rangeD_len] at h
      omega)
    (fun i d δ hd h => by
      obtain ⟨l, r, u, v, rfl, hg, h⟩ := h
      obtain ⟨hi, rfl⟩ := rangeD_get hd
      refine ⟨_, rfl, ?_⟩
      show ∃ o, body1_law_gcd c [some (.fz (.int (a : Nat))), some (.fz (.int (b : Nat))), some (.fz (.int (l : Nat))), some (.fz (.int (r : Nat))), some (.fz (.int (0 + (i : Nat)))), v] = .ok o ∧ _
      by_cases e : r = 0
      · subst e
        have hl : l = Nat.gcd a b := by simpa using hg
        exact ⟨.bk [some (.fz (.int (a : Nat))), some (.fz (.int (b : Nat))), some (.fz (.int (l : Nat))), some (.fz (.int ((0 : Nat) : Int))), some (.fz (.int (0 + (i : Nat)))), v], by simp [body1_law_gcd], _, _, by rw [hl]; rfl⟩
      · have e' : ¬ ((r : Nat) : Int) = 0 := by omega
        have e2 : (0 : Int) < ((r : Nat) : Int) := by omega
        refine ⟨.nx [some (.fz (.int (a : Nat))), some (.fz (.int (b : Nat))), some (.fz (.int (r : Nat))), some (.fz (.int ((l % r : Nat) : Int))), some (.fz (.int (0 + (i : Nat)))), some (.fz (.int ((l % r : Nat) : Int)))], ?_, r, l % r, _, _, rfl, ?_, ?_⟩
        · simp [body1_law_gcd, e, Nat.pos_of_ne_zero e]
        · rw [← hg, Nat.gcd_comm l r, Nat.gcd_rec r l, Nat.gcd_comm]
        · have := Nat.mod_lt l (Nat.pos_of_ne_zero e)
          omega) ⟨a, b, none, none, rfl, rfl, by omega⟩
  obtain ⟨o, e, u, v, rfl⟩ := L
  have w : wR1 (gaCons (gC (D.int 20000)) gaNil) [some (.fz (.int (a : Nat))), some (.fz (.int (b : Nat))), some (.fz (.int (a : Nat))), some (.fz (.int (b : Nat))), none, none] = .ok (rangeD 0 20000, [some (.fz (.int (a : Nat))), some (.fz (.int (b : Nat))), some (.fz (.int (a : Nat))), some (.fz (.int (b : Nat))), none, none]) :=
    rng1 (n := 20000) (by simp) ⟨_, _, rfl⟩ (by omega)
  unfold run_law_gcd
  have e1 : rSet 2 (gO (gIf (gB (g2 fGe (gV 0) (gC (D.int 0)))) (gV 0) (g1 fNeg (gV 0)))) [some (.fz (.int (a : Nat))), some (.fz (.int (b : Nat))), none, none, none, none] = .ok (.nx [some (.fz (.int (a : Nat))), some (.fz (.int (b : Nat))), some (.fz (.int (a : Nat))), none, none, none]) := by simp
  have e2 : rSet 3 (gO (gIf (gB (g2 fGe (gV 1) (gC (D.int 0)))) (gV 1) (g1 fNeg (gV 1)))) [some (.fz (.int (a : Nat))), some (.fz (.int (b : Nat))), some (.fz (.int (a : Nat))), none, none, none] = .ok (.nx [some (.fz (.int (a : Nat))), some (.fz (.int (b : Nat))), some (.fz (.int (a : Nat))), some (.fz (.int (b : Nat))), none, none]) := by simp
  have e3 : rFor (wR1 (gaCons (gC (D.int 20000)) gaNil)) (tgN 4) (body1_law_gcd c) [some (.fz (.int (a : Nat))), some (.fz (.int (b : Nat))), some (.fz (.int (a : Nat))), some (.fz (.int (b : Nat))), none, none] = .ok (.nx [some (.fz (.int (a : Nat))), some (.fz (.int (b : Nat))), some (.fz (.int ((Nat.gcd a b : Nat) : Int))), some (.fz (.int 0)), u, v]) := by
    rw [e_rFor, w, Rz.bind_ok]
    exact e
  rw [rSeq_nx e1, rSeq_nx e2, rSeq_nx e3]
  simp
/-- apart, over the first n -/
def apB (ps ss : List Int) (n : Nat) : Bool := (List.range n).all fun j => (List.range j).all fun i => !meetB (at_ ps j) (at_ ss j) (at_ ps i) (at_ ss i)
def boo (b : Bool) : Option Unit := if b = true then some () else none
theorem ff_boo (m : Nat → Bool) : ∀ (n lo : Nat), (ff (fun k => boo (m k)) lo n = none ∧ ∀ k, lo ≤ k → k < lo + n → m k = false) ∨ (ff (fun k => boo (m k)) lo n = some () ∧ ∃ k, lo ≤ k ∧ k < lo + n ∧ m k = true)
  | 0, lo => .inl ⟨rfl, fun k h1 h2 => by omega⟩
  | n + 1, lo => by
    rw [ff_succ]
    cases e : m lo with
    | true => exact .inr ⟨by simp [boo], lo, Nat.le_refl _, by omega, e⟩
    | false =>
      have b0 : boo false = none := rfl
      rw [b0]
      rcases ff_boo m n (lo + 1) with ⟨h1, h2⟩ | ⟨h1, k, h2, h3, h4⟩
      · refine .inl ⟨h1, fun k g1 g2 => ?_⟩
        by_cases q : k = lo
        · subst q; exact e
        · exact h2 k (by omega) (by omega)
      · exact .inr ⟨h1, k, by omega, by omega, h4⟩
theorem emod_abs {x g : Int} : max x (-x) % g = 0 ↔ x % g = 0 := by
  rcases Int.le_total 0 x with h | h
  · rw [Int.max_eq_left (by omega)]
  · rw [Int.max_eq_right (by omega)]
    constructor
    · intro h; exact Int.emod_eq_zero_of_dvd ((Int.dvd_neg).mp (Int.dvd_of_emod_eq_zero h))
    · intro h; exact Int.emod_eq_zero_of_dvd ((Int.dvd_neg).mpr (Int.dvd_of_emod_eq_zero h))
theorem apB_snoc {ps b : List Int} {s : Int} (g : Good ps b) (n : Nat) (hn : b.length < n) (q : List Int) (hq : ∀ k, k ≤ b.length → at_ q k = at_ ps k) : apB q (b ++ [s]) (b.length + 1) = !mtB ps b s := by
  rw [Bool.eq_iff_iff, Bool.not_eq_true']
  unfold apB
  rw [List.all_eq_true]
  constructor
  · intro h
    refine mtB_of fun k hk => ?_
    have h1 := h b.length (by simp)
    rw [List.all_eq_true] at h1
    have h2 := h1 k (by simpa using hk)
    rw [at_app2, at_app1 hk, hq _ (Nat.le_refl _), hq k (by omega)] at h2
    simpa using h2
  · intro h j hj
    have hj' : j < b.length + 1 := by simpa using hj
    rw [List.all_eq_true]
    intro i hi
    have hi' : i < j := by simpa using hi
    rw [hq j (by omega), hq i (by omega)]
    by_cases e : j < b.length
    · rw [at_app1 e, at_app1 (by omega), g.apart j e i hi']; rfl
    · have : j = b.length := by omega
      subst this
      rw [at_app2, at_app1 hi', mtB_false h i hi']; rfl
theorem meet_max {p q s b : Int} : (max (b - s) (s - b) % ((Nat.gcd q.natAbs p.natAbs : Nat) : Int) = 0) ↔ meetB p s q b = true := by
  unfold meetB
  rw [decide_eq_true_iff, show Nat.gcd q.natAbs p.natAbs = Int.gcd p q from Nat.gcd_comm _ _]
  have : max (b - s) (s - b) = max (s - b) (-(s - b)) := by omega
  rw [this, emod_abs]
/-- the law's own look at two starts -/
theorem b1_apart (c : Cs) (b b2 : Bool) (ps ss : List Int) (j i : Nat) (hj : j < ps.length) (hi : i < j) (hs : j < ss.length) (hp : ∀ k, k < ps.length → 1 ≤ at_ ps k ∧ at_ ps k ≤ 12) (x : Option O) :
    ∃ y, body1_law_apart_days c [some (.fz (seqD b (intsD' ps))), some (.fz (seqD b2 (intsD' ss))), some (.fz (.int (j : Nat))), some (.fz (.int (i : Nat))), x] =
      if meetB (at_ ps j) (at_ ss j) (at_ ps i) (at_ ss i) = true then .ok (.rt (.fz (.bl false)) [some (.fz (seqD b (intsD' ps))), some (.fz (seqD b2 (intsD' ss))), some (.fz (.int (j : Nat))), some (.fz (.int (i : Nat))), y])
      else .ok (.nx [some (.fz (seqD b (intsD' ps))), some (.fz (seqD b2 (intsD' ss))), some (.fz (.int (j : Nat))), some (.fz (.int (i : Nat))), y]) := by
  have p1 := ix_seq' b ps i (by omega)
  have p2 := ix_seq' b ps j hj
  have s1 := ix_seq' b2 ss i (by omega)
  have s2 := ix_seq' b2 ss j hs
  have w1 := hp i (by omega)
  have w2 := hp j hj
  obtain ⟨u, hu⟩ : ∃ u : Nat, at_ ps i = u := ⟨(at_ ps i).toNat, by omega⟩
  obtain ⟨v, hv⟩ : ∃ v : Nat, at_ ps j = v := ⟨(at_ ps j).toNat, by omega⟩
  have g := law_gcd_ok c u v (by omega)
  have m := meet_max (p := at_ ps j) (q := at_ ps i) (s := at_ ss j) (b := at_ ss i)
  rw [hu, hv] at m
  have gp : 0 < Nat.gcd u v := Nat.gcd_pos_of_pos_left _ (by omega)
  have gp' : (0 : Int) < ((Nat.gcd u v : Nat) : Int) := by omega
  rw [hu] at p1
  rw [hv] at p2
  rw [hu, hv]
  simp only [Int.natAbs_natCast] at m
  refine ⟨some (.fz (.int ((Nat.gcd u v : Nat) : Int))), ?_⟩
  by_cases e : meetB (v : Int) (at_ ss j) (u : Int) (at_ ss i) = true
  · have m' := m.mpr e
    rw [if_pos e]
    unfold body1_law_apart_days
    have e1 : rSet 4 (gCall 2 [] (phi_law_gcd c) (gAD (g2 fIx (gV 0) (gV 3)) (gAD (g2 fIx (gV 0) (gV 2)) gANil))) [some (.fz (seqD b (intsD' ps))), some (.fz (seqD b2 (intsD' ss))), some (.fz (.int (j : Nat))), some (.fz (.int (i : Nat))), x] =
      .ok (.nx [some (.fz (seqD b (intsD' ps))), some (.fz (seqD b2 (intsD' ss))), some (.fz (.int (j : Nat))), some (.fz (.int (i : Nat))), some (.fz (.int ((Nat.gcd u v : Nat) : Int)))]) := by
      simp [p1, p2, g]
    rw [rSeq_nx e1]
    simp [s1, s2, gp, m']
  · have m' : ¬ _ := fun z => e (m.mp z)
    rw [if_neg e]
    unfold body1_law_apart_days
    have e1 : rSet 4 (gCall 2 [] (phi_law_gcd c) (gAD (g2 fIx (gV 0) (gV 3)) (gAD (g2 fIx (gV 0) (gV 2)) gANil))) [some (.fz (seqD b (intsD' ps))), some (.fz (seqD b2 (intsD' ss))), some (.fz (.int (j : Nat))), some (.fz (.int (i : Nat))), x] =
      .ok (.nx [some (.fz (seqD b (intsD' ps))), some (.fz (seqD b2 (intsD' ss))), some (.fz (.int (j : Nat))), some (.fz (.int (i : Nat))), some (.fz (.int ((Nat.gcd u v : Nat) : Int)))]) := by
      simp [p1, p2, g]
    rw [rSeq_nx e1]
    simp [s1, s2, gp, m']
end DL

/-! S8: the law's own search. -/
namespace DL
open PySem L2
theorem rFor_eq {g : DEnv → Rz (List D × DEnv)} {t : D → DEnv → Option DEnv} {f : Run} {x : Option O} {xs δ' : DEnv} {ds : List D} (h : g (x :: xs) = .ok (ds, δ')) : rFor g t f (x :: xs) = forR t f ds δ' := by
  rw [e_rFor, h, Rz.bind_ok]
theorem b2_apart (c : Cs) (b b2 : Bool) (ps ss : List Int) (j : Nat) (hj : j < ps.length) (hs : j < ss.length) (h5 : ps.length ≤ 1000) (hp : ∀ k, k < ps.length → 1 ≤ at_ ps k ∧ at_ ps k ≤ 12) (x y : Option O) :
    ((List.range j).any (fun i => meetB (at_ ps j) (at_ ss j) (at_ ps i) (at_ ss i)) = false → ∃ u v, body2_law_apart_days c [some (.fz (seqD b (intsD' ps))), some (.fz (seqD b2 (intsD' ss))), some (.fz (.int (j : Nat))), x, y] =
      .ok (.nx [some (.fz (seqD b (intsD' ps))), some (.fz (seqD b2 (intsD' ss))), some (.fz (.int (j : Nat))), u, v])) ∧
    ((List.range j).any (fun i => meetB (at_ ps j) (at_ ss j) (at_ ps i) (at_ ss i)) = true → ∃ δ', body2_law_apart_days c [some (.fz (seqD b (intsD' ps))), some (.fz (seqD b2 (intsD' ss))), some (.fz (.int (j : Nat))), x, y] = .ok (.rt (.fz (.bl false)) δ')) := by
  have w : wR1 (gaCons (gV 2) gaNil) [some (.fz (seqD b (intsD' ps))), some (.fz (seqD b2 (intsD' ss))), some (.fz (.int (j : Nat))), x, y] = .ok (rangeD 0 j, [some (.fz (seqD b (intsD' ps))), some (.fz (seqD b2 (intsD' ss))), some (.fz (.int (j : Nat))), x, y]) :=
    rng1 (n := j) (by simp) ⟨_, _, rfl⟩ (by omega)
  have L := forR_ff (t := tgN 3) (f := body1_law_apart_days c) (fun δ => ∃ u v, δ = [some (.fz (seqD b (intsD' ps))), some (.fz (seqD b2 (intsD' ss))), some (.fz (.int (j : Nat))), u, v])
    (fun i => boo (meetB (at_ ps j) (at_ ss j) (at_ ps i) (at_ ss i))) (fun _ => .fz (.bl false)) j 0 [some (.fz (seqD b (intsD' ps))), some (.fz (seqD b2 (intsD' ss))), some (.fz (.int (j : Nat))), x, y]
    (fun i δ _ hi h => by
      obtain ⟨u, v, rfl⟩ := h
      obtain ⟨y', hy⟩ := b1_apart c b b2 ps ss j i hj (by omega) hs hp v
      refine ⟨_, rfl, fun h => ?_, fun z h => ?_⟩
      · refine ⟨[some (.fz (seqD b (intsD' ps))), some (.fz (seqD b2 (intsD' ss))), some (.fz (.int (j : Nat))), some (.fz (.int (i : Nat))), y'], ?_, _, _, rfl⟩
        have e : ¬ meetB (at_ ps j) (at_ ss j) (at_ ps i) (at_ ss i) = true := fun e => by rw [e] at h; cases h
        rw [if_neg e] at hy
        exact hy
      · have e : meetB (at_ ps j) (at_ ss j) (at_ ps i) (at_ ss i) = true := by
          cases q : meetB (at_ ps j) (at_ ss j) (at_ ps i) (at_ ss i) with
          | true => rfl
          | false => rw [q] at h; cases h
        rw [if_pos e] at hy
        exact ⟨_, hy⟩) ⟨x, y, rfl⟩
  unfold body2_law_apart_days
  rw [rFor_eq w]
  rcases ff_boo (fun i => meetB (at_ ps j) (at_ ss j) (at_ ps i) (at_ ss i)) j 0 with ⟨h1, h2⟩ | ⟨h1, k, h2, h3, h4⟩
  · obtain ⟨δ', e, u, v, rfl⟩ := L.1 h1
    refine ⟨fun _ => ⟨u, v, e⟩, fun h => ?_⟩
    rw [List.any_eq_true] at h
    obtain ⟨k, hk, hk2⟩ := h
    rw [h2 k (by omega) (by have := List.mem_range.mp hk; omega)] at hk2
    cases hk2
  · obtain ⟨δ', e⟩ := L.2 () h1
    refine ⟨fun h => ?_, fun _ => ⟨δ', e⟩⟩
    rw [List.any_eq_false] at h
    exact absurd h4 (h k (List.mem_range.mpr (by omega)))
theorem apart_ok (c : Cs) (b b2 : Bool) (ps ss : List Int) (hs : ps.length ≤ ss.length) (h5 : ps.length ≤ 1000) (hp : ∀ k, k < ps.length → 1 ≤ at_ ps k ∧ at_ ps k ≤ 12) :
    phi_law_apart_days c [.fz (seqD b (intsD' ps)), .fz (seqD b2 (intsD' ss))] = .ok (.fz (.bl (apB ps ss ps.length)), []) := by
  rw [go_law_apart_days]
  have w : wR1 (gaCons (gN fLen (gaCons (gV 0) gaNil)) gaNil) [some (.fz (seqD b (intsD' ps))), some (.fz (seqD b2 (intsD' ss))), none, none, none] = .ok (rangeD 0 ps.length, [some (.fz (seqD b (intsD' ps))), some (.fz (seqD b2 (intsD' ss))), none, none, none]) :=
    rng1 (n := ps.length) (by simp) ⟨_, _, rfl⟩ (by omega)
  have L := forR_ff (t := tgN 2) (f := body2_law_apart_days c) (fun δ => ∃ u v w, δ = [some (.fz (seqD b (intsD' ps))), some (.fz (seqD b2 (intsD' ss))), u, v, w])
    (fun j => boo ((List.range j).any fun i => meetB (at_ ps j) (at_ ss j) (at_ ps i) (at_ ss i))) (fun _ => .fz (.bl false)) ps.length 0 [some (.fz (seqD b (intsD' ps))), some (.fz (seqD b2 (intsD' ss))), none, none, none]
    (fun j δ _ hj h => by
      obtain ⟨u, v, w, rfl⟩ := h
      obtain ⟨k1, k2⟩ := b2_apart c b b2 ps ss j (by omega) (by omega) h5 hp v w
      refine ⟨_, rfl, fun h => ?_, fun z h => ?_⟩
      · cases q : (List.range j).any fun i => meetB (at_ ps j) (at_ ss j) (at_ ps i) (at_ ss i) with
        | true => rw [q] at h; cases h
        | false =>
          obtain ⟨u', v', e⟩ := k1 q
          exact ⟨_, e, _, _, _, rfl⟩
      · cases q : (List.range j).any fun i => meetB (at_ ps j) (at_ ss j) (at_ ps i) (at_ ss i) with
        | false => rw [q] at h; cases h
        | true => exact k2 q) ⟨none, none, none, rfl⟩
  have hr : run_law_apart_days c [some (.fz (seqD b (intsD' ps))), some (.fz (seqD b2 (intsD' ss))), none, none, none] = ((forR (tgN 2) (body2_law_apart_days c) (rangeD 0 ps.length) [some (.fz (seqD b (intsD' ps))), some (.fz (seqD b2 (intsD' ss))), none, none, none]).bind fun o => match o with
      | .nx δ' => rRet (gO (gC (D.bl true))) δ'
      | .rt o δ' => .ok (.rt o δ')
      | .bk δ' => .ok (.bk δ')
      | .ct δ' => .ok (.ct δ')) := by
    unfold run_law_apart_days
    rw [e_rSeq, rFor_eq w]
    try rfl
  rw [hr]
  rcases ff_boo (fun j => (List.range j).any fun i => meetB (at_ ps j) (at_ ss j) (at_ ps i) (at_ ss i)) ps.length 0 with ⟨h1, h2⟩ | ⟨h1, k, h2, h3, h4⟩
  · obtain ⟨δ', e, u, v, w, rfl⟩ := L.1 h1
    have : apB ps ss ps.length = true := by
      unfold apB
      rw [List.all_eq_true]
      intro j hj
      have := h2 j (by omega) (by have := List.mem_range.mp hj; omega)
      rw [List.any_eq_false] at this
      rw [List.all_eq_true]
      intro i hi
      simpa using this i hi
    rw [this]
    have e' : forR (tgN 2) (body2_law_apart_days c) (rangeD 0 ps.length) [some (.fz (seqD b (intsD' ps))), some (.fz (seqD b2 (intsD' ss))), none, none, none] = _ := e
    rw [e', Rz.bind_ok]
    simp
  · obtain ⟨δ', e⟩ := L.2 () h1
    have : apB ps ss ps.length = false := by
      rw [Bool.eq_false_iff]
      intro h
      unfold apB at h
      rw [List.all_eq_true] at h
      have h5 := h k (List.mem_range.mpr (by omega))
      rw [List.all_eq_true] at h5
      rw [List.any_eq_true] at h4
      obtain ⟨i, hi, hi2⟩ := h4
      have := h5 i hi
      rw [hi2] at this
      cases this
    rw [this]
    have e' : forR (tgN 2) (body2_law_apart_days c) (rangeD 0 ps.length) [some (.fz (seqD b (intsD' ps))), some (.fz (seqD b2 (intsD' ss))), none, none, none] = _ := e
    rw [e', Rz.bind_ok]
    simp
theorem cut_take (ds : List D) (k : Nat) (h : k ≤ ds.length) : cutD ds none (some (k : Int)) = ds.take k := by
  unfold cutD HT.sIx
  have : ¬ ((k : Int) < 0) := by omega
  simp [this]
theorem at_take {l : List Int} {n k : Nat} (h : k < n) : at_ (l.take n) k = at_ l k := by
  simp [at_, List.getD_eq_getElem?_getD, List.getElem?_take, h]
theorem rIf_t {g : DEnv → Rz (Bool × DEnv)} {f h : Run} {δ δ' : DEnv} (e : g δ = .ok (true, δ')) : rIf g f h δ = f δ' := by
  unfold rIf; rw [e]; rfl
theorem rIf_f {g : DEnv → Rz (Bool × DEnv)} {f h : Run} {δ δ' : DEnv} (e : g δ = .ok (false, δ')) : rIf g f h δ = h δ' := by
  unfold rIf; rw [e]; rfl
theorem law_starts_zero (c : Cs) (ps : List Int) (fuel : Nat) (made : List Int) (hl : made.length = ps.length) :
    phi_law_starts c (fuel + 1) [.fz (seqD false (intsD' ps)), .fz (seqD false (intsD' made))] = .ok (.fz (optT (Sx ps 0 made)), []) := by
    rw [go_law_starts]
    simp [run_law_starts, hl, Sx, optT, seqD]
theorem b1s3 (ps made : List Int) (s : Nat) (v w : Option O) (h5 : made.length < 1000) (hn : made.length + 1 ≤ ps.length) : rSet 3 (gX2 fAdd (gV 1) (gaTup (gaCons (gV 2) gaNil))) [some (.fz (seqD false (intsD' ps))), some (.fz (seqD false (intsD' made))), some (.fz (.int (s : Nat))), v, w] =
      .ok (.nx [some (.fz (seqD false (intsD' ps))), some (.fz (seqD false (intsD' made))), some (.fz (.int (s : Nat))), some (.fz (seqD false (intsD' (made ++ [((s : Nat) : Int)])))), w]) := by
  have : made.length + 1 ≤ 100000 := by omega
  simp [seqD, this]
theorem b1sl (ps made : List Int) (s : Nat) (v w : Option O) (h5 : made.length < 1000) (hn : made.length + 1 ≤ ps.length) : gSlU (gV 0) (fun δ => .ok (none, δ)) (gPart (gN fLen (gaCons (gV 3) gaNil))) [some (.fz (seqD false (intsD' ps))), some (.fz (seqD false (intsD' made))), some (.fz (.int (s : Nat))), some (.fz (seqD false (intsD' (made ++ [((s : Nat) : Int)])))), w] =
      .ok (.fz (seqD false (intsD' (ps.take (made.length + 1)))), [some (.fz (seqD false (intsD' ps))), some (.fz (seqD false (intsD' made))), some (.fz (.int (s : Nat))), some (.fz (seqD false (intsD' (made ++ [((s : Nat) : Int)])))), w]) := by
  have ct := cut_take (intsD' ps) (made.length + 1) (by simp; omega)
  simp [seqD] at ct ⊢
  rw [ct]
theorem b1cond (Φ : Ph) (P1 N1 : D) (L1 M : List D) (s : Nat) (w : Option O) (m : Bool)
    (sl : gSlU (gV 0) (fun δ => .ok (none, δ)) (gPart (gN fLen (gaCons (gV 3) gaNil))) [some (.fz P1), some (.fz N1), some (.fz (.int (s : Nat))), some (.fz (seqD false M)), w] = .ok (.fz (seqD false L1), [some (.fz P1), some (.fz N1), some (.fz (.int (s : Nat))), some (.fz (seqD false M)), w]))
    (ap : Φ [.fz (seqD false L1), .fz (seqD false M)] = .ok (.fz (.bl (!m)), [])) :
    gB (gZ (gCall 2 [] (Φ) (gAD (gZ (gSlU (gV 0) (fun δ => .ok (none, δ)) (gPart (gN fLen (gaCons (gV 3) gaNil))))) (gAD (gV 3) gANil)))) [some (.fz P1), some (.fz N1), some (.fz (.int (s : Nat))), some (.fz (seqD false M)), w] =
      .ok (!m, [some (.fz P1), some (.fz N1), some (.fz (.int (s : Nat))), some (.fz (seqD false M)), w]) := by
  simp [sl, ap, -e_gSlU]
theorem b1s4 (Φ : Ph) (P1 N1 M r : D) (s : Nat) (w : Option O) (ih : Φ [.fz P1, .fz M] = .ok (.fz r, [])) :
    rSet 4 (gCall 2 [] Φ (gAD (gV 0) (gAD (gV 3) gANil))) [some (.fz P1), some (.fz N1), some (.fz (.int (s : Nat))), some (.fz M), w] = .ok (.nx [some (.fz P1), some (.fz N1), some (.fz (.int (s : Nat))), some (.fz M), some (.fz r)]) := by
  simp [ih]
theorem b1core (c : Cs) (P1 N1 : D) (M : List D) (fuel s : Nat) (v w : Option O) (m : Bool) (r : Option (List Int))
    (s3 : rSet 3 (gX2 fAdd (gV 1) (gaTup (gaCons (gV 2) gaNil))) [some (.fz P1), some (.fz N1), some (.fz (.int (s : Nat))), v, w] = .ok (.nx [some (.fz P1), some (.fz N1), some (.fz (.int (s : Nat))), some (.fz (seqD false M)), w]))
    (cond : gB (gZ (gCall 2 [] (phi_law_apart_days c) (gAD (gZ (gSlU (gV 0) (fun δ => .ok (none, δ)) (gPart (gN fLen (gaCons (gV 3) gaNil))))) (gAD (gV 3) gANil)))) [some (.fz P1), some (.fz N1), some (.fz (.int (s : Nat))), some (.fz (seqD false M)), w] =
      .ok (!m, [some (.fz P1), some (.fz N1), some (.fz (.int (s : Nat))), some (.fz (seqD false M)), w]))
    (ih : m = false → phi_law_starts c fuel [.fz P1, .fz (seqD false M)] = .ok (.fz (optT r), [])) :
    ((m = true ∨ r = none) → ∃ v' w', body1_law_starts c (phi_law_starts c fuel) [some (.fz P1), some (.fz N1), some (.fz (.int (s : Nat))), v, w] = .ok (.nx [some (.fz P1), some (.fz N1), some (.fz (.int (s : Nat))), v', w'])) ∧
    (m = false → ∀ x, r = some x → ∃ δ', body1_law_starts c (phi_law_starts c fuel) [some (.fz P1), some (.fz N1), some (.fz (.int (s : Nat))), v, w] = .ok (.rt (.fz (.tup (intsD' x))) δ')) := by
  unfold body1_law_starts
  rw [rSeq_nx s3]
  cases m with
  | true =>
    rw [rIf_f cond]
    exact ⟨fun _ => ⟨_, _, rfl⟩, fun h => (by cases h)⟩
  | false =>
    rw [rIf_t cond]
    have ih' := ih rfl
    have s4 : rSet 4 (gCall 2 [] (phi_law_starts c fuel) (gAD (gV 0) (gAD (gV 3) gANil))) [some (.fz P1), some (.fz N1), some (.fz (.int (s : Nat))), some (.fz (seqD false M)), w] = .ok (.nx [some (.fz P1), some (.fz N1), some (.fz (.int (s : Nat))), some (.fz (seqD false M)), some (.fz (optT r))]) := by
      exact b1s4 (phi_law_starts c fuel) P1 N1 (seqD false M) (optT r) s w ih'
    rw [rSeq_nx s4]
    cases r with
    | none =>
      refine ⟨fun _ => ⟨some (.fz (seqD false M)), some (.fz (optT none)), ?_⟩, fun _ x h => (by cases h)⟩
      rw [rIf_f (δ' := [some (.fz P1), some (.fz N1), some (.fz (.int (s : Nat))), some (.fz (seqD false M)), some (.fz (optT none))]) (by simp [optT, isNonD])]
      rfl
    | some x =>
      refine ⟨fun h => (by rcases h with h | h <;> cases h), fun _ y h => ?_⟩
      cases h
      refine ⟨[some (.fz P1), some (.fz N1), some (.fz (.int (s : Nat))), some (.fz (seqD false M)), some (.fz (optT (some x)))], ?_⟩
      rw [rIf_t (δ' := [some (.fz P1), some (.fz N1), some (.fz (.int (s : Nat))), some (.fz (seqD false M)), some (.fz (optT (some x)))]) (by simp [optT, isNonD])]
      rfl
/-- one start is looked at -/
theorem b1_law_starts (c : Cs) (ps made : List Int) (fuel : Nat) (s : Nat) (v w : Option O) (m : Bool) (h5 : made.length < 1000) (hn : made.length + 1 ≤ ps.length)
    (ap : phi_law_apart_days c [.fz (seqD false (intsD' (ps.take (made.length + 1)))), .fz (seqD false (intsD' (made ++ [((s : Nat) : Int)])))] = .ok (.fz (.bl (!m)), [])) (r : Option (List Int))
    (ih : m = false → phi_law_starts c fuel [.fz (seqD false (intsD' ps)), .fz (seqD false (intsD' (made ++ [((s : Nat) : Int)])))] = .ok (.fz (optT r), [])) :
    ((m = true ∨ r = none) → ∃ v' w', body1_law_starts c (phi_law_starts c fuel) [some (.fz (seqD false (intsD' ps))), some (.fz (seqD false (intsD' made))), some (.fz (.int (s : Nat))), v, w] = .ok (.nx [some (.fz (seqD false (intsD' ps))), some (.fz (seqD false (intsD' made))), some (.fz (.int (s : Nat))), v', w'])) ∧
    (m = false → ∀ x, r = some x → ∃ δ', body1_law_starts c (phi_law_starts c fuel) [some (.fz (seqD false (intsD' ps))), some (.fz (seqD false (intsD' made))), some (.fz (.int (s : Nat))), v, w] = .ok (.rt (.fz (.tup (intsD' x))) δ')) :=
  b1core c _ _ _ fuel s v w m r (b1s3 ps made s v w h5 hn) (b1cond _ _ _ _ _ s w m (b1sl ps made s v w h5 hn) ap) ih
theorem law_starts_succ (c : Cs) (ps : List Int) (hP : Per ps) (d fuel : Nat) (made : List Int) (hl : made.length + (d + 1) = ps.length) (g : Good ps made)
    (IH : ∀ made : List Int, made.length + d = ps.length → Good ps made → phi_law_starts c fuel [.fz (seqD false (intsD' ps)), .fz (seqD false (intsD' made))] = .ok (.fz (optT (Sx ps d made)), [])) :
    phi_law_starts c (fuel + 1) [.fz (seqD false (intsD' ps)), .fz (seqD false (intsD' made))] = .ok (.fz (optT (Sx ps (d + 1) made)), []) := by
  have hn : made.length < ps.length := by omega
  have p1 := hP.pos _ hn
  have p2 := hP.le _ hn
  have l5 := hP.len
  have i := ix_seq' false ps made.length hn
  rw [go_law_starts]
  have hne : ¬ ((made.length : Int) = (ps.length : Int)) := by omega
  have e1 : rIf (gB (g2 fEq (gN fLen (gaCons (gV 1) gaNil)) (gN fLen (gaCons (gV 0) gaNil)))) (rRet (gO (gV 1))) rNext [some (.fz (seqD false (intsD' ps))), some (.fz (seqD false (intsD' made))), none, none, none] =
      .ok (.nx [some (.fz (seqD false (intsD' ps))), some (.fz (seqD false (intsD' made))), none, none, none]) := by
    rw [rIf_f (δ' := [some (.fz (seqD false (intsD' ps))), some (.fz (seqD false (intsD' made))), none, none, none]) (by simp [hne])]
    rfl
  have w : wR1 (gaCons (g2 fIx (gV 0) (gN fLen (gaCons (gV 1) gaNil))) gaNil) [some (.fz (seqD false (intsD' ps))), some (.fz (seqD false (intsD' made))), none, none, none] =
      .ok (rangeD 0 (at_ ps made.length).toNat, [some (.fz (seqD false (intsD' ps))), some (.fz (seqD false (intsD' made))), none, none, none]) :=
    rng1 (n := (at_ ps made.length).toNat) (by
      have : (((at_ ps made.length).toNat : Nat) : Int) = at_ ps made.length := by omega
      rw [this]
      simp [i]) ⟨_, _, rfl⟩ (by omega)
  have L := forR_ff (t := tgN 2) (f := body1_law_starts c (phi_law_starts c fuel)) (fun δ => ∃ u v w, δ = [some (.fz (seqD false (intsD' ps))), some (.fz (seqD false (intsD' made))), u, v, w])
    (fun s => if mtB ps made (s : Nat) = true then none else Sx ps d (made ++ [((s : Nat) : Int)])) (fun r => .fz (.tup (intsD' r))) (at_ ps made.length).toNat 0 [some (.fz (seqD false (intsD' ps))), some (.fz (seqD false (intsD' made))), none, none, none]
    (fun s δ _ hs h => by
      obtain ⟨u, v, w, rfl⟩ := h
      refine ⟨_, rfl, ?_⟩
      have ap := apart_ok c false false (ps.take (made.length + 1)) (made ++ [((s : Nat) : Int)]) (by simp; omega) (by simp; omega) (fun k hk => by
        have hk' : k < ps.length := by simp at hk; omega
        have hk2 : k < made.length + 1 := by simp at hk; omega
        rw [at_take hk2]
        exact ⟨hP.pos k hk', hP.le k hk'⟩)
      have tl : (ps.take (made.length + 1)).length = made.length + 1 := by simp; omega
      rw [tl, apB_snoc g (made.length + 1) (by omega) (ps.take (made.length + 1)) (fun k hk => at_take (by omega))] at ap
      obtain ⟨k1, k2⟩ := b1_law_starts c ps made fuel s v w (mtB ps made (s : Nat)) (by omega) (by omega) ap (Sx ps d (made ++ [((s : Nat) : Int)])) (fun em => IH (made ++ [((s : Nat) : Int)]) (by simp; omega) (g.snoc (by omega) (by omega) em))
      refine ⟨fun h => ?_, fun x h => ?_⟩
      · obtain ⟨v', w', e⟩ := k1 (by
          by_cases em : mtB ps made (s : Nat) = true
          · exact .inl em
          · rw [if_neg em] at h; exact .inr h)
        exact ⟨_, e, _, _, _, rfl⟩
      · by_cases em : mtB ps made (s : Nat) = true
        · rw [if_pos em] at h; cases h
        · rw [if_neg em] at h
          exact k2 (by simpa using em) x h) ⟨none, none, none, rfl⟩
  unfold run_law_starts
  rw [rSeq_nx e1, e_rSeq, rFor_eq w]
  show _ = Rz.ok (O.fz (optT (ff _ 0 _)), [])
  cases q : ff (fun s => if mtB ps made (s : Nat) = true then none else Sx ps d (made ++ [((s : Nat) : Int)])) 0 (at_ ps made.length).toNat with
  | none =>
    obtain ⟨δ', e, u, v, w, rfl⟩ := L.1 q
    have e' : forR (tgN 2) (body1_law_starts c (phi_law_starts c fuel)) (rangeD 0 (at_ ps made.length).toNat) [some (.fz (seqD false (intsD' ps))), some (.fz (seqD false (intsD' made))), none, none, none] = _ := e
    rw [e', Rz.bind_ok]
    rfl
  | some r =>
    obtain ⟨δ', e⟩ := L.2 r q
    have e' : forR (tgN 2) (body1_law_starts c (phi_law_starts c fuel)) (rangeD 0 (at_ ps made.length).toNat) [some (.fz (seqD false (intsD' ps))), some (.fz (seqD false (intsD' made))), none, none, none] = _ := e
    rw [e', Rz.bind_ok]
    rfl
theorem law_starts_ok (c : Cs) (ps : List Int) (hP : Per ps) : ∀ (d fuel : Nat) (made : List Int), made.length + d = ps.length → d < fuel → Good ps made →
    phi_law_starts c fuel [.fz (seqD false (intsD' ps)), .fz (seqD false (intsD' made))] = .ok (.fz (optT (Sx ps d made)), []) := by
  intro d
  induction d with
  | zero =>
    intro fuel made hl hf g
    obtain ⟨f, rfl⟩ : ∃ f, fuel = f + 1 := ⟨fuel - 1, by omega⟩
    exact law_starts_zero c ps f made hl
  | succ d ih =>
    intro fuel made hl hf g
    obtain ⟨f, rfl⟩ : ∃ f, fuel = f + 1 := ⟨fuel - 1, by omega⟩
    exact law_starts_succ c ps hP d f made hl g fun m h1 h2 => ih f m h1 (by omega) h2
end DL

/-! S9: handed, so. -/
namespace DL
open PySem L2
theorem lc_listed (Φ : Ph) (h : ∀ x : Int, Φ [.fz (.int x)] = .ok (.fz (.int x), [])) (P : D) (l : List Int) :
    lcL (tgN 1) (fun δ => .ok (true, δ)) (gCall 1 [] Φ (gAD (gV 1) gANil)) [1] (intsD' l) [some (.fz P), none] = .ok ((intsD' l).map O.fz, [some (.fz P), none]) := by
  have L := lcL_map (tg := tgN 1) (gt := fun δ => .ok (true, δ)) (ge := gCall 1 [] Φ (gAD (gV 1) gANil)) (vs := [1]) (fun _ => true) O.fz [some (.fz P), none] (intsD' l) (fun d hd => by
    obtain ⟨x, _, rfl⟩ := List.mem_map.mp hd
    refine ⟨_, _, rfl, rfl, (fun z => by cases z), fun _ => ⟨[some (.fz P), some (.fz (.int x))], ?_, rfl⟩⟩
    show gCall 1 [] Φ (gAD (gV 1) gANil) [some (.fz P), some (.fz (.int x))] = _
    simp [h])
  rwa [filter_tt] at L
theorem listed_int (c : Cs) (n : Nat) (x : Int) : phi_law_listed c (n + 1) [.fz (.int x)] = .ok (.fz (.int x), []) := by
  rw [go_law_listed]; simp [run_law_listed]
theorem listed_run (Φ : Ph) (h : ∀ x : Int, Φ [.fz (.int x)] = .ok (.fz (.int x), [])) (l : List Int) (h5 : l.length ≤ 100000) (c : Cs) : (run_law_listed c Φ [some (.fz (.tup (intsD' l))), none]).bind (finR []) = .ok (intsO l, []) := by
  have e := lc_listed Φ h (.tup (intsD' l)) l
  unfold run_law_listed elt1_law_listed
  have e1 : rIf (gB (gIs isTup (gV 0))) (rRet (gLc (wA (gV 0)) (tgN 1) (fun δ => .ok (true, δ)) (gCall 1 [] Φ (gAD (gV 1) gANil)) [1])) rNext [some (.fz (.tup (intsD' l))), none] = .ok (.rt (intsO l) [some (.fz (.tup (intsD' l))), none]) := by
    rw [rIf_t (δ' := [some (.fz (.tup (intsD' l))), none]) (by simp)]
    simp [e, h5, intsO, Function.comp_def]
  rw [rSeq_rt e1]
  rfl
theorem listed_ok (c : Cs) (l : List Int) (h5 : l.length ≤ 100000) : phi_law_listed c 3 [.fz (.tup (intsD' l))] = .ok (intsO l, []) := by
  rw [go_law_listed]
  exact listed_run (phi_law_listed c 2) (listed_int c 1) l h5 c
theorem handed_run (Φt Φl : Ph) (row l : List Int) (p : Nat) (r : Int) (ht : Φt [.fz (ints_ row), spotO p, .fz (.int 2)] = .ok (.fz (.int r), [spotO (p + 1)])) (hl : Φl [.fz (.tup (intsD' l))] = .ok (intsO l, [])) :
    ∃ b, (rRet (gO (gIf (gB (g2 fEq (gZ (gCall 3 [1] Φt (gAD (gV 0) (gAA 1 (gAD (gC (D.int 2)) gANil))))) (gC (D.int 0)))) (gZ (gCall 1 [] Φl (gAD (gV 2) gANil))) (gV 2))) [some (.fz (ints_ row)), some (spotO p), some (.fz (.tup (intsD' l)))]).bind (finR [1]) = .ok (.fz (seqD b (intsD' l)), [spotO (p + 1)]) := by
  by_cases h : r = 0
  · refine ⟨true, ?_⟩
    simp [ht, hl, h, seqD, intsO, toDL_map, Function.comp_def]
  · refine ⟨false, ?_⟩
    simp [ht, hl, h, seqD]
theorem handed_ok (c : Cs) (row l : List Int) (hr : row ≠ []) (p : Nat) (h5 : l.length ≤ 100000) : ∃ b, phi_law_handed c [.fz (ints_ row), spotO p, .fz (seqD false (intsD' l))] = .ok (.fz (seqD b (intsD' l)), [spotO (p + 1)]) := by
  obtain ⟨r, _, _, h⟩ := take_ok c row hr p 2 (by omega)
  exact handed_run (phi_law_take c) (phi_law_listed c 3) row l p r h (listed_ok c l h5)
/-! ### so -/
def soOk : Nat → D → Bool
  | 0, _ => false
  | n + 1, .tup l => decide (l.length ≤ 100000) && l.all (soOk n)
  | _ + 1, .non => true
  | _ + 1, .bl _ => true
  | _ + 1, .int _ => true
  | _ + 1, .str _ => true
  | _, _ => false
theorem so_tup (c : Cs) (Φ : Ph) (l : List D) (h5 : l.length ≤ 100000) (h : ∀ d ∈ l, Φ [.fz d, .fz d] = .ok (.fz (.bl true), [])) : (run_law_so c Φ [some (.fz (.tup l)), some (.fz (.tup l)), none]).bind (finR []) = .ok (.fz (.bl true), []) := by
  have L := forR_inv (t := tgN 2) (f := body1_law_so c Φ) (rangeD 0 l.length) (fun i δ => ∃ x, δ = [some (.fz (.tup l)), some (.fz (.tup l)), x]) [some (.fz (.tup l)), some (.fz (.tup l)), none]
    (fun i d δ hd hI => by
      obtain ⟨x, rfl⟩ := hI
      obtain ⟨hi, rfl⟩ := rangeD_get hd
      refine ⟨_, rfl, [some (.fz (.tup l)), some (.fz (.tup l)), some (.fz (.int (0 + (i : Nat))))], ?_, _, rfl⟩
      show body1_law_so c Φ [some (.fz (.tup l)), some (.fz (.tup l)), some (.fz (.int (0 + (i : Nat))))] = _
      have e : atI l ((i : Nat) : Int) = some l[i] := atI_nat (by simp [hi])
      unfold body1_law_so
      rw [rIf_f (δ' := [some (.fz (.tup l)), some (.fz (.tup l)), some (.fz (.int (0 + (i : Nat))))])]
      · rfl
      · have := h l[i] (List.getElem_mem hi)
        simp [e, this]) ⟨none, rfl⟩
  obtain ⟨δ', e, x, rfl⟩ := L
  have w : wR1 (gaCons (gN fLen (gaCons (gV 1) gaNil)) gaNil) [some (.fz (.tup l)), some (.fz (.tup l)), none] = .ok (rangeD 0 l.length, [some (.fz (.tup l)), some (.fz (.tup l)), none]) := rng1 (n := l.length) (by simp) ⟨_, _, rfl⟩ (by omega)
  unfold run_law_so
  rw [rSeq_nx (δ' := [some (.fz (.tup l)), some (.fz (.tup l)), none]) (by rw [rIf_f (δ' := [some (.fz (.tup l)), some (.fz (.tup l)), none]) (by simp [isNonD])]; rfl)]
  rw [rSeq_rt (o := .fz (.bl true)) (δ' := [some (.fz (.tup l)), some (.fz (.tup l)), x])]
  · rfl
  · rw [rIf_t (δ' := [some (.fz (.tup l)), some (.fz (.tup l)), none]) (by simp)]
    rw [rSeq_nx (δ' := [some (.fz (.tup l)), some (.fz (.tup l)), none]) (by rw [rIf_f (δ' := [some (.fz (.tup l)), some (.fz (.tup l)), none]) (by simp)]; rfl)]
    rw [rSeq_nx (δ' := [some (.fz (.tup l)), some (.fz (.tup l)), x]) (by rw [rFor_eq w]; exact e)]
    simp
theorem so_same (c : Cs) : ∀ (n : Nat) (d : D), soOk n d = true → phi_law_so c n [.fz d, .fz d] = .ok (.fz (.bl true), [])
  | 0, d, h => by cases d <;> cases h
  | n + 1, d, h => by
    rw [go_law_so]
    cases d with
    | tup l =>
      simp only [soOk, Bool.and_eq_true, decide_eq_true_eq, List.all_eq_true] at h
      exact so_tup c (phi_law_so c n) l h.1 fun d hd => so_same c n d (h.2 d hd)
    | non => generalize phi_law_so c n = Φ; simp [run_law_so, isNonD]
    | bl b => generalize phi_law_so c n = Φ; cases b <;> simp [run_law_so, isNonD]
    | int x => generalize phi_law_so c n = Φ; simp [run_law_so, isNonD]
    | str x => generalize phi_law_so c n = Φ; simp [run_law_so, isNonD]
    | _ => simp [soOk] at h
end DL

/-! S10: starts_prove. -/
namespace DL
open PySem L2
/-- a loop over given things that looks for the first -/
theorem forR_ffd {α : Type} {t : D → DEnv → Option DEnv} {f : Run} (I : DEnv → Prop) (F : Nat → Option α) (P : α → O) : ∀ (ds : List D) (lo : Nat) (δ : DEnv),
    (∀ k d δ, ds[k]? = some d → I δ → ∃ δ1, t d δ = some δ1 ∧ (F (lo + k) = none → ∃ δ2, f δ1 = .ok (.nx δ2) ∧ I δ2) ∧ ∀ x, F (lo + k) = some x → ∃ δ2, f δ1 = .ok (.rt (P x) δ2)) → I δ →
    (ff F lo ds.length = none → ∃ δ', forR t f ds δ = .ok (.nx δ') ∧ I δ') ∧ ∀ x, ff F lo ds.length = some x → ∃ δ', forR t f ds δ = .ok (.rt (P x) δ')
  | [], lo, δ, hs, h0 => ⟨fun _ => ⟨δ, rfl, h0⟩, fun x h => by cases h⟩
  | d :: ds, lo, δ, hs, h0 => by
    obtain ⟨δ1, e1, k1, k2⟩ := hs 0 d δ rfl h0
    rw [Nat.add_zero] at k1 k2
    rw [List.length_cons]
    unfold ff forR
    rw [e1, Rz.of_some, Rz.bind_ok]
    cases e : F lo with
    | some x =>
      obtain ⟨δ2, e2⟩ := k2 x e
      refine ⟨fun h => (by cases h), fun y h => ?_⟩
      cases h
      rw [e2, Rz.bind_ok]
      exact ⟨δ2, rfl⟩
    | none =>
      obtain ⟨δ2, e2, i2⟩ := k1 e
      have ih := forR_ffd I F P ds (lo + 1) δ2 (fun k d δ h1 h2 => by
        have := hs (k + 1) d δ (by simpa using h1) h2
        rw [show lo + (k + 1) = lo + 1 + k by omega] at this
        exact this) i2
      rw [e2, Rz.bind_ok]
      exact ih
theorem enumI_get {l : List Int} {k : Nat} {d : D} (h : (enumD 0 (intsD' l))[k]? = some d) : k < l.length ∧ d = .tup [.int (k : Nat), .int (at_ l k)] := by
  obtain ⟨e, he, rfl⟩ := enumD_get h
  rw [List.getElem?_map] at he
  cases q : l[k]? with
  | none => rw [q] at he; cases he
  | some x =>
    rw [q] at he; cases he
    refine ⟨(List.getElem?_eq_some_iff.mp q).1, ?_⟩
    have : at_ l k = x := by simp [at_, List.getD_eq_getElem?_getD, q]
    rw [this, show (0 : Int) + (k : Nat) = (k : Nat) by omega]
def gdB (ps ss : List Int) (n : Nat) : Bool := (List.range n).all fun k => decide (at_ ss k < at_ ps k)
theorem mt_take {ps ss : List Int} {k : Nat} (h : k < ss.length) : mtB ps (ss.take k) (at_ ss k) = (List.range k).any fun i => meetB (at_ ps k) (at_ ss k) (at_ ps i) (at_ ss i) := by
  unfold mtB
  have : (ss.take k).length = k := by simp; omega
  rw [this, Bool.eq_iff_iff, List.any_eq_true, List.any_eq_true]
  constructor
  · rintro ⟨i, hi, h⟩
    rw [at_take (List.mem_range.mp hi)] at h
    exact ⟨i, hi, h⟩
  · rintro ⟨i, hi, h⟩
    refine ⟨i, hi, ?_⟩
    rw [at_take (List.mem_range.mp hi)]
    exact h
theorem apB_mt {ps ss : List Int} {n : Nat} : apB ps ss n = (List.range n).all fun k => !(List.range k).any fun i => meetB (at_ ps k) (at_ ss k) (at_ ps i) (at_ ss i) := by
  unfold apB
  rw [Bool.eq_iff_iff, List.all_eq_true, List.all_eq_true]
  constructor
  · intro h k hk
    have := h k hk
    rw [List.all_eq_true] at this
    rw [Bool.not_eq_true', List.any_eq_false]
    intro i hi
    simpa using this i hi
  · intro h k hk
    have := h k hk
    rw [Bool.not_eq_true', List.any_eq_false] at this
    rw [List.all_eq_true]
    intro i hi
    simpa using this i hi
/-- a start is wrong -/
def wrB (ps ss : List Int) (k : Nat) : Bool := decide (at_ ps k ≤ at_ ss k) || (List.range k).any fun i => meetB (at_ ps k) (at_ ss k) (at_ ps i) (at_ ss i)
theorem wrB_all {ps ss : List Int} {n : Nat} : ((∀ k, k < n → wrB ps ss k = false) → (gdB ps ss n && apB ps ss n) = true) ∧ ((∃ k, k < n ∧ wrB ps ss k = true) → (gdB ps ss n && apB ps ss n) = false) := by
  rw [apB_mt]
  unfold gdB wrB
  refine ⟨fun h => ?_, fun ⟨k, hk, h⟩ => ?_⟩
  · rw [Bool.and_eq_true, List.all_eq_true, List.all_eq_true]
    refine ⟨fun k hk => ?_, fun k hk => ?_⟩
    · have := h k (List.mem_range.mp hk)
      rw [Bool.or_eq_false_iff] at this
      have := this.1
      simp at this ⊢
      omega
    · have := h k (List.mem_range.mp hk)
      rw [Bool.or_eq_false_iff] at this
      rw [this.2]; rfl
  · rw [Bool.eq_false_iff]
    intro g
    rw [Bool.and_eq_true, List.all_eq_true, List.all_eq_true] at g
    have g1 := g.1 k (List.mem_range.mpr hk)
    have g2 := g.2 k (List.mem_range.mpr hk)
    rw [Bool.or_eq_true] at h
    rcases h with h | h
    · simp at h g1; omega
    · rw [h] at g2; cases g2
theorem per_chk (c : Cs) (b : Bool) (ps : List Int) (hP : Per ps) : phi_check_periods c [.fz (seqD b (intsD' ps))] = .ok (.fz .non, []) := by
  have chk := check_periods_seq c b (intsD' ps) (fun d hd => by
    obtain ⟨x, _, rfl⟩ := List.mem_map.mp hd; rfl) (by have := hP.len; simp; omega)
  have al : (intsD' ps).all (wth 1 12) = true := by
    rw [List.all_eq_true]
    intro d hd
    obtain ⟨i, hi⟩ := List.getElem?_of_mem hd
    rw [List.getElem?_map] at hi
    cases q : ps[i]? with
    | none => rw [q] at hi; cases hi
    | some x =>
      rw [q] at hi; cases hi
      have hlt := (List.getElem?_eq_some_iff.mp q).1
      have ex : at_ ps i = x := by simp [at_, List.getD_eq_getElem?_getD, q]
      have h1 := hP.pos i hlt
      have h2 := hP.le i hlt
      rw [ex] at h1 h2
      simp [wth, h1, h2]
  rwa [if_pos ⟨by simpa using hP.len, al⟩] at chk
theorem lc_sp (c : Cs) (P S : D) (l : List D) (hl : ∀ d ∈ l, d.flat = true) : lcL (tgN 3) (fun δ => .ok (true, δ)) (elt1_starts_prove c) [3] l [some (.fz P), some (.fz S), none, none] = .ok (l.map fun d => .fz (.bl (wth 0 11 d)), [some (.fz P), some (.fz S), none, none]) := by
  have L := lcL_map (tg := tgN 3) (gt := fun δ => .ok (true, δ)) (ge := elt1_starts_prove c) (vs := [3]) (fun _ => true) (fun d => .fz (.bl (wth 0 11 d))) [some (.fz P), some (.fz S), none, none] l (fun d hd => by
    refine ⟨_, _, rfl, rfl, (fun z => by cases z), fun _ => ⟨[some (.fz P), some (.fz S), none, some (.fz d)], ?_, rfl⟩⟩
    show elt1_starts_prove c [some (.fz P), some (.fz S), none, some (.fz d)] = _
    simp [elt1_starts_prove, is_within_ok c d (hl d hd)])
  rwa [filter_tt] at L
theorem sp_bad0 (c : Cs) (P S : D) (x : Xc) (h : phi_check_periods c [.fz P] = .er x) : phi_starts_prove c [.fz P, .fz S] = .er x := by
  rw [go_starts_prove]
  unfold run_starts_prove
  rw [rSeq_er (x := x) (by simp [h])]
  rfl
theorem sp_step0 (c : Cs) (P S : D) (h : phi_check_periods c [.fz P] = .ok (.fz .non, [])) : rDrop (gZ (gCall 1 [] (phi_check_periods c) (gAD (gV 0) gANil))) [some (.fz P), some (.fz S), none, none] = .ok (.nx [some (.fz P), some (.fz S), none, none]) := by
  simp [h]
/-- the test of the second argument -/
noncomputable abbrev spT (c : Cs) : Run := (rIf (gOr (gNot (gB (gZ (gCall 1 [] (phi_is_sequence c) (gAD (gV 1) gANil))))) (gNot (gB (gN fAll (gaCons (gZ (gLc (wA (gV 1)) (tgN 3) (fun δ => .ok (true, δ)) (elt1_starts_prove c) [3])) gaNil))))) (rRaise c.BadValue "at" (gaCons (gC (D.int 1)) gaNil)) rNext)
theorem spT_seq (c : Cs) (P : D) (b : Bool) (l : List D) (hl : ∀ d ∈ l, d.flat = true) (h5 : l.length ≤ 100000) :
    spT c [some (.fz P), some (.fz (seqD b l)), none, none] = if l.all (wth 0 11) = true then .ok (.nx [some (.fz P), some (.fz (seqD b l)), none, none]) else .er (bad c 1) := by
  have e := lc_sp c P (seqD b l) l hl
  have a := fAll_bl l (wth 0 11)
  have s := is_sequence_ok c (seqD b l) true (by cases b <;> rfl)
  have w : wA (gV 1) [some (.fz P), some (.fz (seqD b l)), none, none] = .ok (l, [some (.fz P), some (.fz (seqD b l)), none, none]) := by
    cases b <;> simp [seqD]
  by_cases h2 : l.all (wth 0 11) = true
  · rw [if_pos h2]
    simp [spT, s, w, e, h5, toDL_map, Function.comp_def, a, h2, -e_fAll_1, -e_wA]
  · rw [if_neg h2]
    simp only [Bool.not_eq_true] at h2
    simp [spT, s, w, e, h5, toDL_map, Function.comp_def, a, h2, -e_fAll_1, -e_wA]
theorem spT_no (c : Cs) (P S : D) (h : isSeq S = some false) : spT c [some (.fz P), some (.fz S), none, none] = .er (bad c 1) := by
  have s := is_sequence_ok c S false h
  simp [spT, s]
theorem sp_bad1_no (c : Cs) (P S : D) (h : phi_check_periods c [.fz P] = .ok (.fz .non, [])) (hs : isSeq S = some false) : phi_starts_prove c [.fz P, .fz S] = .er (bad c 1) := by
  rw [go_starts_prove]
  unfold run_starts_prove
  rw [rSeq_nx (sp_step0 c P S h), rSeq_er (spT_no c P S hs)]
  rfl
theorem sp_bad1_seq (c : Cs) (b b2 : Bool) (lp l : List D) (h : phi_check_periods c [.fz (seqD b lp)] = .ok (.fz .non, [])) (hl : ∀ d ∈ l, d.flat = true) (h5 : l.length ≤ 100000) (hw : l.all (wth 0 11) = false ∨ l.length ≠ lp.length) :
    phi_starts_prove c [.fz (seqD b lp), .fz (seqD b2 l)] = .er (bad c 1) := by
  rw [go_starts_prove]
  unfold run_starts_prove
  rw [rSeq_nx (sp_step0 c _ _ h)]
  have t := spT_seq c (seqD b lp) b2 l hl h5
  cases q : l.all (wth 0 11) with
  | false =>
    rw [if_neg (by rw [q]; simp)] at t
    rw [rSeq_er t]; rfl
  | true =>
    rw [if_pos q] at t
    rw [rSeq_nx t]
    have hn : l.length ≠ lp.length := by
      rcases hw with hw | hw
      · rw [q] at hw; cases hw
      · exact hw
    have hn' : ¬ ((l.length : Int) = (lp.length : Int)) := by omega
    have e : rIf (gB (g2 fNe (gN fLen (gaCons (gV 1) gaNil)) (gN fLen (gaCons (gV 0) gaNil)))) (rRaise c.BadValue "at" (gaCons (gC (D.int 1)) gaNil)) rNext [some (.fz (seqD b lp)), some (.fz (seqD b2 l)), none, none] = .er (bad c 1) := by
      cases b <;> cases b2 <;> simp [seqD, hn']
    rw [rSeq_er e]; rfl
theorem b2core (c : Cs) (P S T : D) (k : Nat) (s pk : Int) (m : Bool) (i : fIx P (.int (k : Nat)) = some (.int pk))
    (z : gZ (gSlU (gV 1) (fun δ => .ok (none, δ)) (gPart (gV 2))) [some (.fz P), some (.fz S), some (.fz (.int (k : Nat))), some (.fz (.int s))] = .ok (T, [some (.fz P), some (.fz S), some (.fz (.int (k : Nat))), some (.fz (.int s))]))
    (e : phi_meets_one c [.fz P, .fz T, .fz (.int s)] = .ok (.fz (.bl m), [])) :
    body2_starts_prove c [some (.fz P), some (.fz S), some (.fz (.int (k : Nat))), some (.fz (.int s))] =
      if (decide (pk ≤ s) || m) = true then .ok (.rt (.fz (.bl false)) [some (.fz P), some (.fz S), some (.fz (.int (k : Nat))), some (.fz (.int s))])
      else .ok (.nx [some (.fz P), some (.fz S), some (.fz (.int (k : Nat))), some (.fz (.int s))]) := by
  unfold body2_starts_prove
  have g1 : gB (g2 fGe (gV 3) (g2 fIx (gV 0) (gV 2))) [some (.fz P), some (.fz S), some (.fz (.int (k : Nat))), some (.fz (.int s))] = .ok (decide (pk ≤ s), [some (.fz P), some (.fz S), some (.fz (.int (k : Nat))), some (.fz (.int s))]) := by
    simp [i]
  have g2 : gB (gZ (gCall 3 [] (phi_meets_one c) (gAD (gV 0) (gAD (gZ (gSlU (gV 1) (fun δ => .ok (none, δ)) (gPart (gV 2)))) (gAD (gV 3) gANil))))) [some (.fz P), some (.fz S), some (.fz (.int (k : Nat))), some (.fz (.int s))] = .ok (m, [some (.fz P), some (.fz S), some (.fz (.int (k : Nat))), some (.fz (.int s))]) := by
    generalize gZ (gSlU (gV 1) (fun δ => .ok (none, δ)) (gPart (gV 2))) = g at z ⊢
    simp [z, e]
  cases m <;> by_cases h : pk ≤ s <;> simp [g1, g2, h, -e_gB]
theorem b2_sp (c : Cs) (b b2 : Bool) (ps ss : List Int) (hP : Per ps) (hs : ss.length = ps.length) (k : Nat) (hk : k < ps.length) :
    body2_starts_prove c [some (.fz (seqD b (intsD' ps))), some (.fz (seqD b2 (intsD' ss))), some (.fz (.int (k : Nat))), some (.fz (.int (at_ ss k)))] =
      if wrB ps ss k = true then .ok (.rt (.fz (.bl false)) [some (.fz (seqD b (intsD' ps))), some (.fz (seqD b2 (intsD' ss))), some (.fz (.int (k : Nat))), some (.fz (.int (at_ ss k)))])
      else .ok (.nx [some (.fz (seqD b (intsD' ps))), some (.fz (seqD b2 (intsD' ss))), some (.fz (.int (k : Nat))), some (.fz (.int (at_ ss k)))]) := by
  have m := meets_one_ok c b b2 ps (ss.take k) (at_ ss k) (by simp; omega) (by have := hP.len; omega) hP.pos
  rw [mt_take (by omega)] at m
  have ct := cut_take (intsD' ss) k (by simp; omega)
  have ct' : cutD (intsD' ss) none (some (k : Int)) = intsD' (ss.take k) := by rw [ct]; simp
  refine b2core c _ _ (seqD b2 (intsD' (ss.take k))) k (at_ ss k) (at_ ps k) _ (ix_seq' b ps k hk) ?_ m
  revert ct'
  generalize seqD b (intsD' ps) = P
  generalize intsD' ss = L
  generalize intsD' (ss.take k) = M
  intro ct'
  cases b2 <;> simp [seqD, ct', toDL_map, Function.comp_def]
theorem b3_sp (c : Cs) (b b2 : Bool) (ps ss : List Int) (hP : Per ps) (hs : ss.length = ps.length) :
    ((∀ k, k < ps.length → wrB ps ss k = false) → ∃ δ', forR (tgTup 2 (tgCons (tgN 2) (tgCons (tgN 3) tgNil))) (body2_starts_prove c) (enumD 0 (intsD' ss)) [some (.fz (seqD b (intsD' ps))), some (.fz (seqD b2 (intsD' ss))), none, none] = .ok (.nx δ') ∧ ∃ u v, δ' = [some (.fz (seqD b (intsD' ps))), some (.fz (seqD b2 (intsD' ss))), u, v]) ∧
    ((∃ k, k < ps.length ∧ wrB ps ss k = true) → ∃ δ', forR (tgTup 2 (tgCons (tgN 2) (tgCons (tgN 3) tgNil))) (body2_starts_prove c) (enumD 0 (intsD' ss)) [some (.fz (seqD b (intsD' ps))), some (.fz (seqD b2 (intsD' ss))), none, none] = .ok (.rt (.fz (.bl false)) δ')) := by
  have L := forR_ffd (t := tgTup 2 (tgCons (tgN 2) (tgCons (tgN 3) tgNil))) (f := body2_starts_prove c) (fun δ => ∃ u v, δ = [some (.fz (seqD b (intsD' ps))), some (.fz (seqD b2 (intsD' ss))), u, v])
    (fun k => boo (wrB ps ss k)) (fun _ => .fz (.bl false)) (enumD 0 (intsD' ss)) 0 [some (.fz (seqD b (intsD' ps))), some (.fz (seqD b2 (intsD' ss))), none, none]
    (fun k d δ hd h => by
      obtain ⟨u, v, rfl⟩ := h
      obtain ⟨hk, rfl⟩ := enumI_get hd
      have e := b2_sp c b b2 ps ss hP hs k (by omega)
      refine ⟨_, rfl, fun h => ?_, fun z h => ?_⟩
      · rw [Nat.zero_add] at h
        have w : ¬ wrB ps ss k = true := fun w => by rw [w] at h; cases h
        rw [if_neg w] at e
        exact ⟨_, e, _, _, rfl⟩
      · rw [Nat.zero_add] at h
        have w : wrB ps ss k = true := by
          cases q : wrB ps ss k with
          | true => rfl
          | false => rw [q] at h; cases h
        rw [if_pos w] at e
        exact ⟨_, e⟩) ⟨none, none, rfl⟩
  have ln : (enumD 0 (intsD' ss)).length = ps.length := by rw [enumD_len]; simp [hs]
  rw [ln] at L
  rcases ff_boo (fun k => wrB ps ss k) ps.length 0 with ⟨h1, h2⟩ | ⟨h1, k, h2, h3, h4⟩
  · refine ⟨fun _ => L.1 h1, fun ⟨k, hk, h⟩ => ?_⟩
    rw [h2 k (by omega) (by omega)] at h; cases h
  · refine ⟨fun h => ?_, fun _ => L.2 () h1⟩
    rw [h k (by omega)] at h4; cases h4
theorem starts_prove_ok (c : Cs) (b b2 : Bool) (ps ss : List Int) (hP : Per ps) (hs : ss.length = ps.length) (hw : ∀ x ∈ ss, 0 ≤ x ∧ x ≤ 11) :
    phi_starts_prove c [.fz (seqD b (intsD' ps)), .fz (seqD b2 (intsD' ss))] = .ok (.fz (.bl (gdB ps ss ps.length && apB ps ss ps.length)), []) := by
  have l5 := hP.len
  rw [go_starts_prove]
  unfold run_starts_prove
  rw [rSeq_nx (sp_step0 c _ _ (per_chk c b ps hP))]
  have t := spT_seq c (seqD b (intsD' ps)) b2 (intsD' ss) (fun d hd => by
    obtain ⟨x, _, rfl⟩ := List.mem_map.mp hd; rfl) (by simp; omega)
  have al : (intsD' ss).all (wth 0 11) = true := by
    rw [List.all_eq_true]
    intro d hd
    obtain ⟨x, hx, rfl⟩ := List.mem_map.mp hd
    have := hw x hx
    simp [wth, this.1, this.2]
  rw [if_pos al] at t
  rw [rSeq_nx t]
  have hn' : (ss.length : Int) = (ps.length : Int) := by omega
  have e : rIf (gB (g2 fNe (gN fLen (gaCons (gV 1) gaNil)) (gN fLen (gaCons (gV 0) gaNil)))) (rRaise c.BadValue "at" (gaCons (gC (D.int 1)) gaNil)) rNext [some (.fz (seqD b (intsD' ps))), some (.fz (seqD b2 (intsD' ss))), none, none] =
      .ok (.nx [some (.fz (seqD b (intsD' ps))), some (.fz (seqD b2 (intsD' ss))), none, none]) := by
    cases b <;> cases b2 <;> simp [seqD, hn']
  rw [rSeq_nx e]
  have w : wE (gaCons (gV 1) gaNil) [some (.fz (seqD b (intsD' ps))), some (.fz (seqD b2 (intsD' ss))), none, none] = .ok (enumD 0 (intsD' ss), [some (.fz (seqD b (intsD' ps))), some (.fz (seqD b2 (intsD' ss))), none, none]) := by
    generalize intsD' ss = M
    cases b2 <;> simp [seqD]
  obtain ⟨k1, k2⟩ := b3_sp c b b2 ps ss hP hs
  obtain ⟨w1, w2⟩ := wrB_all (ps := ps) (ss := ss) (n := ps.length)
  by_cases h : ∃ k, k < ps.length ∧ wrB ps ss k = true
  · obtain ⟨δ', e⟩ := k2 h
    rw [w2 h, rSeq_rt (by rw [rFor_eq w]; exact e)]
    rfl
  · have h' : ∀ k, k < ps.length → wrB ps ss k = false := fun k hk => by
      cases q : wrB ps ss k with
      | false => rfl
      | true => exact absurd ⟨k, hk, q⟩ h
    obtain ⟨δ', e, u, v, rfl⟩ := k1 h'
    rw [w1 h', rSeq_nx (by rw [rFor_eq w]; exact e)]
    simp
end DL

/-! S11: check_starts. -/
namespace DL
open PySem L2
/-- a loop that may raise -/
theorem forR_er {t : D → DEnv → Option DEnv} {f : Run} (I : DEnv → Prop) (F : Nat → Bool) (x : Xc) : ∀ (ds : List D) (lo : Nat) (δ : DEnv),
    (∀ k d δ, ds[k]? = some d → I δ → ∃ δ1, t d δ = some δ1 ∧ (F (lo + k) = false → ∃ δ2, f δ1 = .ok (.nx δ2) ∧ I δ2) ∧ (F (lo + k) = true → f δ1 = .er x)) → I δ →
    ((∀ k, k < ds.length → F (lo + k) = false) → ∃ δ', forR t f ds δ = .ok (.nx δ') ∧ I δ') ∧ ((∃ k, k < ds.length ∧ F (lo + k) = true) → forR t f ds δ = .er x)
  | [], lo, δ, hs, h0 => ⟨fun _ => ⟨δ, rfl, h0⟩, fun ⟨k, h, _⟩ => by cases h⟩
  | d :: ds, lo, δ, hs, h0 => by
    obtain ⟨δ1, e1, k1, k2⟩ := hs 0 d δ rfl h0
    rw [Nat.add_zero] at k1 k2
    unfold forR
    rw [e1, Rz.of_some, Rz.bind_ok]
    cases e : F lo with
    | true =>
      refine ⟨fun h => ?_, fun _ => ?_⟩
      · have := h 0 (by simp)
        rw [Nat.add_zero, e] at this; cases this
      · rw [k2 e]; rfl
    | false =>
      obtain ⟨δ2, e2, i2⟩ := k1 e
      obtain ⟨h1, h2⟩ := forR_er I F x ds (lo + 1) δ2 (fun k d δ h1 h2 => by
        have := hs (k + 1) d δ (by simpa using h1) h2
        rw [show lo + (k + 1) = lo + 1 + k by omega] at this
        exact this) i2
      rw [e2, Rz.bind_ok]
      refine ⟨fun h => h1 fun k hk => ?_, fun ⟨k, hk, h⟩ => h2 ?_⟩
      · have := h (k + 1) (by simp; omega)
        rwa [show lo + (k + 1) = lo + 1 + k by omega] at this
      · cases k with
        | zero => rw [Nat.add_zero, e] at h; cases h
        | succ k => exact ⟨k, by simpa using hk, by rwa [show lo + (k + 1) = lo + 1 + k by omega] at h⟩
def ge0 : D → Bool
  | .int x => decide (0 ≤ x)
  | _ => false
theorem lc_cs (c : Cs) (P S : D) (l : List D) (hl : ∀ d ∈ l, d.flat = true) : lcL (tgN 3) (fun δ => .ok (true, δ)) (elt1_check_starts c) [3] l [some (.fz P), some (.fz S), none, none] = .ok (l.map fun d => .fz (.bl (ge0 d)), [some (.fz P), some (.fz S), none, none]) := by
  have L := lcL_map (tg := tgN 3) (gt := fun δ => .ok (true, δ)) (ge := elt1_check_starts c) (vs := [3]) (fun _ => true) (fun d => .fz (.bl (ge0 d))) [some (.fz P), some (.fz S), none, none] l (fun d hd => by
    refine ⟨_, _, rfl, rfl, (fun z => by cases z), fun _ => ⟨[some (.fz P), some (.fz S), none, some (.fz d)], ?_, rfl⟩⟩
    show elt1_check_starts c [some (.fz P), some (.fz S), none, some (.fz d)] = _
    have i := is_integer_ok c d (hl d hd)
    cases d with
    | int x => simp [elt1_check_starts, i, isI, ge0]
    | _ => first | simp [elt1_check_starts, i, isI, ge0] | (exfalso; have := hl _ hd; cases this))
  rwa [filter_tt] at L
theorem cs_step0 (c : Cs) (P S : D) (h : phi_check_periods c [.fz P] = .ok (.fz .non, [])) : rDrop (gZ (gCall 1 [] (phi_check_periods c) (gAD (gV 0) gANil))) [some (.fz P), some (.fz S), none, none] = .ok (.nx [some (.fz P), some (.fz S), none, none]) := by
  simp [h]
theorem cs_bad0 (c : Cs) (P S : D) (x : Xc) (h : phi_check_periods c [.fz P] = .er x) : phi_check_starts c [.fz P, .fz S] = .er x := by
  rw [go_check_starts]
  unfold run_check_starts
  rw [rSeq_er (x := x) (by simp [h])]
  rfl
/-- the test of the second argument -/
noncomputable abbrev csT (c : Cs) : Run := (rIf (gOr (gNot (gB (gZ (gCall 1 [] (phi_is_sequence c) (gAD (gV 1) gANil))))) (gNot (gB (gN fAll (gaCons (gZ (gLc (wA (gV 1)) (tgN 3) (fun δ => .ok (true, δ)) (elt1_check_starts c) [3])) gaNil))))) (rRaise c.BadValue "at" (gaCons (gC (D.int 1)) gaNil)) rNext)
theorem csT_seq (c : Cs) (P : D) (b : Bool) (l : List D) (hl : ∀ d ∈ l, d.flat = true) (h5 : l.length ≤ 100000) :
    csT c [some (.fz P), some (.fz (seqD b l)), none, none] = if l.all ge0 = true then .ok (.nx [some (.fz P), some (.fz (seqD b l)), none, none]) else .er (bad c 1) := by
  have e := lc_cs c P (seqD b l) l hl
  have a := fAll_bl l ge0
  have s := is_sequence_ok c (seqD b l) true (by cases b <;> rfl)
  have w : wA (gV 1) [some (.fz P), some (.fz (seqD b l)), none, none] = .ok (l, [some (.fz P), some (.fz (seqD b l)), none, none]) := by
    cases b <;> simp [seqD]
  by_cases h2 : l.all ge0 = true
  · rw [if_pos h2]
    simp [csT, s, w, e, h5, toDL_map, Function.comp_def, a, h2, -e_fAll_1, -e_wA]
  · rw [if_neg h2]
    simp only [Bool.not_eq_true] at h2
    simp [csT, s, w, e, h5, toDL_map, Function.comp_def, a, h2, -e_fAll_1, -e_wA]
theorem csT_no (c : Cs) (P S : D) (h : isSeq S = some false) : csT c [some (.fz P), some (.fz S), none, none] = .er (bad c 1) := by
  have s := is_sequence_ok c S false h
  simp [csT, s]
theorem cs_bad1_no (c : Cs) (P S : D) (h : phi_check_periods c [.fz P] = .ok (.fz .non, [])) (hs : isSeq S = some false) : phi_check_starts c [.fz P, .fz S] = .er (bad c 1) := by
  rw [go_check_starts]
  unfold run_check_starts
  rw [rSeq_nx (cs_step0 c P S h), rSeq_er (csT_no c P S hs)]
  rfl
theorem cs_bad1_seq (c : Cs) (b b2 : Bool) (lp l : List D) (h : phi_check_periods c [.fz (seqD b lp)] = .ok (.fz .non, [])) (hl : ∀ d ∈ l, d.flat = true) (h5 : l.length ≤ 100000) (hw : l.all ge0 = false ∨ l.length ≠ lp.length) :
    phi_check_starts c [.fz (seqD b lp), .fz (seqD b2 l)] = .er (bad c 1) := by
  rw [go_check_starts]
  unfold run_check_starts
  rw [rSeq_nx (cs_step0 c _ _ h)]
  have t := csT_seq c (seqD b lp) b2 l hl h5
  cases q : l.all ge0 with
  | false =>
    rw [if_neg (by rw [q]; simp)] at t
    rw [rSeq_er t]; rfl
  | true =>
    rw [if_pos q] at t
    rw [rSeq_nx t]
    have hn : l.length ≠ lp.length := by
      rcases hw with hw | hw
      · rw [q] at hw; cases hw
      · exact hw
    have hn' : ¬ ((l.length : Int) = (lp.length : Int)) := by omega
    have e : rIf (gB (g2 fNe (gN fLen (gaCons (gV 1) gaNil)) (gN fLen (gaCons (gV 0) gaNil)))) (rRaise c.BadValue "at" (gaCons (gC (D.int 1)) gaNil)) rNext [some (.fz (seqD b lp)), some (.fz (seqD b2 l)), none, none] = .er (bad c 1) := by
      cases b <;> cases b2 <;> simp [seqD, hn']
    rw [rSeq_er e]; rfl
theorem zipI_get {ps ss : List Int} {k : Nat} {d : D} (h : (zipD (intsD' ps) (intsD' ss))[k]? = some d) : k < ps.length ∧ k < ss.length ∧ d = .tup [.int (at_ ps k), .int (at_ ss k)] := by
  obtain ⟨x, y, e1, e2, rfl⟩ := zipD_get h
  rw [List.getElem?_map] at e1 e2
  cases q : ps[k]? with
  | none => rw [q] at e1; cases e1
  | some u =>
    rw [q] at e1; cases e1
    cases q2 : ss[k]? with
    | none => rw [q2] at e2; cases e2
    | some v =>
      rw [q2] at e2; cases e2
      have h1 : at_ ps k = u := by simp [at_, List.getD_eq_getElem?_getD, q]
      have h2 : at_ ss k = v := by simp [at_, List.getD_eq_getElem?_getD, q2]
      exact ⟨(List.getElem?_eq_some_iff.mp q).1, (List.getElem?_eq_some_iff.mp q2).1, by rw [h1, h2]⟩
theorem zipI_len {ps ss : List Int} (h : ss.length = ps.length) : (zipD (intsD' ps) (intsD' ss)).length = ps.length := by
  simp [zipD, h]
theorem gdB_iff {ps ss : List Int} {n : Nat} : (gdB ps ss n = true ↔ ∀ k, k < n → at_ ss k < at_ ps k) := by
  unfold gdB
  rw [List.all_eq_true]
  exact ⟨fun h k hk => by simpa using h k (List.mem_range.mpr hk), fun h k hk => by simpa using h k (List.mem_range.mp hk)⟩
theorem cs_loop (c : Cs) (P S : D) (ps ss : List Int) (hs : ss.length = ps.length) :
    (gdB ps ss ps.length = true → ∃ δ', forR (tgTup 2 (tgCons (tgN 2) (tgCons (tgN 3) tgNil))) (body2_check_starts c) (zipD (intsD' ps) (intsD' ss)) [some (.fz P), some (.fz S), none, none] = .ok (.nx δ') ∧ ∃ u v, δ' = [some (.fz P), some (.fz S), u, v]) ∧
    (gdB ps ss ps.length = false → forR (tgTup 2 (tgCons (tgN 2) (tgCons (tgN 3) tgNil))) (body2_check_starts c) (zipD (intsD' ps) (intsD' ss)) [some (.fz P), some (.fz S), none, none] = .er (bad c 1)) := by
  have L := forR_er (t := tgTup 2 (tgCons (tgN 2) (tgCons (tgN 3) tgNil))) (f := body2_check_starts c) (fun δ => ∃ u v, δ = [some (.fz P), some (.fz S), u, v]) (fun k => decide (at_ ps k ≤ at_ ss k)) (bad c 1)
    (zipD (intsD' ps) (intsD' ss)) 0 [some (.fz P), some (.fz S), none, none] (fun k d δ hd h => by
      obtain ⟨u, v, rfl⟩ := h
      obtain ⟨h1, h2, rfl⟩ := zipI_get hd
      refine ⟨_, rfl, fun h => ⟨[some (.fz P), some (.fz S), some (.fz (.int (at_ ps k))), some (.fz (.int (at_ ss k)))], ?_, _, _, rfl⟩, fun h => ?_⟩
      · rw [Nat.zero_add] at h
        show body2_check_starts c [some (.fz P), some (.fz S), some (.fz (.int (at_ ps k))), some (.fz (.int (at_ ss k)))] = _
        have h' : ¬ at_ ps k ≤ at_ ss k := by simpa using h
        simp [body2_check_starts, h']
      · rw [Nat.zero_add] at h
        show body2_check_starts c [some (.fz P), some (.fz S), some (.fz (.int (at_ ps k))), some (.fz (.int (at_ ss k)))] = _
        have h' : at_ ps k ≤ at_ ss k := by simpa using h
        simp [body2_check_starts, h']) ⟨none, none, rfl⟩
  rw [zipI_len hs] at L
  obtain ⟨k1, k2⟩ := L
  refine ⟨fun h => k1 fun k hk => ?_, fun h => k2 ?_⟩
  · have := gdB_iff.mp h k hk
    rw [Nat.zero_add]
    simpa using this
  · apply Classical.byContradiction
    intro q
    have : gdB ps ss ps.length = true := gdB_iff.mpr fun k hk => by
      apply Classical.byContradiction
      intro w
      exact q ⟨k, hk, by rw [Nat.zero_add]; simp; omega⟩
    rw [h] at this; cases this
theorem check_starts_ok (c : Cs) (ps ss : List Int) (hP : Per ps) (hs : ss.length = ps.length) (hw : ∀ x ∈ ss, 0 ≤ x) :
    phi_check_starts c [.fz (seqD false (intsD' ps)), .fz (seqD false (intsD' ss))] = if gdB ps ss ps.length = true then .ok (.fz .non, []) else .er (bad c 1) := by
  have l5 := hP.len
  rw [go_check_starts]
  unfold run_check_starts
  rw [rSeq_nx (cs_step0 c _ _ (per_chk c false ps hP))]
  have t := csT_seq c (seqD false (intsD' ps)) false (intsD' ss) (fun d hd => by
    obtain ⟨x, _, rfl⟩ := List.mem_map.mp hd; rfl) (by simp; omega)
  have al : (intsD' ss).all ge0 = true := by
    rw [List.all_eq_true]
    intro d hd
    obtain ⟨x, hx, rfl⟩ := List.mem_map.mp hd
    have := hw x hx
    simp [ge0, this]
  rw [if_pos al] at t
  rw [rSeq_nx t]
  have hn' : (ss.length : Int) = (ps.length : Int) := by omega
  have e : rIf (gB (g2 fNe (gN fLen (gaCons (gV 1) gaNil)) (gN fLen (gaCons (gV 0) gaNil)))) (rRaise c.BadValue "at" (gaCons (gC (D.int 1)) gaNil)) rNext [some (.fz (seqD false (intsD' ps))), some (.fz (seqD false (intsD' ss))), none, none] =
      .ok (.nx [some (.fz (seqD false (intsD' ps))), some (.fz (seqD false (intsD' ss))), none, none]) := by
    simp [seqD, hn']
  rw [rSeq_nx e]
  have w : wZip (gaCons (gV 0) (gaCons (gV 1) gaNil)) [some (.fz (seqD false (intsD' ps))), some (.fz (seqD false (intsD' ss))), none, none] = .ok (zipD (intsD' ps) (intsD' ss), [some (.fz (seqD false (intsD' ps))), some (.fz (seqD false (intsD' ss))), none, none]) := by
    generalize intsD' ss = M
    generalize intsD' ps = N
    simp [seqD]
  obtain ⟨k1, k2⟩ := cs_loop c (seqD false (intsD' ps)) (seqD false (intsD' ss)) ps ss hs
  rw [rFor_eq w]
  by_cases h : gdB ps ss ps.length = true
  · obtain ⟨δ', e, u, v, rfl⟩ := k1 h
    rw [e, if_pos h]
    rfl
  · rw [k2 (by simpa using h), if_neg h]
    rfl
end DL

/-! S12: busy_days. -/
namespace DL
open PySem L2
/-- the counts of a round -/
def cntD (w : Nat) (f : Nat → Nat) : List D := (List.range w).map fun d => .int (f d : Nat)
def cntO (w : Nat) (f : Nat → Nat) : O := .lst ((List.range w).map fun d => .fz (.int (f d : Nat)))
theorem set_map {α : Type} (w : Nat) (g : Nat → α) (d : Nat) (v : α) : ((List.range w).map g).set d v = (List.range w).map fun e => if e = d then v else g e := by
  refine List.ext_getElem? fun i => ?_
  rw [List.getElem?_set, List.getElem?_map, List.getElem?_map]
  by_cases h : d = i
  · subst h
    by_cases hl : d < w
    · simp [hl]
    · simp [hl]
  · have h' : ¬ i = d := fun q => h q.symm
    by_cases hl : i < w
    · simp [h, h', hl]
    · simp [h, hl]
theorem b2_bd (c : Cs) (w d : Nat) (f : Nat → Nat) (hd : d < w) (x0 x1 x2 x3 x5 x7 : Option O) :
    body2_busy_days c [x0, x1, x2, x3, some (cntO w f), x5, some (.fz (.int (d : Nat))), x7] = .ok (.nx [x0, x1, x2, x3, some (cntO w fun e => if e = d then f e + 1 else f e), x5, some (.fz (.int (d : Nat))), x7]) := by
  have s := set_map w (fun e => O.fz (.int (f e : Nat))) d (O.fz (.int ((f d : Nat) + 1)))
  have g : ((List.range w).map fun e => O.fz (.int (f e : Nat)))[d]? = some (.fz (.int (f d : Nat))) := by simp [hd]
  have r : (List.range w).map (fun e => if e = d then O.fz (.int ((f d : Nat) + 1)) else O.fz (.int (f e : Nat))) = (List.range w).map fun e => O.fz (.int ((if e = d then f e + 1 else f e : Nat) : Nat)) := by
    refine List.map_congr_left fun e _ => ?_
    by_cases q : e = d
    · subst q; simp
    · simp [q]
  rw [r] at s
  have hd' : (d : Int) < (w : Int) := by omega
  unfold cntO
  generalize hL : (List.range w).map (fun e => O.fz (.int (f e : Nat))) = L at s g ⊢
  have hw : L.length = w := by rw [← hL]; simp
  simp [body2_busy_days, hw, hd', g, s, putAt]
/-- day e is due among the first k from s on, every p days -/
def hitK (s p k e : Nat) : Nat := if s ≤ e ∧ (e - s) % p = 0 ∧ (e - s) / p < k then 1 else 0
theorem hitK_zero (s p e : Nat) : hitK s p 0 e = 0 := by unfold hitK; simp
theorem hitK_succ (s p k e : Nat) (hp : 0 < p) : hitK s p (k + 1) e = if e = s + k * p then hitK s p k e + 1 else hitK s p k e := by
  unfold hitK
  by_cases h : e = s + k * p
  · subst h
    have e1 : s + k * p - s = k * p := by omega
    rw [e1, Nat.mul_mod_left, Nat.mul_div_cancel _ hp]
    simp
  · rw [if_neg h]
    by_cases q : s ≤ e ∧ (e - s) % p = 0
    · have : ¬ (e - s) / p = k := fun z => by
        have := Nat.div_add_mod (e - s) p
        rw [q.2, z, Nat.mul_comm] at this
        omega
      by_cases z : (e - s) / p < k
      · rw [if_pos ⟨q.1, q.2, Nat.lt_succ_of_lt z⟩, if_pos ⟨q.1, q.2, z⟩]
      · rw [if_neg (fun y => z (by have := y.2.2; omega)), if_neg (fun y => z y.2.2)]
    · have n1 : ¬ (s ≤ e ∧ (e - s) % p = 0 ∧ (e - s) / p < k + 1) := fun z => q ⟨z.1, z.2.1⟩
      have n2 : ¬ (s ≤ e ∧ (e - s) % p = 0 ∧ (e - s) / p < k) := fun z => q ⟨z.1, z.2.1⟩
      rw [if_neg n1, if_neg n2]
theorem hitK_end (s p w e : Nat) (hp : 0 < p) (he : e < w) : hitK s p (stepN s w p) e = if s ≤ e ∧ (e - s) % p = 0 then 1 else 0 := by
  unfold hitK
  by_cases q : s ≤ e ∧ (e - s) % p = 0
  · have z : (e - s) / p < stepN s w p := by
      unfold stepN
      have c0 : (s : Int) < w := by omega
      rw [if_pos c0]
      have c1 : ((w : Int) - s - 1) / p = (((w - s - 1) / p : Nat) : Int) := by
        rw [show (w : Int) - s - 1 = ((w - s - 1 : Nat) : Int) by omega]
        rfl
      rw [c1]
      have : (e - s) / p ≤ (w - s - 1) / p := Nat.div_le_div_right (by omega)
      omega
    rw [if_pos q, if_pos ⟨q.1, q.2, z⟩]
  · rw [if_neg q, if_neg fun z => q ⟨z.1, z.2.1⟩]
theorem stepD_get {i j c : Int} {k : Nat} {d : D} (h : (stepD i j c)[k]? = some d) : k < stepN i j c ∧ d = .int (i + (k : Nat) * c) := by
  unfold stepD at h
  rw [List.getElem?_map] at h
  cases q : (List.range (stepN i j c))[k]? with
  | none => rw [q] at h; cases h
  | some x =>
    rw [q] at h
    obtain ⟨h1, h2⟩ := List.getElem?_eq_some_iff.mp q
    simp at h1 h2
    subst h2
    cases h
    exact ⟨h1, rfl⟩
theorem stepN_lt {s w p k : Nat} (hp : 0 < p) (h : k < stepN s w p) : s + k * p < w := by
  unfold stepN at h
  by_cases q : (s : Int) < w
  · rw [if_pos q] at h
    have c1 : ((w : Int) - s - 1) / p = (((w - s - 1) / p : Nat) : Int) := by
      rw [show (w : Int) - s - 1 = ((w - s - 1 : Nat) : Int) by omega]
      rfl
    rw [c1] at h
    have h1 : k ≤ (w - s - 1) / p := by omega
    have := (Nat.le_div_iff_mul_le hp).mp h1
    omega
  · rw [if_neg q] at h; cases h
theorem cntO_congr {w : Nat} {f g : Nat → Nat} (h : ∀ e, e < w → f e = g e) : cntO w f = cntO w g := by
  unfold cntO
  congr 1
  refine List.map_congr_left fun e he => ?_
  rw [h e (List.mem_range.mp he)]
def Pl (x : Option O) : Prop := x = none ∨ ∃ d, x = some (.fz d)
theorem b3_bd (c : Cs) (w s p : Nat) (f : Nat → Nat) (hp : 0 < p) (h12 : p ≤ 12) (hs : s < 100000) (hw : w ≤ 100000) (x0 x1 x6 x7 : Option O) (h6 : Pl x6) :
    ∃ y6, Pl y6 ∧ body3_busy_days c [x0, x1, some (.fz (.int (w : Nat))), some (.fz (.int (p : Nat))), some (cntO w f), some (.fz (.int (s : Nat))), x6, x7] =
      .ok (.nx [x0, x1, some (.fz (.int (w : Nat))), some (.fz (.int (p : Nat))), some (cntO w fun e => f e + if s ≤ e ∧ (e - s) % p = 0 then 1 else 0), some (.fz (.int (s : Nat))), y6, x7]) := by
  have w3 : wR3 (gaCons (gV 5) (gaCons (gV 2) (gaCons (gV 3) gaNil))) [x0, x1, some (.fz (.int (w : Nat))), some (.fz (.int (p : Nat))), some (cntO w f), some (.fz (.int (s : Nat))), x6, x7] =
      .ok (stepD s w p, [x0, x1, some (.fz (.int (w : Nat))), some (.fz (.int (p : Nat))), some (cntO w f), some (.fz (.int (s : Nat))), x6, x7]) := by
    have c1 : (-(2 ^ 60) ≤ (s : Int) ∧ (s : Int) < 2 ^ 60) ∧ (-(2 ^ 60) ≤ (w : Int) ∧ (w : Int) < 2 ^ 60) ∧ 0 < (p : Int) ∧ (p : Int) < 1073741824 := by omega
    generalize cntO w f = C
    rw [e_wR3]
    have e0 : gaCons (gV 5) (gaCons (gV 2) (gaCons (gV 3) gaNil)) [x0, x1, some (.fz (.int (w : Nat))), some (.fz (.int (p : Nat))), some C, some (.fz (.int (s : Nat))), x6, x7] = .ok ([.int (s : Nat), .int (w : Nat), .int (p : Nat)], [x0, x1, some (.fz (.int (w : Nat))), some (.fz (.int (p : Nat))), some C, some (.fz (.int (s : Nat))), x6, x7]) := by
      simp
    rw [e0, Rz.bind_ok]
    exact if_pos c1
  obtain ⟨δ', e, y6, p6, rfl⟩ := forR_inv (t := tgN 6) (f := body2_busy_days c) (stepD s w p) (fun k δ => ∃ y6, Pl y6 ∧ δ = [x0, x1, some (.fz (.int (w : Nat))), some (.fz (.int (p : Nat))), some (cntO w fun e => f e + hitK s p k e), some (.fz (.int (s : Nat))), y6, x7])
    [x0, x1, some (.fz (.int (w : Nat))), some (.fz (.int (p : Nat))), some (cntO w f), some (.fz (.int (s : Nat))), x6, x7] (fun k d δ hd h => by
      obtain ⟨y6, _, rfl⟩ := h
      obtain ⟨hk, rfl⟩ := stepD_get hd
      have lt := stepN_lt hp hk
      have cast : (s : Int) + (k : Nat) * (p : Int) = ((s + k * p : Nat) : Int) := by simp
      rw [cast]
      refine ⟨_, rfl, _, b2_bd c w (s + k * p) (fun e => f e + hitK s p k e) lt x0 x1 _ _ _ x7, ?_⟩
      refine ⟨some (.fz (.int ((s + k * p : Nat) : Int))), .inr ⟨_, rfl⟩, ?_⟩
      have : (cntO w fun e => if e = s + k * p then f e + hitK s p k e + 1 else f e + hitK s p k e) = cntO w fun e => f e + hitK s p (k + 1) e := cntO_congr fun e _ => by
        rw [hitK_succ s p k e hp]
        by_cases q : e = s + k * p
        · rw [if_pos q, if_pos q]; omega
        · rw [if_neg q, if_neg q]
      rw [this]) ⟨x6, h6, by
        have : (cntO w fun e => f e + hitK s p 0 e) = cntO w f := cntO_congr fun e _ => by rw [hitK_zero]; rfl
        rw [this]⟩
  refine ⟨y6, p6, ?_⟩
  unfold body3_busy_days
  rw [rFor_eq w3, e]
  have ln : (stepD (s : Nat) (w : Nat) (p : Nat)).length = stepN s w p := by simp [stepD]
  rw [ln]
  have : (cntO w fun e => f e + hitK s p (stepN s w p) e) = cntO w fun e => f e + if s ≤ e ∧ (e - s) % p = 0 then 1 else 0 := cntO_congr fun e he => by
    rw [hitK_end s p w e hp he]
  rw [this]
/-! ### the whole -/
def Wh (ps : List Int) : Nat := ps.foldl (fun w p => Nat.lcm w p.toNat) 1
theorem foldl_dvd : ∀ (ps : List Int) (w : Nat), w ∣ 27720 → (∀ p ∈ ps, 1 ≤ p ∧ p ≤ 12) → ps.foldl (fun w p => Nat.lcm w p.toNat) w ∣ 27720
  | [], w, h, _ => h
  | p :: ps, w, h, hp => by
    refine foldl_dvd ps _ (Nat.lcm_dvd h ?_) fun q hq => hp q (by simp [hq])
    have h1 := hp p (by simp)
    have : ∀ n : Nat, n < 13 → 1 ≤ n → n ∣ 27720 := by decide
    exact this p.toNat (by omega) (by omega)
theorem Wh_le {ps : List Int} (h : ∀ p ∈ ps, 1 ≤ p ∧ p ≤ 12) : Wh ps ∣ 27720 ∧ 1 ≤ Wh ps ∧ Wh ps ≤ 27720 := by
  have d := foldl_dvd ps 1 (Nat.one_dvd _) h
  exact ⟨d, Nat.pos_of_dvd_of_pos d (by decide), Nat.le_of_dvd (by decide) d⟩
end DL

/-! S13: busy_days, its answer. -/
namespace DL
open PySem L2
def hitI (ps ss : List Int) (j e : Nat) : Bool := decide (at_ ss j ≤ (e : Int)) && decide (((e : Int) - at_ ss j) % at_ ps j = 0)
def cntN (ps ss : List Int) (n e : Nat) : Nat := ((List.range n).filter fun j => hitI ps ss j e).length
theorem cntN_succ (ps ss : List Int) (n e : Nat) : cntN ps ss (n + 1) e = cntN ps ss n e + if hitI ps ss n e = true then 1 else 0 := by
  unfold cntN
  rw [List.range_succ, List.filter_append, List.length_append]
  cases h : hitI ps ss n e <;> simp [h]
theorem hit_iff {ps ss : List Int} {j e s p : Nat} (h1 : at_ ss j = s) (h2 : at_ ps j = p) : (s ≤ e ∧ (e - s) % p = 0) ↔ hitI ps ss j e = true := by
  unfold hitI
  rw [h1, h2, Bool.and_eq_true, decide_eq_true_eq, decide_eq_true_eq]
  have a : ((s : Int) ≤ (e : Int)) ↔ s ≤ e := by omega
  rw [a]
  constructor
  · rintro ⟨x, y⟩
    refine ⟨x, ?_⟩
    rw [← Int.ofNat_sub x]
    exact_mod_cast y
  · rintro ⟨x, y⟩
    refine ⟨x, ?_⟩
    rw [← Int.ofNat_sub x] at y
    exact_mod_cast y
theorem per_mem {ps : List Int} (hP : Per ps) : ∀ p ∈ ps, 1 ≤ p ∧ p ≤ 12 := fun p hp => by
  obtain ⟨i, hi⟩ := List.getElem?_of_mem hp
  have hlt := (List.getElem?_eq_some_iff.mp hi).1
  have ex : at_ ps i = p := by simp [at_, List.getD_eq_getElem?_getD, hi]
  have h1 := hP.pos i hlt
  have h2 := hP.le i hlt
  rw [ex] at h1 h2
  exact ⟨h1, h2⟩
theorem intsD_get {ps : List Int} {k : Nat} {d : D} (h : (intsD' ps)[k]? = some d) : k < ps.length ∧ d = .int (at_ ps k) := by
  rw [List.getElem?_map] at h
  cases q : ps[k]? with
  | none => rw [q] at h; cases h
  | some x =>
    rw [q] at h; cases h
    refine ⟨(List.getElem?_eq_some_iff.mp q).1, ?_⟩
    have : at_ ps k = x := by simp [at_, List.getD_eq_getElem?_getD, q]
    rw [this]
theorem take_at {ps : List Int} {k : Nat} (h : k < ps.length) : ps.take (k + 1) = ps.take k ++ [at_ ps k] := by
  have : at_ ps k = ps[k] := by simp [at_, List.getD_eq_getElem?_getD, h]
  rw [this, List.take_succ_eq_append_getElem h]
theorem Wh_succ {ps : List Int} {k : Nat} (h : k < ps.length) : Wh (ps.take (k + 1)) = Nat.lcm (Wh (ps.take k)) (at_ ps k).toNat := by
  rw [take_at h]; unfold Wh; rw [List.foldl_append]; rfl
theorem b1_bd (c : Cs) (w p : Nat) (hw : w ≤ 27720) (hp : p ≤ 12) (x0 x1 x4 x5 x6 x7 : Option O) :
    body1_busy_days c [x0, x1, some (.fz (.int (w : Nat))), some (.fz (.int (p : Nat))), x4, x5, x6, x7] = .ok (.nx [x0, x1, some (.fz (.int (Nat.lcm w p : Nat))), some (.fz (.int (p : Nat))), x4, x5, x6, x7]) := by
  have c1 : w < 1000000000000 ∧ p < 1000000000000 := by omega
  simp [body1_busy_days, c1]
theorem lcm_loop (c : Cs) (S : Option O) (ps : List Int) (hP : Per ps) :
    ∃ x3, rFor (wA (gV 0)) (tgN 3) (body1_busy_days c) [some (.fz (seqD false (intsD' ps))), S, some (.fz (.int 1)), none, none, none, none, none] =
      .ok (.nx [some (.fz (seqD false (intsD' ps))), S, some (.fz (.int (Wh ps : Nat))), x3, none, none, none, none]) := by
  have w : wA (gV 0) [some (.fz (seqD false (intsD' ps))), S, some (.fz (.int 1)), none, none, none, none, none] = .ok (intsD' ps, [some (.fz (seqD false (intsD' ps))), S, some (.fz (.int 1)), none, none, none, none, none]) := by
    generalize intsD' ps = M
    simp [seqD]
  rw [rFor_eq w]
  obtain ⟨δ', e, x3, rfl⟩ := forR_inv (t := tgN 3) (f := body1_busy_days c) (intsD' ps) (fun k δ => ∃ x3, δ = [some (.fz (seqD false (intsD' ps))), S, some (.fz (.int (Wh (ps.take k) : Nat))), x3, none, none, none, none])
    [some (.fz (seqD false (intsD' ps))), S, some (.fz (.int 1)), none, none, none, none, none] (fun k d δ hd h => by
      obtain ⟨x3, rfl⟩ := h
      obtain ⟨hk, rfl⟩ := intsD_get hd
      have h1 := hP.pos k hk
      have h2 := hP.le k hk
      have wl := (Wh_le (ps := ps.take k) fun p hp => per_mem hP p (List.mem_of_mem_take hp)).2.2
      obtain ⟨n, hn⟩ : ∃ n : Nat, at_ ps k = n := ⟨(at_ ps k).toNat, by omega⟩
      have e := b1_bd c (Wh (ps.take k)) n wl (by omega) (some (.fz (seqD false (intsD' ps)))) S none none none none
      refine ⟨_, rfl, _, by rw [hn]; exact e, ?_⟩
      refine ⟨some (.fz (.int (n : Nat))), ?_⟩
      rw [Wh_succ hk, hn, Int.toNat_natCast]) ⟨none, rfl⟩
  refine ⟨x3, ?_⟩
  rw [e, show (intsD' ps).length = ps.length by simp, List.take_length]
theorem cnt_loop (c : Cs) (ps ss : List Int) (hP : Per ps) (hs : ss.length = ps.length) (hw : ∀ x ∈ ss, 0 ≤ x) (hg : ∀ k, k < ps.length → at_ ss k < at_ ps k) (w : Nat) (hw5 : w ≤ 100000) (x3 : Option O) :
    ∃ y3 x5 x6, Pl x6 ∧ rFor (wZip (gaCons (gV 0) (gaCons (gV 1) gaNil))) (tgTup 2 (tgCons (tgN 3) (tgCons (tgN 5) tgNil))) (body3_busy_days c) [some (.fz (seqD false (intsD' ps))), some (.fz (seqD false (intsD' ss))), some (.fz (.int (w : Nat))), x3, some (cntO w fun _ => 0), none, none, none] =
      .ok (.nx [some (.fz (seqD false (intsD' ps))), some (.fz (seqD false (intsD' ss))), some (.fz (.int (w : Nat))), y3, some (cntO w (cntN ps ss ps.length)), x5, x6, none]) := by
  have wz : wZip (gaCons (gV 0) (gaCons (gV 1) gaNil)) [some (.fz (seqD false (intsD' ps))), some (.fz (seqD false (intsD' ss))), some (.fz (.int (w : Nat))), x3, some (cntO w fun _ => 0), none, none, none] = .ok (zipD (intsD' ps) (intsD' ss), [some (.fz (seqD false (intsD' ps))), some (.fz (seqD false (intsD' ss))), some (.fz (.int (w : Nat))), x3, some (cntO w fun _ => 0), none, none, none]) := by
    generalize intsD' ss = M
    generalize intsD' ps = N
    generalize cntO w (fun _ => 0) = C
    simp [seqD]
  rw [rFor_eq wz]
  obtain ⟨δ', e, x3, x5, x6, p6, rfl⟩ := forR_inv (t := tgTup 2 (tgCons (tgN 3) (tgCons (tgN 5) tgNil))) (f := body3_busy_days c) (zipD (intsD' ps) (intsD' ss))
    (fun k δ => ∃ x3 x5 x6, Pl x6 ∧ δ = [some (.fz (seqD false (intsD' ps))), some (.fz (seqD false (intsD' ss))), some (.fz (.int (w : Nat))), x3, some (cntO w (cntN ps ss k)), x5, x6, none])
    [some (.fz (seqD false (intsD' ps))), some (.fz (seqD false (intsD' ss))), some (.fz (.int (w : Nat))), x3, some (cntO w fun _ => 0), none, none, none] (fun k d δ hd h => by
      obtain ⟨x3, x5, x6, p6, rfl⟩ := h
      obtain ⟨hk, hk2, rfl⟩ := zipI_get hd
      have h1 := hP.pos k hk
      have h2 := hP.le k hk
      have h3 : 0 ≤ at_ ss k := by
        have : at_ ss k = ss[k] := by simp [at_, List.getD_eq_getElem?_getD, hk2]
        rw [this]; exact hw _ (List.getElem_mem hk2)
      have h4 := hg k hk
      obtain ⟨p, hp⟩ : ∃ n : Nat, at_ ps k = n := ⟨(at_ ps k).toNat, by omega⟩
      obtain ⟨s, hs⟩ : ∃ n : Nat, at_ ss k = n := ⟨(at_ ss k).toNat, by omega⟩
      obtain ⟨y6, q6, e⟩ := b3_bd c w s p (cntN ps ss k) (by omega) (by omega) (by omega) hw5 (some (.fz (seqD false (intsD' ps)))) (some (.fz (seqD false (intsD' ss)))) x6 none p6
      refine ⟨_, rfl, _, by rw [hp, hs]; exact e, ?_⟩
      refine ⟨some (.fz (.int (p : Nat))), some (.fz (.int (s : Nat))), y6, q6, ?_⟩
      have : (cntO w fun e => cntN ps ss k e + if s ≤ e ∧ (e - s) % p = 0 then 1 else 0) = cntO w (cntN ps ss (k + 1)) := cntO_congr fun e _ => by
        rw [cntN_succ]
        by_cases q : hitI ps ss k e = true
        · rw [if_pos q, if_pos ((hit_iff hs hp).mpr q)]
        · rw [if_neg q, if_neg fun z => q ((hit_iff hs hp).mp z)]
      rw [this]) ⟨x3, none, none, .inl rfl, rfl⟩
  refine ⟨x3, x5, x6, p6, ?_⟩
  rw [e, zipI_len hs]
def busyD (w : Nat) (f : Nat → Nat) : List D := ((List.range w).filter fun e => decide (0 < f e)).map fun e => .tup [.int (e : Nat), .int (f e : Nat)]
theorem enum_cnt (w : Nat) (f : Nat → Nat) : enumD 0 (cntD w f) = (List.range w).map fun e => .tup [.int (e : Nat), .int (f e : Nat)] := by
  refine List.ext_getElem? fun i => ?_
  unfold enumD cntD
  rw [List.getElem?_mapIdx, List.getElem?_map, List.getElem?_map]
  by_cases h : i < w
  · simp [h]
  · simp [h]
def posD : D → Bool
  | .tup [_, .int x] => decide (0 < x)
  | _ => false
theorem pos_busy (w : Nat) (f : Nat → Nat) : ((enumD 0 (cntD w f)).filter posD) = busyD w f := by
  rw [enum_cnt, List.filter_map]
  unfold busyD
  congr 1
  refine List.filter_congr fun e _ => ?_
  simp [posD]
theorem lc_busy (c : Cs) (w : Nat) (f : Nat → Nat) (x0 x1 x2 x3 x4 x5 : Option O) :
    lcL (tgTup 2 (tgCons (tgN 6) (tgCons (tgN 7) tgNil))) (tst4_busy_days c) (elt5_busy_days c) [6, 7] (enumD 0 (cntD w f)) [x0, x1, x2, x3, x4, x5, none, none] = .ok ((busyD w f).map O.fz, [x0, x1, x2, x3, x4, x5, none, none]) := by
  rw [← pos_busy]
  refine lcL_map posD O.fz _ _ fun d hd => ?_
  rw [enum_cnt] at hd
  obtain ⟨e, _, rfl⟩ := List.mem_map.mp hd
  refine ⟨[x0, x1, x2, x3, x4, x5, some (.fz (.int (e : Nat))), some (.fz (.int (f e : Nat)))], [x0, x1, x2, x3, x4, x5, some (.fz (.int (e : Nat))), some (.fz (.int (f e : Nat)))], rfl, ?_, fun _ => rfl, fun _ => ⟨[x0, x1, x2, x3, x4, x5, some (.fz (.int (e : Nat))), some (.fz (.int (f e : Nat)))], ?_, rfl⟩⟩
  · simp [tst4_busy_days, posD]
  · simp [elt5_busy_days]
theorem bd_bad (c : Cs) (P S : D) (x : Xc) (h : phi_check_starts c [.fz P, .fz S] = .er x) : phi_busy_days c [.fz P, .fz S] = .er x := by
  rw [go_busy_days]
  unfold run_busy_days
  rw [rSeq_er (x := x) (by simp [h])]
  rfl
theorem cntO_D (w : Nat) (f : Nat → Nat) : (cntO w f).toD = .lst (cntD w f) := by
  unfold cntO cntD
  simp [toDL_map, Function.comp_def]
theorem rep_fl {α : Type} (x : α) (w : Nat) : (List.replicate w [x]).flatten = (List.range w).map fun _ => x := by
  induction w with
  | zero => rfl
  | succ n ih =>
    rw [List.replicate_succ, List.flatten_cons, ih, List.range_succ_eq_map, List.map_cons, List.map_map]
    rfl
theorem rep_cnt (w : Nat) : (List.replicate w [D.int 0]).flatten = cntD w fun _ => 0 := by
  induction w with
  | zero => rfl
  | succ n ih =>
    rw [List.replicate_succ, List.flatten_cons, ih]
    unfold cntD
    rw [List.range_succ_eq_map, List.map_cons, List.map_map]
    rfl
theorem busy_days_ok (c : Cs) (ps ss : List Int) (hP : Per ps) (hs : ss.length = ps.length) (hw : ∀ x ∈ ss, 0 ≤ x) :
    phi_busy_days c [.fz (seqD false (intsD' ps)), .fz (seqD false (intsD' ss))] = if gdB ps ss ps.length = true then .ok (.fz (.tup [.int (Wh ps : Nat), .tup (busyD (Wh ps) (cntN ps ss ps.length))]), []) else .er (bad c 1) := by
  have chk := check_starts_ok c ps ss hP hs hw
  by_cases g : gdB ps ss ps.length = true
  · rw [if_pos g] at chk ⊢
    obtain ⟨_, w1, w2⟩ := Wh_le (per_mem hP)
    rw [go_busy_days]
    unfold run_busy_days
    have e1 : rDrop (gZ (gCall 2 [] (phi_check_starts c) (gAD (gV 0) (gAD (gV 1) gANil)))) [some (.fz (seqD false (intsD' ps))), some (.fz (seqD false (intsD' ss))), none, none, none, none, none, none] = .ok (.nx [some (.fz (seqD false (intsD' ps))), some (.fz (seqD false (intsD' ss))), none, none, none, none, none, none]) := by
      revert chk
      generalize intsD' ps = M
      generalize intsD' ss = N
      intro chk
      simp [chk]
    rw [rSeq_nx e1]
    have e2 : rSet 2 (gO (gC (D.int 1))) [some (.fz (seqD false (intsD' ps))), some (.fz (seqD false (intsD' ss))), none, none, none, none, none, none] = .ok (.nx [some (.fz (seqD false (intsD' ps))), some (.fz (seqD false (intsD' ss))), some (.fz (.int 1)), none, none, none, none, none]) := by
      simp
    rw [rSeq_nx e2]
    obtain ⟨x3, e3⟩ := lcm_loop c (some (.fz (seqD false (intsD' ss)))) ps hP
    rw [rSeq_nx e3]
    have e4 : rSet 4 (gX2 fRepL (gZ (gaLst (gaCons (gC (D.int 0)) gaNil))) (gV 2)) [some (.fz (seqD false (intsD' ps))), some (.fz (seqD false (intsD' ss))), some (.fz (.int (Wh ps : Nat))), x3, none, none, none, none] =
        .ok (.nx [some (.fz (seqD false (intsD' ps))), some (.fz (seqD false (intsD' ss))), some (.fz (.int (Wh ps : Nat))), x3, some (cntO (Wh ps) fun _ => 0), none, none, none]) := by
      generalize intsD' ps = M
      generalize intsD' ss = N
      generalize Wh ps = W at w1 w2
      have c1 : W ≤ 100000 := by omega
      have c2 : (W : Int) ≤ 100000 := by omega
      simp [c1, c2, cntO, -List.flatten_replicate_singleton]
      exact rep_fl _ _
    rw [rSeq_nx e4]
    obtain ⟨y3, x5, x6, p6, e5⟩ := cnt_loop c ps ss hP hs hw (gdB_iff.mp g) (Wh ps) (by omega) x3
    rw [rSeq_nx e5]
    have we : wE (gaCons (gV 4) gaNil) [some (.fz (seqD false (intsD' ps))), some (.fz (seqD false (intsD' ss))), some (.fz (.int (Wh ps : Nat))), y3, some (cntO (Wh ps) (cntN ps ss ps.length)), x5, x6, none] =
        .ok (enumD 0 (cntD (Wh ps) (cntN ps ss ps.length)), [some (.fz (seqD false (intsD' ps))), some (.fz (seqD false (intsD' ss))), some (.fz (.int (Wh ps : Nat))), y3, some (.fz (.lst (cntD (Wh ps) (cntN ps ss ps.length)))), x5, x6, none]) := by
      have := cntO_D (Wh ps) (cntN ps ss ps.length)
      unfold cntO at this ⊢
      generalize (List.range (Wh ps)).map (fun d => O.fz (.int (cntN ps ss ps.length d : Nat))) = C at this ⊢
      generalize cntD (Wh ps) (cntN ps ss ps.length) = E at this ⊢
      generalize seqD false (intsD' ps) = M
      generalize seqD false (intsD' ss) = N
      have t : O.toDL C = E := by simpa using this
      simp [t]
    have lc := lc_busy c (Wh ps) (cntN ps ss ps.length) (some (.fz (seqD false (intsD' ps)))) (some (.fz (seqD false (intsD' ss)))) (some (.fz (.int (Wh ps : Nat)))) y3 (some (.fz (.lst (cntD (Wh ps) (cntN ps ss ps.length))))) x5
    have ln : (enumD 0 (cntD (Wh ps) (cntN ps ss ps.length))).length ≤ 100000 := by rw [enumD_len]; simp [cntD]; omega
    have gl : gLc (wE (gaCons (gV 4) gaNil)) (tgTup 2 (tgCons (tgN 6) (tgCons (tgN 7) tgNil))) (tst4_busy_days c) (elt5_busy_days c) [6, 7] [some (.fz (seqD false (intsD' ps))), some (.fz (seqD false (intsD' ss))), some (.fz (.int (Wh ps : Nat))), y3, some (cntO (Wh ps) (cntN ps ss ps.length)), x5, x6, none] =
        .ok (.lst ((busyD (Wh ps) (cntN ps ss ps.length)).map O.fz), [some (.fz (seqD false (intsD' ps))), some (.fz (seqD false (intsD' ss))), some (.fz (.int (Wh ps : Nat))), y3, some (.fz (.lst (cntD (Wh ps) (cntN ps ss ps.length)))), x5, x6, none]) := by
      rw [e_gLc, we, Rz.bind_ok]
      rcases p6 with rfl | ⟨d, rfl⟩
      · rw [if_pos ⟨ln, rfl⟩]
        have hw : wipeD [some (O.fz (seqD false (intsD' ps))), some (O.fz (seqD false (intsD' ss))), some (O.fz (.int (Wh ps : Nat))), y3, some (O.fz (.lst (cntD (Wh ps) (cntN ps ss ps.length)))), x5, none, none] [6, 7] = [some (O.fz (seqD false (intsD' ps))), some (O.fz (seqD false (intsD' ss))), some (O.fz (.int (Wh ps : Nat))), y3, some (O.fz (.lst (cntD (Wh ps) (cntN ps ss ps.length)))), x5, none, none] := rfl
        simp only [hw, lc, Rz.bind_ok]
        rfl
      · rw [if_pos ⟨ln, rfl⟩]
        have hw : wipeD [some (O.fz (seqD false (intsD' ps))), some (O.fz (seqD false (intsD' ss))), some (O.fz (.int (Wh ps : Nat))), y3, some (O.fz (.lst (cntD (Wh ps) (cntN ps ss ps.length)))), x5, some (.fz d), none] [6, 7] = [some (O.fz (seqD false (intsD' ps))), some (O.fz (seqD false (intsD' ss))), some (O.fz (.int (Wh ps : Nat))), y3, some (O.fz (.lst (cntD (Wh ps) (cntN ps ss ps.length)))), x5, none, none] := rfl
        simp only [hw, lc, Rz.bind_ok]
        rfl
    have e6 : rRet (gO (gaTup (gaCons (gV 2) (gaCons (gN fTupOf (gaCons (gZ (gLc (wE (gaCons (gV 4) gaNil)) (tgTup 2 (tgCons (tgN 6) (tgCons (tgN 7) tgNil))) (tst4_busy_days c) (elt5_busy_days c) [6, 7])) gaNil)) gaNil)))) [some (.fz (seqD false (intsD' ps))), some (.fz (seqD false (intsD' ss))), some (.fz (.int (Wh ps : Nat))), y3, some (cntO (Wh ps) (cntN ps ss ps.length)), x5, x6, none] = .ok (.rt (.fz (.tup [.int (Wh ps : Nat), .tup (busyD (Wh ps) (cntN ps ss ps.length))])) [some (.fz (seqD false (intsD' ps))), some (.fz (seqD false (intsD' ss))), some (.fz (.int (Wh ps : Nat))), y3, some (.fz (.lst (cntD (Wh ps) (cntN ps ss ps.length)))), x5, x6, none]) := by
      generalize gLc (wE (gaCons (gV 4) gaNil)) (tgTup 2 (tgCons (tgN 6) (tgCons (tgN 7) tgNil))) (tst4_busy_days c) (elt5_busy_days c) [6, 7] = G at gl ⊢
      generalize cntO (Wh ps) (cntN ps ss ps.length) = C at gl ⊢
      generalize cntD (Wh ps) (cntN ps ss ps.length) = E at gl ⊢
      generalize seqD false (intsD' ps) = M at gl ⊢
      generalize seqD false (intsD' ss) = N at gl ⊢
      simp [gl, toDL_map, Function.comp_def]
    rw [e6]
    rfl
  · rw [if_neg g] at chk ⊢
    exact bd_bad c _ _ _ chk
end DL

/-! S14: the starts drawn. -/
namespace DL
open PySem L2
def lowB (ss : List Int) : Prop := ∀ x ∈ ss, 0 ≤ x ∧ x ≤ 11
theorem lc_some (c : Cs) (row : List Int) (hr : row ≠ []) (p : Nat) (ps : List Int) (hP : Per ps) (M : D) (k : Int) (x0 x3 x7 x8 x9 x10 x11 x12 x13 x15 x16 : Option O) :
    ∃ (ss : List Int) (p' : Nat), ss.length = ps.length ∧ lowB ss ∧ lcL (tgN 14) (fun δ => .ok (true, δ)) (elt2_law c) [14] (intsD' ps) [x0, some (.fz (ints_ row)), some (spotO p), x3, some (.fz (.tup (intsD' ps))), some (.fz M), some (.fz (.int k)), x7, x8, x9, x10, x11, x12, x13, none, x15, x16] = .ok (ss.map fun n => O.fz (.int n), [x0, some (.fz (ints_ row)), some (spotO p'), x3, some (.fz (.tup (intsD' ps))), some (.fz M), some (.fz (.int k)), x7, x8, x9, x10, x11, x12, x13, none, x15, x16]) := by
  obtain ⟨l, δ', e, ss, p', h1, h2, rfl, rfl⟩ := lcL_gen (tg := tgN 14) (gt := fun δ => .ok (true, δ)) (ge := elt2_law c) (vs := [14]) (intsD' ps)
    (fun i acc δ => ∃ (ss : List Int) (p : Nat), ss.length = i ∧ lowB ss ∧ acc = ss.map (fun n => O.fz (.int n)) ∧ δ = [x0, some (.fz (ints_ row)), some (spotO p), x3, some (.fz (.tup (intsD' ps))), some (.fz M), some (.fz (.int k)), x7, x8, x9, x10, x11, x12, x13, none, x15, x16]) [] [x0, some (.fz (ints_ row)), some (spotO p), x3, some (.fz (.tup (intsD' ps))), some (.fz M), some (.fz (.int k)), x7, x8, x9, x10, x11, x12, x13, none, x15, x16]
    (fun i d acc δ hd h => by
      obtain ⟨ss, p, h1, h2, rfl, rfl⟩ := h
      obtain ⟨hi, rfl⟩ := intsD_get hd
      have p1 := hP.pos i hi
      have p2 := hP.le i hi
      obtain ⟨r, r1, r2, e⟩ := take_ok c row hr p (at_ ps i) (by omega)
      refine ⟨_, true, _, rfl, rfl, nofun, fun _ => ⟨.fz (.int r), [x0, some (.fz (ints_ row)), some (spotO (p + 1)), x3, some (.fz (.tup (intsD' ps))), some (.fz M), some (.fz (.int k)), x7, x8, x9, x10, x11, x12, x13, some (.fz (.int (at_ ps i))), x15, x16], ?_, ss ++ [r], p + 1, by simp [h1], ?_, by simp, rfl⟩⟩
      · show elt2_law c [x0, some (.fz (ints_ row)), some (spotO p), x3, some (.fz (.tup (intsD' ps))), some (.fz M), some (.fz (.int k)), x7, x8, x9, x10, x11, x12, x13, some (.fz (.int (at_ ps i))), x15, x16] = _
        generalize D.tup (intsD' ps) = T
        simp [elt2_law, e]
      · intro x hx
        rcases List.mem_append.mp hx with hx | hx
        · exact h2 x hx
        · have : x = r := by simpa using hx
          subst this; omega) ⟨[], p, rfl, (fun x hx => by cases hx), rfl, rfl⟩
  refine ⟨ss, p', ?_, h2, e⟩
  simpa using h1
theorem law_s1 (c : Cs) (row : List Int) (hr : row ≠ []) (p : Nat) (ps : List Int) (hP : Per ps) (M : D) (k : Int) (x0 x3 x7 x8 x9 x10 x11 x12 x13 x14 x15 x16 : Option O) (h14 : Pl x14) :
    ∃ (ss : List Int) (p' : Nat), ss.length = ps.length ∧ lowB ss ∧ rSet 7 (gLc (wA (gV 4)) (tgN 14) (fun δ => .ok (true, δ)) (elt2_law c) [14]) [x0, some (.fz (ints_ row)), some (spotO p), x3, some (.fz (.tup (intsD' ps))), some (.fz M), some (.fz (.int k)), x7, x8, x9, x10, x11, x12, x13, x14, x15, x16] = .ok (.nx [x0, some (.fz (ints_ row)), some (spotO p'), x3, some (.fz (.tup (intsD' ps))), some (.fz M), some (.fz (.int k)), some (intsO ss), x8, x9, x10, x11, x12, x13, x14, x15, x16]) := by
  obtain ⟨ss, p', h1, h2, e⟩ := lc_some c row hr p ps hP M k x0 x3 x7 x8 x9 x10 x11 x12 x13 x15 x16
  refine ⟨ss, p', h1, h2, ?_⟩
  have w : wA (gV 4) [x0, some (.fz (ints_ row)), some (spotO p), x3, some (.fz (.tup (intsD' ps))), some (.fz M), some (.fz (.int k)), x7, x8, x9, x10, x11, x12, x13, x14, x15, x16] = .ok (intsD' ps, [x0, some (.fz (ints_ row)), some (spotO p), x3, some (.fz (.tup (intsD' ps))), some (.fz M), some (.fz (.int k)), x7, x8, x9, x10, x11, x12, x13, x14, x15, x16]) := by
    generalize intsD' ps = T
    simp
  have ln : (intsD' ps).length ≤ 100000 := by have := hP.len; simp; omega
  have g : gLc (wA (gV 4)) (tgN 14) (fun δ => .ok (true, δ)) (elt2_law c) [14] [x0, some (.fz (ints_ row)), some (spotO p), x3, some (.fz (.tup (intsD' ps))), some (.fz M), some (.fz (.int k)), x7, x8, x9, x10, x11, x12, x13, x14, x15, x16] = .ok (intsO ss, [x0, some (.fz (ints_ row)), some (spotO p'), x3, some (.fz (.tup (intsD' ps))), some (.fz M), some (.fz (.int k)), x7, x8, x9, x10, x11, x12, x13, x14, x15, x16]) := by
    rw [e_gLc, w, Rz.bind_ok]
    rcases h14 with rfl | ⟨d, rfl⟩
    · rw [if_pos ⟨ln, rfl⟩]
      have hw : wipeD [x0, some (.fz (ints_ row)), some (spotO p), x3, some (.fz (.tup (intsD' ps))), some (.fz M), some (.fz (.int k)), x7, x8, x9, x10, x11, x12, x13, none, x15, x16] [14] = [x0, some (.fz (ints_ row)), some (spotO p), x3, some (.fz (.tup (intsD' ps))), some (.fz M), some (.fz (.int k)), x7, x8, x9, x10, x11, x12, x13, none, x15, x16] := rfl
      simp only [hw, e, Rz.bind_ok]
      rfl
    · rw [if_pos ⟨ln, rfl⟩]
      have hw : wipeD [x0, some (.fz (ints_ row)), some (spotO p), x3, some (.fz (.tup (intsD' ps))), some (.fz M), some (.fz (.int k)), x7, x8, x9, x10, x11, x12, x13, some (.fz d), x15, x16] [14] = [x0, some (.fz (ints_ row)), some (spotO p), x3, some (.fz (.tup (intsD' ps))), some (.fz M), some (.fz (.int k)), x7, x8, x9, x10, x11, x12, x13, none, x15, x16] := rfl
      simp only [hw, e, Rz.bind_ok]
      rfl
  rw [e_rSet, g, Rz.bind_ok]
  rfl
theorem Sx_low {ps r : List Int} (hP : Per ps) (h : Sx ps ps.length [] = some r) : r.length = ps.length ∧ lowB r := by
  obtain ⟨g, l, _⟩ := Sx_some h Good.nil
  have l' : r.length = ps.length := by simpa using l
  refine ⟨l', fun x hx => ?_⟩
  obtain ⟨i, hi⟩ := List.getElem?_of_mem hx
  have hlt := (List.getElem?_eq_some_iff.mp hi).1
  have ex : at_ r i = x := by simp [at_, List.getD_eq_getElem?_getD, hi]
  have h1 := g.rng i hlt
  have h2 := hP.le i (by omega)
  rw [ex] at h1
  omega
theorem low_set {ss : List Int} (h : lowB ss) {j : Nat} {v : Int} (hv : 0 ≤ v ∧ v ≤ 11) : lowB (ss.set j v) := fun x hx => by
  rcases List.mem_or_eq_of_mem_set hx with hx | rfl
  · exact h x hx
  · exact hv
theorem law_s2b (c : Cs) (row : List Int) (hr : row ≠ []) (p : Nat) (ps r : List Int) (M : D) (k : Int) (hl : r.length = ps.length) (hw : lowB r) (h5 : ps.length ≤ 5) (x0 x3 x8 x9 x10 x11 x12 x13 x14 x15 x16 : Option O) :
    ∃ (ss : List Int) (p' : Nat), ss.length = ps.length ∧ lowB ss ∧ rIf (gAnd (gB (g2 fEq (gV 6) (gC (D.int 1)))) (gB (g2 fGt (gS (fLenP (pV 7))) (gC (D.int 0))))) (rSetIx 7 (gZ (gCall 3 [1] (phi_law_take c) (gAD (gV 1) (gAA 2 (gAD (gC (D.int 12)) gANil))))) (gZ (gCall 3 [1] (phi_law_take c) (gAD (gV 1) (gAA 2 (gAD (gS (fLenP (pV 7))) gANil)))))) rNext [x0, some (.fz (ints_ row)), some (spotO p), x3, some (.fz (.tup (intsD' ps))), some (.fz M), some (.fz (.int k)), some (intsO r), x8, x9, x10, x11, x12, x13, x14, x15, x16] =
      .ok (.nx [x0, some (.fz (ints_ row)), some (spotO p'), x3, some (.fz (.tup (intsD' ps))), some (.fz M), some (.fz (.int k)), some (intsO ss), x8, x9, x10, x11, x12, x13, x14, x15, x16]) := by
  generalize hT : D.tup (intsD' ps) = T
  by_cases h : k = 1 ∧ 0 < r.length
  · obtain ⟨v, v1, v2, e1⟩ := take_ok c row hr p 12 (by omega)
    obtain ⟨j, j1, j2, e2⟩ := take_ok c row hr (p + 1) r.length (by omega)
    refine ⟨r.set j.toNat v, p + 1 + 1, by simp [hl], low_set hw (by omega), ?_⟩
    obtain ⟨n, rfl⟩ : ∃ n : Nat, j = n := ⟨j.toNat, by omega⟩
    have k1 := h.1
    subst k1
    have k2 : (0 : Int) < (r.length : Int) := by omega
    have e3 : (r.map fun n => O.fz (.int n)).set n (O.fz (.int v)) = (r.set n v).map fun n => O.fz (.int n) := by rw [List.map_set]
    have t : gAnd (gB (g2 fEq (gV 6) (gC (D.int 1)))) (gB (g2 fGt (gS (fLenP (pV 7))) (gC (D.int 0)))) [x0, some (.fz (ints_ row)), some (spotO p), x3, some (.fz T), some (.fz M), some (.fz (.int 1)), some (intsO r), x8, x9, x10, x11, x12, x13, x14, x15, x16] = .ok (true, [x0, some (.fz (ints_ row)), some (spotO p), x3, some (.fz T), some (.fz M), some (.fz (.int 1)), some (intsO r), x8, x9, x10, x11, x12, x13, x14, x15, x16]) := by
      simp [k2, h.2]
    rw [rIf_t t]
    have a : gZ (gCall 3 [1] (phi_law_take c) (gAD (gV 1) (gAA 2 (gAD (gC (D.int 12)) gANil)))) [x0, some (.fz (ints_ row)), some (spotO p), x3, some (.fz T), some (.fz M), some (.fz (.int 1)), some (intsO r), x8, x9, x10, x11, x12, x13, x14, x15, x16] = .ok (.int v, [x0, some (.fz (ints_ row)), some (spotO (p + 1)), x3, some (.fz T), some (.fz M), some (.fz (.int 1)), some (intsO r), x8, x9, x10, x11, x12, x13, x14, x15, x16]) := by
      generalize hS : intsO r = S
      simp [e1]
    have b : gZ (gCall 3 [1] (phi_law_take c) (gAD (gV 1) (gAA 2 (gAD (gS (fLenP (pV 7))) gANil)))) [x0, some (.fz (ints_ row)), some (spotO (p + 1)), x3, some (.fz T), some (.fz M), some (.fz (.int 1)), some (intsO r), x8, x9, x10, x11, x12, x13, x14, x15, x16] = .ok (.int (n : Nat), [x0, some (.fz (ints_ row)), some (spotO (p + 1 + 1)), x3, some (.fz T), some (.fz M), some (.fz (.int 1)), some (intsO r), x8, x9, x10, x11, x12, x13, x14, x15, x16]) := by
      simp [e2]
    generalize gZ (gCall 3 [1] (phi_law_take c) (gAD (gV 1) (gAA 2 (gAD (gC (D.int 12)) gANil)))) = A at a ⊢
    generalize gZ (gCall 3 [1] (phi_law_take c) (gAD (gV 1) (gAA 2 (gAD (gS (fLenP (pV 7))) gANil)))) = B at b ⊢
    have j3 : n < r.length := by omega
    simp [a, b, j3]
  · refine ⟨r, p, hl, hw, ?_⟩
    by_cases h1 : k = 1
    · have h2 : r.length = 0 := by
        rcases Nat.eq_zero_or_pos r.length with z | z
        · exact z
        · exact absurd ⟨h1, z⟩ h
      have h3 : r = [] := List.length_eq_zero_iff.mp h2
      subst h3
      simp [h1]
    · simp [h1]
theorem law_s2 (c : Cs) (row : List Int) (hr : row ≠ []) (p : Nat) (ps ss : List Int) (hP : Per ps) (k : Int) (hl : ss.length = ps.length) (hw : lowB ss) (x0 x3 x8 x9 x10 x11 x12 x13 x14 x15 x16 : Option O) :
    ∃ (ss' : List Int) (p' : Nat), ss'.length = ps.length ∧ lowB ss' ∧ rIf (gAnd (gB (g2 fLt (gV 6) (gC (D.int 2)))) (gB (g2 fNotN (gV 5) (gC D.non)))) (rSeq (rSet 7 (gXN fListOf (gaCons (gV 5) gaNil)))
  (rIf (gAnd (gB (g2 fEq (gV 6) (gC (D.int 1)))) (gB (g2 fGt (gS (fLenP (pV 7))) (gC (D.int 0))))) (rSetIx 7 (gZ (gCall 3 [1] (phi_law_take c) (gAD (gV 1) (gAA 2 (gAD (gC (D.int 12)) gANil))))) (gZ (gCall 3 [1] (phi_law_take c) (gAD (gV 1) (gAA 2 (gAD (gS (fLenP (pV 7))) gANil)))))) rNext)) rNext [x0, some (.fz (ints_ row)), some (spotO p), x3, some (.fz (.tup (intsD' ps))), some (.fz (optT (Sx ps ps.length []))), some (.fz (.int k)), some (intsO ss), x8, x9, x10, x11, x12, x13, x14, x15, x16] =
      .ok (.nx [x0, some (.fz (ints_ row)), some (spotO p'), x3, some (.fz (.tup (intsD' ps))), some (.fz (optT (Sx ps ps.length []))), some (.fz (.int k)), some (intsO ss'), x8, x9, x10, x11, x12, x13, x14, x15, x16]) := by
  by_cases h : k < 2 ∧ ∃ r, Sx ps ps.length [] = some r
  · obtain ⟨h1, r, h2⟩ := h
    obtain ⟨s1, s2⟩ := Sx_low hP h2
    obtain ⟨ss', p', q1, q2, e⟩ := law_s2b c row hr p ps r (optT (some r)) k s1 s2 hP.len x0 x3 x8 x9 x10 x11 x12 x13 x14 x15 x16
    refine ⟨ss', p', q1, q2, ?_⟩
    rw [h2]
    have t : gAnd (gB (g2 fLt (gV 6) (gC (D.int 2)))) (gB (g2 fNotN (gV 5) (gC D.non))) [x0, some (.fz (ints_ row)), some (spotO p), x3, some (.fz (.tup (intsD' ps))), some (.fz (optT (some r))), some (.fz (.int k)), some (intsO ss), x8, x9, x10, x11, x12, x13, x14, x15, x16] = .ok (true, [x0, some (.fz (ints_ row)), some (spotO p), x3, some (.fz (.tup (intsD' ps))), some (.fz (optT (some r))), some (.fz (.int k)), some (intsO ss), x8, x9, x10, x11, x12, x13, x14, x15, x16]) := by
      generalize D.tup (intsD' ps) = T
      generalize intsO ss = S
      simp [h1, optT, isNonD]
    rw [rIf_t t]
    have s : rSet 7 (gXN fListOf (gaCons (gV 5) gaNil)) [x0, some (.fz (ints_ row)), some (spotO p), x3, some (.fz (.tup (intsD' ps))), some (.fz (optT (some r))), some (.fz (.int k)), some (intsO ss), x8, x9, x10, x11, x12, x13, x14, x15, x16] = .ok (.nx [x0, some (.fz (ints_ row)), some (spotO p), x3, some (.fz (.tup (intsD' ps))), some (.fz (optT (some r))), some (.fz (.int k)), some (intsO r), x8, x9, x10, x11, x12, x13, x14, x15, x16]) := by
      generalize D.tup (intsD' ps) = T
      generalize intsO ss = S
      simp [optT, Dx.o, Function.comp_def]
    rw [rSeq_nx s]
    exact e
  · refine ⟨ss, p, hl, hw, ?_⟩
    have t : gAnd (gB (g2 fLt (gV 6) (gC (D.int 2)))) (gB (g2 fNotN (gV 5) (gC D.non))) [x0, some (.fz (ints_ row)), some (spotO p), x3, some (.fz (.tup (intsD' ps))), some (.fz (optT (Sx ps ps.length []))), some (.fz (.int k)), some (intsO ss), x8, x9, x10, x11, x12, x13, x14, x15, x16] = .ok (false, [x0, some (.fz (ints_ row)), some (spotO p), x3, some (.fz (.tup (intsD' ps))), some (.fz (optT (Sx ps ps.length []))), some (.fz (.int k)), some (intsO ss), x8, x9, x10, x11, x12, x13, x14, x15, x16]) := by
      generalize D.tup (intsD' ps) = T
      generalize intsO ss = S
      by_cases h1 : k < 2
      · cases q : Sx ps ps.length [] with
        | some r => exact absurd ⟨h1, r, q⟩ h
        | none => simp [h1, optT, isNonD]
      · simp [h1]
    rw [rIf_f t]
    rfl
end DL

/-! S15: good, the days. -/
namespace DL
open PySem L2
theorem at_get {ss : List Int} {j : Nat} (h : j < ss.length) : ss[j] = at_ ss j := by simp [at_, List.getD_eq_getElem?_getD, h]
theorem tst3_ok (c : Cs) (row : List Int) (p : Nat) (ps ss : List Int) (M : D) (k : Int) (j : Nat) (hj : j < ps.length) (hs : ss.length = ps.length) (x0 x3 x8 x9 x10 x11 x12 x13 x14 x15 : Option O) :
    tst3_law c [x0, some (.fz (ints_ row)), some (spotO p), x3, some (.fz (.tup (intsD' ps))), some (.fz M), some (.fz (.int k)), some (intsO ss), x8, x9, x10, x11, x12, x13, x14, x15, some (.fz (.int (j : Nat)))] = .ok (decide (at_ ps j ≤ at_ ss j), [x0, some (.fz (ints_ row)), some (spotO p), x3, some (.fz (.tup (intsD' ps))), some (.fz M), some (.fz (.int k)), some (intsO ss), x8, x9, x10, x11, x12, x13, x14, x15, some (.fz (.int (j : Nat)))]) := by
  have i := ix_seq' false ps j hj
  have g := at_get (ss := ss) (j := j) (by omega)
  have h2 : j < ss.length := by omega
  have i' : fIx (.tup (intsD' ps)) (.int (j : Nat)) = some (.int (at_ ps j)) := i
  generalize D.tup (intsD' ps) = T at i' ⊢
  simp [tst3_law, i', h2, g]
theorem tst5_ok (c : Cs) (row : List Int) (p : Nat) (ps ss : List Int) (hP : Per ps) (M : D) (k : Int) (j e : Nat) (hj : j < ps.length) (hs : ss.length = ps.length) (x0 x3 x8 x9 x11 x12 x13 x14 x15 : Option O) :
    tst5_law c [x0, some (.fz (ints_ row)), some (spotO p), x3, some (.fz (.tup (intsD' ps))), some (.fz M), some (.fz (.int k)), some (intsO ss), x8, x9, some (.fz (.int (e : Nat))), x11, x12, x13, x14, x15, some (.fz (.int (j : Nat)))] = .ok (hitI ps ss j e, [x0, some (.fz (ints_ row)), some (spotO p), x3, some (.fz (.tup (intsD' ps))), some (.fz M), some (.fz (.int k)), some (intsO ss), x8, x9, some (.fz (.int (e : Nat))), x11, x12, x13, x14, x15, some (.fz (.int (j : Nat)))]) := by
  have i := ix_seq' false ps j hj
  have g := at_get (ss := ss) (j := j) (by omega)
  have h2 : j < ss.length := by omega
  have i' : fIx (.tup (intsD' ps)) (.int (j : Nat)) = some (.int (at_ ps j)) := i
  have p0 : 0 < at_ ps j := by have := hP.pos j hj; omega
  generalize D.tup (intsD' ps) = T at i' ⊢
  unfold hitI
  by_cases h : at_ ss j ≤ (e : Int)
  · simp [tst5_law, i', h2, g, h, p0]
  · simp [tst5_law, i', h2, g, h, p0]
def gG (ps ss : List Int) : D → Bool
  | .int j => decide (at_ ps j.toNat ≤ at_ ss j.toNat)
  | _ => false
theorem lc_good (c : Cs) (row : List Int) (p : Nat) (ps ss : List Int) (M : D) (k : Int) (hs : ss.length = ps.length) (x0 x3 x8 x9 x10 x11 x12 x13 x14 x15 : Option O) :
    lcL (tgN 16) (tst3_law c) (elt4_law c) [16] (rangeD 0 ps.length) [x0, some (.fz (ints_ row)), some (spotO p), x3, some (.fz (.tup (intsD' ps))), some (.fz M), some (.fz (.int k)), some (intsO ss), x8, x9, x10, x11, x12, x13, x14, x15, none] = .ok (((rangeD 0 ps.length).filter (gG ps ss)).map O.fz, [x0, some (.fz (ints_ row)), some (spotO p), x3, some (.fz (.tup (intsD' ps))), some (.fz M), some (.fz (.int k)), some (intsO ss), x8, x9, x10, x11, x12, x13, x14, x15, none]) := by
  refine lcL_map (gG ps ss) O.fz _ _ fun d hd => ?_
  obtain ⟨i, hi⟩ := List.getElem?_of_mem hd
  obtain ⟨h, rfl⟩ := rangeD_get hi
  have z0 : (0 : Int) + (i : Nat) = (i : Nat) := by omega
  rw [z0]
  refine ⟨_, [x0, some (.fz (ints_ row)), some (spotO p), x3, some (.fz (.tup (intsD' ps))), some (.fz M), some (.fz (.int k)), some (intsO ss), x8, x9, x10, x11, x12, x13, x14, x15, some (.fz (.int (i : Nat)))], rfl, ?_, fun _ => rfl, fun _ => ⟨[x0, some (.fz (ints_ row)), some (spotO p), x3, some (.fz (.tup (intsD' ps))), some (.fz M), some (.fz (.int k)), some (intsO ss), x8, x9, x10, x11, x12, x13, x14, x15, some (.fz (.int (i : Nat)))], ?_, rfl⟩⟩
  · exact tst3_ok c row p ps ss M k i h hs x0 x3 x8 x9 x10 x11 x12 x13 x14 x15
  · simp [elt4_law]
theorem good_len (ps ss : List Int) (n : Nat) : decide ((((rangeD 0 n).filter (gG ps ss)).length : Int) = 0) = gdB ps ss n := by
  rw [Bool.eq_iff_iff, decide_eq_true_eq, gdB_iff]
  constructor
  · intro h k hk
    have h0 : (rangeD 0 n).filter (gG ps ss) = [] := List.length_eq_zero_iff.mp (by omega)
    rw [List.filter_eq_nil_iff] at h0
    have := h0 (.int ((k : Nat) : Int)) (by
      unfold rangeD
      refine List.mem_map.mpr ⟨k, List.mem_range.mpr hk, ?_⟩
      simp)
    simp [gG] at this
    omega
  · intro h
    have h0 : (rangeD 0 n).filter (gG ps ss) = [] := by
      rw [List.filter_eq_nil_iff]
      intro d hd
      obtain ⟨i, hi⟩ := List.getElem?_of_mem hd
      obtain ⟨hk, rfl⟩ := rangeD_get hi
      have := h i hk
      simp [gG]
      omega
    rw [h0]; rfl
theorem gl_good (c : Cs) (row : List Int) (p : Nat) (ps ss : List Int) (h5 : ps.length ≤ 5) (M : D) (k : Int) (hs : ss.length = ps.length) (x0 x3 x8 x9 x10 x11 x12 x13 x14 x15 x16 : Option O) (h16 : Pl x16) :
    gLc (wR1 (gaCons (gN fLen (gaCons (gV 4) gaNil)) gaNil)) (tgN 16) (tst3_law c) (elt4_law c) [16] [x0, some (.fz (ints_ row)), some (spotO p), x3, some (.fz (.tup (intsD' ps))), some (.fz M), some (.fz (.int k)), some (intsO ss), x8, x9, x10, x11, x12, x13, x14, x15, x16] = .ok (.lst (((rangeD 0 ps.length).filter (gG ps ss)).map O.fz), [x0, some (.fz (ints_ row)), some (spotO p), x3, some (.fz (.tup (intsD' ps))), some (.fz M), some (.fz (.int k)), some (intsO ss), x8, x9, x10, x11, x12, x13, x14, x15, x16]) := by
  have e := lc_good c row p ps ss M k hs x0 x3 x8 x9 x10 x11 x12 x13 x14 x15
  have w : wR1 (gaCons (gN fLen (gaCons (gV 4) gaNil)) gaNil) [x0, some (.fz (ints_ row)), some (spotO p), x3, some (.fz (.tup (intsD' ps))), some (.fz M), some (.fz (.int k)), some (intsO ss), x8, x9, x10, x11, x12, x13, x14, x15, x16] = .ok (rangeD 0 ps.length, [x0, some (.fz (ints_ row)), some (spotO p), x3, some (.fz (.tup (intsD' ps))), some (.fz M), some (.fz (.int k)), some (intsO ss), x8, x9, x10, x11, x12, x13, x14, x15, x16]) :=
    rng1 (n := ps.length) (by
      generalize intsO ss = S
      simp) ⟨_, _, rfl⟩ (by omega)
  have ln : (rangeD 0 ps.length).length ≤ 100000 := by rw [rangeD_len]; omega
  rw [e_gLc, w, Rz.bind_ok]
  rcases h16 with rfl | ⟨d, rfl⟩
  · rw [if_pos ⟨ln, rfl⟩]
    have hw : wipeD [x0, some (.fz (ints_ row)), some (spotO p), x3, some (.fz (.tup (intsD' ps))), some (.fz M), some (.fz (.int k)), some (intsO ss), x8, x9, x10, x11, x12, x13, x14, x15, none] [16] = [x0, some (.fz (ints_ row)), some (spotO p), x3, some (.fz (.tup (intsD' ps))), some (.fz M), some (.fz (.int k)), some (intsO ss), x8, x9, x10, x11, x12, x13, x14, x15, none] := rfl
    simp only [hw, e, Rz.bind_ok]
    rfl
  · rw [if_pos ⟨ln, rfl⟩]
    have hw : wipeD [x0, some (.fz (ints_ row)), some (spotO p), x3, some (.fz (.tup (intsD' ps))), some (.fz M), some (.fz (.int k)), some (intsO ss), x8, x9, x10, x11, x12, x13, x14, x15, some (.fz d)] [16] = [x0, some (.fz (ints_ row)), some (spotO p), x3, some (.fz (.tup (intsD' ps))), some (.fz M), some (.fz (.int k)), some (intsO ss), x8, x9, x10, x11, x12, x13, x14, x15, none] := rfl
    simp only [hw, e, Rz.bind_ok]
    rfl
theorem law_s3 (c : Cs) (row : List Int) (p : Nat) (ps ss : List Int) (h5 : ps.length ≤ 5) (M : D) (k : Int) (hs : ss.length = ps.length) (x0 x3 x8 x9 x10 x11 x12 x13 x14 x15 x16 : Option O) (h16 : Pl x16) :
    rSet 8 (gO (g2 fEq (gN fLen (gaCons (gZ (gLc (wR1 (gaCons (gN fLen (gaCons (gV 4) gaNil)) gaNil)) (tgN 16) (tst3_law c) (elt4_law c) [16])) gaNil)) (gC (D.int 0)))) [x0, some (.fz (ints_ row)), some (spotO p), x3, some (.fz (.tup (intsD' ps))), some (.fz M), some (.fz (.int k)), some (intsO ss), x8, x9, x10, x11, x12, x13, x14, x15, x16] =
      .ok (.nx [x0, some (.fz (ints_ row)), some (spotO p), x3, some (.fz (.tup (intsD' ps))), some (.fz M), some (.fz (.int k)), some (intsO ss), some (.fz (.bl (gdB ps ss ps.length))), x9, x10, x11, x12, x13, x14, x15, x16]) := by
  have g := gl_good c row p ps ss h5 M k hs x0 x3 x8 x9 x10 x11 x12 x13 x14 x15 x16 h16
  have gg := good_len ps ss ps.length
  rw [← gg]
  generalize gLc (wR1 (gaCons (gN fLen (gaCons (gV 4) gaNil)) gaNil)) (tgN 16) (tst3_law c) (elt4_law c) [16] = G at g ⊢
  generalize (rangeD 0 ps.length).filter (gG ps ss) = L at g ⊢
  generalize intsO ss = S at g ⊢
  generalize intsD' ps = T at g ⊢
  simp [g, toDL_map, Function.comp_def, -List.length_eq_zero_iff]
/-! ### the days -/
def gH (ps ss : List Int) (e : Nat) : D → Bool
  | .int j => hitI ps ss j.toNat e
  | _ => false
theorem lc_hit (c : Cs) (row : List Int) (p : Nat) (ps ss : List Int) (hP : Per ps) (M : D) (k : Int) (e : Nat) (hs : ss.length = ps.length) (x0 x3 x8 x9 x11 x12 x13 x14 x15 : Option O) :
    lcL (tgN 16) (tst5_law c) (elt6_law c) [16] (rangeD 0 ps.length) [x0, some (.fz (ints_ row)), some (spotO p), x3, some (.fz (.tup (intsD' ps))), some (.fz M), some (.fz (.int k)), some (intsO ss), x8, x9, some (.fz (.int (e : Nat))), x11, x12, x13, x14, x15, none] = .ok (((rangeD 0 ps.length).filter (gH ps ss e)).map O.fz, [x0, some (.fz (ints_ row)), some (spotO p), x3, some (.fz (.tup (intsD' ps))), some (.fz M), some (.fz (.int k)), some (intsO ss), x8, x9, some (.fz (.int (e : Nat))), x11, x12, x13, x14, x15, none]) := by
  refine lcL_map (gH ps ss e) O.fz _ _ fun d hd => ?_
  obtain ⟨i, hi⟩ := List.getElem?_of_mem hd
  obtain ⟨h, rfl⟩ := rangeD_get hi
  have z0 : (0 : Int) + (i : Nat) = (i : Nat) := by omega
  rw [z0]
  refine ⟨_, [x0, some (.fz (ints_ row)), some (spotO p), x3, some (.fz (.tup (intsD' ps))), some (.fz M), some (.fz (.int k)), some (intsO ss), x8, x9, some (.fz (.int (e : Nat))), x11, x12, x13, x14, x15, some (.fz (.int (i : Nat)))], rfl, ?_, fun _ => rfl, fun _ => ⟨[x0, some (.fz (ints_ row)), some (spotO p), x3, some (.fz (.tup (intsD' ps))), some (.fz M), some (.fz (.int k)), some (intsO ss), x8, x9, some (.fz (.int (e : Nat))), x11, x12, x13, x14, x15, some (.fz (.int (i : Nat)))], ?_, rfl⟩⟩
  · exact tst5_ok c row p ps ss hP M k i e h hs x0 x3 x8 x9 x11 x12 x13 x14 x15
  · simp [elt6_law]
theorem hit_len (ps ss : List Int) (n e : Nat) : ((rangeD 0 n).filter (gH ps ss e)).length = cntN ps ss n e := by
  unfold rangeD cntN
  rw [List.filter_map, List.length_map]
  congr 1
  refine List.filter_congr fun i _ => ?_
  simp [gH]
theorem gl_hit (c : Cs) (row : List Int) (p : Nat) (ps ss : List Int) (hP : Per ps) (M : D) (k : Int) (e : Nat) (hs : ss.length = ps.length) (x0 x3 x8 x9 x11 x12 x13 x14 x15 x16 : Option O) (h16 : Pl x16) :
    gLc (wR1 (gaCons (gN fLen (gaCons (gV 4) gaNil)) gaNil)) (tgN 16) (tst5_law c) (elt6_law c) [16] [x0, some (.fz (ints_ row)), some (spotO p), x3, some (.fz (.tup (intsD' ps))), some (.fz M), some (.fz (.int k)), some (intsO ss), x8, x9, some (.fz (.int (e : Nat))), x11, x12, x13, x14, x15, x16] = .ok (.lst (((rangeD 0 ps.length).filter (gH ps ss e)).map O.fz), [x0, some (.fz (ints_ row)), some (spotO p), x3, some (.fz (.tup (intsD' ps))), some (.fz M), some (.fz (.int k)), some (intsO ss), x8, x9, some (.fz (.int (e : Nat))), x11, x12, x13, x14, x15, x16]) := by
  have lc := lc_hit c row p ps ss hP M k e hs x0 x3 x8 x9 x11 x12 x13 x14 x15
  have h5 := hP.len
  have w : wR1 (gaCons (gN fLen (gaCons (gV 4) gaNil)) gaNil) [x0, some (.fz (ints_ row)), some (spotO p), x3, some (.fz (.tup (intsD' ps))), some (.fz M), some (.fz (.int k)), some (intsO ss), x8, x9, some (.fz (.int (e : Nat))), x11, x12, x13, x14, x15, x16] = .ok (rangeD 0 ps.length, [x0, some (.fz (ints_ row)), some (spotO p), x3, some (.fz (.tup (intsD' ps))), some (.fz M), some (.fz (.int k)), some (intsO ss), x8, x9, some (.fz (.int (e : Nat))), x11, x12, x13, x14, x15, x16]) :=
    rng1 (n := ps.length) (by
      generalize intsO ss = S
      simp) ⟨_, _, rfl⟩ (by omega)
  have ln : (rangeD 0 ps.length).length ≤ 100000 := by rw [rangeD_len]; omega
  rw [e_gLc, w, Rz.bind_ok]
  rcases h16 with rfl | ⟨d, rfl⟩
  · rw [if_pos ⟨ln, rfl⟩]
    have hw : wipeD [x0, some (.fz (ints_ row)), some (spotO p), x3, some (.fz (.tup (intsD' ps))), some (.fz M), some (.fz (.int k)), some (intsO ss), x8, x9, some (.fz (.int (e : Nat))), x11, x12, x13, x14, x15, none] [16] = [x0, some (.fz (ints_ row)), some (spotO p), x3, some (.fz (.tup (intsD' ps))), some (.fz M), some (.fz (.int k)), some (intsO ss), x8, x9, some (.fz (.int (e : Nat))), x11, x12, x13, x14, x15, none] := rfl
    simp only [hw, lc, Rz.bind_ok]
    rfl
  · rw [if_pos ⟨ln, rfl⟩]
    have hw : wipeD [x0, some (.fz (ints_ row)), some (spotO p), x3, some (.fz (.tup (intsD' ps))), some (.fz M), some (.fz (.int k)), some (intsO ss), x8, x9, some (.fz (.int (e : Nat))), x11, x12, x13, x14, x15, some (.fz d)] [16] = [x0, some (.fz (ints_ row)), some (spotO p), x3, some (.fz (.tup (intsD' ps))), some (.fz M), some (.fz (.int k)), some (intsO ss), x8, x9, some (.fz (.int (e : Nat))), x11, x12, x13, x14, x15, none] := rfl
    simp only [hw, lc, Rz.bind_ok]
    rfl
def dkD (f : Nat → Nat) (n : Nat) : List (Key × D) := (List.range n).map fun e => (.inl ((e : Nat) : Int), .int (f e : Nat))
theorem dk_put (f : Nat → Nat) (n : Nat) : putD (dkD f n) (.inl ((n : Nat) : Int)) (.int (f n : Nat)) = dkD f (n + 1) := by
  unfold putD dkD
  rw [if_neg, List.range_succ, List.map_append]
  · rfl
  · intro h
    rw [List.any_eq_true] at h
    obtain ⟨x, hx, h⟩ := h
    obtain ⟨e, he, rfl⟩ := List.mem_map.mp hx
    have := List.mem_range.mp he
    simp at h
    omega
theorem dk_look (f : Nat → Nat) (e : Nat) : ∀ n, e < n → lookK (dkD f n) (.inl ((e : Nat) : Int)) = some (.int (f e : Nat))
  | n + 1, h => by
    unfold lookK dkD
    rw [List.range_succ, List.map_append, List.find?_append]
    by_cases q : e < n
    · have ih := dk_look f e n q
      unfold lookK dkD at ih
      cases z : List.find? (fun kv : Key × D => decide (kv.1 = .inl ((e : Nat) : Int))) ((List.range n).map fun e => ((.inl ((e : Nat) : Int) : Key), D.int (f e : Nat))) with
      | none => rw [z] at ih; cases ih
      | some y => rw [z] at ih; exact ih
    · have : e = n := by omega
      subst this
      have z : List.find? (fun kv : Key × D => decide (kv.1 = .inl ((e : Nat) : Int))) ((List.range e).map fun e => ((.inl ((e : Nat) : Int) : Key), D.int (f e : Nat))) = none := by
        rw [List.find?_eq_none]
        intro x hx
        obtain ⟨i, hi, rfl⟩ := List.mem_map.mp hx
        have := List.mem_range.mp hi
        simp
        omega
      rw [z]
      simp
theorem b7_law (c : Cs) (row : List Int) (p : Nat) (ps ss : List Int) (hP : Per ps) (M : D) (k : Int) (e : Nat) (he : e < 120) (hs : ss.length = ps.length) (x0 x3 x8 x11 x12 x13 x14 x15 x16 : Option O) (h16 : Pl x16) :
    body7_law c [x0, some (.fz (ints_ row)), some (spotO p), x3, some (.fz (.tup (intsD' ps))), some (.fz M), some (.fz (.int k)), some (intsO ss), x8, some (.dk (dkD (cntN ps ss ps.length) e)), some (.fz (.int (e : Nat))), x11, x12, x13, x14, x15, x16] = .ok (.nx [x0, some (.fz (ints_ row)), some (spotO p), x3, some (.fz (.tup (intsD' ps))), some (.fz M), some (.fz (.int k)), some (intsO ss), x8, some (.dk (dkD (cntN ps ss ps.length) (e + 1))), some (.fz (.int (e : Nat))), x11, x12, x13, x14, x15, x16]) := by
  have g := gl_hit c row p ps ss hP M k e hs x0 x3 x8 (some (.dk (dkD (cntN ps ss ps.length) e))) x11 x12 x13 x14 x15 x16 h16
  have gg := hit_len ps ss ps.length e
  have dp := dk_put (cntN ps ss ps.length) e
  have dl : (dkD (cntN ps ss ps.length) e).length < 100000 := by unfold dkD; simp; omega
  unfold body7_law
  rw [← gg] at dp
  generalize gLc (wR1 (gaCons (gN fLen (gaCons (gV 4) gaNil)) gaNil)) (tgN 16) (tst5_law c) (elt6_law c) [16] = G at g ⊢
  generalize (rangeD 0 ps.length).filter (gH ps ss e) = L at g gg dp ⊢
  generalize intsO ss = S at g ⊢
  generalize intsD' ps = T at g ⊢
  generalize dkD (cntN ps ss ps.length) e = K at g dp dl ⊢
  generalize dkD (cntN ps ss ps.length) (e + 1) = K2 at dp ⊢
  simp [g, toDL_map, Function.comp_def, dl, dp, putAt, keyD]
theorem law_s4 (row : List Int) (p : Nat) (ps ss : List Int) (M : D) (k : Int) (x0 x3 x8 x9 x10 x11 x12 x13 x14 x15 x16 : Option O) :
    rSet 9 gDNew [x0, some (.fz (ints_ row)), some (spotO p), x3, some (.fz (.tup (intsD' ps))), some (.fz M), some (.fz (.int k)), some (intsO ss), x8, x9, x10, x11, x12, x13, x14, x15, x16] = .ok (.nx [x0, some (.fz (ints_ row)), some (spotO p), x3, some (.fz (.tup (intsD' ps))), some (.fz M), some (.fz (.int k)), some (intsO ss), x8, some (.dk []), x10, x11, x12, x13, x14, x15, x16]) := by
  generalize intsO ss = S
  generalize intsD' ps = T
  simp
theorem law_s5 (c : Cs) (row : List Int) (p : Nat) (ps ss : List Int) (hP : Per ps) (M : D) (k : Int) (hs : ss.length = ps.length) (x0 x3 x8 x10 x11 x12 x13 x14 x15 x16 : Option O) (h16 : Pl x16) :
    ∃ y10, Pl y10 ∧ rFor (wR1 (gaCons (gC (D.int 120)) gaNil)) (tgN 10) (body7_law c) [x0, some (.fz (ints_ row)), some (spotO p), x3, some (.fz (.tup (intsD' ps))), some (.fz M), some (.fz (.int k)), some (intsO ss), x8, some (.dk []), x10, x11, x12, x13, x14, x15, x16] =
      .ok (.nx [x0, some (.fz (ints_ row)), some (spotO p), x3, some (.fz (.tup (intsD' ps))), some (.fz M), some (.fz (.int k)), some (intsO ss), x8, some (.dk (dkD (cntN ps ss ps.length) 120)), y10, x11, x12, x13, x14, x15, x16]) := by
  have w : wR1 (gaCons (gC (D.int 120)) gaNil) [x0, some (.fz (ints_ row)), some (spotO p), x3, some (.fz (.tup (intsD' ps))), some (.fz M), some (.fz (.int k)), some (intsO ss), x8, some (.dk []), x10, x11, x12, x13, x14, x15, x16] = .ok (rangeD 0 120, [x0, some (.fz (ints_ row)), some (spotO p), x3, some (.fz (.tup (intsD' ps))), some (.fz M), some (.fz (.int k)), some (intsO ss), x8, some (.dk []), x10, x11, x12, x13, x14, x15, x16]) :=
    rng1 (n := 120) (by
      generalize intsO ss = S
      simp) ⟨_, _, rfl⟩ (by omega)
  rw [rFor_eq w]
  obtain ⟨δ', e, y10, q, rfl⟩ := forR_inv (t := tgN 10) (f := body7_law c) (rangeD 0 120) (fun i δ => ∃ y10, (0 < i → Pl y10) ∧ δ = [x0, some (.fz (ints_ row)), some (spotO p), x3, some (.fz (.tup (intsD' ps))), some (.fz M), some (.fz (.int k)), some (intsO ss), x8, some (.dk (dkD (cntN ps ss ps.length) i)), y10, x11, x12, x13, x14, x15, x16])
    [x0, some (.fz (ints_ row)), some (spotO p), x3, some (.fz (.tup (intsD' ps))), some (.fz M), some (.fz (.int k)), some (intsO ss), x8, some (.dk []), x10, x11, x12, x13, x14, x15, x16] (fun i d δ hd h => by
      obtain ⟨y10, _, rfl⟩ := h
      obtain ⟨hi, rfl⟩ := rangeD_get hd
      have z0 : (0 : Int) + (i : Nat) = (i : Nat) := by omega
      rw [z0]
      exact ⟨_, rfl, _, b7_law c row p ps ss hP M k i hi hs x0 x3 x8 x11 x12 x13 x14 x15 x16 h16, some (.fz (.int (i : Nat))), fun _ => .inr ⟨_, rfl⟩, rfl⟩) ⟨x10, fun h => by omega, rfl⟩
  rw [rangeD_len] at q e
  exact ⟨y10, q (by omega), e⟩
end DL

/-! S16: meets, starts_prove, told. -/
namespace DL
open PySem L2
def Sm (ss : List Int) (x : Option O) : Prop := x = some (intsO ss) ∨ x = some (.fz (seqD true (intsD' ss)))
theorem s6core (Φ : Ph) (row : List Int) (p : Nat) (ps ss : List Int) (M : D) (k : Int) (a g : Bool) (h : Φ [.fz (.tup (intsD' ps)), .fz (seqD true (intsD' ss))] = .ok (.fz (.bl a), [])) (x0 x3 x9 x10 x11 x12 x13 x14 x15 x16 : Option O) :
    ∃ y7, Sm ss y7 ∧ rSet 11 (gO (gAndV (gV 8) (gNotV (gZ (gCall 2 [] Φ (gAD (gV 4) (gAD (gV 7) gANil))))))) [x0, some (.fz (ints_ row)), some (spotO p), x3, some (.fz (.tup (intsD' ps))), some (.fz M), some (.fz (.int k)), some (intsO ss), some (.fz (.bl g)), x9, x10, x11, x12, x13, x14, x15, x16] =
      .ok (.nx [x0, some (.fz (ints_ row)), some (spotO p), x3, some (.fz (.tup (intsD' ps))), some (.fz M), some (.fz (.int k)), y7, some (.fz (.bl g)), x9, x10, some (.fz (.bl (g && !a))), x12, x13, x14, x15, x16]) := by
  have t := intsO_clean ss
  cases g with
  | false =>
    refine ⟨_, .inl rfl, ?_⟩
    generalize intsO ss = S
    generalize intsD' ps = T
    simp
  | true =>
    refine ⟨_, .inr rfl, ?_⟩
    generalize seqD true (intsD' ss) = S2 at t h ⊢
    unfold intsO at t ⊢
    generalize (ss.map fun n => O.fz (.int n)) = S at t ⊢
    generalize intsD' ps = T at h ⊢
    have t' : D.lst (O.toDL S) = S2 := t
    simp [t', h]
theorem law_s6 (c : Cs) (row : List Int) (p : Nat) (ps ss : List Int) (hP : Per ps) (hs : ss.length = ps.length) (M : D) (k : Int) (x0 x3 x9 x10 x11 x12 x13 x14 x15 x16 : Option O) (g : Bool) :
    ∃ y7, Sm ss y7 ∧ rSet 11 (gO (gAndV (gV 8) (gNotV (gZ (gCall 2 [] (phi_law_apart_days c) (gAD (gV 4) (gAD (gV 7) gANil))))))) [x0, some (.fz (ints_ row)), some (spotO p), x3, some (.fz (.tup (intsD' ps))), some (.fz M), some (.fz (.int k)), some (intsO ss), some (.fz (.bl g)), x9, x10, x11, x12, x13, x14, x15, x16] =
      .ok (.nx [x0, some (.fz (ints_ row)), some (spotO p), x3, some (.fz (.tup (intsD' ps))), some (.fz M), some (.fz (.int k)), y7, some (.fz (.bl g)), x9, x10, some (.fz (.bl (g && !apB ps ss ps.length))), x12, x13, x14, x15, x16]) :=
  s6core (phi_law_apart_days c) row p ps ss M k _ g (apart_ok c false true ps ss (by omega) (by have := hP.len; omega) fun k hk => ⟨hP.pos k hk, hP.le k hk⟩) x0 x3 x9 x10 x11 x12 x13 x14 x15 x16
theorem s7core (Φ1 Φ2 Φ3 : Ph) (row : List Int) (p : Nat) (ps ss : List Int) (P2 S2 : D) (M : D) (k : Int) (a g : Bool) (x7 : Option O) (h7 : Sm ss x7)
    (h1 : Φ3 [.fz (ints_ row), spotO p, .fz (.tup (intsD' ps))] = .ok (.fz P2, [spotO (p + 1)]))
    (h2 : Φ3 [.fz (ints_ row), spotO (p + 1), .fz (.tup (intsD' ss))] = .ok (.fz S2, [spotO (p + 1 + 1)]))
    (h3 : Φ2 [.fz P2, .fz S2] = .ok (.fz (.bl (g && a)), []))
    (h4 : Φ1 [.fz (.bl (g && a)), .fz (.bl (g && a))] = .ok (.fz (.bl true), [])) (x0 x3 x9 x10 x12 x13 x14 x15 x16 : Option O) :
    rIf (gNot (gB (gZ (gCall 2 [] Φ1 (gAD (gZ (gCall 2 [] Φ2 (gAD (gZ (gCall 3 [1] Φ3 (gAD (gV 1) (gAA 2 (gAD (gV 4) gANil))))) (gAD (gZ (gCall 3 [1] Φ3 (gAD (gV 1) (gAA 2 (gAD (gN fTupOf (gaCons (gV 7) gaNil)) gANil))))) gANil)))) (gAD (gAndV (gV 8) (gNotV (gV 11))) gANil)))))) (rRet (gO (gC (D.bl false)))) rNext
      [x0, some (.fz (ints_ row)), some (spotO p), x3, some (.fz (.tup (intsD' ps))), some (.fz M), some (.fz (.int k)), x7, some (.fz (.bl g)), x9, x10, some (.fz (.bl (g && !a))), x12, x13, x14, x15, x16] = .ok (.nx [x0, some (.fz (ints_ row)), some (spotO (p + 1 + 1)), x3, some (.fz (.tup (intsD' ps))), some (.fz M), some (.fz (.int k)), some (.fz (seqD true (intsD' ss))), some (.fz (.bl g)), x9, x10, some (.fz (.bl (g && !a))), x12, x13, x14, x15, x16]) := by
  have c1 : gZ (gCall 3 [1] Φ3 (gAD (gV 1) (gAA 2 (gAD (gV 4) gANil)))) [x0, some (.fz (ints_ row)), some (spotO p), x3, some (.fz (.tup (intsD' ps))), some (.fz M), some (.fz (.int k)), x7, some (.fz (.bl g)), x9, x10, some (.fz (.bl (g && !a))), x12, x13, x14, x15, x16] = .ok (P2, [x0, some (.fz (ints_ row)), some (spotO (p + 1)), x3, some (.fz (.tup (intsD' ps))), some (.fz M), some (.fz (.int k)), x7, some (.fz (.bl g)), x9, x10, some (.fz (.bl (g && !a))), x12, x13, x14, x15, x16]) := by
    generalize D.tup (intsD' ps) = T at h1 ⊢
    simp [h1]
  have c0 : gN fTupOf (gaCons (gV 7) gaNil) [x0, some (.fz (ints_ row)), some (spotO (p + 1)), x3, some (.fz (.tup (intsD' ps))), some (.fz M), some (.fz (.int k)), x7, some (.fz (.bl g)), x9, x10, some (.fz (.bl (g && !a))), x12, x13, x14, x15, x16] = .ok (.tup (intsD' ss), [x0, some (.fz (ints_ row)), some (spotO (p + 1)), x3, some (.fz (.tup (intsD' ps))), some (.fz M), some (.fz (.int k)), some (.fz (seqD true (intsD' ss))), some (.fz (.bl g)), x9, x10, some (.fz (.bl (g && !a))), x12, x13, x14, x15, x16]) := by
    have t := intsO_clean ss
    generalize D.tup (intsD' ps) = T
    rcases h7 with rfl | rfl
    · unfold intsO at t ⊢
      generalize (ss.map fun n => O.fz (.int n)) = S at t ⊢
      have t' : O.toDL S = intsD' ss := by simpa [seqD] using t
      generalize intsD' ss = U at t' ⊢
      simp [t', seqD]
    · generalize intsD' ss = U
      simp [seqD]
  have c2 : gZ (gCall 3 [1] Φ3 (gAD (gV 1) (gAA 2 (gAD (gN fTupOf (gaCons (gV 7) gaNil)) gANil)))) [x0, some (.fz (ints_ row)), some (spotO (p + 1)), x3, some (.fz (.tup (intsD' ps))), some (.fz M), some (.fz (.int k)), x7, some (.fz (.bl g)), x9, x10, some (.fz (.bl (g && !a))), x12, x13, x14, x15, x16] = .ok (S2, [x0, some (.fz (ints_ row)), some (spotO (p + 1 + 1)), x3, some (.fz (.tup (intsD' ps))), some (.fz M), some (.fz (.int k)), some (.fz (seqD true (intsD' ss))), some (.fz (.bl g)), x9, x10, some (.fz (.bl (g && !a))), x12, x13, x14, x15, x16]) := by
    generalize gN fTupOf (gaCons (gV 7) gaNil) = G at c0 ⊢
    generalize D.tup (intsD' ps) = T at c0 ⊢
    generalize seqD true (intsD' ss) = S at c0 ⊢
    generalize D.tup (intsD' ss) = S' at c0 h2
    simp [c0, h2]
  generalize gZ (gCall 3 [1] Φ3 (gAD (gV 1) (gAA 2 (gAD (gV 4) gANil)))) = G1 at c1 ⊢
  generalize gZ (gCall 3 [1] Φ3 (gAD (gV 1) (gAA 2 (gAD (gN fTupOf (gaCons (gV 7) gaNil)) gANil)))) = G2 at c2 ⊢
  generalize D.tup (intsD' ps) = T at c1 c2 ⊢
  generalize seqD true (intsD' ss) = S at c2 ⊢
  cases g <;> cases a <;> simp [c1, c2, h3] <;> simp_all
theorem law_s7 (c : Cs) (row : List Int) (hr : row ≠ []) (p : Nat) (ps ss : List Int) (hP : Per ps) (hs : ss.length = ps.length) (hw : lowB ss) (M : D) (k : Int) (x7 : Option O) (h7 : Sm ss x7) (x0 x3 x9 x10 x12 x13 x14 x15 x16 : Option O) :
    rIf (gNot (gB (gZ (gCall 2 [] (phi_law_so c 4) (gAD (gZ (gCall 2 [] (phi_starts_prove c) (gAD (gZ (gCall 3 [1] (phi_law_handed c) (gAD (gV 1) (gAA 2 (gAD (gV 4) gANil))))) (gAD (gZ (gCall 3 [1] (phi_law_handed c) (gAD (gV 1) (gAA 2 (gAD (gN fTupOf (gaCons (gV 7) gaNil)) gANil))))) gANil)))) (gAD (gAndV (gV 8) (gNotV (gV 11))) gANil)))))) (rRet (gO (gC (D.bl false)))) rNext
      [x0, some (.fz (ints_ row)), some (spotO p), x3, some (.fz (.tup (intsD' ps))), some (.fz M), some (.fz (.int k)), x7, some (.fz (.bl (gdB ps ss ps.length))), x9, x10, some (.fz (.bl (gdB ps ss ps.length && !apB ps ss ps.length))), x12, x13, x14, x15, x16] = .ok (.nx [x0, some (.fz (ints_ row)), some (spotO (p + 1 + 1)), x3, some (.fz (.tup (intsD' ps))), some (.fz M), some (.fz (.int k)), some (.fz (seqD true (intsD' ss))), some (.fz (.bl (gdB ps ss ps.length))), x9, x10, some (.fz (.bl (gdB ps ss ps.length && !apB ps ss ps.length))), x12, x13, x14, x15, x16]) := by
  have h5 := hP.len
  obtain ⟨b, e1⟩ := handed_ok c row ps hr p (by omega)
  obtain ⟨b2, e2⟩ := handed_ok c row ss hr (p + 1) (by omega)
  exact s7core (phi_law_so c 4) (phi_starts_prove c) (phi_law_handed c) row p ps ss _ _ M k _ _ x7 h7 e1 e2 (starts_prove_ok c b b2 ps ss hP hs hw) (so_same c 4 _ rfl) x0 x3 x9 x10 x12 x13 x14 x15 x16
end DL

/-! S17: told. -/
namespace DL
open PySem L2
theorem told_bad (c : Cs) (k : Int) : toldR (hds c) (.er (bad c k)) = .ok (.tup [.str "BadValue", .int k]) := by
  simp [toldR, hds, toldX, lookAll, bad, Rz.of]
theorem told_val (c : Cs) (d : D) : toldR (hds c) (.ok (.fz d, [])) = .ok (.tup [.str "value", d]) := rfl
def toldV (g : Bool) (d : D) : D := if g = true then .tup [.str "value", d] else .tup [.str "BadValue", .int 1]
theorem eqP0 : fEqP not (.tup [.str "BadValue", .int 0]) (.tup [.str "BadValue", .int 0]) = some (.bl false) := by
  have k : PyData.strOk (Str.ofString "BadValue") = true := by decide +kernel
  simp [fEqP, toP, toPs, SeqAt.shaped, PyData.eqv, PyData.eqvAll, PyData.canLay0, PyData.canLayAll0, PyData.depth, PyData.depthAll, k]
theorem eqP1 : fEqP not (.tup [.str "BadValue", .int 1]) (.tup [.str "BadValue", .int 1]) = some (.bl false) := by
  have k : PyData.strOk (Str.ofString "BadValue") = true := by decide +kernel
  simp [fEqP, toP, toPs, SeqAt.shaped, PyData.eqv, PyData.eqvAll, PyData.canLay0, PyData.canLayAll0, PyData.depth, PyData.depthAll, k]
abbrev bdV (ps ss : List Int) : D := .tup [.int (Wh ps : Nat), .tup (busyD (Wh ps) (cntN ps ss ps.length))]
theorem s8core (h : Hds) (Φ : Ph) (row : List Int) (p : Nat) (ps ss : List Int) (M : D) (k : Int) (v : D) (e : toldR h (Φ [.fz (.tup (intsD' ps)), .fz (.tup (intsD' ss))]) = .ok v) (x0 x3 x8 x9 x10 x11 x12 x13 x14 x15 x16 : Option O) :
    rSet 12 (gO (gTold h 2 Φ (gaCons (gV 4) (gaCons (gN fTupOf (gaCons (gV 7) gaNil)) gaNil)))) [x0, some (.fz (ints_ row)), some (spotO p), x3, some (.fz (.tup (intsD' ps))), some (.fz M), some (.fz (.int k)), some (.fz (seqD true (intsD' ss))), x8, x9, x10, x11, x12, x13, x14, x15, x16] =
      .ok (.nx [x0, some (.fz (ints_ row)), some (spotO p), x3, some (.fz (.tup (intsD' ps))), some (.fz M), some (.fz (.int k)), some (.fz (seqD true (intsD' ss))), x8, x9, x10, x11, some (.fz v), x13, x14, x15, x16]) := by
  generalize intsD' ps = T at e ⊢
  generalize intsD' ss = U at e ⊢
  simp [seqD, e]
theorem law_s8 (c : Cs) (row : List Int) (p : Nat) (ps ss : List Int) (hP : Per ps) (hs : ss.length = ps.length) (hw : lowB ss) (M : D) (k : Int) (x0 x3 x8 x9 x10 x11 x12 x13 x14 x15 x16 : Option O) :
    rSet 12 (gO (gTold (hds c) 2 (phi_busy_days c) (gaCons (gV 4) (gaCons (gN fTupOf (gaCons (gV 7) gaNil)) gaNil)))) [x0, some (.fz (ints_ row)), some (spotO p), x3, some (.fz (.tup (intsD' ps))), some (.fz M), some (.fz (.int k)), some (.fz (seqD true (intsD' ss))), x8, x9, x10, x11, x12, x13, x14, x15, x16] =
      .ok (.nx [x0, some (.fz (ints_ row)), some (spotO p), x3, some (.fz (.tup (intsD' ps))), some (.fz M), some (.fz (.int k)), some (.fz (seqD true (intsD' ss))), x8, x9, x10, x11, some (.fz (toldV (gdB ps ss ps.length) (bdV ps ss))), x13, x14, x15, x16]) := by
  have b := busy_days_ok c ps ss hP hs fun x hx => (hw x hx).1
  refine s8core (hds c) (phi_busy_days c) row p ps ss M k _ ?_ x0 x3 x8 x9 x10 x11 x12 x13 x14 x15 x16
  have b' : phi_busy_days c [.fz (.tup (intsD' ps)), .fz (.tup (intsD' ss))] = _ := b
  rw [b']
  unfold toldV
  by_cases g : gdB ps ss ps.length = true
  · rw [if_pos g, if_pos g]; exact told_val c _
  · rw [if_neg g, if_neg g]; exact told_bad c 1
theorem mulI_ok {a b : Int} (h : -(2 ^ 60) < a ∧ a < 2 ^ 60) : fMulI (.int a) (.int b) = some (.int (a * b)) := by
  exact (e_fI2c_1 _ _).trans (if_pos (Or.inl h))
theorem divI_ok {a b : Int} (h : 0 < b ∧ b < 1073741824) : fDiv (.int a) (.int b) = some (.int (a / b)) := by
  exact (e_fI2c_1 _ _).trans (if_pos h)
theorem b8abs (f1 f2 : D → D → Option D) (Φ : Ph) (row : List Int) (p : Nat) (T M w n g m q : D) (k : Int) (h1 : f1 w n = some m) (h2 : f2 m g = some q)
    (e : Φ [.fz w, .fz n] = .ok (.fz g, [])) (x0 x3 x7 x8 x9 x10 x11 x12 x15 x16 : Option O) :
    rSet 13 (gO (g2 f2 (g2 f1 (gV 13) (gV 14)) (gZ (gCall 2 [] Φ (gAD (gV 13) (gAD (gV 14) gANil)))))) [x0, some (.fz (ints_ row)), some (spotO p), x3, some (.fz T), some (.fz M), some (.fz (.int k)), x7, x8, x9, x10, x11, x12, some (.fz w), some (.fz n), x15, x16] =
      .ok (.nx [x0, some (.fz (ints_ row)), some (spotO p), x3, some (.fz T), some (.fz M), some (.fz (.int k)), x7, x8, x9, x10, x11, x12, some (.fz q), some (.fz n), x15, x16]) := by
  simp [e, h1, h2]
theorem b8core (Φ : Ph) (row : List Int) (p : Nat) (ps : List Int) (M : D) (k : Int) (w n : Nat) (hn : 1 ≤ n) (hw : w ≤ 27720) (hn2 : n ≤ 12)
    (e : Φ [.fz (.int (w : Nat)), .fz (.int (n : Nat))] = .ok (.fz (.int ((Nat.gcd w n : Nat) : Int)), [])) (x0 x3 x7 x8 x9 x10 x11 x12 x15 x16 : Option O) :
    rSet 13 (gO (g2 fDiv (g2 fMulI (gV 13) (gV 14)) (gZ (gCall 2 [] Φ (gAD (gV 13) (gAD (gV 14) gANil)))))) [x0, some (.fz (ints_ row)), some (spotO p), x3, some (.fz (.tup (intsD' ps))), some (.fz M), some (.fz (.int k)), x7, x8, x9, x10, x11, x12, some (.fz (.int (w : Nat))), some (.fz (.int (n : Nat))), x15, x16] =
      .ok (.nx [x0, some (.fz (ints_ row)), some (spotO p), x3, some (.fz (.tup (intsD' ps))), some (.fz M), some (.fz (.int k)), x7, x8, x9, x10, x11, x12, some (.fz (.int ((Nat.lcm w n : Nat) : Int))), some (.fz (.int (n : Nat))), x15, x16]) := by
  have g0 : 0 < Nat.gcd w n := Nat.gcd_pos_of_pos_right _ hn
  have g2 : Nat.gcd w n ≤ n := Nat.gcd_le_right _ hn
  have l : ((Nat.lcm w n : Nat) : Int) = (w : Int) * (n : Int) / ((Nat.gcd w n : Nat) : Int) := by
    unfold Nat.lcm
    rw [Int.natCast_ediv, Int.natCast_mul]
  rw [l]
  exact b8abs fMulI fDiv Φ row p _ M _ _ _ _ _ k (mulI_ok (by omega)) (divI_ok (by omega)) e x0 x3 x7 x8 x9 x10 x11 x12 x15 x16
theorem law_s9 (c : Cs) (row : List Int) (p : Nat) (ps : List Int) (hP : Per ps) (M : D) (k : Int) (x0 x3 x7 x8 x9 x10 x11 x12 x14 x15 x16 : Option O) (h14 : Pl x14) :
    ∃ y14, Pl y14 ∧ rFor (wA (gV 4)) (tgN 14) (body8_law c) [x0, some (.fz (ints_ row)), some (spotO p), x3, some (.fz (.tup (intsD' ps))), some (.fz M), some (.fz (.int k)), x7, x8, x9, x10, x11, x12, some (.fz (.int 1)), x14, x15, x16] = .ok (.nx [x0, some (.fz (ints_ row)), some (spotO p), x3, some (.fz (.tup (intsD' ps))), some (.fz M), some (.fz (.int k)), x7, x8, x9, x10, x11, x12, some (.fz (.int ((Wh ps : Nat) : Int))), y14, x15, x16]) := by
  have w : wA (gV 4) [x0, some (.fz (ints_ row)), some (spotO p), x3, some (.fz (.tup (intsD' ps))), some (.fz M), some (.fz (.int k)), x7, x8, x9, x10, x11, x12, some (.fz (.int 1)), x14, x15, x16] = .ok (intsD' ps, [x0, some (.fz (ints_ row)), some (spotO p), x3, some (.fz (.tup (intsD' ps))), some (.fz M), some (.fz (.int k)), x7, x8, x9, x10, x11, x12, some (.fz (.int 1)), x14, x15, x16]) := by
    generalize intsD' ps = T
    simp
  rw [rFor_eq w]
  obtain ⟨δ', e, y14, q, rfl⟩ := forR_inv (t := tgN 14) (f := body8_law c) (intsD' ps) (fun i δ => ∃ y14, Pl y14 ∧ δ = [x0, some (.fz (ints_ row)), some (spotO p), x3, some (.fz (.tup (intsD' ps))), some (.fz M), some (.fz (.int k)), x7, x8, x9, x10, x11, x12, some (.fz (.int ((Wh (ps.take i) : Nat) : Int))), y14, x15, x16])
    [x0, some (.fz (ints_ row)), some (spotO p), x3, some (.fz (.tup (intsD' ps))), some (.fz M), some (.fz (.int k)), x7, x8, x9, x10, x11, x12, some (.fz (.int 1)), x14, x15, x16] (fun i d δ hd h => by
      obtain ⟨y14, _, rfl⟩ := h
      obtain ⟨hi, rfl⟩ := intsD_get hd
      have h1 := hP.pos i hi
      have h2 := hP.le i hi
      have wl := (Wh_le (ps := ps.take i) fun p hp => per_mem hP p (List.mem_of_mem_take hp)).2.2
      obtain ⟨n, hn⟩ : ∃ n : Nat, at_ ps i = n := ⟨(at_ ps i).toNat, by omega⟩
      have e := b8core (phi_law_gcd c) row p ps M k (Wh (ps.take i)) n (by omega) wl (by omega) (law_gcd_ok c _ n (by omega)) x0 x3 x7 x8 x9 x10 x11 x12 x15 x16
      refine ⟨_, rfl, _, by rw [hn]; exact e, some (.fz (.int (n : Nat))), .inr ⟨_, rfl⟩, ?_⟩
      rw [Wh_succ hi, hn, Int.toNat_natCast]) ⟨x14, h14, rfl⟩
  refine ⟨y14, q, ?_⟩
  rw [e, show (intsD' ps).length = ps.length by simp, List.take_length]
end DL

/-! S18: the days compared. -/
namespace DL
open PySem L2
theorem law_s10 (row : List Int) (p : Nat) (ps : List Int) (M B w : D) (hB : fEqB w w = some true) (k : Int) (x0 x3 x7 x8 x9 x10 x11 x14 x15 x16 : Option O) :
    rIf (gOr (gB (g2 fNe (g2 fIx (gV 12) (gC (D.int 0))) (gC (D.str "value")))) (gB (g2 fNe (g2 fIx (g2 fIx (gV 12) (gC (D.int 1))) (gC (D.int 0))) (gV 13)))) (rRet (gO (gC (D.bl false)))) rNext
      [x0, some (.fz (ints_ row)), some (spotO p), x3, some (.fz (.tup (intsD' ps))), some (.fz M), some (.fz (.int k)), x7, x8, x9, x10, x11, some (.fz (.tup [.str "value", .tup [w, B]])), some (.fz w), x14, x15, x16] = .ok (.nx [x0, some (.fz (ints_ row)), some (spotO p), x3, some (.fz (.tup (intsD' ps))), some (.fz M), some (.fz (.int k)), x7, x8, x9, x10, x11, some (.fz (.tup [.str "value", .tup [w, B]])), some (.fz w), x14, x15, x16]) := by
  generalize D.tup (intsD' ps) = T
  simp [hB, atI, ixN]
def gP (f : Nat → Nat) : D → Bool
  | .int e => decide (0 < f e.toNat)
  | _ => false
def eP (f : Nat → Nat) : D → O
  | .int e => .fz (.tup [.int e, .int (f e.toNat : Nat)])
  | _ => .fz .non
theorem busy_map (f : Nat → Nat) (w : Nat) : ((rangeD 0 w).filter (gP f)).map (eP f) = (busyD w f).map O.fz := by
  unfold rangeD busyD
  rw [List.filter_map, List.map_map, List.map_map]
  have : (List.range w).filter (gP f ∘ fun k : Nat => D.int (0 + (k : Int))) = (List.range w).filter fun e => decide (0 < f e) := List.filter_congr fun e _ => by simp [gP]
  rw [this]
  refine List.map_congr_left fun e _ => ?_
  simp [eP]
theorem lc_days (c : Cs) (row : List Int) (p : Nat) (ps : List Int) (M : D) (k : Int) (f : Nat → Nat) (w : Nat) (hw : w ≤ 120) (x0 x3 x7 x8 x11 x12 x13 x14 x15 x16 : Option O) :
    lcL (tgN 10) (tst9_law c) (elt10_law c) [10] (rangeD 0 w) [x0, some (.fz (ints_ row)), some (spotO p), x3, some (.fz (.tup (intsD' ps))), some (.fz M), some (.fz (.int k)), x7, x8, some (.dk (dkD f 120)), none, x11, x12, x13, x14, x15, x16] = .ok ((busyD w f).map O.fz, [x0, some (.fz (ints_ row)), some (spotO p), x3, some (.fz (.tup (intsD' ps))), some (.fz M), some (.fz (.int k)), x7, x8, some (.dk (dkD f 120)), none, x11, x12, x13, x14, x15, x16]) := by
  rw [← busy_map]
  refine lcL_map (gP f) (eP f) _ _ fun d hd => ?_
  obtain ⟨i, hi⟩ := List.getElem?_of_mem hd
  obtain ⟨h, rfl⟩ := rangeD_get hi
  have z0 : (0 : Int) + (i : Nat) = (i : Nat) := by omega
  rw [z0]
  have lk := dk_look f i 120 (by omega)
  generalize dkD f 120 = K at lk ⊢
  refine ⟨_, [x0, some (.fz (ints_ row)), some (spotO p), x3, some (.fz (.tup (intsD' ps))), some (.fz M), some (.fz (.int k)), x7, x8, some (.dk K), some (.fz (.int (i : Nat))), x11, x12, x13, x14, x15, x16], rfl, ?_, fun _ => rfl, fun _ => ⟨[x0, some (.fz (ints_ row)), some (spotO p), x3, some (.fz (.tup (intsD' ps))), some (.fz M), some (.fz (.int k)), x7, x8, some (.dk K), some (.fz (.int (i : Nat))), x11, x12, x13, x14, x15, x16], ?_, rfl⟩⟩
  · show tst9_law c [x0, some (.fz (ints_ row)), some (spotO p), x3, some (.fz (.tup (intsD' ps))), some (.fz M), some (.fz (.int k)), x7, x8, some (.dk K), some (.fz (.int (i : Nat))), x11, x12, x13, x14, x15, x16] = _
    generalize D.tup (intsD' ps) = T
    simp [tst9_law, keyD, lk, gP]
  · generalize D.tup (intsD' ps) = T
    simp [elt10_law, keyD, lk, eP]
theorem gl_days (c : Cs) (row : List Int) (p : Nat) (ps : List Int) (M : D) (k : Int) (f : Nat → Nat) (w : Nat) (hw : w ≤ 120) (x0 x3 x7 x8 x10 x11 x12 x14 x15 x16 : Option O) (h10 : Pl x10) :
    gLc (wR1 (gaCons (gV 13) gaNil)) (tgN 10) (tst9_law c) (elt10_law c) [10] [x0, some (.fz (ints_ row)), some (spotO p), x3, some (.fz (.tup (intsD' ps))), some (.fz M), some (.fz (.int k)), x7, x8, some (.dk (dkD f 120)), x10, x11, x12, some (.fz (.int (w : Nat))), x14, x15, x16] = .ok (.lst ((busyD w f).map O.fz), [x0, some (.fz (ints_ row)), some (spotO p), x3, some (.fz (.tup (intsD' ps))), some (.fz M), some (.fz (.int k)), x7, x8, some (.dk (dkD f 120)), x10, x11, x12, some (.fz (.int (w : Nat))), x14, x15, x16]) := by
  have lc := lc_days c row p ps M k f w hw x0 x3 x7 x8 x11 x12 (some (.fz (.int (w : Nat)))) x14 x15 x16
  have w' : wR1 (gaCons (gV 13) gaNil) [x0, some (.fz (ints_ row)), some (spotO p), x3, some (.fz (.tup (intsD' ps))), some (.fz M), some (.fz (.int k)), x7, x8, some (.dk (dkD f 120)), x10, x11, x12, some (.fz (.int (w : Nat))), x14, x15, x16] = .ok (rangeD 0 w, [x0, some (.fz (ints_ row)), some (spotO p), x3, some (.fz (.tup (intsD' ps))), some (.fz M), some (.fz (.int k)), x7, x8, some (.dk (dkD f 120)), x10, x11, x12, some (.fz (.int (w : Nat))), x14, x15, x16]) :=
    rng1 (n := w) (by
      generalize dkD f 120 = K
      generalize D.tup (intsD' ps) = T
      simp) ⟨_, _, rfl⟩ (by omega)
  have ln : (rangeD 0 w).length ≤ 100000 := by rw [rangeD_len]; omega
  rw [e_gLc, w', Rz.bind_ok]
  rcases h10 with rfl | ⟨d, rfl⟩
  · rw [if_pos ⟨ln, rfl⟩]
    have hw : wipeD [x0, some (.fz (ints_ row)), some (spotO p), x3, some (.fz (.tup (intsD' ps))), some (.fz M), some (.fz (.int k)), x7, x8, some (.dk (dkD f 120)), none, x11, x12, some (.fz (.int (w : Nat))), x14, x15, x16] [10] = [x0, some (.fz (ints_ row)), some (spotO p), x3, some (.fz (.tup (intsD' ps))), some (.fz M), some (.fz (.int k)), x7, x8, some (.dk (dkD f 120)), none, x11, x12, some (.fz (.int (w : Nat))), x14, x15, x16] := rfl
    simp only [hw, lc, Rz.bind_ok]
    rfl
  · rw [if_pos ⟨ln, rfl⟩]
    have hw : wipeD [x0, some (.fz (ints_ row)), some (spotO p), x3, some (.fz (.tup (intsD' ps))), some (.fz M), some (.fz (.int k)), x7, x8, some (.dk (dkD f 120)), some (.fz d), x11, x12, some (.fz (.int (w : Nat))), x14, x15, x16] [10] = [x0, some (.fz (ints_ row)), some (spotO p), x3, some (.fz (.tup (intsD' ps))), some (.fz M), some (.fz (.int k)), x7, x8, some (.dk (dkD f 120)), none, x11, x12, some (.fz (.int (w : Nat))), x14, x15, x16] := rfl
    simp only [hw, lc, Rz.bind_ok]
    rfl
theorem busy_so (w : Nat) (f : Nat → Nat) (hw : w ≤ 120) : soOk 4 (.tup (busyD w f)) = true := by
  unfold soOk
  rw [Bool.and_eq_true, decide_eq_true_eq, List.all_eq_true]
  refine ⟨?_, fun d hd => ?_⟩
  · unfold busyD
    rw [List.length_map]
    have := List.length_filter_le (fun e => decide (0 < f e)) (List.range w)
    rw [List.length_range] at this
    omega
  · obtain ⟨e, _, rfl⟩ := List.mem_map.mp hd
    rfl
theorem s11abs (G : DEnv → Rz (O × DEnv)) (Φ : Ph) (row : List Int) (p : Nat) (T M : D) (B : List D) (k : Int) (w : Nat) (x0 x3 x7 x8 x9 x10 x11 x14 x15 x16 : Option O)
    (hG : w ≤ 120 → G [x0, some (.fz (ints_ row)), some (spotO p), x3, some (.fz T), some (.fz M), some (.fz (.int k)), x7, x8, x9, x10, x11, some (.fz (.tup [.str "value", .tup [.int (w : Nat), .tup B]])), some (.fz (.int (w : Nat))), x14, x15, x16] = .ok (.lst (B.map O.fz), [x0, some (.fz (ints_ row)), some (spotO p), x3, some (.fz T), some (.fz M), some (.fz (.int k)), x7, x8, x9, x10, x11, some (.fz (.tup [.str "value", .tup [.int (w : Nat), .tup B]])), some (.fz (.int (w : Nat))), x14, x15, x16]))
    (e : w ≤ 120 → Φ [.fz (.tup B), .fz (.tup B)] = .ok (.fz (.bl true), [])) :
    rIf (gAnd (gB (g2 fLe (gV 13) (gC (D.int 120)))) (gNot (gB (gZ (gCall 2 [] Φ (gAD (g2 fIx (g2 fIx (gV 12) (gC (D.int 1))) (gC (D.int 1))) (gAD (gN fTupOf (gaCons (gZ G) gaNil)) gANil))))))) (rRet (gO (gC (D.bl false)))) rNext
      [x0, some (.fz (ints_ row)), some (spotO p), x3, some (.fz T), some (.fz M), some (.fz (.int k)), x7, x8, x9, x10, x11, some (.fz (.tup [.str "value", .tup [.int (w : Nat), .tup B]])), some (.fz (.int (w : Nat))), x14, x15, x16] = .ok (.nx [x0, some (.fz (ints_ row)), some (spotO p), x3, some (.fz T), some (.fz M), some (.fz (.int k)), x7, x8, x9, x10, x11, some (.fz (.tup [.str "value", .tup [.int (w : Nat), .tup B]])), some (.fz (.int (w : Nat))), x14, x15, x16]) := by
  by_cases h : w ≤ 120
  · have h' : (w : Int) ≤ 120 := by omega
    have hG' := hG h
    have e' := e h
    simp [h', hG', e', atI, ixN, toDL_map, Function.comp_def]
  · have h' : ¬ (w : Int) ≤ 120 := by omega
    simp [h']
theorem law_s11 (c : Cs) (row : List Int) (p : Nat) (ps : List Int) (M : D) (k : Int) (f : Nat → Nat) (w : Nat) (x0 x3 x7 x8 x10 x11 x14 x15 x16 : Option O) (h10 : Pl x10) :
    rIf (gAnd (gB (g2 fLe (gV 13) (gC (D.int 120)))) (gNot (gB (gZ (gCall 2 [] (phi_law_so c 4) (gAD (g2 fIx (g2 fIx (gV 12) (gC (D.int 1))) (gC (D.int 1))) (gAD (gN fTupOf (gaCons (gZ (gLc (wR1 (gaCons (gV 13) gaNil)) (tgN 10) (tst9_law c) (elt10_law c) [10])) gaNil)) gANil))))))) (rRet (gO (gC (D.bl false)))) rNext
      [x0, some (.fz (ints_ row)), some (spotO p), x3, some (.fz (.tup (intsD' ps))), some (.fz M), some (.fz (.int k)), x7, x8, some (.dk (dkD f 120)), x10, x11, some (.fz (.tup [.str "value", .tup [.int (w : Nat), .tup (busyD w f)]])), some (.fz (.int (w : Nat))), x14, x15, x16] = .ok (.nx [x0, some (.fz (ints_ row)), some (spotO p), x3, some (.fz (.tup (intsD' ps))), some (.fz M), some (.fz (.int k)), x7, x8, some (.dk (dkD f 120)), x10, x11, some (.fz (.tup [.str "value", .tup [.int (w : Nat), .tup (busyD w f)]])), some (.fz (.int (w : Nat))), x14, x15, x16]) :=
  s11abs _ (phi_law_so c 4) row p _ M (busyD w f) k w x0 x3 x7 x8 _ x10 x11 x14 x15 x16 (fun h => gl_days c row p ps M k f w h x0 x3 x7 x8 x10 x11 _ x14 x15 x16 h10) fun h => so_same c 4 _ (busy_so w f h)
end DL

/-! S19: one round. -/
namespace DL
open PySem L2
theorem s12no (row : List Int) (p : Nat) (T M d : D) (k : Int) (A B : Run) (x0 x3 x7 x9 x10 x11 x13 x14 x15 x16 : Option O) :
    rIf (gNot (gTru (gV 8))) (rIf (gB (g2 (fEqP not) (gV 12) (gaTup (gaCons (gC (D.str "BadValue")) (gaCons (gC (D.int 1)) gaNil))))) A rNext) B
      [x0, some (.fz (ints_ row)), some (spotO p), x3, some (.fz T), some (.fz M), some (.fz (.int k)), x7, some (.fz (.bl false)), x9, x10, x11, some (.fz (toldV false d)), x13, x14, x15, x16] = .ok (.nx [x0, some (.fz (ints_ row)), some (spotO p), x3, some (.fz T), some (.fz M), some (.fz (.int k)), x7, some (.fz (.bl false)), x9, x10, x11, some (.fz (toldV false d)), x13, x14, x15, x16]) := by
  have e := eqP1
  have t : gNot (gTru (gV 8)) [x0, some (.fz (ints_ row)), some (spotO p), x3, some (.fz T), some (.fz M), some (.fz (.int k)), x7, some (.fz (.bl false)), x9, x10, x11, some (.fz (toldV false d)), x13, x14, x15, x16] = .ok (true, [x0, some (.fz (ints_ row)), some (spotO p), x3, some (.fz T), some (.fz M), some (.fz (.int k)), x7, some (.fz (.bl false)), x9, x10, x11, some (.fz (toldV false d)), x13, x14, x15, x16]) := by
    simp
  rw [rIf_t t]
  have t2 : gB (g2 (fEqP not) (gV 12) (gaTup (gaCons (gC (D.str "BadValue")) (gaCons (gC (D.int 1)) gaNil)))) [x0, some (.fz (ints_ row)), some (spotO p), x3, some (.fz T), some (.fz M), some (.fz (.int k)), x7, some (.fz (.bl false)), x9, x10, x11, some (.fz (toldV false d)), x13, x14, x15, x16] = .ok (false, [x0, some (.fz (ints_ row)), some (spotO p), x3, some (.fz T), some (.fz M), some (.fz (.int k)), x7, some (.fz (.bl false)), x9, x10, x11, some (.fz (toldV false d)), x13, x14, x15, x16]) := by
    show gB (g2 (fEqP not) (gV 12) (gaTup (gaCons (gC (D.str "BadValue")) (gaCons (gC (D.int 1)) gaNil)))) [x0, some (.fz (ints_ row)), some (spotO p), x3, some (.fz T), some (.fz M), some (.fz (.int k)), x7, some (.fz (.bl false)), x9, x10, x11, some (.fz (.tup [.str "BadValue", .int 1])), x13, x14, x15, x16] = .ok (false, [x0, some (.fz (ints_ row)), some (spotO p), x3, some (.fz T), some (.fz M), some (.fz (.int k)), x7, some (.fz (.bl false)), x9, x10, x11, some (.fz (.tup [.str "BadValue", .int 1])), x13, x14, x15, x16])
    generalize fEqP not = E at e ⊢
    simp [e]
  rw [rIf_f t2]
  rfl
theorem s12yes (row : List Int) (p : Nat) (T M : D) (k : Int) (A B : Run) (x0 x3 x7 x9 x10 x11 x12 x13 x14 x15 x16 : Option O) :
    rIf (gNot (gTru (gV 8))) A B [x0, some (.fz (ints_ row)), some (spotO p), x3, some (.fz T), some (.fz M), some (.fz (.int k)), x7, some (.fz (.bl true)), x9, x10, x11, x12, x13, x14, x15, x16] = B [x0, some (.fz (ints_ row)), some (spotO p), x3, some (.fz T), some (.fz M), some (.fz (.int k)), x7, some (.fz (.bl true)), x9, x10, x11, x12, x13, x14, x15, x16] := by
  refine rIf_f ?_
  simp
theorem s13 (row : List Int) (p : Nat) (T M : D) (k : Int) (x0 x3 x7 x8 x9 x10 x11 x12 x13 x14 x15 x16 : Option O) :
    rSet 13 (gO (gC (D.int 1))) [x0, some (.fz (ints_ row)), some (spotO p), x3, some (.fz T), some (.fz M), some (.fz (.int k)), x7, x8, x9, x10, x11, x12, x13, x14, x15, x16] = .ok (.nx [x0, some (.fz (ints_ row)), some (spotO p), x3, some (.fz T), some (.fz M), some (.fz (.int k)), x7, x8, x9, x10, x11, x12, some (.fz (.int 1)), x14, x15, x16]) := by
  simp
theorem b11_law (c : Cs) (row : List Int) (hr : row ≠ []) (p : Nat) (ps : List Int) (hP : Per ps) (k : Int) (x0 x3 x7 x8 x9 x10 x11 x12 x13 x14 x15 x16 : Option O) (h10 : Pl x10) (h14 : Pl x14) (h16 : Pl x16) :
    ∃ (p' : Nat) (y7 y8 y9 y10 y11 y12 y13 y14 : Option O), Pl y10 ∧ Pl y14 ∧ body11_law c [x0, some (.fz (ints_ row)), some (spotO p), x3, some (.fz (.tup (intsD' ps))), some (.fz (optT (Sx ps ps.length []))), some (.fz (.int k)), x7, x8, x9, x10, x11, x12, x13, x14, x15, x16] =
      .ok (.nx [x0, some (.fz (ints_ row)), some (spotO p'), x3, some (.fz (.tup (intsD' ps))), some (.fz (optT (Sx ps ps.length []))), some (.fz (.int k)), y7, y8, y9, y10, y11, y12, y13, y14, x15, x16]) := by
  have h5 := hP.len
  generalize hM : optT (Sx ps ps.length []) = M
  unfold body11_law
  obtain ⟨ss0, p1, a1, a2, e1⟩ := law_s1 c row hr p ps hP M k x0 x3 x7 x8 x9 x10 x11 x12 x13 x14 x15 x16 h14
  rw [rSeq_nx e1]
  obtain ⟨ss, p2, b1, b2, e2⟩ := law_s2 c row hr p1 ps ss0 hP k a1 a2 x0 x3 x8 x9 x10 x11 x12 x13 x14 x15 x16
  rw [hM] at e2
  rw [rSeq_nx e2]
  have e3 := law_s3 c row p2 ps ss h5 M k b1 x0 x3 x8 x9 x10 x11 x12 x13 x14 x15 x16 h16
  rw [rSeq_nx e3]
  have e4 := law_s4 row p2 ps ss M k x0 x3 (some (.fz (.bl (gdB ps ss ps.length)))) x9 x10 x11 x12 x13 x14 x15 x16
  rw [rSeq_nx e4]
  obtain ⟨y10, q10, e5⟩ := law_s5 c row p2 ps ss hP M k b1 x0 x3 (some (.fz (.bl (gdB ps ss ps.length)))) x10 x11 x12 x13 x14 x15 x16 h16
  rw [rSeq_nx e5]
  obtain ⟨y7, q7, e6⟩ := law_s6 c row p2 ps ss hP b1 M k x0 x3 (some (.dk (dkD (cntN ps ss ps.length) 120))) y10 x11 x12 x13 x14 x15 x16 (gdB ps ss ps.length)
  rw [rSeq_nx e6]
  have e7 := law_s7 c row hr p2 ps ss hP b1 b2 M k y7 q7 x0 x3 (some (.dk (dkD (cntN ps ss ps.length) 120))) y10 x12 x13 x14 x15 x16
  rw [rSeq_nx e7]
  have e8 := law_s8 c row (p2 + 1 + 1) ps ss hP b1 b2 M k x0 x3 (some (.fz (.bl (gdB ps ss ps.length)))) (some (.dk (dkD (cntN ps ss ps.length) 120))) y10 (some (.fz (.bl (gdB ps ss ps.length && !apB ps ss ps.length)))) x12 x13 x14 x15 x16
  rw [rSeq_nx e8]
  cases hg : gdB ps ss ps.length with
  | false =>
    rw [s12no]
    exact ⟨_, _, _, _, _, _, _, _, _, q10, h14, rfl⟩
  | true =>
    rw [s12yes]
    rw [rSeq_nx (s13 ..)]
    have ht : toldV true (bdV ps ss) = .tup [.str "value", bdV ps ss] := rfl
    rw [ht]
    obtain ⟨y14, q14, e9⟩ := law_s9 c row (p2 + 1 + 1) ps hP M k x0 x3 (some (.fz (seqD true (intsD' ss)))) (some (.fz (.bl true))) (some (.dk (dkD (cntN ps ss ps.length) 120))) y10 (some (.fz (.bl (true && !apB ps ss ps.length)))) (some (.fz (.tup [.str "value", bdV ps ss]))) x14 x15 x16 h14
    rw [rSeq_nx e9]
    have e10 := law_s10 row (p2 + 1 + 1) ps M (.tup (busyD (Wh ps) (cntN ps ss ps.length))) (.int ((Wh ps : Nat) : Int)) (by simp) k x0 x3 (some (.fz (seqD true (intsD' ss)))) (some (.fz (.bl true))) (some (.dk (dkD (cntN ps ss ps.length) 120))) y10 (some (.fz (.bl (true && !apB ps ss ps.length)))) y14 x15 x16
    rw [rSeq_nx e10]
    have e11 := law_s11 c row (p2 + 1 + 1) ps M k (cntN ps ss ps.length) (Wh ps) x0 x3 (some (.fz (seqD true (intsD' ss)))) (some (.fz (.bl true))) y10 (some (.fz (.bl (true && !apB ps ss ps.length)))) y14 x15 x16 q10
    rw [e11]
    exact ⟨_, _, _, _, _, _, _, _, _, q10, q14, rfl⟩
end DL

/-! S20: the periods drawn, the first starts. -/
namespace DL
open PySem L2
def menus : List (List Int) := [[2, 4, 8, 12], [3, 6, 9, 12], [4, 8, 10, 6, 12], [1, 2, 3, 5, 7, 12]]
theorem menus_ok : ∀ m ∈ menus, m ≠ [] ∧ ∀ x ∈ m, 1 ≤ x ∧ x ≤ 12 := by decide
def menusD : List D := menus.map fun m => .lst (intsD' m)
theorem per_of {ps : List Int} (h5 : ps.length ≤ 5) (h : ∀ x ∈ ps, 1 ≤ x ∧ x ≤ 12) : Per ps where
  len := h5
  pos := fun k hk => by rw [← at_get hk]; exact (h _ (List.getElem_mem hk)).1
  le := fun k hk => by rw [← at_get hk]; exact (h _ (List.getElem_mem hk)).2
theorem st3 (c : Cs) (Φ : Ph) (row : List Int) (p : Nat) (x : D) (h : Φ [.fz (ints_ row), spotO p, .fz (.lst menusD)] = .ok (.fz x, [spotO (p + 1)])) (x0 x3 x4 x5 x6 x7 x8 x9 x10 x11 x12 x13 x14 x15 x16 : Option O) :
    rSet 3 (gCall 3 [1] Φ (gAD (gV 1) (gAA 2 (gAD (gZ (gaLst (gaCons (gZ (gaLst (gaCons (gC (D.int 2)) (gaCons (gC (D.int 4)) (gaCons (gC (D.int 8)) (gaCons (gC (D.int 12)) gaNil)))))) (gaCons (gZ (gaLst (gaCons (gC (D.int 3)) (gaCons (gC (D.int 6)) (gaCons (gC (D.int 9)) (gaCons (gC (D.int 12)) gaNil)))))) (gaCons (gZ (gaLst (gaCons (gC (D.int 4)) (gaCons (gC (D.int 8)) (gaCons (gC (D.int 10)) (gaCons (gC (D.int 6)) (gaCons (gC (D.int 12)) gaNil))))))) (gaCons (gZ (gaLst (gaCons (gC (D.int 1)) (gaCons (gC (D.int 2)) (gaCons (gC (D.int 3)) (gaCons (gC (D.int 5)) (gaCons (gC (D.int 7)) (gaCons (gC (D.int 12)) gaNil)))))))) gaNil)))))) gANil)))) [x0, some (.fz (ints_ row)), some (spotO p), x3, x4, x5, x6, x7, x8, x9, x10, x11, x12, x13, x14, x15, x16] =
      .ok (.nx [x0, some (.fz (ints_ row)), some (spotO (p + 1)), some (.fz x), x4, x5, x6, x7, x8, x9, x10, x11, x12, x13, x14, x15, x16]) := by
  simp only [menusD, menus, List.map_cons, List.map_nil] at h
  simp [h]
theorem elt1_ok (Φ : Ph) (row : List Int) (p : Nat) (m x : D) (h : Φ [.fz (ints_ row), spotO p, .fz m] = .ok (.fz x, [spotO (p + 1)])) (x0 x4 x5 x6 x7 x8 x9 x10 x11 x12 x13 x14 x15 x16 : Option O) :
    gCall 3 [1] Φ (gAD (gV 1) (gAA 2 (gAD (gV 3) gANil))) [x0, some (.fz (ints_ row)), some (spotO p), some (.fz m), x4, x5, x6, x7, x8, x9, x10, x11, x12, x13, x14, x15, x16] = .ok (.fz x, [x0, some (.fz (ints_ row)), some (spotO (p + 1)), some (.fz m), x4, x5, x6, x7, x8, x9, x10, x11, x12, x13, x14, x15, x16]) := by
  simp [h]
theorem lc_ps (c : Cs) (row : List Int) (hr : row ≠ []) (p : Nat) (m : List Int) (hm : m ∈ menus) (n : Nat) (x0 x4 x5 x7 x8 x9 x10 x11 x12 x13 x14 x15 x16 : Option O) :
    ∃ (ps : List Int) (p' : Nat), ps.length = n ∧ (∀ x ∈ ps, 1 ≤ x ∧ x ≤ 12) ∧ lcL (tgN 6) (fun δ => .ok (true, δ)) (elt1_law c) [6] (rangeD 0 n) [x0, some (.fz (ints_ row)), some (spotO p), some (.fz (.lst (intsD' m))), x4, x5, none, x7, x8, x9, x10, x11, x12, x13, x14, x15, x16] =
      .ok (ps.map fun x => O.fz (.int x), [x0, some (.fz (ints_ row)), some (spotO p'), some (.fz (.lst (intsD' m))), x4, x5, none, x7, x8, x9, x10, x11, x12, x13, x14, x15, x16]) := by
  obtain ⟨l, δ', e, ps, p', h1, h2, rfl, rfl⟩ := lcL_gen (tg := tgN 6) (gt := fun δ => .ok (true, δ)) (ge := elt1_law c) (vs := [6]) (rangeD 0 n)
    (fun i acc δ => ∃ (ps : List Int) (p : Nat), ps.length = i ∧ (∀ x ∈ ps, 1 ≤ x ∧ x ≤ 12) ∧ acc = ps.map (fun n => O.fz (.int n)) ∧ δ = [x0, some (.fz (ints_ row)), some (spotO p), some (.fz (.lst (intsD' m))), x4, x5, none, x7, x8, x9, x10, x11, x12, x13, x14, x15, x16]) [] [x0, some (.fz (ints_ row)), some (spotO p), some (.fz (.lst (intsD' m))), x4, x5, none, x7, x8, x9, x10, x11, x12, x13, x14, x15, x16]
    (fun i d acc δ hd h => by
      obtain ⟨ps, p, h1, h2, rfl, rfl⟩ := h
      obtain ⟨m0, m1⟩ := menus_ok m hm
      obtain ⟨x, hx, e⟩ := pick_ok c row hr p (intsD' m) (by simpa using m0)
      obtain ⟨r, hr', rfl⟩ := List.mem_map.mp hx
      refine ⟨_, true, _, rfl, rfl, nofun, fun _ => ⟨.fz (.int r), [x0, some (.fz (ints_ row)), some (spotO (p + 1)), some (.fz (.lst (intsD' m))), x4, x5, some (.fz d), x7, x8, x9, x10, x11, x12, x13, x14, x15, x16], ?_, ps ++ [r], p + 1, by simp [h1], ?_, by simp, rfl⟩⟩
      · exact elt1_ok (phi_law_pick c) row p (.lst (intsD' m)) (.int r) e x0 x4 x5 (some (.fz d)) x7 x8 x9 x10 x11 x12 x13 x14 x15 x16
      · intro x hx
        rcases List.mem_append.mp hx with hx | hx
        · exact h2 x hx
        · have : x = r := by simpa using hx
          subst this; exact m1 _ hr') ⟨[], p, rfl, (fun x hx => by cases hx), rfl, rfl⟩
  rw [rangeD_len] at h1
  exact ⟨ps, p', h1, h2, e⟩
theorem st4 (c : Cs) (row : List Int) (hr : row ≠ []) (p : Nat) (m : List Int) (hm : m ∈ menus) (x0 x4 x5 x7 x8 x9 x10 x11 x12 x13 x14 x15 x16 : Option O) :
    ∃ (ps : List Int) (p' : Nat), Per ps ∧ rSet 4 (gO (gN fTupOf (gaCons (gZ (gLc (wR1 (gaCons (gZ (gCall 3 [1] (phi_law_take c) (gAD (gV 1) (gAA 2 (gAD (gC (D.int 6)) gANil))))) gaNil)) (tgN 6) (fun δ => .ok (true, δ)) (elt1_law c) [6])) gaNil))) [x0, some (.fz (ints_ row)), some (spotO p), some (.fz (.lst (intsD' m))), x4, x5, none, x7, x8, x9, x10, x11, x12, x13, x14, x15, x16] =
      .ok (.nx [x0, some (.fz (ints_ row)), some (spotO p'), some (.fz (.lst (intsD' m))), some (.fz (.tup (intsD' ps))), x5, none, x7, x8, x9, x10, x11, x12, x13, x14, x15, x16]) := by
  obtain ⟨r, r0, r1, e0⟩ := take_ok c row hr p 6 (by omega)
  obtain ⟨n, rfl⟩ := Int.eq_ofNat_of_zero_le r0
  obtain ⟨ps, p', h1, h2, e⟩ := lc_ps c row hr (p + 1) m hm n x0 x4 x5 x7 x8 x9 x10 x11 x12 x13 x14 x15 x16
  refine ⟨ps, p', per_of (by omega) h2, ?_⟩
  have w : wR1 (gaCons (gZ (gCall 3 [1] (phi_law_take c) (gAD (gV 1) (gAA 2 (gAD (gC (D.int 6)) gANil))))) gaNil) [x0, some (.fz (ints_ row)), some (spotO p), some (.fz (.lst (intsD' m))), x4, x5, none, x7, x8, x9, x10, x11, x12, x13, x14, x15, x16] = .ok (rangeD 0 n, [x0, some (.fz (ints_ row)), some (spotO (p + 1)), some (.fz (.lst (intsD' m))), x4, x5, none, x7, x8, x9, x10, x11, x12, x13, x14, x15, x16]) :=
    rng1 (n := n) (by
      generalize D.lst (intsD' m) = T
      simp [e0]) ⟨_, _, rfl⟩ (by omega)
  have ln : (rangeD 0 n).length ≤ 100000 := by rw [rangeD_len]; omega
  have g : gLc (wR1 (gaCons (gZ (gCall 3 [1] (phi_law_take c) (gAD (gV 1) (gAA 2 (gAD (gC (D.int 6)) gANil))))) gaNil)) (tgN 6) (fun δ => .ok (true, δ)) (elt1_law c) [6] [x0, some (.fz (ints_ row)), some (spotO p), some (.fz (.lst (intsD' m))), x4, x5, none, x7, x8, x9, x10, x11, x12, x13, x14, x15, x16] =
      .ok (intsO ps, [x0, some (.fz (ints_ row)), some (spotO p'), some (.fz (.lst (intsD' m))), x4, x5, none, x7, x8, x9, x10, x11, x12, x13, x14, x15, x16]) := by
    rw [e_gLc, w, Rz.bind_ok, if_pos ⟨ln, rfl⟩]
    have hw : wipeD [x0, some (.fz (ints_ row)), some (spotO (p + 1)), some (.fz (.lst (intsD' m))), x4, x5, none, x7, x8, x9, x10, x11, x12, x13, x14, x15, x16] [6] = [x0, some (.fz (ints_ row)), some (spotO (p + 1)), some (.fz (.lst (intsD' m))), x4, x5, none, x7, x8, x9, x10, x11, x12, x13, x14, x15, x16] := rfl
    simp only [hw, e, Rz.bind_ok]
    rfl
  have t := intsO_clean ps
  generalize gLc (wR1 (gaCons (gZ (gCall 3 [1] (phi_law_take c) (gAD (gV 1) (gAA 2 (gAD (gC (D.int 6)) gANil))))) gaNil)) (tgN 6) (fun δ => .ok (true, δ)) (elt1_law c) [6] = G at g ⊢
  generalize D.lst (intsD' m) = T at g ⊢
  generalize intsO ps = S at g t
  have t' : S.toD = .lst (intsD' ps) := t
  generalize intsD' ps = U at t' ⊢
  simp [g, t']
theorem st5 (Φ : Ph) (row : List Int) (p : Nat) (P q : D) (e : Φ [.fz P, .fz (.tup [])] = .ok (.fz q, [])) (x0 x3 x5 x6 x7 x8 x9 x10 x11 x12 x13 x14 x15 x16 : Option O) :
    rSet 5 (gCall 2 [] Φ (gAD (gV 4) (gAD (gaTup gaNil) gANil))) [x0, some (.fz (ints_ row)), some (spotO p), x3, some (.fz P), x5, x6, x7, x8, x9, x10, x11, x12, x13, x14, x15, x16] = .ok (.nx [x0, some (.fz (ints_ row)), some (spotO p), x3, some (.fz P), some (.fz q), x6, x7, x8, x9, x10, x11, x12, x13, x14, x15, x16]) := by
  simp [e]
theorem st6 (Φ1 Φ2 Φ3 : Ph) (row : List Int) (p : Nat) (P P2 M : D) (h1 : Φ3 [.fz (ints_ row), spotO p, .fz P] = .ok (.fz P2, [spotO (p + 1)])) (h2 : Φ2 [.fz P2] = .ok (.fz M, []))
    (h3 : Φ1 [.fz M, .fz M] = .ok (.fz (.bl true), [])) (x0 x3 x6 x7 x8 x9 x10 x11 x12 x13 x14 x15 x16 : Option O) :
    rIf (gNot (gB (gZ (gCall 2 [] Φ1 (gAD (gZ (gCall 1 [] Φ2 (gAD (gZ (gCall 3 [1] Φ3 (gAD (gV 1) (gAA 2 (gAD (gV 4) gANil))))) gANil))) (gAD (gV 5) gANil)))))) (rRet (gO (gC (D.bl false)))) rNext [x0, some (.fz (ints_ row)), some (spotO p), x3, some (.fz P), some (.fz M), x6, x7, x8, x9, x10, x11, x12, x13, x14, x15, x16] =
      .ok (.nx [x0, some (.fz (ints_ row)), some (spotO (p + 1)), x3, some (.fz P), some (.fz M), x6, x7, x8, x9, x10, x11, x12, x13, x14, x15, x16]) := by
  simp [h1, h2, h3]
theorem optT_so (ps : List Int) (hP : Per ps) : soOk 4 (optT (Sx ps ps.length [])) = true := by
  cases q : Sx ps ps.length [] with
  | none => rfl
  | some r =>
    have := (Sx_low hP q).1
    have h5 := hP.len
    show (decide ((intsD' r).length ≤ 100000) && (intsD' r).all (soOk 3)) = true
    rw [Bool.and_eq_true, decide_eq_true_eq, List.all_eq_true]
    refine ⟨by simp; omega, fun d hd => ?_⟩
    obtain ⟨x, _, rfl⟩ := List.mem_map.mp hd
    rfl
theorem st7 (c : Cs) (row : List Int) (hr : row ≠ []) (p : Nat) (ps : List Int) (hP : Per ps) (x0 x3 x6 x7 x8 x9 x10 x11 x12 x13 x14 x15 x16 : Option O) (h10 : Pl x10) (h14 : Pl x14) (h16 : Pl x16) :
    ∃ (p' : Nat) (y6 y7 y8 y9 y10 y11 y12 y13 y14 : Option O), rFor (wR1 (gaCons (gC (D.int 5)) gaNil)) (tgN 6) (body11_law c) [x0, some (.fz (ints_ row)), some (spotO p), x3, some (.fz (.tup (intsD' ps))), some (.fz (optT (Sx ps ps.length []))), x6, x7, x8, x9, x10, x11, x12, x13, x14, x15, x16] =
      .ok (.nx [x0, some (.fz (ints_ row)), some (spotO p'), x3, some (.fz (.tup (intsD' ps))), some (.fz (optT (Sx ps ps.length []))), y6, y7, y8, y9, y10, y11, y12, y13, y14, x15, x16]) := by
  have w : wR1 (gaCons (gC (D.int 5)) gaNil) [x0, some (.fz (ints_ row)), some (spotO p), x3, some (.fz (.tup (intsD' ps))), some (.fz (optT (Sx ps ps.length []))), x6, x7, x8, x9, x10, x11, x12, x13, x14, x15, x16] = .ok (rangeD 0 5, [x0, some (.fz (ints_ row)), some (spotO p), x3, some (.fz (.tup (intsD' ps))), some (.fz (optT (Sx ps ps.length []))), x6, x7, x8, x9, x10, x11, x12, x13, x14, x15, x16]) :=
    rng1 (n := 5) rfl ⟨_, _, rfl⟩ (by omega)
  rw [rFor_eq w]
  obtain ⟨δ', e, p', y6, y7, y8, y9, y10, y11, y12, y13, y14, _, _, rfl⟩ := forR_inv (t := tgN 6) (f := body11_law c) (rangeD 0 5)
    (fun i δ => ∃ (p : Nat) (y6 y7 y8 y9 y10 y11 y12 y13 y14 : Option O), Pl y10 ∧ Pl y14 ∧ δ = [x0, some (.fz (ints_ row)), some (spotO p), x3, some (.fz (.tup (intsD' ps))), some (.fz (optT (Sx ps ps.length []))), y6, y7, y8, y9, y10, y11, y12, y13, y14, x15, x16])
    [x0, some (.fz (ints_ row)), some (spotO p), x3, some (.fz (.tup (intsD' ps))), some (.fz (optT (Sx ps ps.length []))), x6, x7, x8, x9, x10, x11, x12, x13, x14, x15, x16] (fun i d δ hd h => by
      obtain ⟨p, y6, y7, y8, y9, y10, y11, y12, y13, y14, h10, h14, rfl⟩ := h
      obtain ⟨hi, rfl⟩ := rangeD_get hd
      obtain ⟨p', z7, z8, z9, z10, z11, z12, z13, z14, q10, q14, e⟩ := b11_law c row hr p ps hP (0 + (i : Nat)) x0 x3 y7 y8 y9 y10 y11 y12 y13 y14 x15 x16 h10 h14 h16
      exact ⟨_, rfl, _, e, p', some (.fz (.int (0 + (i : Nat)))), z7, z8, z9, z10, z11, z12, z13, z14, q10, q14, rfl⟩) ⟨p, x6, x7, x8, x9, x10, x11, x12, x13, x14, h10, h14, rfl⟩
  exact ⟨p', y6, y7, y8, y9, y10, y11, y12, y13, y14, e⟩
end DL

/-! S21: the wrong arguments, the end. -/
namespace DL
open PySem L2
abbrev BV (k : Int) : D := .tup [.str "BadValue", .int k]
def bads1 : List D := [.tup [.int 0], .tup [.int 13], .tup [.bl true], .non, .int 5, .tup [.int 1, .int 1, .int 1, .int 1, .int 1, .int 1], .tup [.str "1"], .tup [.int (-1)]]
def bads2 : List D := [.tup [], .tup [.int 0, .int 0], .tup [.int (-1)], .tup [.int 12], .tup [.bl true], .non, .int 5, .tup [.str "0"]]
theorem chk_bad (c : Cs) : ∀ d ∈ bads1, phi_check_periods c [.fz d] = .er (bad c 0) := by
  intro d hd
  have no : ∀ l : List D, (∀ d ∈ l, d.flat = true) → l.length ≤ 100000 → ¬ (l.length ≤ 5 ∧ l.all (wth 1 12) = true) → phi_check_periods c [.fz (.tup l)] = .er (bad c 0) := fun l h1 h2 h3 => by
    have := check_periods_seq c false l h1 h2
    rw [if_neg h3] at this
    exact this
  simp only [bads1, List.mem_cons, List.not_mem_nil, or_false] at hd
  rcases hd with rfl | rfl | rfl | rfl | rfl | rfl | rfl | rfl
  · exact no _ (by simp [D.flat]) (by simp) (by simp [wth])
  · exact no _ (by simp [D.flat]) (by simp) (by simp [wth])
  · exact no _ (by simp [D.flat]) (by simp) (by simp [wth])
  · exact check_periods_no c _ rfl
  · exact check_periods_no c _ rfl
  · exact no _ (by simp [D.flat]) (by simp) (by simp)
  · exact no _ (by simp [D.flat]) (by simp) (by simp [wth])
  · exact no _ (by simp [D.flat]) (by simp) (by simp [wth])
theorem st_bad (c : Cs) (P : D) (x : Xc) (h : phi_check_periods c [.fz P] = .er x) : phi_starts c [.fz P] = .er x := by
  rw [go_starts]
  unfold run_starts
  rw [rSeq_er (x := x) (by simp [h])]
  rfl
theorem per12 : Per [12] := per_of (by simp) (by simp)
theorem chk12 (c : Cs) : phi_check_periods c [.fz (seqD false [.int 12])] = .ok (.fz .non, []) := per_chk c false [12] per12
theorem sp_bad2 (c : Cs) : ∀ d ∈ bads2, phi_starts_prove c [.fz (.tup [.int 12]), .fz d] = .er (bad c 1) := by
  intro d hd
  have k := chk12 c
  simp only [bads2, List.mem_cons, List.not_mem_nil, or_false] at hd
  rcases hd with rfl | rfl | rfl | rfl | rfl | rfl | rfl | rfl
  · exact sp_bad1_seq c false false _ _ k (by simp) (by simp) (by simp)
  · exact sp_bad1_seq c false false _ _ k (by simp [D.flat]) (by simp) (by simp)
  · exact sp_bad1_seq c false false _ _ k (by simp [D.flat]) (by simp) (by simp [wth])
  · exact sp_bad1_seq c false false _ _ k (by simp [D.flat]) (by simp) (by simp [wth])
  · exact sp_bad1_seq c false false _ _ k (by simp [D.flat]) (by simp) (by simp [wth])
  · exact sp_bad1_no c _ _ k rfl
  · exact sp_bad1_no c _ _ k rfl
  · exact sp_bad1_seq c false false _ _ k (by simp [D.flat]) (by simp) (by simp [wth])
theorem bd_bad2 (c : Cs) : ∀ d ∈ bads2, phi_busy_days c [.fz (.tup [.int 12]), .fz d] = .er (bad c 1) := by
  intro d hd
  have k := chk12 c
  refine bd_bad c _ _ _ ?_
  simp only [bads2, List.mem_cons, List.not_mem_nil, or_false] at hd
  rcases hd with rfl | rfl | rfl | rfl | rfl | rfl | rfl | rfl
  · exact cs_bad1_seq c false false _ _ k (by simp) (by simp) (by simp)
  · exact cs_bad1_seq c false false _ _ k (by simp [D.flat]) (by simp) (by simp)
  · exact cs_bad1_seq c false false _ _ k (by simp [D.flat]) (by simp) (by simp [ge0])
  · have := check_starts_ok c [12] [12] per12 rfl (by simp)
    rw [if_neg (by simp [gdB, at_])] at this
    exact this
  · exact cs_bad1_seq c false false _ _ k (by simp [D.flat]) (by simp) (by simp [ge0])
  · exact cs_bad1_no c _ _ k rfl
  · exact cs_bad1_no c _ _ k rfl
  · exact cs_bad1_seq c false false _ _ k (by simp [D.flat]) (by simp) (by simp [ge0])
theorem b12abs (E : D → D → Option D) (h : Hds) (Φ1 Φ2 Φ3 : Ph) (d : D) (hE : E (BV 0) (BV 0) = some (.bl false))
    (h1 : toldR h (Φ1 [.fz d]) = .ok (BV 0)) (h2 : toldR h (Φ2 [.fz d, .fz (.tup [.int 0])]) = .ok (BV 0)) (h3 : toldR h (Φ3 [.fz d, .fz (.tup [.int 0])]) = .ok (BV 0)) (x0 x1 x2 x3 x4 x5 x6 x7 x8 x9 x10 x11 x12 x13 x14 x16 : Option O) :
    (rIf (gOr (gB (g2 E (gTold h 1 Φ1 (gaCons (gV 15) gaNil)) (gaTup (gaCons (gC (D.str "BadValue")) (gaCons (gC (D.int 0)) gaNil))))) (gOr (gB (g2 E (gTold h 2 Φ2 (gaCons (gV 15) (gaCons (gaTup (gaCons (gC (D.int 0)) gaNil)) gaNil))) (gaTup (gaCons (gC (D.str "BadValue")) (gaCons (gC (D.int 0)) gaNil))))) (gB (g2 E (gTold h 2 Φ3 (gaCons (gV 15) (gaCons (gaTup (gaCons (gC (D.int 0)) gaNil)) gaNil))) (gaTup (gaCons (gC (D.str "BadValue")) (gaCons (gC (D.int 0)) gaNil))))))) (rRet (gO (gC (D.bl false)))) rNext)
      [x0, x1, x2, x3, x4, x5, x6, x7, x8, x9, x10, x11, x12, x13, x14, some (.fz d), x16] = .ok (.nx [x0, x1, x2, x3, x4, x5, x6, x7, x8, x9, x10, x11, x12, x13, x14, some (.fz d), x16]) := by
  simp [h1, h2, h3, hE]
theorem b13abs (E : D → D → Option D) (h : Hds) (Φ2 Φ3 : Ph) (d : D) (hE : E (BV 1) (BV 1) = some (.bl false))
    (h2 : toldR h (Φ2 [.fz (.tup [.int 12]), .fz d]) = .ok (BV 1)) (h3 : toldR h (Φ3 [.fz (.tup [.int 12]), .fz d]) = .ok (BV 1)) (x0 x1 x2 x3 x4 x5 x6 x7 x8 x9 x10 x11 x12 x13 x14 x16 : Option O) :
    (rIf (gOr (gB (g2 E (gTold h 2 Φ2 (gaCons (gaTup (gaCons (gC (D.int 12)) gaNil)) (gaCons (gV 15) gaNil))) (gaTup (gaCons (gC (D.str "BadValue")) (gaCons (gC (D.int 1)) gaNil))))) (gB (g2 E (gTold h 2 Φ3 (gaCons (gaTup (gaCons (gC (D.int 12)) gaNil)) (gaCons (gV 15) gaNil))) (gaTup (gaCons (gC (D.str "BadValue")) (gaCons (gC (D.int 1)) gaNil)))))) (rRet (gO (gC (D.bl false)))) rNext)
      [x0, x1, x2, x3, x4, x5, x6, x7, x8, x9, x10, x11, x12, x13, x14, some (.fz d), x16] = .ok (.nx [x0, x1, x2, x3, x4, x5, x6, x7, x8, x9, x10, x11, x12, x13, x14, some (.fz d), x16]) := by
  simp [h2, h3, hE]
theorem b12_law (c : Cs) (d : D) (hd : d ∈ bads1) (x0 x1 x2 x3 x4 x5 x6 x7 x8 x9 x10 x11 x12 x13 x14 x16 : Option O) :
    body12_law c [x0, x1, x2, x3, x4, x5, x6, x7, x8, x9, x10, x11, x12, x13, x14, some (.fz d), x16] = .ok (.nx [x0, x1, x2, x3, x4, x5, x6, x7, x8, x9, x10, x11, x12, x13, x14, some (.fz d), x16]) := by
  have k := chk_bad c d hd
  exact b12abs (fEqP not) (hds c) (phi_starts c) (phi_starts_prove c) (phi_busy_days c) d eqP0 (by rw [st_bad c d _ k]; exact told_bad c 0) (by rw [sp_bad0 c d _ _ k]; exact told_bad c 0) (by rw [bd_bad c d _ _ (cs_bad0 c d _ _ k)]; exact told_bad c 0) x0 x1 x2 x3 x4 x5 x6 x7 x8 x9 x10 x11 x12 x13 x14 x16
theorem b13_law (c : Cs) (d : D) (hd : d ∈ bads2) (x0 x1 x2 x3 x4 x5 x6 x7 x8 x9 x10 x11 x12 x13 x14 x16 : Option O) :
    body13_law c [x0, x1, x2, x3, x4, x5, x6, x7, x8, x9, x10, x11, x12, x13, x14, some (.fz d), x16] = .ok (.nx [x0, x1, x2, x3, x4, x5, x6, x7, x8, x9, x10, x11, x12, x13, x14, some (.fz d), x16]) :=
  b13abs (fEqP not) (hds c) (phi_starts_prove c) (phi_busy_days c) d eqP1 (by rw [sp_bad2 c d hd]; exact told_bad c 1) (by rw [bd_bad2 c d hd]; exact told_bad c 1) x0 x1 x2 x3 x4 x5 x6 x7 x8 x9 x10 x11 x12 x13 x14 x16
theorem st8 (c : Cs) (x0 x1 x2 x3 x4 x5 x6 x7 x8 x9 x10 x11 x12 x13 x14 x15 x16 : Option O) :
    ∃ y15, rFor (wA (gZ (gaLst (gaCons (gaTup (gaCons (gC (D.int 0)) gaNil)) (gaCons (gaTup (gaCons (gC (D.int 13)) gaNil)) (gaCons (gaTup (gaCons (gC (D.bl true)) gaNil)) (gaCons (gC D.non) (gaCons (gC (D.int 5)) (gaCons (g2 fRepT (gaTup (gaCons (gC (D.int 1)) gaNil)) (gC (D.int 6))) (gaCons (gaTup (gaCons (gC (D.str "1")) gaNil)) (gaCons (gaTup (gaCons (g1 fNeg (gC (D.int 1))) gaNil)) gaNil))))))))))) (tgN 15) (body12_law c)
      [x0, x1, x2, x3, x4, x5, x6, x7, x8, x9, x10, x11, x12, x13, x14, x15, x16] = .ok (.nx [x0, x1, x2, x3, x4, x5, x6, x7, x8, x9, x10, x11, x12, x13, x14, y15, x16]) := by
  have w : wA (gZ (gaLst (gaCons (gaTup (gaCons (gC (D.int 0)) gaNil)) (gaCons (gaTup (gaCons (gC (D.int 13)) gaNil)) (gaCons (gaTup (gaCons (gC (D.bl true)) gaNil)) (gaCons (gC D.non) (gaCons (gC (D.int 5)) (gaCons (g2 fRepT (gaTup (gaCons (gC (D.int 1)) gaNil)) (gC (D.int 6))) (gaCons (gaTup (gaCons (gC (D.str "1")) gaNil)) (gaCons (gaTup (gaCons (g1 fNeg (gC (D.int 1))) gaNil)) gaNil)))))))))) [x0, x1, x2, x3, x4, x5, x6, x7, x8, x9, x10, x11, x12, x13, x14, x15, x16] = .ok (bads1, [x0, x1, x2, x3, x4, x5, x6, x7, x8, x9, x10, x11, x12, x13, x14, x15, x16]) := by
    simp [bads1, List.replicate]
  rw [rFor_eq w]
  obtain ⟨δ', e, y15, rfl⟩ := forR_inv (t := tgN 15) (f := body12_law c) bads1 (fun i δ => ∃ y15, δ = [x0, x1, x2, x3, x4, x5, x6, x7, x8, x9, x10, x11, x12, x13, x14, y15, x16]) [x0, x1, x2, x3, x4, x5, x6, x7, x8, x9, x10, x11, x12, x13, x14, x15, x16] (fun i d δ hd h => by
    obtain ⟨y15, rfl⟩ := h
    exact ⟨_, rfl, _, b12_law c d (List.mem_of_getElem? hd) x0 x1 x2 x3 x4 x5 x6 x7 x8 x9 x10 x11 x12 x13 x14 x16, _, rfl⟩) ⟨x15, rfl⟩
  exact ⟨y15, e⟩
theorem st9 (c : Cs) (x0 x1 x2 x3 x4 x5 x6 x7 x8 x9 x10 x11 x12 x13 x14 x15 x16 : Option O) :
    ∃ y15, rFor (wA (gZ (gaLst (gaCons (gaTup gaNil) (gaCons (gaTup (gaCons (gC (D.int 0)) (gaCons (gC (D.int 0)) gaNil))) (gaCons (gaTup (gaCons (g1 fNeg (gC (D.int 1))) gaNil)) (gaCons (gaTup (gaCons (gC (D.int 12)) gaNil)) (gaCons (gaTup (gaCons (gC (D.bl true)) gaNil)) (gaCons (gC D.non) (gaCons (gC (D.int 5)) (gaCons (gaTup (gaCons (gC (D.str "0")) gaNil)) gaNil))))))))))) (tgN 15) (body13_law c)
      [x0, x1, x2, x3, x4, x5, x6, x7, x8, x9, x10, x11, x12, x13, x14, x15, x16] = .ok (.nx [x0, x1, x2, x3, x4, x5, x6, x7, x8, x9, x10, x11, x12, x13, x14, y15, x16]) := by
  have w : wA (gZ (gaLst (gaCons (gaTup gaNil) (gaCons (gaTup (gaCons (gC (D.int 0)) (gaCons (gC (D.int 0)) gaNil))) (gaCons (gaTup (gaCons (g1 fNeg (gC (D.int 1))) gaNil)) (gaCons (gaTup (gaCons (gC (D.int 12)) gaNil)) (gaCons (gaTup (gaCons (gC (D.bl true)) gaNil)) (gaCons (gC D.non) (gaCons (gC (D.int 5)) (gaCons (gaTup (gaCons (gC (D.str "0")) gaNil)) gaNil)))))))))) [x0, x1, x2, x3, x4, x5, x6, x7, x8, x9, x10, x11, x12, x13, x14, x15, x16] = .ok (bads2, [x0, x1, x2, x3, x4, x5, x6, x7, x8, x9, x10, x11, x12, x13, x14, x15, x16]) := by
    simp [bads2]
  rw [rFor_eq w]
  obtain ⟨δ', e, y15, rfl⟩ := forR_inv (t := tgN 15) (f := body13_law c) bads2 (fun i δ => ∃ y15, δ = [x0, x1, x2, x3, x4, x5, x6, x7, x8, x9, x10, x11, x12, x13, x14, y15, x16]) [x0, x1, x2, x3, x4, x5, x6, x7, x8, x9, x10, x11, x12, x13, x14, x15, x16] (fun i d δ hd h => by
    obtain ⟨y15, rfl⟩ := h
    exact ⟨_, rfl, _, b13_law c d (List.mem_of_getElem? hd) x0 x1 x2 x3 x4 x5 x6 x7 x8 x9 x10 x11 x12 x13 x14 x16, _, rfl⟩) ⟨x15, rfl⟩
  exact ⟨y15, e⟩
/-! ### the end -/
theorem fin1 (c : Cs) : phi_starts c [.fz (.tup [.int 4, .int 4, .int 2])] = .ok (.fz (.tup [.int 0, .int 2, .int 1]), []) := by
  have h := starts_ok c false [4, 4, 2] (per_of (by simp) (by simp))
  have s : Sx [4, 4, 2] 3 [] = some [0, 2, 1] := by decide +kernel
  have h' : phi_starts c [.fz (.tup [.int 4, .int 4, .int 2])] = .ok (.fz (optT (Sx [4, 4, 2] 3 [])), []) := h
  rw [h', s]; rfl
theorem fin2 (c : Cs) : phi_starts c [.fz (.tup [])] = .ok (.fz (.tup []), []) := starts_ok c false [] (per_of (by simp) (by simp))
theorem fin3 (c : Cs) : phi_busy_days c [.fz (.tup []), .fz (.tup [])] = .ok (.fz (.tup [.int 1, .tup []]), []) := by
  have h := busy_days_ok c [] [] (per_of (by simp) (by simp)) rfl (by simp)
  rw [if_pos (by rfl)] at h
  exact h
theorem fin4 (c : Cs) : phi_starts c [.fz (.tup [.int 12, .int 12, .int 12, .int 12, .int 12])] = .ok (.fz (.tup [.int 0, .int 1, .int 2, .int 3, .int 4]), []) := by
  have h := starts_ok c false [12, 12, 12, 12, 12] (per_of (by simp) (by simp))
  have s : Sx [12, 12, 12, 12, 12] 5 [] = some [0, 1, 2, 3, 4] := by decide +kernel
  have h' : phi_starts c [.fz (.tup [.int 12, .int 12, .int 12, .int 12, .int 12])] = .ok (.fz (optT (Sx [12, 12, 12, 12, 12] 5 [])), []) := h
  rw [h', s]; rfl
theorem fin5 (c : Cs) : phi_starts_prove c [.fz (.tup [.int 2]), .fz (.tup [.int 5])] = .ok (.fz (.bl false), []) :=
  starts_prove_ok c false false [2] [5] (per_of (by simp) (by simp)) rfl (by simp)
theorem sta (Φ1 Φ2 : Ph) (a b : D) (h2 : Φ2 [.fz (.tup [.int 4, .int 4, .int 2])] = .ok (.fz (.tup [.int 0, .int 2, .int 1]), [])) (h1 : Φ1 [.fz (.tup [.int 0, .int 2, .int 1]), .fz (.tup [.int 0, .int 2, .int 1])] = .ok (.fz (.bl true), [])) (x0 : Option O) (xs : DEnv) :
    rIf (gNot (gB (gZ (gCall 2 [] Φ1 (gAD (gZ (gCall 1 [] Φ2 (gAD (gaTup (gaCons (gC (D.int 4)) (gaCons (gC (D.int 4)) (gaCons (gC (D.int 2)) gaNil)))) gANil))) (gAD (gaTup (gaCons (gC (D.int 0)) (gaCons (gC (D.int 2)) (gaCons (gC (D.int 1)) gaNil)))) gANil)))))) (rRet (gO (gC (D.bl false)))) rNext (x0 :: xs) = .ok (.nx (x0 :: xs)) := by
  simp [h1, h2]
theorem stb (Φ1 Φ2 Φ3 Φ4 : Ph) (so : ∀ d, soOk 4 d = true → Φ1 [.fz d, .fz d] = .ok (.fz (.bl true), [])) (f2 : Φ2 [.fz (.tup [])] = .ok (.fz (.tup []), [])) (f3 : Φ3 [.fz (.tup []), .fz (.tup [])] = .ok (.fz (.tup [.int 1, .tup []]), []))
    (f4 : Φ2 [.fz (.tup [.int 12, .int 12, .int 12, .int 12, .int 12])] = .ok (.fz (.tup [.int 0, .int 1, .int 2, .int 3, .int 4]), [])) (f5 : Φ4 [.fz (.tup [.int 2]), .fz (.tup [.int 5])] = .ok (.fz (.bl false), [])) (x0 : Option O) (xs : DEnv) :
    rRet (gO (gAndV (gZ (gCall 2 [] Φ1 (gAD (gZ (gCall 1 [] Φ2 (gAD (gaTup gaNil) gANil))) (gAD (gaTup gaNil) gANil)))) (gAndV (gZ (gCall 2 [] Φ1 (gAD (gZ (gCall 2 [] Φ3 (gAD (gaTup gaNil) (gAD (gaTup gaNil) gANil)))) (gAD (gaTup (gaCons (gC (D.int 1)) (gaCons (gaTup gaNil) gaNil))) gANil)))) (gAndV (gZ (gCall 2 [] Φ1 (gAD (gZ (gCall 1 [] Φ2 (gAD (gaTup (gaCons (gC (D.int 12)) (gaCons (gC (D.int 12)) (gaCons (gC (D.int 12)) (gaCons (gC (D.int 12)) (gaCons (gC (D.int 12)) gaNil)))))) gANil))) (gAD (gaTup (gaCons (gC (D.int 0)) (gaCons (gC (D.int 1)) (gaCons (gC (D.int 2)) (gaCons (gC (D.int 3)) (gaCons (gC (D.int 4)) gaNil)))))) gANil)))) (gZ (gCall 2 [] Φ1 (gAD (gZ (gCall 2 [] Φ4 (gAD (gaTup (gaCons (gC (D.int 2)) gaNil)) (gAD (gaTup (gaCons (gC (D.int 5)) gaNil)) gANil)))) (gAD (gC (D.bl false)) gANil)))))))) (x0 :: xs) = .ok (.rt (.fz (.bl true)) (x0 :: xs)) := by
  have s1 := so (.tup []) rfl
  have s2 := so (.tup [.int 1, .tup []]) rfl
  have s3 := so (.tup [.int 0, .int 1, .int 2, .int 3, .int 4]) rfl
  have s4 := so (.bl false) rfl
  simp [f2, f3, f4, f5, s1, s2, s3, s4]
end DL

namespace DL
open PySem L2
theorem law_true (c : Cs) (ns : List Int) (hs : Small ns) : phi_law c [scrO ns] = .ok (.fz (.bl true), []) := by
  obtain ⟨row, hr, e1⟩ := numbers_ok c ns hs.1
  rw [go_law]
  have S1 : rSet 1 (gCall 1 [] (phi_law_numbers c) (gAD (gV 0) gANil)) [some (scrO ns), none, none, none, none, none, none, none, none, none, none, none, none, none, none, none, none] = .ok (.nx [some (scrO ns), some (.fz (ints_ row)), none, none, none, none, none, none, none, none, none, none, none, none, none, none, none]) := by simp [e1]
  have S2 : rSet 2 (gaLst (gaCons (gC (D.int 0)) gaNil)) [some (scrO ns), some (.fz (ints_ row)), none, none, none, none, none, none, none, none, none, none, none, none, none, none, none] = .ok (.nx [some (scrO ns), some (.fz (ints_ row)), some (spotO 0), none, none, none, none, none, none, none, none, none, none, none, none, none, none]) := by simp
  unfold run_law
  rw [rSeq_nx S1, rSeq_nx S2]
  obtain ⟨x, hx, e3⟩ := pick_ok c row hr 0 menusD (by simp [menusD, menus])
  obtain ⟨m, hm, rfl⟩ := List.mem_map.mp hx
  rw [rSeq_nx (st3 c (phi_law_pick c) row 0 (.lst (intsD' m)) e3 ..)]
  obtain ⟨ps, p', hP, e4⟩ := st4 c row hr (0 + 1) m hm (some (scrO ns)) none none none none none none none none none none none none
  rw [rSeq_nx e4]
  have ls := law_starts_ok c ps hP ps.length 7 [] (by simp) (by have := hP.len; omega) Good.nil
  rw [rSeq_nx (st5 (phi_law_starts c 7) row p' (.tup (intsD' ps)) _ ls ..)]
  obtain ⟨b, e6⟩ := handed_ok c row ps hr p' (by have := hP.len; omega)
  have so := so_same c 4 _ (optT_so ps hP)
  rw [rSeq_nx (st6 (phi_law_so c 4) (phi_starts c) (phi_law_handed c) row p' (.tup (intsD' ps)) _ _ e6 (starts_ok c b ps hP) so ..)]
  obtain ⟨p'', y6, y7, y8, y9, y10, y11, y12, y13, y14, e7⟩ := st7 c row hr (p' + 1) ps hP (some (scrO ns)) (some (.fz (.lst (intsD' m)))) none none none none none none none none none none none (.inl rfl) (.inl rfl) (.inl rfl)
  rw [rSeq_nx e7]
  obtain ⟨y15, e8⟩ := st8 c (some (scrO ns)) (some (.fz (ints_ row))) (some (spotO p'')) (some (.fz (.lst (intsD' m)))) (some (.fz (.tup (intsD' ps)))) (some (.fz (optT (Sx ps ps.length [])))) y6 y7 y8 y9 y10 y11 y12 y13 y14 none none
  rw [rSeq_nx e8]
  obtain ⟨z15, e9⟩ := st9 c (some (scrO ns)) (some (.fz (ints_ row))) (some (spotO p'')) (some (.fz (.lst (intsD' m)))) (some (.fz (.tup (intsD' ps)))) (some (.fz (optT (Sx ps ps.length [])))) y6 y7 y8 y9 y10 y11 y12 y13 y14 y15 none
  rw [rSeq_nx e9]
  rw [rSeq_nx (sta (phi_law_so c 4) (phi_starts c) .non .non (fin1 c) (so_same c 4 _ rfl) _ _)]
  rw [stb (phi_law_so c 4) (phi_starts c) (phi_busy_days c) (phi_starts_prove c) (so_same c 4) (fin2 c) (fin3 c) (fin4 c) (fin5 c)]
  rfl
end DL

set_option maxHeartbeats 4000000
namespace DL
open PySem L2
theorem all_mk {l : PySem.W.OpenLaw} {w : World} {K : PySem.W.Frag} {h : Heap} {mg : Str → Option Value} {fa : Addr} (X : K.In h) (G : h.Ns mainGlobals mg) (hfa : mg "law" = some (.ref fa))
    {C_MendError C_BadValue C_BadText C_Unknown C_NoChance C_Crowded C_NoDay C_Missing C_TakenName C_Short N_BadValue N_BadText N_Unknown N_NoChance N_Crowded N_NoDay N_Missing N_TakenName N_Short f_BadValue_init f_law_told f_law_numbers f_law_draw f_law_take f_law_pick f_law_gcd f_law_apart_days f_law_starts f_law_so f_is_sequence f_is_row f_is_integer f_is_within f_check_periods f_meet f_meets_one f_next_start f_starts f_law_listed f_law_handed f_starts_prove f_check_starts f_busy_days f_law cc_law p_law : Addr} {dd_BadValue dd_BadText dd_Unknown dd_NoChance dd_Crowded dd_NoDay dd_Missing dd_TakenName dd_Short odEBadValue anEBadValue odT anT od0 an0 od1 an1 od2 an2 od3 an3 od4 an4 od5 an5 od6 an6 od7 an7 od8 an8 od9 an9 od10 an10 od11 an11 od12 an12 od13 an13 od14 an14 od15 an15 od16 an16 od17 an17 od18 an18 od19 an19 od20 an20 od21 an21 od22 an22 oq_law : Option Addr} {slEBadValue slT sl0 sl1 sl2 sl3 sl4 sl5 sl6 sl7 sl8 sl9 sl10 sl11 sl12 sl13 sl14 sl15 sl16 sl17 sl18 sl19 sl20 sl21 sl22 sq_law : Array (Option Value)} {ocEBadValue kVEBadValue dcEBadValue pmEBadValue cdEBadValue ctEBadValue ocT kVT dcT pmT cdT ctT oc0 kV0 dc0 pm0 cd0 ct0 oc1 kV1 dc1 pm1 cd1 ct1 oc2 kV2 dc2 pm2 cd2 ct2 oc3 kV3 dc3 pm3 cd3 ct3 oc4 kV4 dc4 pm4 cd4 ct4 oc5 kV5 dc5 pm5 cd5 ct5 oc6 kV6 dc6 pm6 cd6 ct6 oc7 kV7 dc7 pm7 cd7 ct7 oc8 kV8 dc8 pm8 cd8 ct8 oc9 kV9 dc9 pm9 cd9 ct9 oc10 kV10 dc10 pm10 cd10 ct10 oc11 kV11 dc11 pm11 cd11 ct11 oc12 kV12 dc12 pm12 cd12 ct12 oc13 kV13 dc13 pm13 cd13 ct13 oc14 kV14 dc14 pm14 cd14 ct14 oc15 kV15 dc15 pm15 cd15 ct15 oc16 kV16 dc16 pm16 cd16 ct16 oc17 kV17 dc17 pm17 cd17 ct17 oc18 kV18 dc18 pm18 cd18 ct18 oc19 kV19 dc19 pm19 cd19 ct19 oc20 kV20 dc20 pm20 cd20 ct20 oc21 kV21 dc21 pm21 cd21 ct21 oc22 kV22 dc22 pm22 ct22 : Value} {t_MOST_SERVICES t_MOST_PERIOD : Tok} {nm_BadValue qn_BadValue nm_BadText qn_BadText nm_Unknown qn_Unknown nm_NoChance qn_NoChance nm_Crowded qn_Crowded nm_NoDay qn_NoDay nm_Missing qn_Missing nm_TakenName qn_TakenName nm_Short qn_Short : Str} {bs_BadValue sb_BadValue bs_BadText sb_BadText bs_Unknown sb_Unknown bs_NoChance sb_NoChance bs_Crowded sb_Crowded bs_NoDay sb_NoDay bs_Missing sb_Missing bs_TakenName sb_TakenName bs_Short sb_Short : List Value} {sn_BadValue sn_BadText sn_Unknown sn_NoChance sn_Crowded sn_NoDay sn_Missing sn_TakenName sn_Short : List Str} {ab_BadValue ab_BadText ab_Unknown ab_NoChance ab_Crowded ab_NoDay ab_Missing ab_TakenName ab_Short : Bool} {co_BadValue co_BadText co_Unknown co_NoChance co_Crowded co_NoDay co_Missing co_TakenName co_Short : Option Bool} {k0_BadValue k1_BadValue k2_BadValue k3_BadValue k5_BadValue k0_BadText k1_BadText k2_BadText k3_BadText k5_BadText k0_Unknown k1_Unknown k2_Unknown k3_Unknown k5_Unknown k0_NoChance k1_NoChance k2_NoChance k3_NoChance k5_NoChance k0_Crowded k1_Crowded k2_Crowded k3_Crowded k5_Crowded k0_NoDay k1_NoDay k2_NoDay k3_NoDay k5_NoDay k0_Missing k1_Missing k2_Missing k3_Missing k5_Missing k0_TakenName k1_TakenName k2_TakenName k3_TakenName k5_TakenName k0_Short k1_Short k2_Short k3_Short k5_Short : Option Value} {vs_law : Array Value}
    (aC_BadValue : PySem.W.nsIn K mainGlobals "BadValue" = some (some (.ref C_BadValue)))
    (lE_BadValue : K.lookup C_BadValue = some (excClassObj nm_BadValue qn_BadValue C_BadValue N_BadValue bs_BadValue (.ref C_MendError :: tailE) true sn_BadValue sb_BadValue ab_BadValue co_BadValue dd_BadValue k0_BadValue k1_BadValue k2_BadValue k3_BadValue k5_BadValue "Exception.__new__"))
    (xa_BadValue : PySem.W.findIn K (.ref C_BadValue) "__getattribute__" = some (some (.builtin "BaseException.__getattribute__")))
    (xg_BadValue : PySem.W.findIn K (.ref C_BadValue) "__getattr__" = some none)
    (xb_BadValue : PySem.W.subIn K (.ref C_BadValue) (.type "BaseException") = some true)
    (xd_BadValue : PySem.W.hasDictIn K C_BadValue = true)
    (xn_BadValue_at : PySem.W.findIn K (.ref C_BadValue) "at" = some none)
    (aC_BadText : PySem.W.nsIn K mainGlobals "BadText" = some (some (.ref C_BadText)))
    (lE_BadText : K.lookup C_BadText = some (excClassObj nm_BadText qn_BadText C_BadText N_BadText bs_BadText (.ref C_MendError :: tailE) true sn_BadText sb_BadText ab_BadText co_BadText dd_BadText k0_BadText k1_BadText k2_BadText k3_BadText k5_BadText "Exception.__new__"))
    (xa_BadText : PySem.W.findIn K (.ref C_BadText) "__getattribute__" = some (some (.builtin "BaseException.__getattribute__")))
    (xg_BadText : PySem.W.findIn K (.ref C_BadText) "__getattr__" = some none)
    (xb_BadText : PySem.W.subIn K (.ref C_BadText) (.type "BaseException") = some true)
    (xd_BadText : PySem.W.hasDictIn K C_BadText = true)
    (xn_BadText_at : PySem.W.findIn K (.ref C_BadText) "at" = some none)
    (aC_Unknown : PySem.W.nsIn K mainGlobals "Unknown" = some (some (.ref C_Unknown)))
    (lE_Unknown : K.lookup C_Unknown = some (excClassObj nm_Unknown qn_Unknown C_Unknown N_Unknown bs_Unknown (.ref C_MendError :: tailE) true sn_Unknown sb_Unknown ab_Unknown co_Unknown dd_Unknown k0_Unknown k1_Unknown k2_Unknown k3_Unknown k5_Unknown "Exception.__new__"))
    (xa_Unknown : PySem.W.findIn K (.ref C_Unknown) "__getattribute__" = some (some (.builtin "BaseException.__getattribute__")))
    (xg_Unknown : PySem.W.findIn K (.ref C_Unknown) "__getattr__" = some none)
    (xb_Unknown : PySem.W.subIn K (.ref C_Unknown) (.type "BaseException") = some true)
    (xd_Unknown : PySem.W.hasDictIn K C_Unknown = true)
    (xn_Unknown_name : PySem.W.findIn K (.ref C_Unknown) "name" = some none)
    (aC_NoChance : PySem.W.nsIn K mainGlobals "NoChance" = some (some (.ref C_NoChance)))
    (lE_NoChance : K.lookup C_NoChance = some (excClassObj nm_NoChance qn_NoChance C_NoChance N_NoChance bs_NoChance (.ref C_MendError :: tailE) true sn_NoChance sb_NoChance ab_NoChance co_NoChance dd_NoChance k0_NoChance k1_NoChance k2_NoChance k3_NoChance k5_NoChance "Exception.__new__"))
    (xa_NoChance : PySem.W.findIn K (.ref C_NoChance) "__getattribute__" = some (some (.builtin "BaseException.__getattribute__")))
    (xg_NoChance : PySem.W.findIn K (.ref C_NoChance) "__getattr__" = some none)
    (xb_NoChance : PySem.W.subIn K (.ref C_NoChance) (.type "BaseException") = some true)
    (xd_NoChance : PySem.W.hasDictIn K C_NoChance = true)
    (xn_NoChance_word : PySem.W.findIn K (.ref C_NoChance) "word" = some none)
    (aC_Crowded : PySem.W.nsIn K mainGlobals "Crowded" = some (some (.ref C_Crowded)))
    (lE_Crowded : K.lookup C_Crowded = some (excClassObj nm_Crowded qn_Crowded C_Crowded N_Crowded bs_Crowded (.ref C_MendError :: tailE) true sn_Crowded sb_Crowded ab_Crowded co_Crowded dd_Crowded k0_Crowded k1_Crowded k2_Crowded k3_Crowded k5_Crowded "Exception.__new__"))
    (xa_Crowded : PySem.W.findIn K (.ref C_Crowded) "__getattribute__" = some (some (.builtin "BaseException.__getattribute__")))
    (xg_Crowded : PySem.W.findIn K (.ref C_Crowded) "__getattr__" = some none)
    (xb_Crowded : PySem.W.subIn K (.ref C_Crowded) (.type "BaseException") = some true)
    (xd_Crowded : PySem.W.hasDictIn K C_Crowded = true)
    (xn_Crowded_first : PySem.W.findIn K (.ref C_Crowded) "first" = some none)
    (xn_Crowded_last : PySem.W.findIn K (.ref C_Crowded) "last" = some none)
    (aC_NoDay : PySem.W.nsIn K mainGlobals "NoDay" = some (some (.ref C_NoDay)))
    (lE_NoDay : K.lookup C_NoDay = some (excClassObj nm_NoDay qn_NoDay C_NoDay N_NoDay bs_NoDay (.ref C_MendError :: tailE) true sn_NoDay sb_NoDay ab_NoDay co_NoDay dd_NoDay k0_NoDay k1_NoDay k2_NoDay k3_NoDay k5_NoDay "Exception.__new__"))
    (xa_NoDay : PySem.W.findIn K (.ref C_NoDay) "__getattribute__" = some (some (.builtin "BaseException.__getattribute__")))
    (xg_NoDay : PySem.W.findIn K (.ref C_NoDay) "__getattr__" = some none)
    (xb_NoDay : PySem.W.subIn K (.ref C_NoDay) (.type "BaseException") = some true)
    (xd_NoDay : PySem.W.hasDictIn K C_NoDay = true)
    (xn_NoDay_name : PySem.W.findIn K (.ref C_NoDay) "name" = some none)
    (aC_Missing : PySem.W.nsIn K mainGlobals "Missing" = some (some (.ref C_Missing)))
    (lE_Missing : K.lookup C_Missing = some (excClassObj nm_Missing qn_Missing C_Missing N_Missing bs_Missing (.ref C_MendError :: tailE) true sn_Missing sb_Missing ab_Missing co_Missing dd_Missing k0_Missing k1_Missing k2_Missing k3_Missing k5_Missing "Exception.__new__"))
    (xa_Missing : PySem.W.findIn K (.ref C_Missing) "__getattribute__" = some (some (.builtin "BaseException.__getattribute__")))
    (xg_Missing : PySem.W.findIn K (.ref C_Missing) "__getattr__" = some none)
    (xb_Missing : PySem.W.subIn K (.ref C_Missing) (.type "BaseException") = some true)
    (xd_Missing : PySem.W.hasDictIn K C_Missing = true)
    (xn_Missing_at : PySem.W.findIn K (.ref C_Missing) "at" = some none)
    (aC_TakenName : PySem.W.nsIn K mainGlobals "TakenName" = some (some (.ref C_TakenName)))
    (lE_TakenName : K.lookup C_TakenName = some (excClassObj nm_TakenName qn_TakenName C_TakenName N_TakenName bs_TakenName (.ref C_MendError :: tailE) true sn_TakenName sb_TakenName ab_TakenName co_TakenName dd_TakenName k0_TakenName k1_TakenName k2_TakenName k3_TakenName k5_TakenName "Exception.__new__"))
    (xa_TakenName : PySem.W.findIn K (.ref C_TakenName) "__getattribute__" = some (some (.builtin "BaseException.__getattribute__")))
    (xg_TakenName : PySem.W.findIn K (.ref C_TakenName) "__getattr__" = some none)
    (xb_TakenName : PySem.W.subIn K (.ref C_TakenName) (.type "BaseException") = some true)
    (xd_TakenName : PySem.W.hasDictIn K C_TakenName = true)
    (xn_TakenName_name : PySem.W.findIn K (.ref C_TakenName) "name" = some none)
    (aC_Short : PySem.W.nsIn K mainGlobals "Short" = some (some (.ref C_Short)))
    (lE_Short : K.lookup C_Short = some (excClassObj nm_Short qn_Short C_Short N_Short bs_Short (.ref C_MendError :: tailE) true sn_Short sb_Short ab_Short co_Short dd_Short k0_Short k1_Short k2_Short k3_Short k5_Short "Exception.__new__"))
    (xa_Short : PySem.W.findIn K (.ref C_Short) "__getattribute__" = some (some (.builtin "BaseException.__getattribute__")))
    (xg_Short : PySem.W.findIn K (.ref C_Short) "__getattr__" = some none)
    (xb_Short : PySem.W.subIn K (.ref C_Short) (.type "BaseException") = some true)
    (xd_Short : PySem.W.hasDictIn K C_Short = true)
    (xn_Short_rows : PySem.W.findIn K (.ref C_Short) "rows" = some none)
    (sa_BadValue : PySem.W.findIn K (.ref C_BadValue) "__setattr__" = some (some (.builtin "object.__setattr__")))
    (xt_BadValue : PySem.W.typeIn K (.ref C_BadValue) = some (.type "type"))
    (kc_BadValue : PySem.W.keepIn K (.ref C_BadValue) = true)
    (aEBadValue : PySem.W.findIn K (.ref C_BadValue) "__init__" = some (some (.ref f_BadValue_init)))
    (iEBadValue : PySem.W.typeIn K (.ref f_BadValue_init) = some (.type "function"))
    (lEBadValue : K.lookup f_BadValue_init = some ⟨ocEBadValue, odEBadValue, .func (PySem.W.fnOf "__init__" "BadValue.__init__" (defArgs s_BadValue_init) (defBody s_BadValue_init) (defScope s_BadValue_init) .none kVEBadValue dcEBadValue pmEBadValue anEBadValue cdEBadValue ctEBadValue), slEBadValue⟩)
    (cEBadValue : PySem.W.codeIn K cdEBadValue "BadValue.__init__" = true)
    (kEBadValue : PySem.W.keepIn K (.ref f_BadValue_init) = true)
    (aT : PySem.W.nsIn K mainGlobals "_law_told" = some (some (.ref f_law_told)))
    (lT : K.lookup f_law_told = some ⟨ocT, odT, .func (PySem.W.fnOf "_law_told" "_law_told" (defArgs s_law_told) (defBody s_law_told) (defScope s_law_told) .none kVT dcT pmT anT cdT ctT), slT⟩)
    (cT : PySem.W.codeIn K cdT "_law_told" = true)
    (kT : PySem.W.keepIn K (.ref f_law_told) = true)
    (gm_gcd : PySem.W.nsIn K mainGlobals "gcd" = some (some (.builtin "math.gcd")))
    (gm_lcm : PySem.W.nsIn K mainGlobals "lcm" = some (some (.builtin "math.lcm")))
    (a0 : PySem.W.nsIn K mainGlobals "_law_numbers" = some (some (.ref f_law_numbers)))
    (l0 : K.lookup f_law_numbers = some ⟨oc0, od0, .func (PySem.W.fnOf "_law_numbers" "_law_numbers" (defArgs s_law_numbers) (defBody s_law_numbers) (defScope s_law_numbers) .none kV0 dc0 pm0 an0 cd0 ct0), sl0⟩)
    (c0 : PySem.W.codeIn K cd0 "_law_numbers" = true)
    (k0 : PySem.W.keepIn K (.ref f_law_numbers) = true)
    (a1 : PySem.W.nsIn K mainGlobals "_law_draw" = some (some (.ref f_law_draw)))
    (l1 : K.lookup f_law_draw = some ⟨oc1, od1, .func (PySem.W.fnOf "_law_draw" "_law_draw" (defArgs s_law_draw) (defBody s_law_draw) (defScope s_law_draw) .none kV1 dc1 pm1 an1 cd1 ct1), sl1⟩)
    (c1 : PySem.W.codeIn K cd1 "_law_draw" = true)
    (k1 : PySem.W.keepIn K (.ref f_law_draw) = true)
    (a2 : PySem.W.nsIn K mainGlobals "_law_take" = some (some (.ref f_law_take)))
    (l2 : K.lookup f_law_take = some ⟨oc2, od2, .func (PySem.W.fnOf "_law_take" "_law_take" (defArgs s_law_take) (defBody s_law_take) (defScope s_law_take) .none kV2 dc2 pm2 an2 cd2 ct2), sl2⟩)
    (c2 : PySem.W.codeIn K cd2 "_law_take" = true)
    (k2 : PySem.W.keepIn K (.ref f_law_take) = true)
    (a3 : PySem.W.nsIn K mainGlobals "_law_pick" = some (some (.ref f_law_pick)))
    (l3 : K.lookup f_law_pick = some ⟨oc3, od3, .func (PySem.W.fnOf "_law_pick" "_law_pick" (defArgs s_law_pick) (defBody s_law_pick) (defScope s_law_pick) .none kV3 dc3 pm3 an3 cd3 ct3), sl3⟩)
    (c3 : PySem.W.codeIn K cd3 "_law_pick" = true)
    (k3 : PySem.W.keepIn K (.ref f_law_pick) = true)
    (a4 : PySem.W.nsIn K mainGlobals "_law_gcd" = some (some (.ref f_law_gcd)))
    (l4 : K.lookup f_law_gcd = some ⟨oc4, od4, .func (PySem.W.fnOf "_law_gcd" "_law_gcd" (defArgs s_law_gcd) (defBody s_law_gcd) (defScope s_law_gcd) .none kV4 dc4 pm4 an4 cd4 ct4), sl4⟩)
    (c4 : PySem.W.codeIn K cd4 "_law_gcd" = true)
    (k4 : PySem.W.keepIn K (.ref f_law_gcd) = true)
    (a5 : PySem.W.nsIn K mainGlobals "_law_apart_days" = some (some (.ref f_law_apart_days)))
    (l5 : K.lookup f_law_apart_days = some ⟨oc5, od5, .func (PySem.W.fnOf "_law_apart_days" "_law_apart_days" (defArgs s_law_apart_days) (defBody s_law_apart_days) (defScope s_law_apart_days) .none kV5 dc5 pm5 an5 cd5 ct5), sl5⟩)
    (c5 : PySem.W.codeIn K cd5 "_law_apart_days" = true)
    (k5 : PySem.W.keepIn K (.ref f_law_apart_days) = true)
    (a6 : PySem.W.nsIn K mainGlobals "_law_starts" = some (some (.ref f_law_starts)))
    (l6 : K.lookup f_law_starts = some ⟨oc6, od6, .func (PySem.W.fnOf "_law_starts" "_law_starts" (defArgs s_law_starts) (defBody s_law_starts) (defScope s_law_starts) .none kV6 dc6 pm6 an6 cd6 ct6), sl6⟩)
    (c6 : PySem.W.codeIn K cd6 "_law_starts" = true)
    (k6 : PySem.W.keepIn K (.ref f_law_starts) = true)
    (a7 : PySem.W.nsIn K mainGlobals "_law_so" = some (some (.ref f_law_so)))
    (l7 : K.lookup f_law_so = some ⟨oc7, od7, .func (PySem.W.fnOf "_law_so" "_law_so" (defArgs s_law_so) (defBody s_law_so) (defScope s_law_so) .none kV7 dc7 pm7 an7 cd7 ct7), sl7⟩)
    (c7 : PySem.W.codeIn K cd7 "_law_so" = true)
    (k7 : PySem.W.keepIn K (.ref f_law_so) = true)
    (a8 : PySem.W.nsIn K mainGlobals "is_sequence" = some (some (.ref f_is_sequence)))
    (l8 : K.lookup f_is_sequence = some ⟨oc8, od8, .func (PySem.W.fnOf "is_sequence" "is_sequence" (defArgs s_is_sequence) (defBody s_is_sequence) (defScope s_is_sequence) .none kV8 dc8 pm8 an8 cd8 ct8), sl8⟩)
    (c8 : PySem.W.codeIn K cd8 "is_sequence" = true)
    (k8 : PySem.W.keepIn K (.ref f_is_sequence) = true)
    (a9 : PySem.W.nsIn K mainGlobals "is_row" = some (some (.ref f_is_row)))
    (l9 : K.lookup f_is_row = some ⟨oc9, od9, .func (PySem.W.fnOf "is_row" "is_row" (defArgs s_is_row) (defBody s_is_row) (defScope s_is_row) .none kV9 dc9 pm9 an9 cd9 ct9), sl9⟩)
    (c9 : PySem.W.codeIn K cd9 "is_row" = true)
    (k9 : PySem.W.keepIn K (.ref f_is_row) = true)
    (a10 : PySem.W.nsIn K mainGlobals "is_integer" = some (some (.ref f_is_integer)))
    (l10 : K.lookup f_is_integer = some ⟨oc10, od10, .func (PySem.W.fnOf "is_integer" "is_integer" (defArgs s_is_integer) (defBody s_is_integer) (defScope s_is_integer) .none kV10 dc10 pm10 an10 cd10 ct10), sl10⟩)
    (c10 : PySem.W.codeIn K cd10 "is_integer" = true)
    (k10 : PySem.W.keepIn K (.ref f_is_integer) = true)
    (a11 : PySem.W.nsIn K mainGlobals "is_within" = some (some (.ref f_is_within)))
    (l11 : K.lookup f_is_within = some ⟨oc11, od11, .func (PySem.W.fnOf "is_within" "is_within" (defArgs s_is_within) (defBody s_is_within) (defScope s_is_within) .none kV11 dc11 pm11 an11 cd11 ct11), sl11⟩)
    (c11 : PySem.W.codeIn K cd11 "is_within" = true)
    (k11 : PySem.W.keepIn K (.ref f_is_within) = true)
    (a12 : PySem.W.nsIn K mainGlobals "check_periods" = some (some (.ref f_check_periods)))
    (l12 : K.lookup f_check_periods = some ⟨oc12, od12, .func (PySem.W.fnOf "check_periods" "check_periods" (defArgs s_check_periods) (defBody s_check_periods) (defScope s_check_periods) .none kV12 dc12 pm12 an12 cd12 ct12), sl12⟩)
    (c12 : PySem.W.codeIn K cd12 "check_periods" = true)
    (k12 : PySem.W.keepIn K (.ref f_check_periods) = true)
    (a13 : PySem.W.nsIn K mainGlobals "meet" = some (some (.ref f_meet)))
    (l13 : K.lookup f_meet = some ⟨oc13, od13, .func (PySem.W.fnOf "meet" "meet" (defArgs s_meet) (defBody s_meet) (defScope s_meet) .none kV13 dc13 pm13 an13 cd13 ct13), sl13⟩)
    (c13 : PySem.W.codeIn K cd13 "meet" = true)
    (k13 : PySem.W.keepIn K (.ref f_meet) = true)
    (a14 : PySem.W.nsIn K mainGlobals "meets_one" = some (some (.ref f_meets_one)))
    (l14 : K.lookup f_meets_one = some ⟨oc14, od14, .func (PySem.W.fnOf "meets_one" "meets_one" (defArgs s_meets_one) (defBody s_meets_one) (defScope s_meets_one) .none kV14 dc14 pm14 an14 cd14 ct14), sl14⟩)
    (c14 : PySem.W.codeIn K cd14 "meets_one" = true)
    (k14 : PySem.W.keepIn K (.ref f_meets_one) = true)
    (a15 : PySem.W.nsIn K mainGlobals "next_start" = some (some (.ref f_next_start)))
    (l15 : K.lookup f_next_start = some ⟨oc15, od15, .func (PySem.W.fnOf "next_start" "next_start" (defArgs s_next_start) (defBody s_next_start) (defScope s_next_start) .none kV15 dc15 pm15 an15 cd15 ct15), sl15⟩)
    (c15 : PySem.W.codeIn K cd15 "next_start" = true)
    (k15 : PySem.W.keepIn K (.ref f_next_start) = true)
    (a16 : PySem.W.nsIn K mainGlobals "starts" = some (some (.ref f_starts)))
    (l16 : K.lookup f_starts = some ⟨oc16, od16, .func (PySem.W.fnOf "starts" "starts" (defArgs s_starts) (defBody s_starts) (defScope s_starts) .none kV16 dc16 pm16 an16 cd16 ct16), sl16⟩)
    (c16 : PySem.W.codeIn K cd16 "starts" = true)
    (k16 : PySem.W.keepIn K (.ref f_starts) = true)
    (a17 : PySem.W.nsIn K mainGlobals "_law_listed" = some (some (.ref f_law_listed)))
    (l17 : K.lookup f_law_listed = some ⟨oc17, od17, .func (PySem.W.fnOf "_law_listed" "_law_listed" (defArgs s_law_listed) (defBody s_law_listed) (defScope s_law_listed) .none kV17 dc17 pm17 an17 cd17 ct17), sl17⟩)
    (c17 : PySem.W.codeIn K cd17 "_law_listed" = true)
    (k17 : PySem.W.keepIn K (.ref f_law_listed) = true)
    (a18 : PySem.W.nsIn K mainGlobals "_law_handed" = some (some (.ref f_law_handed)))
    (l18 : K.lookup f_law_handed = some ⟨oc18, od18, .func (PySem.W.fnOf "_law_handed" "_law_handed" (defArgs s_law_handed) (defBody s_law_handed) (defScope s_law_handed) .none kV18 dc18 pm18 an18 cd18 ct18), sl18⟩)
    (c18 : PySem.W.codeIn K cd18 "_law_handed" = true)
    (k18 : PySem.W.keepIn K (.ref f_law_handed) = true)
    (a19 : PySem.W.nsIn K mainGlobals "starts_prove" = some (some (.ref f_starts_prove)))
    (l19 : K.lookup f_starts_prove = some ⟨oc19, od19, .func (PySem.W.fnOf "starts_prove" "starts_prove" (defArgs s_starts_prove) (defBody s_starts_prove) (defScope s_starts_prove) .none kV19 dc19 pm19 an19 cd19 ct19), sl19⟩)
    (c19 : PySem.W.codeIn K cd19 "starts_prove" = true)
    (k19 : PySem.W.keepIn K (.ref f_starts_prove) = true)
    (a20 : PySem.W.nsIn K mainGlobals "check_starts" = some (some (.ref f_check_starts)))
    (l20 : K.lookup f_check_starts = some ⟨oc20, od20, .func (PySem.W.fnOf "check_starts" "check_starts" (defArgs s_check_starts) (defBody s_check_starts) (defScope s_check_starts) .none kV20 dc20 pm20 an20 cd20 ct20), sl20⟩)
    (c20 : PySem.W.codeIn K cd20 "check_starts" = true)
    (k20 : PySem.W.keepIn K (.ref f_check_starts) = true)
    (a21 : PySem.W.nsIn K mainGlobals "busy_days" = some (some (.ref f_busy_days)))
    (l21 : K.lookup f_busy_days = some ⟨oc21, od21, .func (PySem.W.fnOf "busy_days" "busy_days" (defArgs s_busy_days) (defBody s_busy_days) (defScope s_busy_days) .none kV21 dc21 pm21 an21 cd21 ct21), sl21⟩)
    (c21 : PySem.W.codeIn K cd21 "busy_days" = true)
    (k21 : PySem.W.keepIn K (.ref f_busy_days) = true)
    (a22 : PySem.W.nsIn K mainGlobals "law" = some (some (.ref f_law)))
    (l22 : K.lookup f_law = some ⟨oc22, od22, .func (PySem.W.fnOf "law" "law" (defArgs s_law) (defBody s_law) (defScope s_law) .none kV22 dc22 pm22 an22 (.ref cc_law) ct22), sl22⟩)
    (c22 : PySem.W.codeIn K (.ref cc_law) "law" = true)
    (k22 : PySem.W.keepIn K (.ref f_law) = true)
    (q_law : K.lookup cc_law = some ⟨.type "code", oq_law, .fields vs_law, sq_law⟩)
    (qp_law : vs_law[11]? = some (.ref p_law))
    (qh_law : PySem.W.codeHdIn K cc_law p_law = true)
    (qn_law : K.lookup p_law = none)
    (qt_law : h.get? p_law = some { cls := .none, data := .fields #[] })
    (z_range : PySem.W.nsIn K mainGlobals "range" = some none)
    (z_int : PySem.W.nsIn K mainGlobals "int" = some none)
    (z_len : PySem.W.nsIn K mainGlobals "len" = some none)
    (z_max : PySem.W.nsIn K mainGlobals "max" = some none)
    (z_isinstance : PySem.W.nsIn K mainGlobals "isinstance" = some none)
    (z_tuple : PySem.W.nsIn K mainGlobals "tuple" = some none)
    (z_bool : PySem.W.nsIn K mainGlobals "bool" = some none)
    (z_str : PySem.W.nsIn K mainGlobals "str" = some none)
    (z_list : PySem.W.nsIn K mainGlobals "list" = some none)
    (z_all : PySem.W.nsIn K mainGlobals "all" = some none)
    (z_enumerate : PySem.W.nsIn K mainGlobals "enumerate" = some none)
    (z_any : PySem.W.nsIn K mainGlobals "any" = some none)
    (z_zip : PySem.W.nsIn K mainGlobals "zip" = some none)
    (g_MOST_SERVICES : PySem.W.nsIn K mainGlobals "MOST_SERVICES" = some (some (.int 5 t_MOST_SERVICES)))
    (g_MOST_PERIOD : PySem.W.nsIn K mainGlobals "MOST_PERIOD" = some (some (.int 12 t_MOST_PERIOD)))
    (nd_C : [C_MendError, C_BadValue, C_BadText, C_Unknown, C_NoChance, C_Crowded, C_NoDay, C_Missing, C_TakenName, C_Short].Nodup)
    (nd_p : [p_law].Nodup)
    : ∃ (fd : FuncData) (cs : Tabl), (∀ p ∈ cs, h.get? p.1.2 = some { cls := .none, data := .fields #[] }) ∧ (∀ p ∈ cs, K.lookup p.1.2 = none) ∧ (∀ p ∈ cs, PySem.W.CodeHd h p.1.1 p.1.2) ∧ (∀ (s : Shared) (v : Value), BindsTo s fd ⟨[v], []⟩ [("script", v)]) ∧ ∀ base : Heap, K.In base → base.Ns mainGlobals mg → (∀ p ∈ cs, LamX.TabB base mg p.1.1 p.1.2) → FnOk l.prog w K mg base (L2.CX l.prog w) 10 fa fd ["script"] (spLT K cs) := by
  have e := hfa.symm.trans (PySem.W.mg_of X G a22)
  cases e
  have FEBadValue := fun_mk (st := s_BadValue_init) lEBadValue cEBadValue kEBadValue
  have bEBadValue := FEBadValue.binds (ps := ["self", "at"]) fun _ _ _ _ _ _ us hl => match us, hl with | [_, _], _ => rfl
  have FT := fun_mk (st := s_law_told) lT cT kT
  have bT := FT.binds (ps := ["deed"]) fun _ _ _ _ _ _ us hl => match us, hl with | [_], _ => rfl
  have F0 := fun_mk (st := s_law_numbers) l0 c0 k0
  have b0 := F0.binds (ps := ["script"]) fun _ _ _ _ _ _ us hl => match us, hl with | [_], _ => rfl
  have F1 := fun_mk (st := s_law_draw) l1 c1 k1
  have b1 := F1.binds (ps := ["row", "at", "limit"]) fun _ _ _ _ _ _ us hl => match us, hl with | [_, _, _], _ => rfl
  have F2 := fun_mk (st := s_law_take) l2 c2 k2
  have b2 := F2.binds (ps := ["row", "spot", "limit"]) fun _ _ _ _ _ _ us hl => match us, hl with | [_, _, _], _ => rfl
  have F3 := fun_mk (st := s_law_pick) l3 c3 k3
  have b3 := F3.binds (ps := ["row", "spot", "things"]) fun _ _ _ _ _ _ us hl => match us, hl with | [_, _, _], _ => rfl
  have F4 := fun_mk (st := s_law_gcd) l4 c4 k4
  have b4 := F4.binds (ps := ["one", "other"]) fun _ _ _ _ _ _ us hl => match us, hl with | [_, _], _ => rfl
  have F5 := fun_mk (st := s_law_apart_days) l5 c5 k5
  have b5 := F5.binds (ps := ["periods", "starts_at"]) fun _ _ _ _ _ _ us hl => match us, hl with | [_, _], _ => rfl
  have F6 := fun_mk (st := s_law_starts) l6 c6 k6
  have b6 := F6.binds (ps := ["periods", "made"]) fun _ _ _ _ _ _ us hl => match us, hl with | [_, _], _ => rfl
  have F7 := fun_mk (st := s_law_so) l7 c7 k7
  have b7 := F7.binds (ps := ["found", "meant"]) fun _ _ _ _ _ _ us hl => match us, hl with | [_, _], _ => rfl
  have F8 := fun_mk (st := s_is_sequence) l8 c8 k8
  have b8 := F8.binds (ps := ["x"]) fun _ _ _ _ _ _ us hl => match us, hl with | [_], _ => rfl
  have F9 := fun_mk (st := s_is_row) l9 c9 k9
  have b9 := F9.binds (ps := ["x", "least", "most"]) fun _ _ _ _ _ _ us hl => match us, hl with | [_, _, _], _ => rfl
  have F10 := fun_mk (st := s_is_integer) l10 c10 k10
  have b10 := F10.binds (ps := ["x"]) fun _ _ _ _ _ _ us hl => match us, hl with | [_], _ => rfl
  have F11 := fun_mk (st := s_is_within) l11 c11 k11
  have b11 := F11.binds (ps := ["x", "low", "high"]) fun _ _ _ _ _ _ us hl => match us, hl with | [_, _, _], _ => rfl
  have F12 := fun_mk (st := s_check_periods) l12 c12 k12
  have b12 := F12.binds (ps := ["periods"]) fun _ _ _ _ _ _ us hl => match us, hl with | [_], _ => rfl
  have F13 := fun_mk (st := s_meet) l13 c13 k13
  have b13 := F13.binds (ps := ["period", "start", "other", "begin"]) fun _ _ _ _ _ _ us hl => match us, hl with | [_, _, _, _], _ => rfl
  have F14 := fun_mk (st := s_meets_one) l14 c14 k14
  have b14 := F14.binds (ps := ["periods", "begun", "start"]) fun _ _ _ _ _ _ us hl => match us, hl with | [_, _, _], _ => rfl
  have F15 := fun_mk (st := s_next_start) l15 c15 k15
  have b15 := F15.binds (ps := ["periods", "begun", "least"]) fun _ _ _ _ _ _ us hl => match us, hl with | [_, _, _], _ => rfl
  have F16 := fun_mk (st := s_starts) l16 c16 k16
  have b16 := F16.binds (ps := ["periods"]) fun _ _ _ _ _ _ us hl => match us, hl with | [_], _ => rfl
  have F17 := fun_mk (st := s_law_listed) l17 c17 k17
  have b17 := F17.binds (ps := ["value"]) fun _ _ _ _ _ _ us hl => match us, hl with | [_], _ => rfl
  have F18 := fun_mk (st := s_law_handed) l18 c18 k18
  have b18 := F18.binds (ps := ["row", "spot", "value"]) fun _ _ _ _ _ _ us hl => match us, hl with | [_, _, _], _ => rfl
  have F19 := fun_mk (st := s_starts_prove) l19 c19 k19
  have b19 := F19.binds (ps := ["periods", "starts"]) fun _ _ _ _ _ _ us hl => match us, hl with | [_, _], _ => rfl
  have F20 := fun_mk (st := s_check_starts) l20 c20 k20
  have b20 := F20.binds (ps := ["periods", "starts"]) fun _ _ _ _ _ _ us hl => match us, hl with | [_, _], _ => rfl
  have F21 := fun_mk (st := s_busy_days) l21 c21 k21
  have b21 := F21.binds (ps := ["periods", "starts"]) fun _ _ _ _ _ _ us hl => match us, hl with | [_, _], _ => rfl
  have F22 := fun_mk (st := s_law) l22 c22 k22
  have b22 := F22.binds (ps := ["script"]) fun _ _ _ _ _ _ us hl => match us, hl with | [_], _ => rfl
  let T : Tx K mg := {
    c := ⟨C_MendError, C_BadValue, C_BadText, C_Unknown, C_NoChance, C_Crowded, C_NoDay, C_Missing, C_TakenName, C_Short, nd_C⟩,
    f_BadValue_init := f_BadValue_init,
    fd_BadValue_init := _,
    e_BadValue := ⟨FEBadValue, bEBadValue, aEBadValue, iEBadValue, xn_BadValue_at, ⟨⟨_, _, _, _, _, _, _, _, _, _, _, _, _, _, _, lE_BadValue⟩, sa_BadValue, xb_BadValue, xt_BadValue, kc_BadValue⟩, PySem.W.mg_of X G aC_BadValue⟩,
    f_law_told := f_law_told,
    fd_law_told := _,
    d_law_told := ⟨FT, bT, PySem.W.mg_of X G aT⟩,
    h_BadValue := PySem.W.mg_of X G aC_BadValue,
    x_BadValue := ⟨xa_BadValue, xg_BadValue, xb_BadValue, xd_BadValue⟩,
    ea_BadValue := ⟨_, _, _, _, _, _, _, _, _, _, _, _, _, _, lE_BadValue⟩,
    xn_BadValue_at := xn_BadValue_at,
    h_BadText := PySem.W.mg_of X G aC_BadText,
    x_BadText := ⟨xa_BadText, xg_BadText, xb_BadText, xd_BadText⟩,
    ea_BadText := ⟨_, _, _, _, _, _, _, _, _, _, _, _, _, _, lE_BadText⟩,
    xn_BadText_at := xn_BadText_at,
    h_Unknown := PySem.W.mg_of X G aC_Unknown,
    x_Unknown := ⟨xa_Unknown, xg_Unknown, xb_Unknown, xd_Unknown⟩,
    ea_Unknown := ⟨_, _, _, _, _, _, _, _, _, _, _, _, _, _, lE_Unknown⟩,
    xn_Unknown_name := xn_Unknown_name,
    h_NoChance := PySem.W.mg_of X G aC_NoChance,
    x_NoChance := ⟨xa_NoChance, xg_NoChance, xb_NoChance, xd_NoChance⟩,
    ea_NoChance := ⟨_, _, _, _, _, _, _, _, _, _, _, _, _, _, lE_NoChance⟩,
    xn_NoChance_word := xn_NoChance_word,
    h_Crowded := PySem.W.mg_of X G aC_Crowded,
    x_Crowded := ⟨xa_Crowded, xg_Crowded, xb_Crowded, xd_Crowded⟩,
    ea_Crowded := ⟨_, _, _, _, _, _, _, _, _, _, _, _, _, _, lE_Crowded⟩,
    xn_Crowded_first := xn_Crowded_first,
    xn_Crowded_last := xn_Crowded_last,
    h_NoDay := PySem.W.mg_of X G aC_NoDay,
    x_NoDay := ⟨xa_NoDay, xg_NoDay, xb_NoDay, xd_NoDay⟩,
    ea_NoDay := ⟨_, _, _, _, _, _, _, _, _, _, _, _, _, _, lE_NoDay⟩,
    xn_NoDay_name := xn_NoDay_name,
    h_Missing := PySem.W.mg_of X G aC_Missing,
    x_Missing := ⟨xa_Missing, xg_Missing, xb_Missing, xd_Missing⟩,
    ea_Missing := ⟨_, _, _, _, _, _, _, _, _, _, _, _, _, _, lE_Missing⟩,
    xn_Missing_at := xn_Missing_at,
    h_TakenName := PySem.W.mg_of X G aC_TakenName,
    x_TakenName := ⟨xa_TakenName, xg_TakenName, xb_TakenName, xd_TakenName⟩,
    ea_TakenName := ⟨_, _, _, _, _, _, _, _, _, _, _, _, _, _, lE_TakenName⟩,
    xn_TakenName_name := xn_TakenName_name,
    h_Short := PySem.W.mg_of X G aC_Short,
    x_Short := ⟨xa_Short, xg_Short, xb_Short, xd_Short⟩,
    ea_Short := ⟨_, _, _, _, _, _, _, _, _, _, _, _, _, _, lE_Short⟩,
    xn_Short_rows := xn_Short_rows,
    cc_law := cc_law,
    p_law := p_law,
    ca_law := ⟨_, _, _, _, _, _, _, _, _, _, _, _, _, l22⟩,
    nd_tabs := nd_p,
    m_gcd := PySem.W.mg_of X G gm_gcd,
    m_lcm := PySem.W.mg_of X G gm_lcm,
    f_law_numbers := f_law_numbers,
    fd_law_numbers := _,
    d_law_numbers := ⟨F0, b0, PySem.W.mg_of X G a0⟩,
    f_law_draw := f_law_draw,
    fd_law_draw := _,
    d_law_draw := ⟨F1, b1, PySem.W.mg_of X G a1⟩,
    f_law_take := f_law_take,
    fd_law_take := _,
    d_law_take := ⟨F2, b2, PySem.W.mg_of X G a2⟩,
    f_law_pick := f_law_pick,
    fd_law_pick := _,
    d_law_pick := ⟨F3, b3, PySem.W.mg_of X G a3⟩,
    f_law_gcd := f_law_gcd,
    fd_law_gcd := _,
    d_law_gcd := ⟨F4, b4, PySem.W.mg_of X G a4⟩,
    f_law_apart_days := f_law_apart_days,
    fd_law_apart_days := _,
    d_law_apart_days := ⟨F5, b5, PySem.W.mg_of X G a5⟩,
    f_law_starts := f_law_starts,
    fd_law_starts := _,
    d_law_starts := ⟨F6, b6, PySem.W.mg_of X G a6⟩,
    f_law_so := f_law_so,
    fd_law_so := _,
    d_law_so := ⟨F7, b7, PySem.W.mg_of X G a7⟩,
    f_is_sequence := f_is_sequence,
    fd_is_sequence := _,
    d_is_sequence := ⟨F8, b8, PySem.W.mg_of X G a8⟩,
    f_is_row := f_is_row,
    fd_is_row := _,
    d_is_row := ⟨F9, b9, PySem.W.mg_of X G a9⟩,
    f_is_integer := f_is_integer,
    fd_is_integer := _,
    d_is_integer := ⟨F10, b10, PySem.W.mg_of X G a10⟩,
    f_is_within := f_is_within,
    fd_is_within := _,
    d_is_within := ⟨F11, b11, PySem.W.mg_of X G a11⟩,
    f_check_periods := f_check_periods,
    fd_check_periods := _,
    d_check_periods := ⟨F12, b12, PySem.W.mg_of X G a12⟩,
    f_meet := f_meet,
    fd_meet := _,
    d_meet := ⟨F13, b13, PySem.W.mg_of X G a13⟩,
    f_meets_one := f_meets_one,
    fd_meets_one := _,
    d_meets_one := ⟨F14, b14, PySem.W.mg_of X G a14⟩,
    f_next_start := f_next_start,
    fd_next_start := _,
    d_next_start := ⟨F15, b15, PySem.W.mg_of X G a15⟩,
    f_starts := f_starts,
    fd_starts := _,
    d_starts := ⟨F16, b16, PySem.W.mg_of X G a16⟩,
    f_law_listed := f_law_listed,
    fd_law_listed := _,
    d_law_listed := ⟨F17, b17, PySem.W.mg_of X G a17⟩,
    f_law_handed := f_law_handed,
    fd_law_handed := _,
    d_law_handed := ⟨F18, b18, PySem.W.mg_of X G a18⟩,
    f_starts_prove := f_starts_prove,
    fd_starts_prove := _,
    d_starts_prove := ⟨F19, b19, PySem.W.mg_of X G a19⟩,
    f_check_starts := f_check_starts,
    fd_check_starts := _,
    d_check_starts := ⟨F20, b20, PySem.W.mg_of X G a20⟩,
    f_busy_days := f_busy_days,
    fd_busy_days := _,
    d_busy_days := ⟨F21, b21, PySem.W.mg_of X G a21⟩,
    f_law := fa,
    fd_law := _,
    d_law := ⟨F22, b22, PySem.W.mg_of X G a22⟩,
    n_range := PySem.W.mg_none_of X G z_range,
    n_int := PySem.W.mg_none_of X G z_int,
    n_len := PySem.W.mg_none_of X G z_len,
    n_max := PySem.W.mg_none_of X G z_max,
    n_isinstance := PySem.W.mg_none_of X G z_isinstance,
    n_tuple := PySem.W.mg_none_of X G z_tuple,
    n_bool := PySem.W.mg_none_of X G z_bool,
    n_str := PySem.W.mg_none_of X G z_str,
    n_list := PySem.W.mg_none_of X G z_list,
    n_all := PySem.W.mg_none_of X G z_all,
    n_enumerate := PySem.W.mg_none_of X G z_enumerate,
    n_any := PySem.W.mg_none_of X G z_any,
    n_zip := PySem.W.mg_none_of X G z_zip,
    t_MOST_SERVICES := t_MOST_SERVICES,
    c_MOST_SERVICES := PySem.W.mg_of X G g_MOST_SERVICES,
    t_MOST_PERIOD := t_MOST_PERIOD,
    c_MOST_PERIOD := PySem.W.mg_of X G g_MOST_PERIOD }
  refine ⟨PySem.W.fnOf "law" "law" (defArgs s_law) (defBody s_law) (defScope s_law) .none kV22 dc22 pm22 an22 (.ref cc_law) ct22, tabs T, (fun p hp => by
    simp only [tabs, T, List.mem_cons, List.not_mem_nil, or_false] at hp
    rcases hp with rfl
    · exact qt_law), (fun p hp => by
    simp only [tabs, T, List.mem_cons, List.not_mem_nil, or_false] at hp
    rcases hp with rfl
    · exact qn_law), (fun p hp => by
    simp only [tabs, T, List.mem_cons, List.not_mem_nil, or_false] at hp
    rcases hp with rfl
    · exact PySem.W.codeHd_of_K X qh_law), fun s v => .of_eq rfl, fun base _ _ hB => ?_⟩
  exact (ok_law (P := l.prog) (w := w) (base := base) T hB).imp (spLT_D fun ns hs => law_true T.c ns hs)
end DL
open PySem PySem.W PyProof.Rows
set_option maxRecDepth 100000 in
set_option maxHeartbeats 0 in
theorem PySem.Challenge.cw_mendplan_k88_whole_services_holds : PySem.Challenge.rw_mendplan_k88_whole_services.Holds := by
  w_on; o_law; k_head; (case hw => w_witness2)
  k_fill
  refine DL.walkDT (k := 10) (l := PySem.Challenge.rw_mendplan_k88_whole_services) ⟨rfl, by decide, by decide⟩ rfl rfl (fun w h Y => PySem.W.km_in_of Y) ?F
  case F =>
    intro w mg fa h Y KX G hmg
    refine' DL.all_mk KX G hmg ?aC_BadValue ?lE_BadValue ?xa_BadValue ?xg_BadValue ?xb_BadValue ?xd_BadValue ?xn_BadValue_at ?aC_BadText ?lE_BadText ?xa_BadText ?xg_BadText ?xb_BadText ?xd_BadText ?xn_BadText_at ?aC_Unknown ?lE_Unknown ?xa_Unknown ?xg_Unknown ?xb_Unknown ?xd_Unknown ?xn_Unknown_name ?aC_NoChance ?lE_NoChance ?xa_NoChance ?xg_NoChance ?xb_NoChance ?xd_NoChance ?xn_NoChance_word ?aC_Crowded ?lE_Crowded ?xa_Crowded ?xg_Crowded ?xb_Crowded ?xd_Crowded ?xn_Crowded_first ?xn_Crowded_last ?aC_NoDay ?lE_NoDay ?xa_NoDay ?xg_NoDay ?xb_NoDay ?xd_NoDay ?xn_NoDay_name ?aC_Missing ?lE_Missing ?xa_Missing ?xg_Missing ?xb_Missing ?xd_Missing ?xn_Missing_at ?aC_TakenName ?lE_TakenName ?xa_TakenName ?xg_TakenName ?xb_TakenName ?xd_TakenName ?xn_TakenName_name ?aC_Short ?lE_Short ?xa_Short ?xg_Short ?xb_Short ?xd_Short ?xn_Short_rows ?sa_BadValue ?xt_BadValue ?kc_BadValue ?aEBadValue ?iEBadValue ?lEBadValue ?cEBadValue ?kEBadValue ?aT ?lT ?cT ?kT ?gm_gcd ?gm_lcm ?a0 ?l0 ?c0 ?k0 ?a1 ?l1 ?c1 ?k1 ?a2 ?l2 ?c2 ?k2 ?a3 ?l3 ?c3 ?k3 ?a4 ?l4 ?c4 ?k4 ?a5 ?l5 ?c5 ?k5 ?a6 ?l6 ?c6 ?k6 ?a7 ?l7 ?c7 ?k7 ?a8 ?l8 ?c8 ?k8 ?a9 ?l9 ?c9 ?k9 ?a10 ?l10 ?c10 ?k10 ?a11 ?l11 ?c11 ?k11 ?a12 ?l12 ?c12 ?k12 ?a13 ?l13 ?c13 ?k13 ?a14 ?l14 ?c14 ?k14 ?a15 ?l15 ?c15 ?k15 ?a16 ?l16 ?c16 ?k16 ?a17 ?l17 ?c17 ?k17 ?a18 ?l18 ?c18 ?k18 ?a19 ?l19 ?c19 ?k19 ?a20 ?l20 ?c20 ?k20 ?a21 ?l21 ?c21 ?k21 ?a22 ?l22 ?c22 ?k22 ?q_law ?qp_law ?qh_law ?qn_law ?qt_law ?z_range ?z_int ?z_len ?z_max ?z_isinstance ?z_tuple ?z_bool ?z_str ?z_list ?z_all ?z_enumerate ?z_any ?z_zip ?g_MOST_SERVICES ?g_MOST_PERIOD ?nd_C ?nd_p
    (case aC_BadValue => k_is)
    (case lE_BadValue => k_is)
    (case xa_BadValue => k_is)
    (case xg_BadValue => k_is)
    (case xb_BadValue => k_is)
    (case xd_BadValue => k_is)
    (case xn_BadValue_at => k_is)
    (case aC_BadText => k_is)
    (case lE_BadText => k_is)
    (case xa_BadText => k_is)
    (case xg_BadText => k_is)
    (case xb_BadText => k_is)
    (case xd_BadText => k_is)
    (case xn_BadText_at => k_is)
    (case aC_Unknown => k_is)
    (case lE_Unknown => k_is)
    (case xa_Unknown => k_is)
    (case xg_Unknown => k_is)
    (case xb_Unknown => k_is)
    (case xd_Unknown => k_is)
    (case xn_Unknown_name => k_is)
    (case aC_NoChance => k_is)
    (case lE_NoChance => k_is)
    (case xa_NoChance => k_is)
    (case xg_NoChance => k_is)
    (case xb_NoChance => k_is)
    (case xd_NoChance => k_is)
    (case xn_NoChance_word => k_is)
    (case aC_Crowded => k_is)
    (case lE_Crowded => k_is)
    (case xa_Crowded => k_is)
    (case xg_Crowded => k_is)
    (case xb_Crowded => k_is)
    (case xd_Crowded => k_is)
    (case xn_Crowded_first => k_is)
    (case xn_Crowded_last => k_is)
    (case aC_NoDay => k_is)
    (case lE_NoDay => k_is)
    (case xa_NoDay => k_is)
    (case xg_NoDay => k_is)
    (case xb_NoDay => k_is)
    (case xd_NoDay => k_is)
    (case xn_NoDay_name => k_is)
    (case aC_Missing => k_is)
    (case lE_Missing => k_is)
    (case xa_Missing => k_is)
    (case xg_Missing => k_is)
    (case xb_Missing => k_is)
    (case xd_Missing => k_is)
    (case xn_Missing_at => k_is)
    (case aC_TakenName => k_is)
    (case lE_TakenName => k_is)
    (case xa_TakenName => k_is)
    (case xg_TakenName => k_is)
    (case xb_TakenName => k_is)
    (case xd_TakenName => k_is)
    (case xn_TakenName_name => k_is)
    (case aC_Short => k_is)
    (case lE_Short => k_is)
    (case xa_Short => k_is)
    (case xg_Short => k_is)
    (case xb_Short => k_is)
    (case xd_Short => k_is)
    (case xn_Short_rows => k_is)
    (case sa_BadValue => k_is)
    (case xt_BadValue => k_is)
    (case kc_BadValue => k_is)
    (case aEBadValue => k_is)
    (case iEBadValue => k_is)
    (case lEBadValue => k_is)
    (case cEBadValue => k_is)
    (case kEBadValue => k_is)
    (case aT => k_is)
    (case lT => k_is)
    (case cT => k_is)
    (case kT => k_is)
    (case gm_gcd => k_is)
    (case gm_lcm => k_is)
    (case a0 => k_is)
    (case l0 => k_is)
    (case c0 => k_is)
    (case k0 => k_is)
    (case a1 => k_is)
    (case l1 => k_is)
    (case c1 => k_is)
    (case k1 => k_is)
    (case a2 => k_is)
    (case l2 => k_is)
    (case c2 => k_is)
    (case k2 => k_is)
    (case a3 => k_is)
    (case l3 => k_is)
    (case c3 => k_is)
    (case k3 => k_is)
    (case a4 => k_is)
    (case l4 => k_is)
    (case c4 => k_is)
    (case k4 => k_is)
    (case a5 => k_is)
    (case l5 => k_is)
    (case c5 => k_is)
    (case k5 => k_is)
    (case a6 => k_is)
    (case l6 => k_is)
    (case c6 => k_is)
    (case k6 => k_is)
    (case a7 => k_is)
    (case l7 => k_is)
    (case c7 => k_is)
    (case k7 => k_is)
    (case a8 => k_is)
    (case l8 => k_is)
    (case c8 => k_is)
    (case k8 => k_is)
    (case a9 => k_is)
    (case l9 => k_is)
    (case c9 => k_is)
    (case k9 => k_is)
    (case a10 => k_is)
    (case l10 => k_is)
    (case c10 => k_is)
    (case k10 => k_is)
    (case a11 => k_is)
    (case l11 => k_is)
    (case c11 => k_is)
    (case k11 => k_is)
    (case a12 => k_is)
    (case l12 => k_is)
    (case c12 => k_is)
    (case k12 => k_is)
    (case a13 => k_is)
    (case l13 => k_is)
    (case c13 => k_is)
    (case k13 => k_is)
    (case a14 => k_is)
    (case l14 => k_is)
    (case c14 => k_is)
    (case k14 => k_is)
    (case a15 => k_is)
    (case l15 => k_is)
    (case c15 => k_is)
    (case k15 => k_is)
    (case a16 => k_is)
    (case l16 => k_is)
    (case c16 => k_is)
    (case k16 => k_is)
    (case a17 => k_is)
    (case l17 => k_is)
    (case c17 => k_is)
    (case k17 => k_is)
    (case a18 => k_is)
    (case l18 => k_is)
    (case c18 => k_is)
    (case k18 => k_is)
    (case a19 => k_is)
    (case l19 => k_is)
    (case c19 => k_is)
    (case k19 => k_is)
    (case a20 => k_is)
    (case l20 => k_is)
    (case c20 => k_is)
    (case k20 => k_is)
    (case a21 => k_is)
    (case l21 => k_is)
    (case c21 => k_is)
    (case k21 => k_is)
    (case a22 => k_is)
    (case l22 => k_is)
    (case c22 => k_is)
    (case k22 => k_is)
    (case q_law => k_is)
    (case qp_law => rfl)
    (case qh_law => kernel_rfl)
    (case qn_law => kernel_rfl)
    (case qt_law => exact PySem.W.km_tabs_of Y _ (by k_mem))
    (case z_range => k_is)
    (case z_int => k_is)
    (case z_len => k_is)
    (case z_max => k_is)
    (case z_isinstance => k_is)
    (case z_tuple => k_is)
    (case z_bool => k_is)
    (case z_str => k_is)
    (case z_list => k_is)
    (case z_all => k_is)
    (case z_enumerate => k_is)
    (case z_any => k_is)
    (case z_zip => k_is)
    (case g_MOST_SERVICES => k_is)
    (case g_MOST_PERIOD => k_is)
    (case nd_C => decide)
    (case nd_p => decide)

