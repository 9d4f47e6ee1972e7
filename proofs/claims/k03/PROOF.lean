import PyProof.Rows.All
import Wide.All
import OpenK.AllK
import Wide.FinOn
import HandS.Base
import HandS.Call
import HandS.List
import HandS.Comp
import HandS.Ends
import HandS.Dict
import HandS.Iter
import HandS.Text
import HandS.Words
import HandS.WordsList
import HandS.WordsDict
import HandS.Walk
import HandS.Exc
import HandS.TryOnly
import HandS.TryMany
import HandS.CallSlots
import HandS.WordsExc
import HandS.Wide
import HandS.TupAny
import HandS.Style
import HandS.IsInst
import HandS.Deep
import HandS.Conv
import HandS.NoneIn
import HandS.Small
import HandS.Zip
import HandS.Rev
import HandS.RevRange
import HandS.ExcOwn
import HandS.TupLen
import HandS.RaiseMore
import HandS.More
import HandS.SetFor
import HandS.Codes
import KE.GoesEnum
import KE.GoesMore
import PyProof.Rows.IntBool
import HandS.Strs
import KE.DataMinMax
import HandS.TupSets
import HandS.SetTxt0
import HandS.Set
import PyProof.ReprRoads
import PyProof.ReprBulk
import HandS.ExcIs
import KE.KIsAll
import KE.KDictZip
import HandS.OwnEq
import KE.BitLaws
import HandS.TupLe
import HandS.TupMul
import PySem.Challenge.RW_copystem_k03_rows_looked_at
set_option Elab.async false
set_option linter.all false
set_option maxRecDepth 100000
namespace Dl
open PySem L2

/-- data that stands still -/
inductive D where
  | non | bl (b : Bool) | int (i : Int) | str (s : Str)
  | ty (n : String) | cls (c : Str) | scr (ns : List Int) | ktp (ds : List D)
  | tup (ds : List D) | lst (ds : List D) | dct (t : Bool) (kvs : List (D × D)) | obj (c : Str) (fs : List (Str × D))
/-- what a slot holds: data that stands still, or what is the slot's own and may be changed -/
inductive L where
  | fz (d : D) | lst (ls : List L) | dct (t : Bool) (kvs : List (D × L)) | obj (c : Str) (fs : List (Str × L))

mutual
def L.toD : L → D
  | .fz d => d
  | .lst ls => .lst (L.toDs ls)
  | .dct t kvs => .dct t (L.toKs kvs)
  | .obj c fs => .obj c (L.toFs fs)
def L.toDs : List L → List D
  | [] => []
  | l :: ls => l.toD :: L.toDs ls
def L.toKs : List (D × L) → List (D × D)
  | [] => []
  | (k, l) :: ls => (k, l.toD) :: L.toKs ls
def L.toFs : List (Str × L) → List (Str × D)
  | [] => []
  | (k, l) :: ls => (k, l.toD) :: L.toFs ls
end
theorem toDs_map (ls : List L) : L.toDs ls = ls.map L.toD := by
  induction ls with
  | nil => rfl
  | cons l ls ih => simp [L.toDs, ih]
theorem toKs_map (ls : List (D × L)) : L.toKs ls = ls.map fun p => (p.1, p.2.toD) := by
  induction ls with
  | nil => rfl
  | cons l ls ih => obtain ⟨k, l⟩ := l; simp [L.toKs, ih]
theorem toFs_map (ls : List (Str × L)) : L.toFs ls = ls.map fun p => (p.1, p.2.toD) := by
  induction ls with
  | nil => rfl
  | cons l ls ih => obtain ⟨k, l⟩ := l; simp [L.toFs, ih]
theorem toDs_fz (ds : List D) : L.toDs (ds.map L.fz) = ds := by
  induction ds with
  | nil => rfl
  | cons d ds ih => simp [L.toDs, L.toD, ih]

mutual
def D.beq : D → D → Bool
  | .non, .non => true
  | .bl a, .bl b => a == b
  | .int a, .int b => a == b
  | .str a, .str b => decide (a = b)
  | .ty a, .ty b => a == b
  | .cls a, .cls b => decide (a = b)
  | .scr a, .scr b => a == b
  | .tup a, .tup b => D.beqs a b
  | .ktp a, .ktp b => D.beqs a b
  | .lst a, .lst b => D.beqs a b
  | .dct t a, .dct u b => t == u && D.beqk a b
  | .obj c a, .obj d b => decide (c = d) && D.beqf a b
  | _, _ => false
def D.beqs : List D → List D → Bool
  | [], [] => true
  | a :: as, b :: bs => D.beq a b && D.beqs as bs
  | _, _ => false
def D.beqk : List (D × D) → List (D × D) → Bool
  | [], [] => true
  | (k, a) :: as, (l, b) :: bs => D.beq k l && D.beq a b && D.beqk as bs
  | _, _ => false
def D.beqf : List (Str × D) → List (Str × D) → Bool
  | [], [] => true
  | (k, a) :: as, (l, b) :: bs => decide (k = l) && D.beq a b && D.beqf as bs
  | _, _ => false
end
mutual
theorem D.beq_iff : ∀ (a b : D), D.beq a b = true ↔ a = b
  | .non, b => by cases b <;> simp [D.beq]
  | .bl x, b => by cases b <;> simp [D.beq]
  | .int x, b => by cases b <;> simp [D.beq]
  | .str x, b => by cases b <;> simp [D.beq]
  | .ty x, b => by cases b <;> simp [D.beq]
  | .cls x, b => by cases b <;> simp [D.beq]
  | .scr x, b => by cases b <;> simp [D.beq]
  | .tup x, b => by cases b <;> simp [D.beq, D.beqs_iff x]
  | .ktp x, b => by cases b <;> simp [D.beq, D.beqs_iff x]
  | .lst x, b => by cases b <;> simp [D.beq, D.beqs_iff x]
  | .dct t x, b => by cases b <;> simp [D.beq, D.beqk_iff x]
  | .obj c x, b => by cases b <;> simp [D.beq, D.beqf_iff x]
theorem D.beqs_iff : ∀ (a b : List D), D.beqs a b = true ↔ a = b
  | [], b => by cases b <;> simp [D.beqs]
  | x :: xs, b => by cases b <;> simp [D.beqs, D.beq_iff x, D.beqs_iff xs]
theorem D.beqk_iff : ∀ (a b : List (D × D)), D.beqk a b = true ↔ a = b
  | [], b => by cases b <;> simp [D.beqk]
  | (k, x) :: xs, b => by
    cases b with
    | nil => simp [D.beqk]
    | cons y ys => obtain ⟨l, y⟩ := y; simp [D.beqk, D.beq_iff k, D.beq_iff x, D.beqk_iff xs, and_assoc]
theorem D.beqf_iff : ∀ (a b : List (Str × D)), D.beqf a b = true ↔ a = b
  | [], b => by cases b <;> simp [D.beqf]
  | (k, x) :: xs, b => by
    cases b with
    | nil => simp [D.beqf]
    | cons y ys => obtain ⟨l, y⟩ := y; simp [D.beqf, D.beq_iff x, D.beqf_iff xs, and_assoc]
end
instance : DecidableEq D := fun a b => decidable_of_iff _ (D.beq_iff a b)

def keyD : Key → D
  | .inl i => .int i
  | .inr s => .str s
def keyT (ks : List Key) : D := .tup (ks.map keyD)
theorem keyD_inj {a b : Key} (h : keyD a = keyD b) : a = b := by
  cases a <;> cases b <;> simp [keyD] at h <;> simp [h]
theorem keysD_inj : ∀ {a b : List Key}, a.map keyD = b.map keyD → a = b
  | [], [], _ => rfl
  | [], _ :: _, h => by simp at h
  | _ :: _, [], h => by simp at h
  | x :: xs, y :: ys, h => by
    simp at h
    rw [keyD_inj h.1, keysD_inj h.2]
theorem keyT_inj {a b : List Key} (h : keyT a = keyT b) : a = b := by
  unfold keyT at h
  injection h with h
  exact keysD_inj h

/-- a tuple whose object is known, and has no dict -/
def SqN (K : PySem.W.Frag) (G : Hp) (a : Addr) (ws : List V) : Prop := Rd G a (.tup ws) ∧ ∃ o : Obj, o.dict = none ∧ ((∃ u, G a = some (.frz o u)) ∨ K.lookup a = some o)
section
variable (K : PySem.W.Frag) (ct : Str → Option Addr)

/-- values that stand for data, in the still part of the heap -/
inductive Dt (G : Hp) : List D → List V → Prop where
  | nil : Dt G [] []
  | non {ds vs} : Dt G ds vs → Dt G (.non :: ds) (.non :: vs)
  | bl {b ds vs} : Dt G ds vs → Dt G (.bl b :: ds) (.bl b :: vs)
  | int {b ds vs} : Dt G ds vs → Dt G (.int b :: ds) (.int b :: vs)
  | str {b ds vs} : Dt G ds vs → Dt G (.str b :: ds) (.str b :: vs)
  | ty {n ds vs} : Dt G ds vs → Dt G (.ty n :: ds) (.ty n :: vs)
  | cls {c C ds vs} : ct c = some C → Dt G ds vs → Dt G (.cls c :: ds) (.ref C :: vs)
  | ktp {a ws es ds vs} : SqN K G a ws → Dt G es ws → Dt G ds vs → Dt G (.ktp es :: ds) (.ref a :: vs)
  | tup {a ws es ds vs} : Rd G a (.tup ws) → Dt G es ws → Dt G ds vs → Dt G (.tup es :: ds) (.ref a :: vs)
  | scr {a ns ds vs} : SqL K G a (ns.map V.int) → Dt G ds vs → Dt G (.scr ns :: ds) (.ref a :: vs)
  | lst {a ws es ds vs} : G a = some (.lst ws) → Dt G es ws → Dt G ds vs → Dt G (.lst es :: ds) (.ref a :: vs)
  | dK {a kvs es ds vs} : Rd G a (.dK kvs) → es.map (·.1) = kvs.map (fun p => keyD p.1) → Dt G (es.map (·.2)) (kvs.map (·.2)) → Dt G ds vs → Dt G (.dct false es :: ds) (.ref a :: vs)
  | dT {a kvs es ds vs} : Rd G a (.dT kvs) → es.map (·.1) = kvs.map (fun p => keyT p.1) → Dt G (es.map (·.2)) (kvs.map (·.2)) → Dt G ds vs → Dt G (.dct true es :: ds) (.ref a :: vs)
  | obj {a C dx fvs c fs ds vs} : G a = some (.ins C dx fvs) → ct c = some C → fs.map (·.1) = fvs.map (·.1) → Dt G (fs.map (·.2)) (fvs.map (·.2)) → Dt G ds vs → Dt G (.obj c fs :: ds) (.ref a :: vs)

/-- values that stand for what slots hold; fp: the addresses that are their own -/
inductive Ow (G H : Hp) : List (Option L) → List (Option V) → List Addr → Prop where
  | nil : Ow G H [] [] []
  | no {ls v vs fp} : Ow G H ls vs fp → Ow G H (none :: ls) (v :: vs) fp
  | fz {d v ls vs fp} : Dt K ct G [d] [v] → Ow G H ls vs fp → Ow G H (some (.fz d) :: ls) (some v :: vs) fp
  | lst {p ws ks f1 ls vs f2} : H p = some (.lst ws) → Ow G H (ks.map some) (ws.map some) f1 → Ow G H ls vs f2 → Ow G H (some (.lst ks) :: ls) (some (.ref p) :: vs) (p :: (f1 ++ f2))
  | dK {p kvs ks f1 ls vs f2} : H p = some (.dK kvs) → ks.map (·.1) = kvs.map (fun p => keyD p.1) → Ow G H (ks.map fun p => some p.2) (kvs.map fun p => some p.2) f1 → Ow G H ls vs f2 → Ow G H (some (.dct false ks) :: ls) (some (.ref p) :: vs) (p :: (f1 ++ f2))
  | dT {p kvs ks f1 ls vs f2} : H p = some (.dT kvs) → ks.map (·.1) = kvs.map (fun p => keyT p.1) → Ow G H (ks.map fun p => some p.2) (kvs.map fun p => some p.2) f1 → Ow G H ls vs f2 → Ow G H (some (.dct true ks) :: ls) (some (.ref p) :: vs) (p :: (f1 ++ f2))
  | obj {p C dx fvs c fs f1 ls vs f2} : H p = some (.ins C dx fvs) → ct c = some C → fs.map (·.1) = fvs.map (·.1) → Ow G H (fs.map fun p => some p.2) (fvs.map fun p => some p.2) f1 → Ow G H ls vs f2 → Ow G H (some (.obj c fs) :: ls) (some (.ref p) :: vs) (p :: (f1 ++ f2))
end

section
variable {K : PySem.W.Frag} {ct : Str → Option Addr} {G G' H H' : Hp}

theorem _root_.L2.Same.rd {G G' : Hp} (s : Same G G') {a u} (h : Rd G a u) : Rd G' a u := by
  rcases h with h | ⟨o, h⟩
  · exact .inl (s _ _ h)
  · exact .inr ⟨o, s _ _ h⟩
theorem _root_.L2.Same.sqT {G G' : Hp} (s : Same G G') {a u} (h : SqT K G a u) : SqT K G' a u := by
  rcases h with h | h
  · exact .inl (s.rd h)
  · exact .inr h
theorem _root_.L2.Same.sqL {G G' : Hp} (s : Same G G') {a u} (h : SqL K G a u) : SqL K G' a u := by
  rcases h with h | h
  · exact .inl (s.rd h)
  · exact .inr h

theorem _root_.L2.Same.sqN {G G' : Hp} (s : Same G G') {a u} (h : SqN K G a u) : SqN K G' a u := by
  obtain ⟨h, o, hd, h2⟩ := h
  refine ⟨s.rd h, o, hd, ?_⟩
  rcases h2 with ⟨u, h2⟩ | h2
  · exact .inl ⟨u, s _ _ h2⟩
  · exact .inr h2

theorem Dt.mono (s : Same G G') {ds vs} (h : Dt K ct G ds vs) : Dt K ct G' ds vs := by
  induction h with
  | nil => exact .nil
  | non _ ih => exact .non ih
  | bl _ ih => exact .bl ih
  | int _ ih => exact .int ih
  | str _ ih => exact .str ih
  | ty _ ih => exact .ty ih
  | cls e _ ih => exact .cls e ih
  | ktp a _ _ i1 i2 => exact .ktp (s.sqN a) i1 i2
  | tup a _ _ i1 i2 => exact .tup (s.rd a) i1 i2
  | scr a _ i2 => exact .scr (s.sqL a) i2
  | lst a _ _ i1 i2 => exact .lst (s _ _ a) i1 i2
  | dK a e _ _ i1 i2 => exact .dK (s.rd a) e i1 i2
  | dT a e _ _ i1 i2 => exact .dT (s.rd a) e i1 i2
  | obj a c e _ _ i1 i2 => exact .obj (s _ _ a) c e i1 i2
theorem Dt.length {ds vs} (h : Dt K ct G ds vs) : ds.length = vs.length := by
  induction h <;> simp_all
theorem Dt.cons {d v ds vs} (h1 : Dt K ct G [d] [v]) (h2 : Dt K ct G ds vs) : Dt K ct G (d :: ds) (v :: vs) := by
  cases h1 with
  | non _ => exact .non h2
  | bl _ => exact .bl h2
  | int _ => exact .int h2
  | str _ => exact .str h2
  | ty _ => exact .ty h2
  | cls e _ => exact .cls e h2
  | ktp a b _ => exact .ktp a b h2
  | tup a b _ => exact .tup a b h2
  | scr a _ => exact .scr a h2
  | lst a b _ => exact .lst a b h2
  | dK a e b _ => exact .dK a e b h2
  | dT a e b _ => exact .dT a e b h2
  | obj a c e b _ => exact .obj a c e b h2
theorem Dt.uncons {d v ds vs} (h : Dt K ct G (d :: ds) (v :: vs)) : Dt K ct G [d] [v] ∧ Dt K ct G ds vs := by
  cases h with
  | non h2 => exact ⟨.non .nil, h2⟩
  | bl h2 => exact ⟨.bl .nil, h2⟩
  | int h2 => exact ⟨.int .nil, h2⟩
  | str h2 => exact ⟨.str .nil, h2⟩
  | ty h2 => exact ⟨.ty .nil, h2⟩
  | cls e h2 => exact ⟨.cls e .nil, h2⟩
  | ktp a b h2 => exact ⟨.ktp a b .nil, h2⟩
  | tup a b h2 => exact ⟨.tup a b .nil, h2⟩
  | scr a h2 => exact ⟨.scr a .nil, h2⟩
  | lst a b h2 => exact ⟨.lst a b .nil, h2⟩
  | dK a e b h2 => exact ⟨.dK a e b .nil, h2⟩
  | dT a e b h2 => exact ⟨.dT a e b .nil, h2⟩
  | obj a c e b h2 => exact ⟨.obj a c e b .nil, h2⟩
theorem Dt.app : ∀ {ds es : List D} {vs ws : List V}, Dt K ct G ds vs → Dt K ct G es ws → Dt K ct G (ds ++ es) (vs ++ ws)
  | [], _, [], _, _, h => h
  | [], _, _ :: _, _, h, _ => by cases h
  | _ :: _, _, [], _, h, _ => by cases h
  | d :: ds, es, v :: vs, ws, h, g => by
    obtain ⟨h1, h2⟩ := h.uncons
    exact Dt.cons h1 (Dt.app h2 g)
theorem Dt.get : ∀ {ds : List D} {vs : List V} {i : Nat} {d : D}, Dt K ct G ds vs → ds[i]? = some d → ∃ v, vs[i]? = some v ∧ Dt K ct G [d] [v]
  | [], _, _, _, _, e => by simp at e
  | d :: ds, [], _, _, h, _ => by cases h
  | d :: ds, v :: vs, 0, d', h, e => by
    simp at e; subst e
    exact ⟨v, rfl, h.uncons.1⟩
  | d :: ds, v :: vs, i + 1, d', h, e => by
    obtain ⟨w, h1, h2⟩ := Dt.get (i := i) h.uncons.2 (by simpa using e)
    exact ⟨w, by simpa using h1, h2⟩
theorem Dt.getV {ds : List D} {vs : List V} {i : Nat} {v : V} (h : Dt K ct G ds vs) (e : vs[i]? = some v) : ∃ d, ds[i]? = some d ∧ Dt K ct G [d] [v] := by
  have hl := h.length
  have hi : i < vs.length := (List.getElem?_eq_some_iff.mp e).1
  have hi' : i < ds.length := by omega
  obtain ⟨w, h1, h2⟩ := h.get (i := i) (d := ds[i]) (by simp [hi'])
  rw [e] at h1; cases h1
  exact ⟨_, by simp [hi'], h2⟩
theorem Dt.take : ∀ {ds : List D} {vs : List V} (n : Nat), Dt K ct G ds vs → Dt K ct G (ds.take n) (vs.take n)
  | _, _, 0, _ => by simpa using Dt.nil
  | [], [], _ + 1, _ => by simpa using Dt.nil
  | [], _ :: _, _ + 1, h => by cases h
  | _ :: _, [], _ + 1, h => by cases h
  | d :: ds, v :: vs, n + 1, h => by simpa using Dt.cons h.uncons.1 (Dt.take n h.uncons.2)
theorem Dt.drop : ∀ {ds : List D} {vs : List V} (n : Nat), Dt K ct G ds vs → Dt K ct G (ds.drop n) (vs.drop n)
  | _, _, 0, h => by simpa using h
  | [], [], _ + 1, _ => by simpa using Dt.nil
  | [], _ :: _, _ + 1, h => by cases h
  | _ :: _, [], _ + 1, h => by cases h
  | d :: ds, v :: vs, n + 1, h => by simpa using Dt.drop n h.uncons.2
theorem Dt.rev : ∀ {ds : List D} {vs : List V}, Dt K ct G ds vs → Dt K ct G ds.reverse vs.reverse
  | [], [], _ => by simpa using Dt.nil
  | [], _ :: _, h => by cases h
  | _ :: _, [], h => by cases h
  | d :: ds, v :: vs, h => by
    simp only [List.reverse_cons]
    exact Dt.app (Dt.rev h.uncons.2) h.uncons.1
theorem Dt.ints (ns : List Int) : Dt K ct G (ns.map D.int) (ns.map V.int) := by
  induction ns with
  | nil => exact .nil
  | cons n ns ih => exact .int ih

theorem Ow.length {ls vs fp} (h : Ow K ct G H ls vs fp) : ls.length = vs.length := by
  induction h <;> simp_all
theorem Ow.mono (s : Same G G') {ls vs fp} (h : Ow K ct G H ls vs fp) (k : ∀ a ∈ fp, H' a = H a) : Ow K ct G' H' ls vs fp := by
  induction h with
  | nil => exact .nil
  | no _ ih => exact .no (ih k)
  | fz d _ ih => exact .fz (d.mono s) (ih k)
  | lst a _ _ i1 i2 => exact .lst (by rw [k _ (by simp)]; exact a) (i1 fun a h => k a (by simp [h])) (i2 fun a h => k a (by simp [h]))
  | dK a e _ _ i1 i2 => exact .dK (by rw [k _ (by simp)]; exact a) e (i1 fun a h => k a (by simp [h])) (i2 fun a h => k a (by simp [h]))
  | dT a e _ _ i1 i2 => exact .dT (by rw [k _ (by simp)]; exact a) e (i1 fun a h => k a (by simp [h])) (i2 fun a h => k a (by simp [h]))
  | obj a c e _ _ i1 i2 => exact .obj (by rw [k _ (by simp)]; exact a) c e (i1 fun a h => k a (by simp [h])) (i2 fun a h => k a (by simp [h]))
theorem Ow.there {ls vs fp} (h : Ow K ct G H ls vs fp) : ∀ a ∈ fp, ∃ o, H a = some o := by
  induction h with
  | nil => intro a h; simp at h
  | no _ ih => exact ih
  | fz _ _ ih => exact ih
  | lst a _ _ i1 i2 =>
    intro b hb
    simp only [List.mem_cons, List.mem_append] at hb
    rcases hb with rfl | hb | hb
    · exact ⟨_, a⟩
    · exact i1 b hb
    · exact i2 b hb
  | dK a e _ _ i1 i2 =>
    intro b hb
    simp only [List.mem_cons, List.mem_append] at hb
    rcases hb with rfl | hb | hb
    · exact ⟨_, a⟩
    · exact i1 b hb
    · exact i2 b hb
  | dT a e _ _ i1 i2 =>
    intro b hb
    simp only [List.mem_cons, List.mem_append] at hb
    rcases hb with rfl | hb | hb
    · exact ⟨_, a⟩
    · exact i1 b hb
    · exact i2 b hb
  | obj a c e _ _ i1 i2 =>
    intro b hb
    simp only [List.mem_cons, List.mem_append] at hb
    rcases hb with rfl | hb | hb
    · exact ⟨_, a⟩
    · exact i1 b hb
    · exact i2 b hb
/-- one and the others -/
theorem Ow.cons1 {l v f1 ls vs f2} (h : Ow K ct G H [some l] [some v] f1) (g : Ow K ct G H ls vs f2) : Ow K ct G H (some l :: ls) (some v :: vs) (f1 ++ f2) := by
  cases h with
  | fz d h2 => cases h2; exact .fz d g
  | lst a b h2 => cases h2; simpa using Ow.lst a b g
  | dK a e b h2 => cases h2; simpa using Ow.dK a e b g
  | dT a e b h2 => cases h2; simpa using Ow.dT a e b g
  | obj a c e b h2 => cases h2; simpa using Ow.obj a c e b g
theorem Ow.uncons1 {l v ls vs fp} (h : Ow K ct G H (some l :: ls) (v :: vs) fp) : ∃ w f1 f2, v = some w ∧ Ow K ct G H [some l] [some w] f1 ∧ Ow K ct G H ls vs f2 ∧ fp = f1 ++ f2 := by
  cases h with
  | fz d h2 => exact ⟨_, [], _, rfl, .fz d .nil, h2, rfl⟩
  | @lst p ws ks f1 _ _ f2 a b h2 => exact ⟨_, p :: f1, f2, rfl, by simpa using Ow.lst a b .nil, h2, by simp⟩
  | @dK p ws ks f1 _ _ f2 a e b h2 => exact ⟨_, p :: f1, f2, rfl, by simpa using Ow.dK a e b .nil, h2, by simp⟩
  | @dT p ws ks f1 _ _ f2 a e b h2 => exact ⟨_, p :: f1, f2, rfl, by simpa using Ow.dT a e b .nil, h2, by simp⟩
  | @obj p C dx fvs c fs f1 _ _ f2 a q e b h2 => exact ⟨_, p :: f1, f2, rfl, by simpa using Ow.obj a q e b .nil, h2, by simp⟩
theorem Ow.app : ∀ {l1 : List (Option L)} {v1 : List (Option V)} {f1 : List Addr} {l2 v2 f2}, Ow K ct G H l1 v1 f1 → Ow K ct G H l2 v2 f2 → Ow K ct G H (l1 ++ l2) (v1 ++ v2) (f1 ++ f2)
  | [], [], _, _, _, _, h, g => by cases h; exact g
  | [], _ :: _, _, _, _, _, h, _ => by cases h
  | _ :: _, [], _, _, _, _, h, _ => by cases h
  | none :: l1, v :: v1, f1, l2, v2, f2, h, g => by
    cases h with
    | no h => exact .no (Ow.app h g)
  | some l :: l1, v :: v1, f1, l2, v2, f2, h, g => by
    obtain ⟨w, fa, fb, rfl, h1, h2, rfl⟩ := h.uncons1
    rw [List.append_assoc]
    exact Ow.cons1 h1 (Ow.app h2 g)
theorem Ow.split : ∀ {l1 : List (Option L)} {v1 : List (Option V)} {l2 v2 fp}, l1.length = v1.length → Ow K ct G H (l1 ++ l2) (v1 ++ v2) fp → ∃ f1 f2, Ow K ct G H l1 v1 f1 ∧ Ow K ct G H l2 v2 f2 ∧ fp = f1 ++ f2
  | [], [], _, _, fp, _, h => ⟨[], fp, .nil, h, rfl⟩
  | [], _ :: _, _, _, _, e, _ => by simp at e
  | _ :: _, [], _, _, _, e, _ => by simp at e
  | none :: l1, v :: v1, l2, v2, fp, e, h => by
    cases h with
    | no h =>
      obtain ⟨f1, f2, h1, h2, e⟩ := Ow.split (by simpa using e) h
      exact ⟨f1, f2, .no h1, h2, e⟩
  | some l :: l1, v :: v1, l2, v2, fp, e, h => by
    obtain ⟨w, fa, fb, rfl, h1, h2, rfl⟩ := Ow.uncons1 (by simpa using h)
    obtain ⟨f1, f2, h3, h4, rfl⟩ := Ow.split (by simpa using e) h2
    exact ⟨fa ++ f1, f2, Ow.cons1 h1 h3, h4, by simp⟩
theorem Ow.ofDt : ∀ {ds : List D} {vs : List V}, Dt K ct G ds vs → Ow K ct G H (ds.map fun d => some (.fz d)) (vs.map some) []
  | [], [], _ => .nil
  | [], _ :: _, h => by cases h
  | _ :: _, [], h => by cases h
  | d :: ds, v :: vs, h => .fz h.uncons.1 (Ow.ofDt h.uncons.2)
theorem Ow.toDt : ∀ {ds : List D} {vs : List V} {fp}, Ow K ct G H (ds.map fun d => some (.fz d)) (vs.map some) fp → Dt K ct G ds vs ∧ fp = []
  | [], [], _, h => by cases h; exact ⟨.nil, rfl⟩
  | [], _ :: _, _, h => by cases h
  | _ :: _, [], _, h => by cases h
  | d :: ds, v :: vs, _, h => by
    cases h with
    | fz a h =>
      obtain ⟨h1, h2⟩ := Ow.toDt h
      exact ⟨Dt.cons a h1, h2⟩

/-- the own addresses made still -/
def still (G H : Hp) (fp : List Addr) : Hp := fun a => if a ∈ fp then H a else G a
theorem still_same {fp : List Addr} (h : ∀ a ∈ fp, G a = none) : Same G (still G H fp) := fun a o e => by
  unfold still
  by_cases m : a ∈ fp
  · rw [h a m] at e; cases e
  · rw [if_neg m]; exact e
theorem still_le {fp : List Addr} (h : Same G H) : Same (still G H fp) H := fun a o e => by
  unfold still at e
  by_cases m : a ∈ fp
  · rw [if_pos m] at e; exact e
  · rw [if_neg m] at e; exact h a o e
theorem still_at {fp : List Addr} {a : Addr} (m : a ∈ fp) : still G H fp a = H a := by unfold still; rw [if_pos m]
theorem still_off {fp : List Addr} {a : Addr} (m : a ∉ fp) : still G H fp a = G a := by unfold still; rw [if_neg m]
theorem Ow.freeze {ls vs fp} (h : Ow K ct G H ls vs fp) {F : Hp} (s : Same G F) (k : ∀ a ∈ fp, F a = H a) :
    ∀ ks : List L, ks.map some = ls → ∀ ws : List V, ws.map some = vs → Dt K ct F (ks.map L.toD) ws := by
  induction h with
  | nil =>
    intro ks e ws e'
    cases ks with
    | nil => cases ws with
      | nil => exact .nil
      | cons _ _ => cases e'
    | cons _ _ => cases e
  | no _ ih =>
    intro ks e ws e'
    cases ks with
    | nil => cases e
    | cons _ _ => injection e with e _; cases e
  | fz d _ ih =>
    intro ks e ws e'
    cases ks with
    | nil => cases e
    | cons l ks => cases ws with
      | nil => cases e'
      | cons w ws =>
        simp at e e'
        obtain ⟨rfl, rfl⟩ := e
        obtain ⟨rfl, rfl⟩ := e'
        exact Dt.cons (d.mono s) (ih k _ rfl _ rfl)
  | lst a _ _ i1 i2 =>
    intro ks e ws e'
    cases ks with
    | nil => cases e
    | cons l ks => cases ws with
      | nil => cases e'
      | cons w ws =>
        simp at e e'
        obtain ⟨rfl, rfl⟩ := e
        obtain ⟨rfl, rfl⟩ := e'
        simp only [List.map_cons, L.toD, toDs_map]
        exact .lst (by rw [k _ (by simp)]; exact a) (i1 (fun b h => k b (by simp [h])) _ rfl _ rfl) (i2 (fun b h => k b (by simp [h])) _ rfl _ rfl)
  | @dK p kvs ks' f1 ls vs f2 a e0 _ _ i1 i2 =>
    intro ks e ws e'
    cases ks with
    | nil => cases e
    | cons l ks => cases ws with
      | nil => cases e'
      | cons w ws =>
        simp at e e'
        obtain ⟨rfl, rfl⟩ := e
        obtain ⟨rfl, rfl⟩ := e'
        simp only [List.map_cons, L.toD, toKs_map]
        refine .dK (.inl (by rw [k _ (by simp)]; exact a)) (by simpa [List.map_map, Function.comp_def] using e0) ?_ (i2 (fun b h => k b (by simp [h])) _ rfl _ rfl)
        have := i1 (fun b h => k b (by simp [h])) (ks'.map (·.2)) (by simp [List.map_map, Function.comp_def]) (kvs.map (·.2)) (by simp [List.map_map, Function.comp_def])
        simpa [List.map_map, Function.comp_def] using this
  | @dT p kvs ks' f1 ls vs f2 a e0 _ _ i1 i2 =>
    intro ks e ws e'
    cases ks with
    | nil => cases e
    | cons l ks => cases ws with
      | nil => cases e'
      | cons w ws =>
        simp at e e'
        obtain ⟨rfl, rfl⟩ := e
        obtain ⟨rfl, rfl⟩ := e'
        simp only [List.map_cons, L.toD, toKs_map]
        refine .dT (.inl (by rw [k _ (by simp)]; exact a)) (by simpa [List.map_map, Function.comp_def] using e0) ?_ (i2 (fun b h => k b (by simp [h])) _ rfl _ rfl)
        have := i1 (fun b h => k b (by simp [h])) (ks'.map (·.2)) (by simp [List.map_map, Function.comp_def]) (kvs.map (·.2)) (by simp [List.map_map, Function.comp_def])
        simpa [List.map_map, Function.comp_def] using this
  | @obj p C dx fvs c fs f1 ls vs f2 a q e0 _ _ i1 i2 =>
    intro ks e ws e'
    cases ks with
    | nil => cases e
    | cons l ks => cases ws with
      | nil => cases e'
      | cons w ws =>
        simp at e e'
        obtain ⟨rfl, rfl⟩ := e
        obtain ⟨rfl, rfl⟩ := e'
        simp only [List.map_cons, L.toD, toFs_map]
        refine .obj (by rw [k _ (by simp)]; exact a) q (by simpa [List.map_map, Function.comp_def] using e0) ?_ (i2 (fun b h => k b (by simp [h])) _ rfl _ rfl)
        have := i1 (fun b h => k b (by simp [h])) (fs.map (·.2)) (by simp [List.map_map, Function.comp_def]) (fvs.map (·.2)) (by simp [List.map_map, Function.comp_def])
        simpa [List.map_map, Function.comp_def] using this
end

/-! data with its known tuples told as tuples -/
mutual
def D.wk : D → D
  | .ktp ds => .tup (D.wks ds)
  | .tup ds => .tup (D.wks ds)
  | .lst ds => .lst (D.wks ds)
  | d => d
def D.wks : List D → List D
  | [] => []
  | d :: ds => d.wk :: D.wks ds
end
theorem wks_map (ds : List D) : D.wks ds = ds.map D.wk := by
  induction ds with
  | nil => rfl
  | cons d ds ih => simp [D.wks, ih]
section
variable {K : PySem.W.Frag} {ct : Str → Option Addr} {G : Hp}
theorem Dt.wk {ds vs} (h : Dt K ct G ds vs) : Dt K ct G (D.wks ds) vs := by
  induction h with
  | nil => exact .nil
  | non _ ih => exact .non ih
  | bl _ ih => exact .bl ih
  | int _ ih => exact .int ih
  | str _ ih => exact .str ih
  | ty _ ih => exact .ty ih
  | cls e _ ih => exact .cls e ih
  | ktp a _ _ i1 i2 => exact .tup a.1 i1 i2
  | tup a _ _ i1 i2 => exact .tup a i1 i2
  | scr a _ i2 => exact .scr a i2
  | lst a _ _ i1 i2 => exact .lst a i1 i2
  | dK a e r _ _ i2 => exact .dK a e r i2
  | dT a e r _ _ i2 => exact .dT a e r i2
  | obj a c e r _ _ i2 => exact .obj a c e r i2
end
end Dl
namespace Dl
open PySem L2

/-- what a def's body leans on: the written part, the classes by name, which parameters are changed -/
structure Cs where
  K : PySem.W.Frag
  ct : Str → Option Addr
  pin : List Bool
  kn : Nat → Option V
/-- .. and its entry; kn: the values of some pinned slots, told ahead -/
structure Cn extends Cs where
  H0 : Hp
  G0 : Hp
  io : List Addr
  vs0 : List V
  hk : ∀ i v, kn i = some v → pin[i]? = some true ∧ vs0[i]? = some v
abbrev kn0 : Nat → Option V := fun _ => none
theorem hk0 {pin : List Bool} {vs0 : List V} : ∀ i v, kn0 i = some v → pin[i]? = some true ∧ vs0[i]? = some v := fun _ _ z => by cases z

/-- the state: th the values on the way, rh the slots -/
structure S0 (c : Cn) (G H : Hp) (th rh : List (Option L)) (ta si : List (Option V)) : Prop where
  ow : ∃ fp, Ow c.K c.ct G H (th ++ rh) (ta ++ si) fp ∧ fp.Nodup ∧ ∀ a ∈ fp, G a = none ∧ (c.H0 a = none ∨ a ∈ c.io)
  lt : th.length = ta.length
  gh : Same G H
  g0 : Same c.G0 G
  kp : ∀ a o, c.H0 a = some o → a ∉ c.io → H a = some o
  gn : ∀ a, c.H0 a ≠ none → c.G0 a = none → a ∉ c.io → G a = none
  pn : ∀ i : Nat, c.pin[i]? = some true → ∃ v : V, c.vs0[i]? = some v ∧ si[i]? = some (some v)

section
variable {c : Cn} {G H G' H' : Hp} {th rh t1 : List (Option L)} {ta si v1 : List (Option V)}

structure Jn (c : Cn) (G H : Hp) (f1 : List Addr) (th rh : List (Option L)) (ta si : List (Option V)) : Prop where
  run : ∀ (G' H' : Hp) (t1' : List (Option L)) (v1' : List (Option V)) (f1' : List Addr), Ow c.K c.ct G' H' t1' v1' f1' → f1'.Nodup → (∀ a ∈ f1', G' a = none ∧ (a ∈ f1 ∨ H a = none)) →
    Same G G' → Same G' H' → (∀ a o, H a = some o → a ∉ f1 → H' a = some o) → (∀ a, G' a ≠ none → G a ≠ none ∨ H a = none ∨ a ∈ f1) → S0 c G' H' (t1' ++ th) rh (v1' ++ ta) si
theorem S0.split (h : S0 c G H (t1 ++ th) rh (v1 ++ ta) si) (e : t1.length = v1.length) :
    ∃ f1, Ow c.K c.ct G H t1 v1 f1 ∧ f1.Nodup ∧ (∀ a ∈ f1, G a = none) ∧ Jn c G H f1 th rh ta si := by
  obtain ⟨⟨fp, o, nd, k⟩, lt, gh, g0, kp, gn, pn⟩ := h
  rw [List.append_assoc, List.append_assoc] at o
  obtain ⟨f1, f2, o1, o2, rfl⟩ := Ow.split e o
  have nd' := List.nodup_append.mp nd
  refine ⟨f1, o1, nd'.1, fun a h => (k a (by simp [h])).1, ⟨fun G' H' t1' v1' f1' o1' nd1 k1 sg sh kh kg => ?_⟩⟩
  have off : ∀ a ∈ f2, a ∉ f1 := fun a h2 h1 => nd'.2.2 a h1 a h2 rfl
  refine ⟨⟨f1' ++ f2, ?_, ?_, ?_⟩, ?_, sh, fun a u q => sg _ _ (g0 _ _ q), fun a u q n => ?_, fun a h1 h2 h3 => ?_, pn⟩
  · rw [List.append_assoc, List.append_assoc]
    refine Ow.app o1' (o2.mono sg fun a h2 => ?_)
    obtain ⟨u, q⟩ := o2.there a h2
    rw [q]
    exact kh a u q (off a h2)
  · refine List.nodup_append.mpr ⟨nd1, nd'.2.1, fun a h1 b h2 e => ?_⟩
    subst e
    rcases (k1 a h1).2 with q | q
    · exact off a h2 q
    · obtain ⟨u, r⟩ := o2.there a h2
      rw [r] at q; cases q
  · intro a ha
    rcases List.mem_append.mp ha with h1 | h2
    · refine ⟨(k1 a h1).1, ?_⟩
      rcases (k1 a h1).2 with q | q
      · exact (k a (by simp [q])).2
      · by_cases m : a ∈ c.io
        · exact .inr m
        · refine .inl ?_
          cases r : c.H0 a with
          | none => rfl
          | some u => rw [kp a u r m] at q; cases q
    · obtain ⟨n, m⟩ := k a (by simp [h2])
      refine ⟨?_, m⟩
      cases r : G' a with
      | none => rfl
      | some u =>
        rcases kg a (by simp [r]) with q | q | q
        · exact absurd n q
        · obtain ⟨u, r⟩ := o2.there a h2
          rw [r] at q; cases q
        · exact absurd q (off a h2)
  · have e1 := o1'.length
    simp only [List.length_append] at lt ⊢
    omega
  · refine kh a u (kp a u q n) fun h1 => ?_
    rcases (k a (by simp [h1])).2 with z | z
    · rw [z] at q; cases q
    · exact n z
  · cases r : G' a with
    | none => rfl
    | some u =>
      rcases kg a (by simp [r]) with q | q | q
      · exact absurd (gn a h1 h2 h3) q
      · cases s : c.H0 a with
        | none => exact absurd s h1
        | some w => rw [kp a w s h3] at q; cases q
      · rcases (k a (by simp [q])).2 with z | z
        · exact absurd z h1
        · exact absurd z h3

/-! ### the small moves -/
theorem S0.len (h : S0 c G H th rh ta si) : rh.length = si.length := by
  obtain ⟨⟨fp, o, _⟩, lt, _⟩ := h
  have e := o.length
  simp only [List.length_append] at e
  omega
/-- nothing taken -/
theorem S0.jn0 (h : S0 c G H th rh ta si) : Jn c G H [] th rh ta si := by
  obtain ⟨f1, o, _, _, j⟩ := S0.split (t1 := []) (v1 := []) h rfl
  cases o; exact j
theorem S0.push {d : D} {v : V} (h : S0 c G H th rh ta si) (r : Dt c.K c.ct G [d] [v]) : S0 c G H (some (.fz d) :: th) rh (some v :: ta) si :=
  h.jn0.run G H [some (.fz d)] [some v] [] (.fz r .nil) (by simp) (by simp) (fun _ _ q => q) h.gh (fun _ _ q _ => q) (fun _ q => .inl q)
theorem S0.pushD {ds : List D} {vs : List V} (h : S0 c G H th rh ta si) (r : Dt c.K c.ct G ds vs) : S0 c G H (ds.map (fun d => some (.fz d)) ++ th) rh (vs.map some ++ ta) si :=
  h.jn0.run G H _ _ [] (Ow.ofDt r) (by simp) (by simp) (fun _ _ q => q) h.gh (fun _ _ q _ => q) (fun _ q => .inl q)
theorem S0.pops (h : S0 c G H (t1 ++ th) rh (v1 ++ ta) si) (e : t1.length = v1.length) : S0 c G H th rh ta si := by
  obtain ⟨f1, o, nd, k, j⟩ := h.split e
  exact j.run G H [] [] [] .nil (by simp) (by simp) (fun _ _ q => q) h.gh (fun _ _ q _ => q) (fun _ q => .inl q)
theorem S0.pop {x : Option L} {y : Option V} (h : S0 c G H (x :: th) rh (y :: ta) si) : S0 c G H th rh ta si := S0.pops (t1 := [x]) (v1 := [y]) h rfl
/-- a new own thing, on top -/
theorem S0.new {p : Addr} {u : HO} {l : L} {g : List Addr} (h : S0 c G H th rh ta si) (np : H p = none) (o : Ow c.K c.ct G (upd H p u) [some l] [some (.ref p)] [p]) : S0 c G (upd H p u) (some l :: th) rh (some (.ref p) :: ta) si := by
  have gp : G p = none := by
    cases q : G p with
    | none => rfl
    | some w => rw [h.gh _ _ q] at np; cases np
  refine h.jn0.run G (upd H p u) [some l] [some (.ref p)] [p] o (by simp) (by simp [gp, np]) (fun _ _ q => q) (fun a w q => ?_) (fun a w q _ => ?_) (fun _ q => .inl q)
  · rw [upd_ne (ne_of_none (h.gh _ _ q) np)]; exact h.gh _ _ q
  · rw [upd_ne (ne_of_none q np)]; exact q
/-- a new still thing -/
theorem S0.newD {p : Addr} {u : HO} (h : S0 c G H th rh ta si) (np : H p = none) : S0 c (upd G p u) (upd H p u) th rh ta si ∧ Same G (upd G p u) := by
  have gp : G p = none := by
    cases q : G p with
    | none => rfl
    | some w => rw [h.gh _ _ q] at np; cases np
  have s1 : Same G (upd G p u) := fun a w q => by rw [upd_ne (ne_of_none q gp)]; exact q
  refine ⟨?_, s1⟩
  refine h.jn0.run (upd G p u) (upd H p u) [] [] [] .nil (by simp) (by simp) s1 (fun a w q => ?_) (fun a w q _ => ?_) (fun a q => ?_)
  · by_cases e : a = p
    · subst e; rw [upd_same] at q ⊢; exact q
    · rw [upd_ne e] at q ⊢; exact h.gh _ _ q
  · rw [upd_ne (ne_of_none q np)]; exact q
  · by_cases e : a = p
    · subst e; exact .inr (.inl np)
    · rw [upd_ne e] at q; exact .inl q
/-- the top things made still -/
theorem S0.freezes {ls : List L} {vs : List V} (h : S0 c G H (ls.map some ++ th) rh (vs.map some ++ ta) si) (e : ls.length = vs.length) :
    ∃ G', Same G G' ∧ Dt c.K c.ct G' (ls.map L.toD) vs ∧ S0 c G' H th rh ta si := by
  obtain ⟨f1, o, nd, k, j⟩ := h.split (by simpa using e)
  have s1 := still_same (H := H) k
  refine ⟨still G H f1, s1, Ow.freeze o s1 (fun a m => still_at m) _ rfl _ rfl, ?_⟩
  refine j.run _ H [] [] [] .nil (by simp) (by simp) s1 (still_le h.gh) (fun _ _ q _ => q) (fun a q => ?_)
  by_cases m : a ∈ f1
  · exact .inr (.inr m)
  · rw [still_off m] at q; exact .inl q
theorem S0.freeze {l : L} {v : V} (h : S0 c G H (some l :: th) rh (some v :: ta) si) : ∃ G', Same G G' ∧ Dt c.K c.ct G' [l.toD] [v] ∧ S0 c G' H th rh ta si :=
  S0.freezes (ls := [l]) (vs := [v]) h rfl

theorem Ow.perm {K : PySem.W.Frag} {ct : Str → Option Addr} {x : Option L} {y : Option V} {a b : List (Option L)} {a' b' : List (Option V)} {fp : List Addr} (e : a.length = a'.length) (h : Ow K ct G H (a ++ x :: b) (a' ++ y :: b') fp) :
    ∃ fa fx fb, fp = fa ++ (fx ++ fb) ∧ Ow K ct G H [x] [y] fx ∧ Ow K ct G H a a' fa ∧ Ow K ct G H b b' fb := by
  obtain ⟨fa, f2, h1, h2, rfl⟩ := Ow.split e h
  obtain ⟨fx, fb, h3, h4, rfl⟩ := Ow.split (l1 := [x]) (v1 := [y]) rfl h2
  exact ⟨fa, fx, fb, rfl, h3, h1, h4⟩
theorem list_at {α : Type} {xs : List α} {i : Nat} {x : α} (h : xs[i]? = some x) : xs = xs.take i ++ x :: xs.drop (i + 1) := by
  obtain ⟨hi, rfl⟩ := List.getElem?_eq_some_iff.mp h
  rw [List.getElem_cons_drop]
  exact (List.take_append_drop i xs).symm
theorem set_at {α : Type} {xs : List α} {i : Nat} {x y : α} (h : xs[i]? = some x) : xs.set i y = xs.take i ++ y :: xs.drop (i + 1) := by
  obtain ⟨hi, rfl⟩ := List.getElem?_eq_some_iff.mp h
  rw [List.set_eq_take_append_cons_drop, if_pos hi]
/-- a slot's thing laid on top -/
theorem S0.take {i : Nat} {l : L} (h : S0 c G H th rh ta si) (e : rh[i]? = some (some l)) : ∃ v, si[i]? = some (some v) ∧ S0 c G H (some l :: th) (rh.set i none) (some v :: ta) si := by
  have hl := h.len
  have hi : i < rh.length := (List.getElem?_eq_some_iff.mp e).1
  obtain ⟨y, ey⟩ : ∃ y, si[i]? = some y := ⟨si[i]'(by omega), by simp [show i < si.length by omega]⟩
  obtain ⟨⟨fp, o, nd, k⟩, lt, gh, g0, kp, gn, pn⟩ := h
  rw [list_at e, list_at ey, ← List.append_assoc, ← List.append_assoc] at o
  obtain ⟨fa, fx, fb, rfl, ox, oa, ob⟩ := Ow.perm (by simp only [List.length_append, List.length_take]; omega) o
  obtain ⟨w, f1, f2, rfl, ox', on, rfl⟩ := ox.uncons1
  cases on
  refine ⟨w, ey, ⟨⟨f1 ++ (fa ++ fb), ?_, ?_, ?_⟩, by simp [lt], gh, g0, kp, gn, pn⟩⟩
  · rw [set_at e]
    rw [List.cons_append, List.cons_append]
    refine Ow.cons1 ox' ?_
    obtain ⟨ga, gb, pa, pb, rfl⟩ := Ow.split lt oa
    have q : Ow c.K c.ct G H (th ++ (rh.take i ++ none :: rh.drop (i + 1))) (ta ++ (si.take i ++ some w :: si.drop (i + 1))) (ga ++ (gb ++ fb)) := Ow.app pa (Ow.app pb (.no ob))
    rw [← list_at ey] at q
    simpa [List.append_assoc] using q
  · simp only [List.append_nil] at nd
    have p : (fa ++ (f1 ++ fb)).Perm (f1 ++ (fa ++ fb)) := by
      rw [← List.append_assoc, ← List.append_assoc]
      exact List.Perm.append_right _ List.perm_append_comm
    exact p.nodup_iff.mp nd
  · intro a ha
    apply k
    simp only [List.mem_append, List.append_nil] at ha ⊢
    rcases ha with h | h | h <;> simp [h]
/-- the thing on top laid into a slot; y: what the slot's value is then -/
theorem S0.put {i : Nat} {l : L} {v : V} (h : S0 c G H (some l :: th) rh (some v :: ta) si) (hi : i < rh.length) (hp : c.pin[i]? = some true → si[i]? = some (some v)) : S0 c G H th (rh.set i (some l)) ta (si.set i (some v)) := by
  have hl := h.len
  obtain ⟨x, e⟩ : ∃ x, rh[i]? = some x := ⟨rh[i], by simp [hi]⟩
  obtain ⟨y, ey⟩ : ∃ y, si[i]? = some y := ⟨si[i]'(by omega), by simp [show i < si.length by omega]⟩
  obtain ⟨⟨fp, o, nd, k⟩, lt, gh, g0, kp, gn, pn⟩ := h
  obtain ⟨w, f1, f2, ew, o1, o2, rfl⟩ := Ow.uncons1 (by simpa using o)
  cases ew
  rw [list_at e, list_at ey, ← List.append_assoc, ← List.append_assoc] at o2
  have lt' : th.length = ta.length := by simpa using lt
  obtain ⟨fa, fx, fb, rfl, ox, oa, ob⟩ := Ow.perm (by simp only [List.length_append, List.length_take]; omega) o2
  obtain ⟨ga, gb, pa, pb, rfl⟩ := Ow.split lt' oa
  refine ⟨⟨ga ++ (gb ++ (f1 ++ fb)), ?_, ?_, ?_⟩, lt', gh, g0, kp, gn, fun j hj => ?_⟩
  · rw [set_at e, set_at ey]
    exact Ow.app pa (Ow.app pb (Ow.cons1 o1 ob))
  · have p : (f1 ++ (ga ++ gb ++ (fx ++ fb))).Perm (fx ++ (ga ++ (gb ++ (f1 ++ fb)))) := by
      rw [List.perm_iff_count]
      intro a
      simp only [List.count_append]
      omega
    exact (List.nodup_append.mp (p.nodup_iff.mp nd)).2.1
  · intro a ha
    apply k
    simp only [List.mem_append] at ha ⊢
    rcases ha with h | h | h | h <;> simp [h]
  · obtain ⟨u, q1, q2⟩ := pn j hj
    refine ⟨u, q1, ?_⟩
    by_cases ij : i = j
    · subst ij
      have := hp hj
      rw [q2] at this
      have e2 : u = v := by simpa using this
      subst e2
      rw [List.getElem?_set_self (by omega)]
    · rw [List.getElem?_set_ne ij]; exact q2
/-- back where it was taken -/
theorem S0.back {i : Nat} {l : L} {v : V} (h : S0 c G H (some l :: th) rh (some v :: ta) si) (hi : i < rh.length) (e : si[i]? = some (some v)) : S0 c G H th (rh.set i (some l)) ta si := by
  have q := h.put (i := i) hi (fun _ => e)
  rwa [show si.set i (some v) = si from by
    apply List.ext_getElem?
    intro j
    by_cases ij : i = j
    · subst ij
      rw [List.getElem?_set_self (List.getElem?_eq_some_iff.mp e).1, e]
    · rw [List.getElem?_set_ne ij]] at q
/-- a slot's still data -/
theorem S0.data {i : Nat} {d : D} (h : S0 c G H th rh ta si) (e : rh[i]? = some (some (.fz d))) : ∃ v, si[i]? = some (some v) ∧ Dt c.K c.ct G [d] [v] := by
  obtain ⟨v, e1, q⟩ := h.take e
  obtain ⟨f1, o, _⟩ := S0.split (t1 := [some (.fz d)]) (v1 := [some v]) (th := th) (ta := ta) q rfl
  cases o with
  | fz r _ => exact ⟨v, e1, r⟩
/-- forgetting a slot -/
theorem S0.forget {i : Nat} (h : S0 c G H th rh ta si) (y : Option V) (hp : c.pin[i]? ≠ some true) : S0 c G H th (rh.set i none) ta (si.set i y) := by
  by_cases hi : i < rh.length
  · have hl := h.len
    obtain ⟨x, e⟩ : ∃ x, rh[i]? = some x := ⟨rh[i], by simp [hi]⟩
    obtain ⟨z, ey⟩ : ∃ y, si[i]? = some y := ⟨si[i]'(by omega), by simp [show i < si.length by omega]⟩
    obtain ⟨⟨fp, o, nd, k⟩, lt, gh, g0, kp, gn, pn⟩ := h
    rw [list_at e, list_at ey, ← List.append_assoc, ← List.append_assoc] at o
    obtain ⟨fa, fx, fb, rfl, ox, oa, ob⟩ := Ow.perm (by simp only [List.length_append, List.length_take]; omega) o
    refine ⟨⟨fa ++ fb, ?_, ?_, ?_⟩, lt, gh, g0, kp, gn, fun j hj => ?_⟩
    · rw [set_at e, set_at ey, ← List.append_assoc, ← List.append_assoc]
      exact Ow.app oa (.no ob)
    · have p : (fa ++ (fx ++ fb)).Perm (fx ++ (fa ++ fb)) := by
        rw [← List.append_assoc, ← List.append_assoc]
        exact List.Perm.append_right _ List.perm_append_comm
      exact (List.nodup_append.mp (p.nodup_iff.mp nd)).2.1
    · intro a ha
      apply k
      simp only [List.mem_append] at ha ⊢
      rcases ha with h | h <;> simp [h]
    · obtain ⟨u, q1, q2⟩ := pn j hj
      refine ⟨u, q1, ?_⟩
      have ij : i ≠ j := fun e => hp (e ▸ hj)
      rw [List.getElem?_set_ne ij]; exact q2
  · have hl := h.len
    rwa [List.set_eq_of_length_le (by omega), List.set_eq_of_length_le (by omega)]
end
end Dl
namespace Dl
open PySem L2

abbrev Rho := List (Option L)
structure Exn where
  cls : Str
  fs : List (Str × D)
/-- what a piece of code comes to -/
inductive Out (ε α : Type) where
  | ok (a : α) | exc (x : Exn) (e : ε) | stuck
namespace Out
def bind {ε α β : Type} (o : Out ε α) (f : α → Out ε β) : Out ε β := match o with
  | .ok a => f a
  | .exc x e => .exc x e
  | .stuck => .stuck
@[simp] theorem bind_ok {ε α β : Type} (a : α) (f : α → Out ε β) : (Out.ok a : Out ε α).bind f = f a := id rfl
@[simp] theorem bind_exc {ε α β : Type} (x : Exn) (e : ε) (f : α → Out ε β) : (Out.exc x e : Out ε α).bind f = .exc x e := id rfl
@[simp] theorem bind_stuck {ε α β : Type} (f : α → Out ε β) : (Out.stuck : Out ε α).bind f = .stuck := id rfl
def ofO {ε α : Type} : Option α → Out ε α
  | some a => .ok a
  | none => .stuck
@[simp] theorem ofO_some {ε α : Type} (a : α) : (ofO (some a) : Out ε α) = .ok a := id rfl
@[simp] theorem ofO_none {ε α : Type} : (ofO none : Out ε α) = .stuck := id rfl
end Out

abbrev Ev := Rho → Out Rho (L × Rho)
abbrev Av := Rho → Out Rho (List L × Rho)
/-- a call on things: the answer, and what the things are then -/
abbrev Fv := List L → Out (List L) (L × List L)
inductive Fl where
  | nx | brk | cont | ret (l : L)
abbrev Sv := Rho → Out Rho (Fl × Rho)

/-- an exception that is as told -/
def XR (c : Cs) (x : Exn) (cls : Value) (od : Option Addr) (H : Hp) : Prop :=
  ∃ C, c.ct x.cls = some C ∧ cls = .ref C ∧ (match x.fs with
    | [] => od = none
    | _ => ∃ d fvs, od = some d ∧ H d = some (.xd fvs) ∧ x.fs.map (·.1) = fvs.map (·.1) ∧ Dt c.K c.ct (fun _ => none) (x.fs.map (·.2)) (fvs.map (·.2)))

/-- an expression's reading, by what it comes to -/
def De (s : Cs) (W : WX) (t : TE) (f : Ev) : Prop :=
  ∀ (c : Cn), c.toCs = s → ∀ (G H : Hp) (th rh : Rho) (ta : List (Option V)) (si : L2.St) (Q : VK), S0 c G H th rh ta si →
    (match f rh with
      | .ok (l, r) => ∀ v G' H', S0 c G' H' (some l :: th) r (some v :: ta) si → Q v H'
      | .exc x r => ∀ cls od G' H', S0 c G' H' th r ta si → XR s x cls od H' → W cls od si H'
      | .stuck => False) → t si H Q
/-- the places among some operands: their slots' values -/
def Pl : List (Option Nat) → List V → L2.St → Prop
  | [], [], _ => True
  | none :: ms, _ :: vs, si => Pl ms vs si
  | some i :: ms, v :: vs, si => si[i]? = some (some v) ∧ Pl ms vs si
  | _, _, _ => False
def Da (s : Cs) (W : WX) (ms : List (Option Nat)) (t : TA) (f : Av) : Prop :=
  ∀ (c : Cn), c.toCs = s → ∀ (G H : Hp) (th rh : Rho) (ta : List (Option V)) (si : L2.St) (Q : List V → Hp → Prop), S0 c G H th rh ta si →
    (match f rh with
      | .ok (ls, r) => ∀ vs G' H', S0 c G' H' (ls.map some ++ th) r (vs.map some ++ ta) si → ls.length = vs.length → Pl ms vs si → Q vs H'
      | .exc x r => ∀ cls od G' H', S0 c G' H' th r ta si → XR s x cls od H' → W cls od si H'
      | .stuck => False) → t si H Q
/-- an operation on values -/
def Dop (s : Cs) (E : XK) (r : List V → Hp → VK → Prop) (F : Fv) : Prop :=
  ∀ (c : Cn), c.toCs = s → ∀ (G H : Hp) (th rh : Rho) (ta : List (Option V)) (si : List (Option V)) (ls : List L) (vs : List V) (Q : VK), S0 c G H (ls.map some ++ th) rh (vs.map some ++ ta) si → ls.length = vs.length →
    (match F ls with
      | .ok (l, ls') => ∀ v G' H', S0 c G' H' (some l :: (ls'.map some ++ th)) rh (some v :: (vs.map some ++ ta)) si → Q v H'
      | .exc x ls' => ∀ cls od G' H', S0 c G' H' (ls'.map some ++ th) rh (vs.map some ++ ta) si → XR s x cls od H' → E cls od H'
      | .stuck => False) → r vs H Q
/-- a statement's -/
def Ds (s : Cs) (W : WX) (t : TS) (g : Sv) : Prop :=
  ∀ (c : Cn), c.toCs = s → ∀ (G H : Hp) (th rh : Rho) (ta : List (Option V)) (si : L2.St) (D : Ends), S0 c G H th rh ta si →
    (match g rh with
      | .ok (.nx, r) => ∀ si' G' H', S0 c G' H' th r ta si' → D.nx si' H'
      | .ok (.brk, r) => ∀ si' G' H', S0 c G' H' th r ta si' → D.bk si' H'
      | .ok (.cont, r) => ∀ si' G' H', S0 c G' H' th r ta si' → D.ct si' H'
      | .ok (.ret l, r) => ∀ v si' G' H', S0 c G' H' (some l :: th) r (some v :: ta) si' → D.rt v H'
      | .exc x r => ∀ cls od si' G' H', S0 c G' H' th r ta si' → XR s x cls od H' → W cls od si' H'
      | .stuck => False) → t D si H

structure Ed (X : Cx) (s : Cs) (W : WX) (e : Expr) (t : TE) (f : Ev) : Prop where
  pe : PE X e t
  de : De s W t f
def tAll : List TE → TA
  | [] => tNil
  | t :: ts => tCons t (tAll ts)
inductive Pes (X : Cx) : List Expr → List TE → Prop where
  | nil : Pes X [] []
  | cons {e es t ts} : PE X e t → Pes X es ts → starEach (e :: es) X.env = (false, eval e X.env) :: starEach es X.env → Pes X (e :: es) (t :: ts)
theorem Pes.pa {X : Cx} {es ts} (h : Pes X es ts) : PA X es (tAll ts) := by
  induction h with
  | nil => exact pa_nil
  | cons a _ q ih => exact pa_cons a ih q
structure Es (X : Cx) (s : Cs) (W : WX) (ms : List (Option Nat)) (es : List Expr) (ts : List TE) (f : Av) : Prop where
  pes : Pes X es ts
  da : Da s W ms (tAll ts) f
structure Sd (X : Cx) (s : Cs) (W : WX) (st : Stmt) (t : TS) (g : Sv) : Prop where
  ps : PS X st t
  ds : Ds s W t g
structure Ssd (X : Cx) (s : Cs) (W : WX) (st : List Stmt) (t : TS) (g : Sv) : Prop where
  pss : PSs X st t
  ds : Ds s W t g

/-! ### more moves -/
section
variable {c : Cn} {G H : Hp} {th rh t1 : Rho} {ta si v1 : List (Option V)}
theorem S0.rot {x : Option L} {y : Option V} (h : S0 c G H (t1 ++ x :: th) rh (v1 ++ y :: ta) si) (e : t1.length = v1.length) : S0 c G H (x :: (t1 ++ th)) rh (y :: (v1 ++ ta)) si := by
  obtain ⟨⟨fp, o, nd, k⟩, lt, gh, g0, kp, gn, pn⟩ := h
  rw [List.append_assoc, List.append_assoc, List.cons_append, List.cons_append] at o
  obtain ⟨fa, fx, fb, rfl, ox, oa, ob⟩ := Ow.perm e o
  refine ⟨⟨fx ++ (fa ++ fb), ?_, ?_, ?_⟩, ?_, gh, g0, kp, gn, pn⟩
  · have := Ow.app ox (Ow.app oa ob)
    simpa [List.append_assoc] using this
  · have p : (fa ++ (fx ++ fb)).Perm (fx ++ (fa ++ fb)) := by
      rw [← List.append_assoc, ← List.append_assoc]
      exact List.Perm.append_right _ List.perm_append_comm
    exact p.nodup_iff.mp nd
  · intro a ha
    apply k
    simp only [List.mem_append] at ha ⊢
    rcases ha with h | h | h <;> simp [h]
  · simp only [List.length_append, List.length_cons] at lt ⊢
    omega
theorem S0.swap {x x' : Option L} {y y' : Option V} (h : S0 c G H (x :: x' :: th) rh (y :: y' :: ta) si) : S0 c G H (x' :: x :: th) rh (y' :: y :: ta) si :=
  S0.rot (t1 := [x]) (v1 := [y]) h rfl
/-- places laid back, values dropped, beneath the answer -/
def backs : List (Option Nat) → List L → Rho → Rho
  | some i :: ms, l :: ls, r => backs ms ls (r.set i (some l))
  | none :: ms, _ :: ls, r => backs ms ls r
  | _, _, r => r
theorem S0.backs : ∀ {ms : List (Option Nat)} {ls : List L} {vs : List V} {rh : Rho}, S0 c G H (t1 ++ (ls.map some ++ th)) rh (v1 ++ (vs.map some ++ ta)) si → t1.length = v1.length → ls.length = vs.length → Pl ms vs si → S0 c G H (t1 ++ th) (Dl.backs ms ls rh) (v1 ++ ta) si
  | [], [], [], rh, h, _, _, _ => h
  | [], [], _ :: _, _, _, _, e, _ => by simp at e
  | [], _ :: _, [], _, _, _, e, _ => by simp at e
  | [], _ :: _, _ :: _, _, _, _, _, p => p.elim
  | none :: ms, [], vs, _, _, _, e, p => by
    cases vs with
    | nil => exact p.elim
    | cons _ _ => simp at e
  | some i :: ms, [], vs, _, _, _, e, p => by
    cases vs with
    | nil => exact p.elim
    | cons _ _ => simp at e
  | none :: ms, l :: ls, [], _, _, _, e, p => p.elim
  | some i :: ms, l :: ls, [], _, _, _, e, p => p.elim
  | none :: ms, l :: ls, v :: vs, rh, h, e1, e, p => by
    have h2 := S0.rot h e1
    exact S0.backs (ms := ms) h2.pop e1 (by simpa using e) p
  | some i :: ms, l :: ls, v :: vs, rh, h, e1, e, p => by
    have h2 := S0.rot h e1
    have hl := h2.len
    have hi : i < rh.length := by
      have := (List.getElem?_eq_some_iff.mp p.1).1
      omega
    exact S0.backs (ms := ms) (h2.back hi p.1) e1 (by simpa using e) p.2
end

/-! ### expressions -/
section
variable {X : Cx} {s : Cs} {W : WX}
def eC (d : D) : Ev := fun r => .ok (.fz d, r)
/-- a constant or a name of the module whose value is a plain one -/
theorem ed_c {e : Expr} {v : V} {d : D} (h : PE X e (tC v)) (r : Dt s.K s.ct (fun _ => none) [d] [v]) : Ed X s W e (tC v) (eC d) :=
  ⟨h, fun c hc G H th rh ta si Q h q => by
    subst hc
    exact q v G H (h.push (r.mono fun _ _ z => by cases z))⟩
theorem ed_int {i j pos} : Ed X s W (.Constant (.int i) j pos) (tC (.int i)) (eC (.int i)) := ed_c pe_int (.int .nil)
theorem ed_bl {i j pos} : Ed X s W (.Constant (.bool i) j pos) (tC (.bl i)) (eC (.bl i)) := ed_c pe_bl (.bl .nil)
theorem ed_str {i j pos} : Ed X s W (.Constant (.str i) j pos) (tC (.str i)) (eC (.str i)) := ed_c pe_str (.str .nil)
theorem ed_non {j pos} : Ed X s W (.Constant .none j pos) (tC .non) (eC .non) := ed_c pe_non (.non .nil)
/-- a slot's thing as data that stands still from now on -/
def eV (i : Nat) : Ev := fun r => match r[i]? with
  | some (some (.fz d)) => .ok (.fz d, r)
  | some (some l) => .ok (.fz l.toD, r.set i (some (.fz l.toD)))
  | _ => .stuck
theorem De.var {i : Nat} : De s W (tVar i) (eV i) :=
  fun c hc G H th rh ta si Q h q => by
    unfold eV at q
    cases e : rh[i]? with
    | none => rw [e] at q; exact q.elim
    | some o =>
      cases o with
      | none => rw [e] at q; exact q.elim
      | some l =>
        have main : ∀ l : L, rh[i]? = some (some l) → (∀ v G' H', S0 c G' H' (some (.fz l.toD) :: th) (rh.set i (some (.fz l.toD))) (some v :: ta) si → Q v H') → tVar i si H Q := fun l e q => by
          obtain ⟨v, ev, h1⟩ := h.take e
          obtain ⟨G', sg, dt, h2⟩ := h1.freeze
          refine ⟨v, ev, q v G' H ?_⟩
          have h3 := (h2.push dt).push dt
          have hi : i < rh.length := (List.getElem?_eq_some_iff.mp e).1
          have h4 := h3.back (i := i) (by simpa using hi) ev
          simpa using h4
        cases l with
        | fz d =>
          rw [e] at q
          refine main _ e fun v G' H' h => q v G' H' ?_
          have : rh.set i (some (L.fz (L.fz d).toD)) = rh := by
            apply List.ext_getElem?
            intro j
            by_cases ij : i = j
            · subst ij
              rw [List.getElem?_set_self (List.getElem?_eq_some_iff.mp e).1, e]; rfl
            · rw [List.getElem?_set_ne ij]
          rw [this] at h
          exact h
        | lst ks => rw [e] at q; exact main _ e q
        | dct t ks => rw [e] at q; exact main _ e q
        | obj t ks => rw [e] at q; exact main _ e q
theorem ed_v {i : Nat} {e : Expr} (h : PE X e (tVar i)) : Ed X s W e (tVar i) (eV i) := ⟨h, De.var⟩

/-! ### operands -/
def aNil : Av := fun r => .ok ([], r)
def aV (e : Ev) (a : Av) : Av := fun r => (e r).bind fun (l, r1) => (a r1).bind fun (ls, r2) => .ok (l :: ls, r2)
def aP (i : Nat) (a : Av) : Av := fun r => match r[i]? with
  | some (some _) => (a r).bind fun (ls, r2) => match r2[i]? with
    | some (some l) => .ok (l :: ls, r2.set i none)
    | _ => .stuck
  | _ => .stuck
theorem es_nil : Es X s W [] [] [] aNil := ⟨.nil, fun c hc G H th rh ta si Q h q => q [] G H h rfl trivial⟩
theorem Da.v {t : TE} {ts : List TE} {f : Ev} {a : Av} {ms : List (Option Nat)} (h1 : De s W t f) (h2 : Da s W ms (tAll ts) a) : Da s W (none :: ms) (tAll (t :: ts)) (aV f a) := fun c hc G H th rh ta si Q h q => by
    show t si H fun x H1 => tAll ts si H1 fun xs H2 => Q (x :: xs) H2
    refine h1 c hc G H th rh ta si _ h ?_
    unfold aV at q
    cases e1 : f rh with
    | stuck => rw [e1] at q; exact q.elim
    | exc x r => rw [e1] at q; exact q
    | ok lr =>
      obtain ⟨l, r1⟩ := lr
      rw [e1] at q
      intro v G1 H1 h1'
      refine h2 c hc G1 H1 _ _ _ si _ h1' ?_
      simp only [Out.bind_ok] at q
      cases e2 : a r1 with
      | stuck => rw [e2] at q; exact q.elim
      | exc x r => rw [e2] at q; exact fun cls od G' H' h => q cls od G' H' h.pop
      | ok lr2 =>
        obtain ⟨ls, r2⟩ := lr2
        rw [e2] at q
        intro vs G2 H2 h3 e3 p
        exact q (v :: vs) G2 H2 (S0.rot h3 (by simpa using e3)) (by simp [e3]) p
theorem es_v {e : Expr} {es : List Expr} {t : TE} {ts : List TE} {f : Ev} {a : Av} {ms : List (Option Nat)} (h1 : Ed X s W e t f) (h2 : Es X s W ms es ts a) (hs : starEach (e :: es) X.env = (false, eval e X.env) :: starEach es X.env := by rfl) :
    Es X s W (none :: ms) (e :: es) (t :: ts) (aV f a) := ⟨.cons h1.pe h2.pes hs, Da.v h1.de h2.da⟩
theorem Da.p {i : Nat} {ts : List TE} {a : Av} {ms : List (Option Nat)} (h2 : Da s W ms (tAll ts) a) : Da s W (some i :: ms) (tAll (tVar i :: ts)) (aP i a) := fun c hc G H th rh ta si Q h q => by
    show ∃ v, si[i]? = some (some v) ∧ tAll ts si H fun xs H2 => Q (v :: xs) H2
    unfold aP at q
    cases e0 : rh[i]? with
    | none => rw [e0] at q; exact q.elim
    | some o =>
      cases o with
      | none => rw [e0] at q; exact q.elim
      | some l0 =>
        obtain ⟨v, ev, _⟩ := h.take e0
        rw [e0] at q
        simp only at q
        refine ⟨v, ev, h2 c hc G H th rh ta si _ h ?_⟩
        cases e2 : a rh with
        | stuck => rw [e2] at q; exact q.elim
        | exc x r => rw [e2] at q; exact q
        | ok lr2 =>
          obtain ⟨ls, r2⟩ := lr2
          rw [e2] at q
          simp only [Out.bind_ok] at q
          intro vs G2 H2 h3 e3 p
          cases e4 : r2[i]? with
          | none => rw [e4] at q; exact q.elim
          | some o =>
            cases o with
            | none => rw [e4] at q; exact q.elim
            | some l =>
              rw [e4] at q
              obtain ⟨v', ev', h5⟩ := h3.take e4
              rw [ev] at ev'
              cases ev'
              exact q (v :: vs) G2 H2 h5 (by simp [e3]) ⟨ev, p⟩
theorem es_p {e : Expr} {es : List Expr} {i : Nat} {ts : List TE} {a : Av} {ms : List (Option Nat)} (h1 : PE X e (tVar i)) (h2 : Es X s W ms es ts a) (hs : starEach (e :: es) X.env = (false, eval e X.env) :: starEach es X.env := by rfl) :
    Es X s W (some i :: ms) (e :: es) (tVar i :: ts) (aP i a) := ⟨.cons h1 h2.pes hs, Da.p h2.da⟩
/-- an operation's end: the answer, the places laid back -/
def eO (ms : List (Option Nat)) (a : Av) (F : Fv) : Ev := fun r => (a r).bind fun (ls, r1) => match F ls with
  | .ok (l, ls') => .ok (l, backs ms ls' r1)
  | .exc x ls' => .exc x (backs ms ls' r1)
  | .stuck => .stuck
theorem De.op {ms : List (Option Nat)} {ts : List TE} {a : Av} {F : Fv} {r : List V → Hp → VK → Prop} (h2 : Da s W ms (tAll ts) a) (ho : ∀ σ, Dop s (fun cls d H => W cls d σ H) (r) F) :
    De s W (fun σ H Q => tAll ts σ H fun vs H1 => r vs H1 Q) (eO ms a F) := fun c hc G H th rh ta si Q h q => by
  refine h2 c hc G H th rh ta si _ h ?_
  unfold eO at q
  cases e2 : a rh with
  | stuck => rw [e2] at q; exact q.elim
  | exc x r => rw [e2] at q; exact q
  | ok lr2 =>
    obtain ⟨ls, r2⟩ := lr2
    rw [e2] at q
    simp only [Out.bind_ok] at q
    intro vs G2 H2 h3 e3 p
    refine ho si c hc G2 H2 th r2 ta si ls vs Q h3 e3 ?_
    cases e4 : F ls with
    | stuck => rw [e4] at q; exact q.elim
    | exc x ls' =>
      rw [e4] at q
      intro cls od G' H' h5 xr
      have l1 := h5.lt
      have l2 := h3.lt
      simp only [List.length_append, List.length_map] at l1 l2
      exact q cls od G' H' (S0.backs (t1 := []) (v1 := []) h5 rfl (by omega) p) xr
    | ok ll =>
      obtain ⟨l, ls'⟩ := ll
      rw [e4] at q
      intro v G' H' h5
      have l1 := h5.lt
      have l2 := h3.lt
      simp only [List.length_append, List.length_map, List.length_cons] at l1 l2
      exact q v G' H' (S0.backs (t1 := [some l]) (v1 := [some v]) h5 rfl (by omega) p)
theorem Pes.two {a b : Expr} {ta tb : TE} (h : Pes X [a, b] [ta, tb]) : PE X a ta ∧ PE X b tb := by
  cases h with
  | cons h1 h2 _ => cases h2 with
    | cons h3 _ _ => exact ⟨h1, h3⟩
theorem Pes.one {a : Expr} {ta : TE} (h : Pes X [a] [ta]) : PE X a ta := by
  cases h with
  | cons h1 h2 _ => exact h1
/-- what a two-place reading is of a list -/
def r2 (r : R2) : List V → Hp → VK → Prop := fun vs H Q => match vs with
  | [x, y] => r x y H Q
  | _ => False
def r1 (r : V → Hp → VK → Prop) : List V → Hp → VK → Prop := fun vs H Q => match vs with
  | [x] => r x H Q
  | _ => False
theorem ed_bin {a b : Expr} {op : Operator} {pos : Pos} {r : R2} {ms ta tb f F} (o : OpR X (binaryOp op) r) (h : Es X s W ms [a, b] [ta, tb] f) (ho : ∀ σ, Dop s (fun cls d H => W cls d σ H) (r2 r) F) :
    Ed X s W (.BinOp a op b pos) (tOp r ta tb) (eO ms f F) := ⟨pe_op o h.pes.two.1 h.pes.two.2, De.op h.da ho⟩
theorem ed_cmp {a b : Expr} {op : CmpOp} {pos : Pos} {r : R2} {ms ta tb f F} (o : OpR X (compareOp op) r) (h : Es X s W ms [a, b] [ta, tb] f) (ho : ∀ σ, Dop s (fun cls d H => W cls d σ H) (r2 r) F) (hm : behindInMarks op b = false := by first | exact nomark _ | rfl) :
    Ed X s W (.Compare a [op] [b] pos) (tOp r ta tb) (eO ms f F) := ⟨pe_cmpR o h.pes.two.1 h.pes.two.2 hm, De.op h.da ho⟩
theorem ed_un {a : Expr} {op : UnaryOp} {pos : Pos} {r : V → Hp → VK → Prop} {ms ta f F} (o : UnR X (unaryOp op) r) (h : Es X s W ms [a] [ta] f) (ho : ∀ σ, Dop s (fun cls d H => W cls d σ H) (r1 r) F) :
    Ed X s W (.UnaryOp op a pos) (tUn r ta) (eO ms f F) := ⟨pe_un o h.pes.one, De.op h.da ho⟩
theorem ed_ix {a b : Expr} {pos : Pos} {r : R2} {ms ta tb f F} (o : IxR X r) (h : Es X s W ms [a, b] [ta, tb] f) (ho : ∀ σ, Dop s (fun cls d H => W cls d σ H) (r2 r) F) (hs : PlainIx b := by exact fun _ _ => rfl) :
    Ed X s W (.Subscript a b pos) (tOp r ta tb) (eO ms f F) := ⟨pe_ix o h.pes.two.1 h.pes.two.2 hs, De.op h.da ho⟩
theorem ed_tup {es : List Expr} {x1} {pos : Pos} {ms ts f F} (h : Es X s W ms es ts f) (ho : ∀ σ, Dop s (fun cls d H => W cls d σ H) (fun xs H1 Q => xs.length ≤ sizeLine ∧ ∀ p, H1 p = none → Q (.ref p) (upd H1 p (.tup xs))) F) :
    Ed X s W (.Tuple es x1 pos) (tTup (tAll ts)) (eO ms f F) := ⟨pe_tup h.pes.pa, De.op h.da ho⟩
theorem ed_lst {es : List Expr} {pos : Pos} {ms ts f F} (h : Es X s W ms es ts f) (ho : ∀ σ, Dop s (fun cls d H => W cls d σ H) (fun xs H1 Q => xs.length ≤ sizeLine ∧ ∀ p, H1 p = none → Q (.ref p) (upd H1 p (.lst xs))) F) :
    Ed X s W (.List es pos) (tLst (tAll ts)) (eO ms f F) := ⟨pe_lst h.pes.pa, De.op h.da ho⟩
end
end Dl
namespace Dl
open PySem L2

section
variable {c : Cn} {G H : Hp} {th rh t0 t1 : Rho} {ta si v0 v1 : List (Option V)}
theorem S0.dropMid (h : S0 c G H (t0 ++ (t1 ++ th)) rh (v0 ++ (v1 ++ ta)) si) (e0 : t0.length = v0.length) (e1 : t1.length = v1.length) : S0 c G H (t0 ++ th) rh (v0 ++ ta) si := by
  rw [← List.append_assoc, ← List.append_assoc] at h
  obtain ⟨f1, o, nd, k, j⟩ := S0.split h (by simp [e0, e1])
  obtain ⟨fa, fb, oa, ob, rfl⟩ := Ow.split e0 o
  refine j.run G H _ _ fa oa (List.nodup_append.mp nd).1 (fun a m => ⟨k a (by simp [m]), .inl (by simp [m])⟩) (fun _ _ q => q) h.gh (fun _ _ q _ => q) (fun _ q => .inl q)
end

/-! ### tests -/
abbrev Tv := Rho → Out Rho (Bool × Rho)
def Dc (s : Cs) (W : WX) (t : TT) (f : Tv) : Prop :=
  ∀ (c : Cn), c.toCs = s → ∀ (G H : Hp) (th rh : Rho) (ta : List (Option V)) (si : L2.St) (Q : Bool → Hp → Prop), S0 c G H th rh ta si →
    (match f rh with
      | .ok (b, r) => ∀ G' H', S0 c G' H' th r ta si → Q b H'
      | .exc x r => ∀ cls od G' H', S0 c G' H' th r ta si → XR s x cls od H' → W cls od si H'
      | .stuck => False) → t si H Q
structure Ec (X : Cx) (s : Cs) (W : WX) (e : Expr) (t : TT) (f : Tv) : Prop where
  pt : PT X e t
  dc : Dc s W t f
structure Ew (X : Cx) (s : Cs) (W : WX) (e : Expr) (t : TT) (f : Tv) : Prop where
  pw : PW X e t
  dc : Dc s W t f
def asB : L → Option Bool
  | .fz (.bl b) => some b
  | _ => none
theorem asB_some {l : L} {b : Bool} (h : asB l = some b) : l = .fz (.bl b) := by
  unfold asB at h
  split at h
  · cases h; rfl
  · cases h
def cB (f : Ev) : Tv := fun r => (f r).bind fun (l, r1) => match asB l with
  | some b => .ok (b, r1)
  | none => .stuck
section
variable {X : Cx} {s : Cs} {W : WX}
theorem S0.topD {c : Cn} {G H : Hp} {th rh : Rho} {ta si : List (Option V)} {d : D} {v : V} (h : S0 c G H (some (.fz d) :: th) rh (some v :: ta) si) : Dt c.K c.ct G [d] [v] := by
  obtain ⟨f1, o, _⟩ := S0.split (t1 := [some (.fz d)]) (v1 := [some v]) (th := th) (ta := ta) h rfl
  cases o with
  | fz r _ => exact r
theorem dt_bl {K : PySem.W.Frag} {ct : Str → Option Addr} {G : Hp} {b : Bool} {v : V} (h : Dt K ct G [.bl b] [v]) : v = .bl b := by cases h; rfl
theorem dt_int {K : PySem.W.Frag} {ct : Str → Option Addr} {G : Hp} {b : Int} {v : V} (h : Dt K ct G [.int b] [v]) : v = .int b := by cases h; rfl
theorem dt_str {K : PySem.W.Frag} {ct : Str → Option Addr} {G : Hp} {b : Str} {v : V} (h : Dt K ct G [.str b] [v]) : v = .str b := by cases h; rfl
theorem dt_non {K : PySem.W.Frag} {ct : Str → Option Addr} {G : Hp} {v : V} (h : Dt K ct G [.non] [v]) : v = .non := by cases h; rfl
theorem Dc.ofB {t : TE} {f : Ev} (h : De s W t f) : Dc s W (fun σ H Q => t σ H fun x H1 => ∃ c, x = .bl c ∧ Q c H1) (cB f) := fun c hc G H th rh ta si Q h0 q => by
  refine h c hc G H th rh ta si _ h0 ?_
  unfold cB at q
  cases e : f rh with
  | stuck => rw [e] at q; exact q.elim
  | exc x r => rw [e] at q; exact q
  | ok lr =>
    obtain ⟨l, r⟩ := lr
    rw [e] at q
    simp only [Out.bind_ok] at q
    intro v G' H' h1
    cases eb : asB l with
    | none => rw [eb] at q; exact q.elim
    | some b =>
      rw [eb] at q
      obtain rfl := asB_some eb
      exact ⟨b, dt_bl h1.topD, q G' H' h1.pop⟩
theorem ec_cmp {a b : Expr} {op : CmpOp} {pos : Pos} {r : R2} {ms ta tb f F} (o : OpR X (compareOp op) r) (h : Es X s W ms [a, b] [ta, tb] f) (ho : ∀ σ, Dop s (fun cls d H => W cls d σ H) (r2 r) F) (hm : behindInMarks op b = false := by first | exact nomark _ | rfl) :
    Ec X s W (.Compare a [op] [b] pos) (tTest (tOp r ta tb)) (cB (eO ms f F)) := ⟨pt_cmpR o h.pes.two.1 h.pes.two.2 hm, Dc.ofB (De.op (r := r2 r) h.da ho)⟩
/-- an expression that gives a truth -/
theorem ec_val {e : Expr} {t : TE} {f : Ev} (h : Ed X s W e t f) (he : ∀ whole, isTrue e X.env whole = (do let v ← whole; standAt e.pos; holding [v] (truthy v)) := by intro _; rfl) : Ec X s W e (tB t) (cB f) := ⟨pt_val h.pe he, Dc.ofB h.de⟩
def cNot (f : Tv) : Tv := fun r => (f r).bind fun (b, r1) => .ok (!b, r1)
theorem ec_not {e : Expr} {pos : Pos} {t : TT} {f : Tv} (h : Ec X s W e t f) : Ec X s W (.UnaryOp .Not e pos) (tNot t) (cNot f) :=
  ⟨pt_not h.pt, fun c hc G H th rh ta si Q h0 q => by
    refine h.dc c hc G H th rh ta si _ h0 ?_
    unfold cNot at q
    cases e : f rh with
    | stuck => rw [e] at q; exact q.elim
    | exc x r => rw [e] at q; exact q
    | ok lr => rw [e] at q; exact q⟩
def cAnd (f g : Tv) : Tv := fun r => (f r).bind fun (b, r1) => if b then g r1 else .ok (false, r1)
def cOr (f g : Tv) : Tv := fun r => (f r).bind fun (b, r1) => if b then .ok (true, r1) else g r1
theorem Dc.and {t u : TT} {f g : Tv} (h1 : Dc s W t f) (h2 : Dc s W u g) : Dc s W (tAnd t u) (cAnd f g) := fun c hc G H th rh ta si Q h0 q => by
  refine h1 c hc G H th rh ta si _ h0 ?_
  unfold cAnd at q
  cases e : f rh with
  | stuck => rw [e] at q; exact q.elim
  | exc x r => rw [e] at q; exact q
  | ok lr =>
    obtain ⟨b, r⟩ := lr
    rw [e] at q
    intro G' H' h3
    cases b with
    | true => exact h2 c hc G' H' th r ta si Q h3 q
    | false => exact q G' H' h3
theorem Dc.or {t u : TT} {f g : Tv} (h1 : Dc s W t f) (h2 : Dc s W u g) : Dc s W (tOr t u) (cOr f g) := fun c hc G H th rh ta si Q h0 q => by
  refine h1 c hc G H th rh ta si _ h0 ?_
  unfold cOr at q
  cases e : f rh with
  | stuck => rw [e] at q; exact q.elim
  | exc x r => rw [e] at q; exact q
  | ok lr =>
    obtain ⟨b, r⟩ := lr
    rw [e] at q
    intro G' H' h3
    cases b with
    | false => exact h2 c hc G' H' th r ta si Q h3 q
    | true => exact q G' H' h3
theorem ew_and1 {a : Expr} {pos : Pos} {t f} (h : Ec X s W a t f) : Ew X s W (.BoolOp .And [a] pos) t f := ⟨pw_and1 h.pt, h.dc⟩
theorem ew_or1 {a : Expr} {pos : Pos} {t f} (h : Ec X s W a t f) : Ew X s W (.BoolOp .Or [a] pos) t f := ⟨pw_or1 h.pt, h.dc⟩
theorem ew_and {a b : Expr} {rest : List Expr} {pos : Pos} {t u f g} (h1 : Ec X s W a t f) (h2 : Ew X s W (.BoolOp .And (b :: rest) pos) u g) : Ew X s W (.BoolOp .And (a :: b :: rest) pos) (tAnd t u) (cAnd f g) := ⟨pw_and h1.pt h2.pw, h1.dc.and h2.dc⟩
theorem ew_or {a b : Expr} {rest : List Expr} {pos : Pos} {t u f g} (h1 : Ec X s W a t f) (h2 : Ew X s W (.BoolOp .Or (b :: rest) pos) u g) : Ew X s W (.BoolOp .Or (a :: b :: rest) pos) (tOr t u) (cOr f g) := ⟨pw_or h1.pt h2.pw, h1.dc.or h2.dc⟩
theorem ec_w {e : Expr} {t f} (h : Ew X s W e t f) : Ec X s W e t f := ⟨h.pw.pt, h.dc⟩
/-- and, or as values: all but the last truths -/
def eAnd (f g : Ev) : Ev := fun r => (f r).bind fun (l, r1) => match asB l with
  | some true => g r1
  | some false => .ok (.fz (.bl false), r1)
  | none => .stuck
def eOr (f g : Ev) : Ev := fun r => (f r).bind fun (l, r1) => match asB l with
  | some true => .ok (.fz (.bl true), r1)
  | some false => g r1
  | none => .stuck
theorem ed_one {op} {a : Expr} {pos : Pos} {t f} (h : Ed X s W a t f) : Ed X s W (.BoolOp op [a] pos) t f := ⟨pe_one h.pe, h.de⟩
theorem ed_and {a b : Expr} {rest : List Expr} {pos : Pos} {t u f g} (h1 : Ed X s W a t f) (h2 : Ed X s W (.BoolOp .And (b :: rest) pos) u g) : Ed X s W (.BoolOp .And (a :: b :: rest) pos) (tAndV t u) (eAnd f g) :=
  ⟨pe_and h1.pe h2.pe, fun c hc G H th rh ta si Q h0 q => by
    refine h1.de c hc G H th rh ta si _ h0 ?_
    unfold eAnd at q
    cases e : f rh with
    | stuck => rw [e] at q; exact q.elim
    | exc x r => rw [e] at q; exact q
    | ok lr =>
      obtain ⟨l, r⟩ := lr
      rw [e] at q
      intro v G' H' h3
      simp only [Out.bind_ok] at q
      cases eb : asB l with
      | none => rw [eb] at q; exact q.elim
      | some b =>
        rw [eb] at q
        obtain rfl := asB_some eb
        refine ⟨b, dt_bl h3.topD, ?_⟩
        cases b with
        | true => exact h2.de c hc G' H' th r ta si Q h3.pop q
        | false => exact q _ G' H' (h3.pop.push (.bl .nil))⟩
theorem ed_or {a b : Expr} {rest : List Expr} {pos : Pos} {t u f g} (h1 : Ed X s W a t f) (h2 : Ed X s W (.BoolOp .Or (b :: rest) pos) u g) : Ed X s W (.BoolOp .Or (a :: b :: rest) pos) (tOrV t u) (eOr f g) :=
  ⟨pe_or h1.pe h2.pe, fun c hc G H th rh ta si Q h0 q => by
    refine h1.de c hc G H th rh ta si _ h0 ?_
    unfold eOr at q
    cases e : f rh with
    | stuck => rw [e] at q; exact q.elim
    | exc x r => rw [e] at q; exact q
    | ok lr =>
      obtain ⟨l, r⟩ := lr
      rw [e] at q
      intro v G' H' h3
      simp only [Out.bind_ok] at q
      cases eb : asB l with
      | none => rw [eb] at q; exact q.elim
      | some b =>
        rw [eb] at q
        obtain rfl := asB_some eb
        refine ⟨b, dt_bl h3.topD, ?_⟩
        cases b with
        | false => exact h2.de c hc G' H' th r ta si Q h3.pop q
        | true => exact q _ G' H' (h3.pop.push (.bl .nil))⟩
def eNot (f : Ev) : Ev := fun r => (f r).bind fun (l, r1) => match asB l with
  | some b => .ok (.fz (.bl (!b)), r1)
  | none => .stuck
theorem ed_not {a : Expr} {pos : Pos} {t f} (h1 : Ed X s W a t f) : Ed X s W (.UnaryOp .Not a pos) (tNotV t) (eNot f) :=
  ⟨pe_not h1.pe, fun c hc G H th rh ta si Q h0 q => by
    refine h1.de c hc G H th rh ta si _ h0 ?_
    unfold eNot at q
    cases e : f rh with
    | stuck => rw [e] at q; exact q.elim
    | exc x r => rw [e] at q; exact q
    | ok lr =>
      obtain ⟨l, r⟩ := lr
      rw [e] at q
      intro v G' H' h3
      simp only [Out.bind_ok] at q
      cases eb : asB l with
      | none => rw [eb] at q; exact q.elim
      | some b =>
        rw [eb] at q
        obtain rfl := asB_some eb
        exact ⟨b, dt_bl h3.topD, q _ G' H' (h3.pop.push (.bl .nil))⟩⟩
def eIf (c : Tv) (f g : Ev) : Ev := fun r => (c r).bind fun (b, r1) => if b then f r1 else g r1
theorem ed_if {e a b : Expr} {pos : Pos} {tc t u fc f g} (hc : Ec X s W e tc fc) (h1 : Ed X s W a t f) (h2 : Ed X s W b u g) : Ed X s W (.IfExp e a b pos) (tIf tc t u) (eIf fc f g) :=
  ⟨pe_ifExp hc.pt h1.pe h2.pe, fun c hcs G H th rh ta si Q h0 q => by
    refine hc.dc c hcs G H th rh ta si _ h0 ?_
    unfold eIf at q
    cases e : fc rh with
    | stuck => rw [e] at q; exact q.elim
    | exc x r => rw [e] at q; exact q
    | ok lr =>
      obtain ⟨b, r⟩ := lr
      rw [e] at q
      intro G' H' h3
      cases b with
      | true => exact h1.de c hcs G' H' th r ta si Q h3 q
      | false => exact h2.de c hcs G' H' th r ta si Q h3 q⟩

/-! ### calls of built-ins by name, of methods of built-in types -/
theorem ed_callB {x : Str} {id : String} {e : Expr} {es : List Expr} {p pos : Pos} {r : List V → Hp → VK → Prop} {ms ts f F} (hc : CallR X (.builtin id) r) (hg : Gl X x) (hm : X.mg x = none) (hv : bootBuiltins x = some (.builtin id)) (h : Es X s W ms (e :: es) ts f)
    (ho : ∀ σ, Dop s (fun cls d H => W cls d σ H) r F) (hn : x ≠ "__name__" := by decide) (hdb : (x == ("__debug__" : Str)) = false := by decide)
    (he : starEach (e :: es) X.env = (false, eval e X.env) :: starEach es X.env := by rfl) (hpl : (backTo pos (starEach es X.env)).any (·.1) = false := by rfl) :
    Ed X s W (.Call (.Name x p) (e :: es) [] pos) (tCB r (tAll ts)) (eO ms f F) := ⟨pe_callB hc hg hm hv h.pes.pa hn hdb he hpl, De.op h.da ho⟩
theorem ed_callTy {x : Str} {T : String} {e : Expr} {es : List Expr} {p pos : Pos} {r : List V → Hp → VK → Prop} {ms ts f F} (hc : CallR X (.type T) r) (hg : Gl X x) (hm : X.mg x = none) (hv : bootBuiltins x = some (.type T)) (h : Es X s W ms (e :: es) ts f)
    (ho : ∀ σ, Dop s (fun cls d H => W cls d σ H) r F) (hn : x ≠ "__name__" := by decide) (hdb : (x == ("__debug__" : Str)) = false := by decide)
    (he : starEach (e :: es) X.env = (false, eval e X.env) :: starEach es X.env := by rfl) (hpl : (backTo pos (starEach es X.env)).any (·.1) = false := by rfl) :
    Ed X s W (.Call (.Name x p) (e :: es) [] pos) (tCB r (tAll ts)) (eO ms f F) := ⟨pe_callTy hc hg hm hv h.pes.pa hn hdb he hpl, De.op h.da ho⟩

/-- a receiver that is asked for its kind ahead of the arguments -/
def tRecv (C : V → Hp → Prop) (r : List V → Hp → VK → Prop) (to : TE) (t : TA) : TE := fun σ H Q => to σ H fun x H1 => C x H1 ∧ t σ H1 fun xs H2 => r (x :: xs) H2 Q
/-- what lies on top is of that kind -/
def Chk (s : Cs) (C : V → Hp → Prop) (P : L → Bool) : Prop := ∀ (c : Cn), c.toCs = s → ∀ (G H : Hp) (th rh : Rho) (ta si : List (Option V)) (l : L) (v : V), S0 c G H (some l :: th) rh (some v :: ta) si → P l = true → C v H
/-- the receiver a value -/
def eRV (P : L → Bool) (o : Ev) (ms : List (Option Nat)) (a : Av) (F : Fv) : Ev := fun r => (o r).bind fun (l, r1) => if P l then eO (none :: ms) (fun r => (a r).bind fun (ls, r2) => .ok (l :: ls, r2)) F r1 else .stuck
/-- the receiver a slot -/
def eRP (P : L → Bool) (i : Nat) (ms : List (Option Nat)) (a : Av) (F : Fv) : Ev := fun r => match r[i]? with
  | some (some l) => if P l then eO (some i :: ms) (aP i a) F r else .stuck
  | _ => .stuck
theorem De.recvV {C : V → Hp → Prop} {P : L → Bool} {r : List V → Hp → VK → Prop} {to : TE} {o : Ev} {ms ts a F} (hC : Chk s C P) (h1 : De s W to o) (h2 : Da s W ms (tAll ts) a) (ho : ∀ σ, Dop s (fun cls d H => W cls d σ H) r F) :
    De s W (tRecv C r to (tAll ts)) (eRV P o ms a F) := fun c hc G H th rh ta si Q h0 q => by
  refine h1 c hc G H th rh ta si _ h0 ?_
  unfold eRV at q
  cases e : o rh with
  | stuck => rw [e] at q; exact q.elim
  | exc x r => rw [e] at q; exact q
  | ok lr =>
    obtain ⟨l, r1⟩ := lr
    rw [e] at q
    simp only [Out.bind_ok] at q
    intro v G1 H1 h3
    by_cases hp : P l = true
    · rw [if_pos hp] at q
      refine ⟨hC c hc G1 H1 _ _ _ si l v h3 hp, ?_⟩
      refine h2 c hc G1 H1 _ r1 _ si _ h3 ?_
      unfold eO at q
      dsimp only at q
      cases e2 : a r1 with
      | stuck => rw [e2] at q; exact q.elim
      | exc x r => rw [e2] at q; exact fun cls od G' H' h => q cls od G' H' h.pop
      | ok lr2 =>
        obtain ⟨ls, r2⟩ := lr2
        rw [e2] at q
        simp only [Out.bind_ok] at q
        intro vs G2 H2 h4 e3 p
        have h5 : S0 c G2 H2 ((l :: ls).map some ++ th) r2 ((v :: vs).map some ++ ta) si := S0.rot h4 (by simpa using e3)
        refine ho si c hc G2 H2 th r2 ta si (l :: ls) (v :: vs) Q h5 (by simp [e3]) ?_
        cases e4 : F (l :: ls) with
        | stuck => rw [e4] at q; exact q.elim
        | exc x ls' =>
          rw [e4] at q
          intro cls od G' H' h6 xr
          have l1 := h6.lt
          have l2 := h5.lt
          simp only [List.length_append, List.length_map, List.length_cons] at l1 l2
          exact q cls od G' H' (S0.backs (t1 := []) (v1 := []) (ms := none :: ms) (vs := v :: vs) h6 rfl (by simp; omega) p) xr
        | ok ll =>
          obtain ⟨l', ls'⟩ := ll
          rw [e4] at q
          intro v' G' H' h6
          have l1 := h6.lt
          have l2 := h5.lt
          simp only [List.length_append, List.length_map, List.length_cons] at l1 l2
          exact q v' G' H' (S0.backs (t1 := [some l']) (v1 := [some v']) (ms := none :: ms) (vs := v :: vs) h6 rfl (by simp; omega) p)
    · rw [if_neg hp] at q; exact q.elim
theorem De.recvP {C : V → Hp → Prop} {P : L → Bool} {r : List V → Hp → VK → Prop} {i : Nat} {ms ts a F} (hC : Chk s C P) (h2 : Da s W ms (tAll ts) a) (ho : ∀ σ, Dop s (fun cls d H => W cls d σ H) r F) :
    De s W (tRecv C r (tVar i) (tAll ts)) (eRP P i ms a F) := fun c hc G H th rh ta si Q h0 q => by
  unfold eRP at q
  cases e0 : rh[i]? with
  | none => rw [e0] at q; exact q.elim
  | some o =>
    cases o with
    | none => rw [e0] at q; exact q.elim
    | some l =>
      rw [e0] at q
      simp only at q
      by_cases hp : P l = true
      · rw [if_pos hp] at q
        obtain ⟨v, ev, h1⟩ := h0.take e0
        have hC1 := hC c hc G H _ _ _ si l v h1 hp
        obtain ⟨v', ev', q'⟩ := De.op (r := r) (Da.p h2) ho c hc G H th rh ta si Q h0 q
        rw [ev] at ev'
        cases ev'
        exact ⟨v, ev, hC1, q'⟩
      · rw [if_neg hp] at q; exact q.elim
end
end Dl
namespace Dl
open PySem L2

/-- what is wanted behind a statement, by what it comes to -/
def Ct (s : Cs) (W : WX) (c : Cn) (th : Rho) (ta : List (Option V)) (D : Ends) (o : Out Rho (Fl × Rho)) : Prop := match o with
  | .ok (.nx, r) => ∀ si' G' H', S0 c G' H' th r ta si' → D.nx si' H'
  | .ok (.brk, r) => ∀ si' G' H', S0 c G' H' th r ta si' → D.bk si' H'
  | .ok (.cont, r) => ∀ si' G' H', S0 c G' H' th r ta si' → D.ct si' H'
  | .ok (.ret l, r) => ∀ v si' G' H', S0 c G' H' (some l :: th) r (some v :: ta) si' → D.rt v H'
  | .exc x r => ∀ cls od si' G' H', S0 c G' H' th r ta si' → XR s x cls od H' → W cls od si' H'
  | .stuck => False
theorem Ds.iff {s : Cs} {W : WX} {t : TS} {g : Sv} : Ds s W t g ↔ ∀ (c : Cn), c.toCs = s → ∀ (G H : Hp) (th rh : Rho) (ta : List (Option V)) (si : L2.St) (D : Ends), S0 c G H th rh ta si → Ct s W c th ta D (g rh) → t D si H := by
  unfold Ds Ct
  exact Iff.rfl

section
variable {X : Cx} {s : Cs} {W : WX}
def gSeq (f g : Sv) : Sv := fun r => (f r).bind fun (fl, r1) => match fl with
  | .nx => g r1
  | fl => .ok (fl, r1)
def gNx : Sv := fun r => .ok (.nx, r)
theorem ss_nil : Ssd X s W [] tNext gNx := ⟨pss_nil, fun c hc G H th rh ta si D h q => q si G H h⟩
theorem ss_cons {st : Stmt} {rest : List Stmt} {t u f g} (h1 : Sd X s W st t f) (h2 : Ssd X s W rest u g) : Ssd X s W (st :: rest) (tSeq t u) (gSeq f g) :=
  ⟨pss_cons h1.ps h2.pss, fun c hc G H th rh ta si D h q => by
    show t { D with nx := u D } si H
    refine h1.ds c hc G H th rh ta si _ h ?_
    unfold gSeq at q
    cases e : f rh with
    | stuck => rw [e] at q; exact q.elim
    | exc x r => rw [e] at q; exact q
    | ok fr =>
      obtain ⟨fl, r⟩ := fr
      rw [e] at q
      simp only [Out.bind_ok] at q
      cases fl with
      | nx => exact fun si' G' H' h' => h2.ds c hc G' H' th r ta si' D h' q
      | brk => exact q
      | cont => exact q
      | ret l => exact q⟩
theorem ss_one {st : Stmt} {t f} (h1 : Sd X s W st t f) : Ssd X s W [st] t f := ⟨pss_one h1.ps, h1.ds⟩
def gFl (fl : Fl) : Sv := fun r => .ok (fl, r)
theorem sd_pass {pos} : Sd X s W (.Pass pos) tNext (gFl .nx) := ⟨ps_pass, fun c hc G H th rh ta si D h q => q si G H h⟩
theorem sd_break {pos} : Sd X s W (.Break pos) tBreak (gFl .brk) := ⟨ps_break, fun c hc G H th rh ta si D h q => q si G H h⟩
theorem sd_cont {pos} : Sd X s W (.Continue pos) tCont (gFl .cont) := ⟨ps_continue, fun c hc G H th rh ta si D h q => q si G H h⟩
def gDrop (e : Ev) : Sv := fun r => (e r).bind fun (_, r1) => .ok (.nx, r1)
theorem sd_expr {e : Expr} {pos : Pos} {t f} (h1 : Ed X s W e t f) (hs : swapsWith e none pos.line X.env = pure false := by rfl) : Sd X s W (.Expr e pos) (tDrop t) (gDrop f) :=
  ⟨ps_expr h1.pe hs, fun c hc G H th rh ta si D h q => by
    refine h1.de c hc G H th rh ta si _ h ?_
    unfold gDrop at q
    cases e : f rh with
    | stuck => rw [e] at q; exact q.elim
    | exc x r => rw [e] at q; exact fun cls od G' H' h => q cls od si G' H' h
    | ok lr => rw [e] at q; exact fun v G' H' h => q si G' H' h.pop⟩
def gRet (e : Ev) : Sv := fun r => (e r).bind fun (l, r1) => .ok (.ret l, r1)
theorem sd_ret {e : Expr} {pos : Pos} {t f} (h1 : Ed X s W e t f) : Sd X s W (.Return (some e) pos) (tRet t) (gRet f) :=
  ⟨ps_ret h1.pe, fun c hc G H th rh ta si D h q => by
    refine h1.de c hc G H th rh ta si _ h ?_
    unfold gRet at q
    cases e : f rh with
    | stuck => rw [e] at q; exact q.elim
    | exc x r => rw [e] at q; exact fun cls od G' H' h => q cls od si G' H' h
    | ok lr => rw [e] at q; exact fun v G' H' h => q v si G' H' h⟩
/-- a slot's own thing handed back -/
def gRetP (i : Nat) : Sv := fun r => match r[i]? with
  | some (some l) => .ok (.ret l, r.set i none)
  | _ => .stuck
theorem sd_retP {e : Expr} {pos : Pos} {i : Nat} (h1 : PE X e (tVar i)) : Sd X s W (.Return (some e) pos) (tRet (tVar i)) (gRetP i) :=
  ⟨ps_ret h1, fun c hc G H th rh ta si D h q => by
    unfold gRetP at q
    cases e0 : rh[i]? with
    | none => rw [e0] at q; exact q.elim
    | some o =>
      cases o with
      | none => rw [e0] at q; exact q.elim
      | some l =>
        rw [e0] at q
        obtain ⟨v, ev, h1⟩ := h.take e0
        exact ⟨v, ev, q v si G H h1⟩⟩
theorem sd_retN {pos : Pos} : Sd X s W (.Return none pos) tRetN (gFl (.ret (.fz .non))) := ⟨ps_retN, fun c hc G H th rh ta si D h q => q .non si G H (h.push (.non .nil))⟩
def gIf (c : Tv) (f g : Sv) : Sv := fun r => (c r).bind fun (b, r1) => if b then f r1 else g r1
theorem sd_if {e : Expr} {a b : List Stmt} {pos : Pos} {tc t u fc f g} (hc : Ec X s W e tc fc) (h1 : Ssd X s W a t f) (h2 : Ssd X s W b u g) : Sd X s W (.If e a b pos) (tIfS tc t u) (gIf fc f g) :=
  ⟨ps_if hc.pt h1.pss h2.pss, fun c hcs G H th rh ta si D h0 q => by
    refine hc.dc c hcs G H th rh ta si _ h0 ?_
    unfold gIf at q
    cases e : fc rh with
    | stuck => rw [e] at q; exact q.elim
    | exc x r => rw [e] at q; exact fun cls od G' H' h => q cls od si G' H' h
    | ok lr =>
      obtain ⟨b, r⟩ := lr
      rw [e] at q
      intro G' H' h3
      cases b with
      | true => exact h1.ds c hcs G' H' th r ta si D h3 q
      | false => exact h2.ds c hcs G' H' th r ta si D h3 q⟩

/-! ### targets -/
abbrev Bv := D → Rho → Option Rho
/-- a target's reading: bs the slots that it stores -/
def Dg (s : Cs) (bs : List Nat) (g : TG) (b : Bv) : Prop :=
  ∀ (c : Cn), c.toCs = s → ∀ (G H : Hp) (th rh r' : Rho) (ta : List (Option V)) (si : L2.St) (d : D) (v : V) (Q : L2.St → Hp → Prop), S0 c G H th rh ta si → Dt c.K c.ct G [d] [v] → b d rh = some r' →
    (∀ si', S0 c G H th r' ta si' → si'.length = si.length → (∀ j, j ∉ bs → si'[j]? = si[j]?) → Q si' H) → g v si H Q
def bName (i : Nat) : Bv := fun d r => if i < r.length then some (r.set i (some (.fz d))) else none
theorem dg_name {i : Nat} (hp : s.pin[i]? ≠ some true) : Dg s [i] (gName i) (bName i) := fun c hc G H th rh r' ta si d v Q h r e q => by
  unfold bName at e
  by_cases hi : i < rh.length
  · rw [if_pos hi] at e
    cases e
    refine q _ ((h.push r).put hi (fun hh => absurd hh (by rw [hc]; exact hp))) (by simp) fun j hj => ?_
    rw [List.getElem?_set_ne (by intro e; exact hj (by simp [e]))]
  · rw [if_neg hi] at e; cases e
abbrev Bvs := List D → Rho → Option Rho
def Dgs (s : Cs) (bs : List Nat) (g : TGs) (b : Bvs) : Prop :=
  ∀ (c : Cn), c.toCs = s → ∀ (G H : Hp) (th rh r' : Rho) (ta : List (Option V)) (si : L2.St) (ds : List D) (vs : List V) (Q : L2.St → Hp → Prop), S0 c G H th rh ta si → Dt c.K c.ct G ds vs → b ds rh = some r' →
    (∀ si', S0 c G H th r' ta si' → si'.length = si.length → (∀ j, j ∉ bs → si'[j]? = si[j]?) → Q si' H) → g vs si H Q
def bNil : Bvs := fun ds r => match ds with
  | [] => some r
  | _ => none
def bCons (b : Bv) (bs : Bvs) : Bvs := fun ds r => match ds with
  | d :: ds => (b d r).bind fun r1 => bs ds r1
  | [] => none
theorem dgs_nil : Dgs s [] gNil bNil := fun c hc G H th rh r' ta si ds vs Q h r e q => by
  cases ds with
  | cons _ _ => cases e
  | nil =>
    cases e
    cases r
    exact ⟨rfl, q si h rfl fun _ _ => rfl⟩
theorem dgs_cons {n1 n2 : List Nat} {g : TG} {gs : TGs} {b : Bv} {bs : Bvs} (h1 : Dg s n1 g b) (h2 : Dgs s n2 gs bs) : Dgs s (n1 ++ n2) (gCons g gs) (bCons b bs) := fun c hc G H th rh r' ta si ds vs Q h r e q => by
  cases ds with
  | nil => cases e
  | cons d ds =>
    cases vs with
    | nil => cases r
    | cons v vs =>
      obtain ⟨r1, r2⟩ := r.uncons
      unfold bCons at e
      simp only at e
      cases e1 : b d rh with
      | none => rw [e1] at e; cases e
      | some rh1 =>
        rw [e1] at e
        refine ⟨v, vs, rfl, h1 c hc G H th rh rh1 ta si d v _ h r1 e1 fun si' h' hl hk => ?_⟩
        refine h2 c hc G H th rh1 r' ta si' ds vs _ h' r2 e fun si2 h2' hl2 hk2 => ?_
        exact q si2 h2' (hl2.trans hl) fun j hj => (hk2 j (by simp at hj; exact hj.2)).trans (hk j (by simp at hj; exact hj.1))
def bTup (b : Bvs) (n : Nat) : Bv := fun d r => match d with
  | .tup ds => if ds.length = n then b ds r else none
  | _ => none
theorem dg_tup {n : Nat} {bs : List Nat} {g : TGs} {b : Bvs} (h1 : Dgs s bs g b) : Dg s bs (gTup s.K n g) (bTup b n) := fun c hc G H th rh r' ta si d v Q h r e q => by
  subst hc
  unfold bTup at e
  cases d with
  | tup ds =>
    simp only at e
    by_cases hn : ds.length = n
    · rw [if_pos hn] at e
      cases r with
      | @tup a ws _ _ _ sq r _ => exact ⟨a, ws, rfl, .inl (h.gh.rd sq), by rw [← hn, r.length], h1 c rfl G H th rh r' ta si ds ws Q h r e q⟩
    · rw [if_neg hn] at e; cases e
  | _ => cases e
structure Tg (X : Cx) (s : Cs) (bs : List Nat) (e : Expr) (g : TG) (b : Bv) : Prop where
  pg : PG X e g
  dg : Dg s bs g b
structure Tgs (X : Cx) (s : Cs) (bs : List Nat) (e : List Expr) (g : TGs) (b : Bvs) : Prop where
  pgs : PGs X e g
  dgs : Dgs s bs g b
theorem tg_name {i : Nat} {x : Str} {pos : Pos} (hN : X.N.Nodup) (hi : X.N[i]? = some x) (hx : Loc X.env.scope x) (hp : s.pin[i]? ≠ some true) (hf : X.fn x = true ∨ X.env.scope.names.lookup x = some .local := by first | exact .inl rfl | exact .inr rfl | assumption) : Tg X s [i] (.Name x pos) (gName i) (bName i) := ⟨pg_name hN hi hx hf, dg_name hp⟩
theorem tgs_nil : Tgs X s [] [] gNil bNil := ⟨pgs_nil, dgs_nil⟩
theorem tgs_cons {n1 n2 : List Nat} {e : Expr} {es : List Expr} {g gs b bs} (h1 : Tg X s n1 e g b) (h2 : Tgs X s n2 es gs bs) (hs : (assignEach (e :: es) X.env).map (·.2) = assign e X.env :: (assignEach es X.env).map (·.2) := by rfl) : Tgs X s (n1 ++ n2) (e :: es) (gCons g gs) (bCons b bs) := ⟨pgs_cons h1.pg h2.pgs hs, dgs_cons h1.dg h2.dgs⟩
theorem tg_tup {bs : List Nat} {es : List Expr} {k : Nat} {pos : Pos} {n : Nat} {g b} (hk : X.K = s.K) (hc : X.calm = true) (h : Tgs X s bs es g b) (hn : (assignEach es X.env).length = n := by rfl) (hst : (assignEach es X.env).findIdx? (·.1) = none := by rfl) : Tg X s bs (.Tuple es k pos) (gTup X.K n g) (bTup b n) :=
  ⟨pg_tup hc h.pgs hn hst, by rw [hk]; exact dg_tup h.dgs⟩
/-- name = e -/
def gSet (i : Nat) (e : Ev) : Sv := fun r => (e r).bind fun (l, r1) => if i < r1.length then .ok (.nx, r1.set i (some l)) else .stuck
theorem Ds.set {i : Nat} {t : TE} {f : Ev} (h1 : De s W t f) (hp : s.pin[i]? ≠ some true) : Ds s W (tAsg t (gName i)) (gSet i f) := fun c hc G H th rh ta si D h q => by
  refine h1 c hc G H th rh ta si _ h ?_
  unfold gSet at q
  cases e : f rh with
  | stuck => rw [e] at q; exact q.elim
  | exc x r => rw [e] at q; exact fun cls od G' H' h => q cls od si G' H' h
  | ok lr =>
    obtain ⟨l, r⟩ := lr
    rw [e] at q
    simp only [Out.bind_ok] at q
    intro v G' H' h3
    by_cases hi : i < r.length
    · rw [if_pos hi] at q
      exact q _ G' H' (h3.put hi (fun hh => absurd hh (by rw [hc]; exact hp)))
    · rw [if_neg hi] at q; exact q.elim
theorem sd_set {i : Nat} {x : Str} {e : Expr} {pos pos' : Pos} {t f} (hN : X.N.Nodup) (hi : X.N[i]? = some x) (hx : Loc X.env.scope x) (hp : s.pin[i]? ≠ some true) (h1 : Ed X s W e t f) (hs : swapsWith e (some (.Name x pos')) pos.line X.env = pure false := by rfl)
    (hf : X.fn x = true ∨ X.env.scope.names.lookup x = some .local := by first | exact .inl rfl | exact .inr rfl | assumption) : Sd X s W (.Assign [.Name x pos'] e pos) (tAsg t (gName i)) (gSet i f) := ⟨ps_set hN hi hx h1.pe hs hf, Ds.set h1.de hp⟩
/-- target = e, the thing still -/
def gAsg (b : Bv) (e : Ev) : Sv := fun r => (e r).bind fun (l, r1) => match b l.toD r1 with
  | some r2 => .ok (.nx, r2)
  | none => .stuck
theorem Ds.asg {bs : List Nat} {t : TE} {f : Ev} {g : TG} {b : Bv} (h1 : De s W t f) (h2 : Dg s bs g b) : Ds s W (tAsg t g) (gAsg b f) := fun c hc G H th rh ta si D h q => by
  refine h1 c hc G H th rh ta si _ h ?_
  unfold gAsg at q
  cases e : f rh with
  | stuck => rw [e] at q; exact q.elim
  | exc x r => rw [e] at q; exact fun cls od G' H' h => q cls od si G' H' h
  | ok lr =>
    obtain ⟨l, r⟩ := lr
    rw [e] at q
    simp only [Out.bind_ok] at q
    intro v G' H' h3
    cases e2 : b l.toD r with
    | none => rw [e2] at q; exact q.elim
    | some r2 =>
      rw [e2] at q
      obtain ⟨G2, sg, dt, h4⟩ := h3.freeze
      exact h2 c hc G2 H' th r r2 ta si _ v _ h4 dt e2 fun si' h5 _ _ => q si' G2 H' h5
theorem sd_asg {bs : List Nat} {tg e : Expr} {pos : Pos} {t g f b} (h1 : Ed X s W e t f) (h2 : Tg X s bs tg g b) (hs : swapsWithSole [tg] e pos.line X.env = pure false := by rfl) (hw : swappedStores [tg] e X.env = pure none := by rfl)
    (h3 : (assignEach [tg] X.env).map (·.2) = [assign tg X.env] := by rfl) : Sd X s W (.Assign [tg] e pos) (tAsg t g) (gAsg b f) := ⟨ps_asg h1.pe h2.pg hs hw h3, Ds.asg h1.de h2.dg⟩

/-! ### what is walked -/
structure Wk (c : Cn) (J : It) (ds : List D) (tj : Rho) (vj : List (Option V)) : Prop where
  len : tj.length = vj.length
  run : ∀ (i : Nat) (G H : Hp) (th rh : Rho) (ta si : List (Option V)), S0 c G H (tj ++ th) rh (vj ++ ta) si →
    (∀ d, ds[i]? = some d → J.go i H ∧ ∀ x H', J.yld i H x H' → ∃ G', Dt c.K c.ct G' [d] [x] ∧ S0 c G' H' (tj ++ th) rh (vj ++ ta) si) ∧ (ds.length ≤ i → J.stop i H)
abbrev Iv := Rho → Out Rho (List D × Rho)
def Di (s : Cs) (W : WX) (wi : TI) (f : Iv) : Prop :=
  ∀ (c : Cn), c.toCs = s → ∀ (G H : Hp) (th rh : Rho) (ta : List (Option V)) (si : L2.St) (R : It → Hp → Prop), S0 c G H th rh ta si →
    (match f rh with
      | .ok (ds, r) => ∀ J tj vj G' H', S0 c G' H' (tj ++ th) r (vj ++ ta) si → Wk c J ds tj vj → R J H'
      | .exc x r => ∀ cls od G' H', S0 c G' H' th r ta si → XR s x cls od H' → W cls od si H'
      | .stuck => False) → wi si H R
structure Id (X : Cx) (s : Cs) (W : WX) (tg e : Expr) (wi : TI) (f : Iv) : Prop where
  pi : PI X tg e wi
  di : Di s W wi f

/-! ### for -/
def forL (b : Bv) (body : Sv) : List D → Rho → Out Rho (Fl × Rho)
  | [], r => .ok (.nx, r)
  | d :: ds, r => match b d r with
    | none => .stuck
    | some r1 => (body r1).bind fun (fl, r2) => match fl with
      | .nx => forL b body ds r2
      | .cont => forL b body ds r2
      | .brk => .ok (.nx, r2)
      | .ret l => .ok (.ret l, r2)
def gFor (i : Iv) (b : Bv) (body : Sv) : Sv := fun r => (i r).bind fun (ds, r1) => forL b body ds r1
theorem Ds.for_ {bs : List Nat} {wi : TI} {fi : Iv} {g : TG} {b : Bv} {tb : TS} {body : Sv} (h1 : Di s W wi fi) (h2 : Dg s bs g b) (h3 : Ds s W tb body) : Ds s W (tFor wi g tb) (gFor fi b body) := fun c hc G H th rh ta si D h q => by
  refine h1 c hc G H th rh ta si _ h ?_
  unfold gFor at q
  cases e : fi rh with
  | stuck => rw [e] at q; exact q.elim
  | exc x r => rw [e] at q; exact fun cls od G' H' h => q cls od si G' H' h
  | ok lr =>
    obtain ⟨ds, r1⟩ := lr
    rw [e] at q
    have q : Ct s W c th ta D (forL b body ds r1) := q
    intro J tj vj G1 H1 h1' wk
    refine ⟨fun i m σ H => m = ds.length - i ∧ i ≤ ds.length ∧ ∃ G r, S0 c G H (tj ++ th) r (vj ++ ta) σ ∧ Ct s W c th ta D (forL b body (ds.drop i) r), ⟨ds.length, by simp, Nat.zero_le _, G1, r1, h1', by simpa using q⟩, ?_⟩
    rintro i m σ H2 ⟨rfl, hi, G2, r2, h4, q2⟩
    obtain ⟨w1, w2⟩ := wk.run i G2 H2 th r2 ta σ h4
    by_cases hlt : i < ds.length
    · right
      obtain ⟨go, yl⟩ := w1 ds[i] (by simp [hlt])
      rw [show ds.drop i = ds[i] :: ds.drop (i + 1) from by rw [List.getElem_cons_drop]] at q2
      unfold forL at q2
      cases e1 : b ds[i] r2 with
      | none => rw [e1] at q2; exact q2.elim
      | some r3 =>
        rw [e1] at q2
        refine ⟨go, fun σ' H' => ∃ G' r', S0 c G' H' (tj ++ th) r' (vj ++ ta) σ' ∧ Ct s W c th ta D (forL b body (ds.drop (i + 1)) r'), fun σ' H' hh => ⟨ds.length - (i + 1), by omega, rfl, hlt, hh⟩, fun x H3 y => ?_⟩
        obtain ⟨G3, dt, h5⟩ := yl x H3 y
        refine h2 c hc G3 H3 _ r2 r3 _ σ _ x _ h5 dt e1 fun σ4 h6 _ _ => ?_
        refine h3 c hc G3 H3 _ r3 _ σ4 _ h6 ?_
        simp only at q2
        cases e2 : body r3 with
        | stuck => rw [e2] at q2; exact q2.elim
        | exc x r => rw [e2] at q2; exact fun cls od si' G' H' h => q2 cls od si' G' H' (h.pops wk.len)
        | ok fr =>
          obtain ⟨fl, r4⟩ := fr
          rw [e2] at q2
          simp only [Out.bind_ok] at q2
          cases fl with
          | nx => exact fun si' G' H' h' => ⟨G', r4, h', q2⟩
          | cont => exact fun si' G' H' h' => ⟨G', r4, h', q2⟩
          | brk => exact fun si' G' H' h' => q2 si' G' H' (h'.pops wk.len)
          | ret l => exact fun v si' G' H' h' => q2 v si' G' H' (S0.dropMid (t0 := [some l]) (v0 := [some v]) h' rfl wk.len)
    · left
      have e2 : i = ds.length := by omega
      refine ⟨w2 (by omega), ?_⟩
      rw [e2, List.drop_length] at q2
      exact q2 σ G2 H2 (h4.pops wk.len)
theorem sd_for {bs : List Nat} {tg iter : Expr} {body : List Stmt} {pos : Pos} {wi g tb fi b f} (hp : PassesOwn (model X.prog X.w) X.A X.env X.xe) (hc : X.calm = true) (h1 : Id X s W tg iter wi fi) (h2 : Tg X s bs tg g b) (h3 : Ssd X s W body tb f)
    (hs : ∀ x, foldedSetIterable iter X.env x = pure x := by intro _; rfl) : Sd X s W (.For tg iter body [] pos) (tFor wi g tb) (gFor fi b f) := ⟨ps_for hp hc h1.pi h2.pg h3.pss hs, Ds.for_ h1.di h2.dg h3.ds⟩

/-! ### while -/
def wh (c : Tv) (b : Sv) : Nat → Rho → Out Rho (Fl × Rho)
  | 0, _ => .stuck
  | n + 1, r => (c r).bind fun (t, r1) => if t then (b r1).bind fun (fl, r2) => match fl with
      | .nx => wh c b n r2
      | .cont => wh c b n r2
      | .brk => .ok (.nx, r2)
      | .ret l => .ok (.ret l, r2)
    else .ok (.nx, r1)
open Classical in
noncomputable def gWhile (c : Tv) (b : Sv) : Sv := fun r => if h : ∃ n, wh c b n r ≠ .stuck then wh c b h.choose r else .stuck
theorem wh_mono {c : Tv} {b : Sv} : ∀ (n : Nat) (r : Rho), wh c b n r ≠ .stuck → wh c b (n + 1) r = wh c b n r
  | 0, r, h => absurd rfl h
  | n + 1, r, h => by
    rw [wh]
    conv => rhs; rw [wh]
    rw [wh] at h
    cases e : c r with
    | stuck => rfl
    | exc x y => rfl
    | ok tr =>
      obtain ⟨t, r1⟩ := tr
      rw [e] at h
      simp only [Out.bind_ok] at h ⊢
      cases t with
      | false => rfl
      | true =>
        simp only [if_true] at h ⊢
        cases e2 : b r1 with
        | stuck => rfl
        | exc x y => rfl
        | ok fr =>
          obtain ⟨fl, r2⟩ := fr
          rw [e2] at h
          simp only [Out.bind_ok] at h ⊢
          cases fl with
          | nx => exact wh_mono n r2 h
          | cont => exact wh_mono n r2 h
          | brk => rfl
          | ret l => rfl
theorem wh_le {c : Tv} {b : Sv} {n : Nat} {r : Rho} (h : wh c b n r ≠ .stuck) : ∀ k, wh c b (n + k) r = wh c b n r
  | 0 => rfl
  | k + 1 => by
    have ih := wh_le h k
    rw [← Nat.add_assoc, wh_mono _ _ (by rw [ih]; exact h), ih]
theorem gWhile_of {c : Tv} {b : Sv} {n : Nat} {r : Rho} (h : wh c b n r ≠ .stuck) : gWhile c b r = wh c b n r := by
  have ex : ∃ n, wh c b n r ≠ .stuck := ⟨n, h⟩
  unfold gWhile
  rw [dif_pos ex]
  have h2 := ex.choose_spec
  have e1 := wh_le h ex.choose
  have e2 := wh_le h2 n
  rw [Nat.add_comm] at e2
  rw [← e2, e1]
/-- one turn -/
theorem gWhile_eq {c : Tv} {b : Sv} {r : Rho} : gWhile c b r = (c r).bind fun (t, r1) => if t then (b r1).bind fun (fl, r2) => match fl with
      | .nx => gWhile c b r2
      | .cont => gWhile c b r2
      | .brk => .ok (.nx, r2)
      | .ret l => .ok (.ret l, r2)
    else .ok (.nx, r1) := by
  have goes : ∀ n, wh c b (n + 1) r ≠ .stuck → wh c b (n + 1) r = (c r).bind fun (t, r1) => if t then (b r1).bind fun (fl, r2) => match fl with
      | .nx => gWhile c b r2
      | .cont => gWhile c b r2
      | .brk => .ok (.nx, r2)
      | .ret l => .ok (.ret l, r2)
    else .ok (.nx, r1) := fun n h => by
    rw [wh] at h ⊢
    cases e : c r with
    | stuck => rfl
    | exc x y => rfl
    | ok tr =>
      obtain ⟨t, r1⟩ := tr
      rw [e] at h
      simp only [Out.bind_ok] at h ⊢
      cases t with
      | false => rfl
      | true =>
        simp only [if_true] at h ⊢
        cases e2 : b r1 with
        | stuck => rfl
        | exc x y => rfl
        | ok fr =>
          obtain ⟨fl, r2⟩ := fr
          rw [e2] at h
          simp only [Out.bind_ok] at h ⊢
          cases fl with
          | nx => exact (gWhile_of h).symm
          | cont => exact (gWhile_of h).symm
          | brk => rfl
          | ret l => rfl
  by_cases ex : ∃ n, wh c b n r ≠ .stuck
  · obtain ⟨n, h⟩ := ex
    cases n with
    | zero => exact absurd rfl h
    | succ n => rw [gWhile_of h, goes n h]
  · have e0 : gWhile c b r = .stuck := by unfold gWhile; rw [dif_neg ex]
    rw [e0]
    -- were it not stuck, some number of turns would do
    cases e : c r with
    | stuck => rfl
    | exc x y => exact absurd ⟨1, by rw [wh, e]; exact fun z => nomatch z⟩ ex
    | ok tr =>
      obtain ⟨t, r1⟩ := tr
      simp only [Out.bind_ok]
      cases t with
      | false => exact absurd ⟨1, by rw [wh, e]; exact fun z => nomatch z⟩ ex
      | true =>
        simp only [if_true]
        cases e2 : b r1 with
        | stuck => rfl
        | exc x y => exact absurd ⟨1, by rw [wh, e]; simp only [Out.bind_ok, if_true, e2]; exact fun z => nomatch z⟩ ex
        | ok fr =>
          obtain ⟨fl, r2⟩ := fr
          have nx : ∀ fl, (fl = .nx ∨ fl = .cont) → b r1 = .ok (fl, r2) → gWhile c b r2 = .stuck := fun fl hf e2 => by
            unfold gWhile
            by_cases ex2 : ∃ n, wh c b n r2 ≠ .stuck
            · obtain ⟨n, h⟩ := ex2
              refine absurd ⟨n + 1, ?_⟩ ex
              rw [wh, e]
              simp only [Out.bind_ok, if_true, e2]
              rcases hf with rfl | rfl <;> exact h
            · rw [dif_neg ex2]
          simp only [Out.bind_ok]
          cases fl with
          | nx => exact (nx _ (.inl rfl) e2).symm
          | cont => exact (nx _ (.inr rfl) e2).symm
          | brk => exact absurd ⟨1, by rw [wh, e]; simp only [Out.bind_ok, if_true, e2]; exact fun z => nomatch z⟩ ex
          | ret l => exact absurd ⟨1, by rw [wh, e]; simp only [Out.bind_ok, if_true, e2]; exact fun z => nomatch z⟩ ex
theorem Ds.while_ {tc : TT} {fc : Tv} {tb : TS} {body : Sv} (h1 : Dc s W tc fc) (h2 : Ds s W tb body) : Ds s W (tWhile tc tb) (gWhile fc body) := fun c hc G H th rh ta si D h q => by
  have q : Ct s W c th ta D (gWhile fc body rh) := q
  have ex : ∃ n, wh fc body n rh ≠ .stuck := by
    refine Classical.byContradiction fun ne => ?_
    unfold gWhile at q
    rw [dif_neg ne] at q
    exact q
  obtain ⟨n, hn⟩ := ex
  rw [gWhile_of hn] at q
  refine ⟨fun m σ H => ∃ G r, S0 c G H th r ta σ ∧ Ct s W c th ta D (wh fc body m r), ⟨n, G, rh, h, q⟩, ?_⟩
  rintro m σ H1 ⟨G1, r1, h3, q1⟩
  cases m with
  | zero => exact q1.elim
  | succ m =>
    refine h1 c hc G1 H1 th r1 ta σ _ h3 ?_
    rw [wh] at q1
    cases e : fc r1 with
    | stuck => rw [e] at q1; exact q1.elim
    | exc x r => rw [e] at q1; exact fun cls od G' H' h => q1 cls od σ G' H' h
    | ok tr =>
      obtain ⟨b, r2⟩ := tr
      rw [e] at q1
      simp only [Out.bind_ok] at q1
      intro G2 H2 h4
      cases b with
      | false => exact q1 σ G2 H2 h4
      | true =>
        simp only [if_true] at q1 ⊢
        refine ⟨fun σ' H' => ∃ G' r', S0 c G' H' th r' ta σ' ∧ Ct s W c th ta D (wh fc body m r'), fun σ' H' hh => ⟨m, Nat.lt_succ_self _, hh⟩, ?_⟩
        refine h2 c hc G2 H2 th r2 ta σ _ h4 ?_
        cases e2 : body r2 with
        | stuck => rw [e2] at q1; exact q1.elim
        | exc x r => rw [e2] at q1; exact q1
        | ok fr =>
          obtain ⟨fl, r4⟩ := fr
          rw [e2] at q1
          simp only [Out.bind_ok] at q1
          cases fl with
          | nx => exact fun si' G' H' h' => ⟨G', r4, h', q1⟩
          | cont => exact fun si' G' H' h' => ⟨G', r4, h', q1⟩
          | brk => exact q1
          | ret l => exact q1
theorem sd_while {e : Expr} {body : List Stmt} {pos : Pos} {tc tb fc f} (hp : PassesOwn (model X.prog X.w) X.A X.env X.xe) (h1 : Ec X s W e tc fc) (h2 : Ssd X s W body tb f) : Sd X s W (.While e body [] pos) (tWhile tc tb) (gWhile fc f) := ⟨ps_while hp h1.pt h2.pss, Ds.while_ h1.dc h2.ds⟩
end
end Dl
namespace Dl
open PySem L2

section
variable {c : Cn} {G H : Hp} {th rh t1 : Rho} {ta si v1 : List (Option V)}
theorem S0.sink {x : Option L} {y : Option V} (h : S0 c G H (x :: (t1 ++ th)) rh (y :: (v1 ++ ta)) si) (e : t1.length = v1.length) : S0 c G H (t1 ++ x :: th) rh (v1 ++ y :: ta) si := by
  obtain ⟨⟨fp, o, nd, k⟩, lt, gh, g0, kp, gn, pn⟩ := h
  rw [List.cons_append, List.cons_append, List.append_assoc, List.append_assoc] at o
  obtain ⟨fx, f2, h1, h2, rfl⟩ := Ow.split (l1 := [x]) (v1 := [y]) rfl o
  obtain ⟨fa, fb, h3, h4, rfl⟩ := Ow.split e h2
  refine ⟨⟨fa ++ (fx ++ fb), ?_, ?_, ?_⟩, ?_, gh, g0, kp, gn, pn⟩
  · have := Ow.app h3 (Ow.app h1 h4)
    simpa [List.append_assoc] using this
  · have p : (fx ++ (fa ++ fb)).Perm (fa ++ (fx ++ fb)) := by
      rw [← List.append_assoc, ← List.append_assoc]
      exact List.Perm.append_right _ List.perm_append_comm
    exact p.nodup_iff.mp nd
  · intro a ha
    apply k
    simp only [List.mem_append] at ha ⊢
    rcases ha with h | h | h <;> simp [h]
  · simp only [List.length_append, List.length_cons] at lt ⊢
    omega
def wipeR (r : Rho) : List Nat → Rho
  | [] => r
  | v :: vs => (wipeR r vs).set v none
theorem wipe_at {σ : L2.St} {j : Nat} : ∀ {vs : List Nat}, (wipe σ vs)[j]? = if j ∈ vs then σ[j]?.map (fun _ => none) else σ[j]?
  | [] => by simp [wipe]
  | v :: vs => by
    unfold wipe
    by_cases e : v = j
    · subst e
      rw [if_pos (by simp)]
      by_cases hl : v < σ.length
      · rw [List.getElem?_set_self (by rw [wipe_length]; exact hl)]
        simp [hl]
      · rw [List.getElem?_eq_none (by simp [wipe_length]; omega), List.getElem?_eq_none (by omega)]
        rfl
    · rw [List.getElem?_set_ne e, wipe_at]
      by_cases m : j ∈ vs
      · rw [if_pos m, if_pos (by simp [m])]
      · rw [if_neg m, if_neg (by simp [m]; exact fun z => e z.symm)]
theorem wipe_eq {σ σ' : L2.St} {vs bs : List Nat} (hl : σ'.length = σ.length) (hk : ∀ j, j ∉ bs → σ'[j]? = (wipe σ vs)[j]?) (hb : ∀ j ∈ bs, j ∈ vs) : wipe σ' vs = wipe σ vs := by
  apply List.ext_getElem?
  intro j
  rw [wipe_at, wipe_at]
  by_cases m : j ∈ vs
  · rw [if_pos m, if_pos m]
    by_cases h : j < σ.length
    · rw [List.getElem?_eq_getElem h, List.getElem?_eq_getElem (by omega)]; rfl
    · rw [List.getElem?_eq_none (by omega), List.getElem?_eq_none (by omega)]
  · rw [if_neg m, if_neg m, hk j fun z => m (hb j z), wipe_at, if_neg m]
/-- other values at slots that are forgotten -/
theorem S0.wipe : ∀ {vs : List Nat} {si si' : List (Option V)}, S0 c G H th rh ta si → (∀ i ∈ vs, c.pin[i]? ≠ some true) → si'.length = si.length → (∀ j, j ∉ vs → si'[j]? = si[j]?) → S0 c G H th (wipeR rh vs) ta si'
  | [], si, si', h, _, _, hk => by
    have : si' = si := List.ext_getElem? fun j => hk j (by simp)
    rw [this]; exact h
  | v :: vs, si, si', h, hp, hl, hk => by
    by_cases hv : v < si.length
    · have h1 : S0 c G H th (wipeR rh vs) ta (si'.set v si[v]) := S0.wipe h (fun i m => hp i (by simp [m])) (by simpa using hl) fun j m => by
        by_cases e : v = j
        · subst e
          rw [List.getElem?_set_self (by omega)]; simp [hv]
        · rw [List.getElem?_set_ne e]; exact hk j (by simp [m]; exact fun z => e z.symm)
      have h2 := h1.forget (i := v) (si'[v]'(by omega)) (hp v (by simp))
      unfold wipeR
      rwa [show ((si'.set v si[v]).set v (si'[v]'(by omega))) = si' by simp] at h2
    · have e1 : S0 c G H th (wipeR rh vs) ta si' := S0.wipe h (fun i m => hp i (by simp [m])) hl fun j m => by
        by_cases e : v = j
        · subst e
          rw [List.getElem?_eq_none (by omega), List.getElem?_eq_none (by omega)]
        · exact hk j (by simp [m]; exact fun z => e z.symm)
      unfold wipeR
      have l1 := e1.len
      rw [List.set_eq_of_length_le (by omega)]
      exact e1
end

/-! ### comprehensions -/
def Out.nox {ε ε' α : Type} : Out ε α → Out ε' α
  | .ok a => .ok a
  | _ => .stuck
def lcL (b : Bv) (ct : Tv) (fe : Ev) (vs : List Nat) : List D → Rho → Out Rho (List D × Rho)
  | [], r => .ok ([], r)
  | d :: ds, r => match b d r with
    | none => .stuck
    | some r1 => ((ct r1).nox : Out Rho (Bool × Rho)).bind fun (t, r2) => if t then ((fe r2).nox : Out Rho (L × Rho)).bind fun (l, r3) => (lcL b ct fe vs ds (wipeR r3 vs)).bind fun (es, r4) => .ok (l.toD :: es, r4)
        else lcL b ct fe vs ds (wipeR r2 vs)
def eLc (vs : List Nat) (fi : Iv) (b : Bv) (ct : Tv) (fe : Ev) : Ev := fun r => (fi r).bind fun (ds, r1) => if ds.length ≤ sizeLine then (lcL b ct fe vs ds (wipeR r1 vs)).bind fun (es, r2) => .ok (.lst (es.map .fz), wipeR r2 vs) else .stuck
def W0 : WX := fun _ _ _ _ => False
theorem lc_noexc {b : Bv} {ct : Tv} {fe : Ev} {vs : List Nat} : ∀ {ds : List D} {r : Rho} {x : Exn} {e : Rho}, lcL b ct fe vs ds r ≠ .exc x e
  | [], _, _, _ => fun z => nomatch z
  | d :: ds, r, x, e => by
    unfold lcL
    cases b d r with
    | none => exact fun z => nomatch z
    | some r1 =>
      simp only
      cases h : ct r1 with
      | stuck => exact fun z => nomatch z
      | exc _ _ => exact fun z => nomatch z
      | ok tr =>
        obtain ⟨t, r2⟩ := tr
        simp only [Out.nox, Out.bind_ok]
        cases t with
        | false => exact lc_noexc
        | true =>
          simp only [if_true]
          cases h2 : fe r2 with
          | stuck => exact fun z => nomatch z
          | exc _ _ => exact fun z => nomatch z
          | ok lr =>
            obtain ⟨l, r3⟩ := lr
            simp only [Out.bind_ok]
            cases h3 : lcL b ct fe vs ds (wipeR r3 vs) with
            | stuck => exact fun z => nomatch z
            | exc _ _ => exact absurd h3 lc_noexc
            | ok _ => exact fun z => nomatch z
section
variable {X : Cx} {s : Cs} {W : WX}
theorem De.lc {bs vs : List Nat} {wi : TI} {fi : Iv} {g : TG} {b : Bv} {tt : TT} {ct : Tv} {te : TE} {fe : Ev} (h1 : Di s W wi fi) (h2 : Dg s bs g b) (h3 : Dc s W0 tt ct) (h4 : De s W0 te fe) (hv : ∀ i ∈ vs, s.pin[i]? ≠ some true) (hb : ∀ j ∈ bs, j ∈ vs) :
    De s W (tLc wi g tt te vs) (eLc vs fi b ct fe) := fun c hc G H th rh ta si Q h q => by
  refine h1 c hc G H th rh ta si _ h ?_
  unfold eLc at q
  cases e : fi rh with
  | stuck => rw [e] at q; exact q.elim
  | exc x r => rw [e] at q; exact q
  | ok lr =>
    obtain ⟨ds, r1⟩ := lr
    rw [e] at q
    simp only [Out.bind_ok] at q
    intro J tj vj G1 H1 h5 wk Dp nD
    have hvc : ∀ i ∈ vs, c.pin[i]? ≠ some true := by
      intro i m
      have e1 : c.pin = s.pin := by rw [← hc]
      rw [e1]; exact hv i m
    by_cases hsz : ds.length ≤ sizeLine
    · rw [if_pos hsz] at q
      have h6 : S0 c G1 H1 (tj ++ th) (wipeR r1 vs) (vj ++ ta) (wipe si vs) := h5.wipe hvc (wipe_length _ _) fun j m => by rw [wipe_at, if_neg m]
      have h7 : S0 c G1 (upd H1 Dp (.lst [])) (some (.lst []) :: (tj ++ th)) (wipeR r1 vs) (some (.ref Dp) :: (vj ++ ta)) (wipe si vs) := h6.new (g := []) nD (by simpa using Ow.lst (ks := []) upd_same .nil .nil)
      have h8 := h7.sink wk.len
      let Cn : List D → Out Rho (List D × Rho) → Prop := fun acc o => match o with
        | .ok (es, r) => ∀ v G' H', S0 c G' H' (some (.lst ((acc ++ es).map .fz)) :: th) (wipeR r vs) (some v :: ta) si → Q v H'
        | _ => False
      have q0 : Cn [] (lcL b ct fe vs ds (wipeR r1 vs)) := by
        cases e3 : lcL b ct fe vs ds (wipeR r1 vs) with
        | stuck => rw [e3] at q; exact q.elim
        | exc x r => exact (lc_noexc e3).elim
        | ok er => rw [e3] at q; exact q
      refine ⟨fun i m H => m = ds.length - i ∧ i ≤ ds.length ∧ ∃ G r acc, acc.length ≤ i ∧ S0 c G H (tj ++ some (.lst (acc.map .fz)) :: th) r (vj ++ some (.ref Dp) :: ta) (wipe si vs) ∧ Cn acc (lcL b ct fe vs (ds.drop i) r), ⟨ds.length, by simp, Nat.zero_le _, G1, _, [], Nat.zero_le _, h8, q0⟩, ?_⟩
      rintro i m H2 ⟨rfl, hi, G2, r2, acc, ha, h9, q2⟩
      obtain ⟨w1, w2⟩ := wk.run i G2 H2 _ r2 _ _ h9
      by_cases hlt : i < ds.length
      · right
        obtain ⟨go, yl⟩ := w1 ds[i] (by simp [hlt])
        rw [show ds.drop i = ds[i] :: ds.drop (i + 1) from by rw [List.getElem_cons_drop]] at q2
        unfold lcL at q2
        cases e1 : b ds[i] r2 with
        | none => rw [e1] at q2; exact q2.elim
        | some r3 =>
          rw [e1] at q2
          simp only at q2
          refine ⟨go, fun H' => ∃ G r acc, acc.length ≤ i + 1 ∧ S0 c G H' (tj ++ some (.lst (acc.map .fz)) :: th) r (vj ++ some (.ref Dp) :: ta) (wipe si vs) ∧ Cn acc (lcL b ct fe vs (ds.drop (i + 1)) r), fun H' hh => ⟨ds.length - (i + 1), by omega, rfl, hlt, hh⟩, fun x H3 y => ?_⟩
          obtain ⟨G3, dt, h10⟩ := yl x H3 y
          refine h2 c hc G3 H3 _ r2 r3 _ _ _ x _ h10 dt e1 fun si4 h11 hl4 hk4 => ⟨wipe_eq (by rw [hl4, wipe_length]) hk4 hb, ?_⟩
          have weq := wipe_eq (σ := si) (σ' := si4) (vs := vs) (by rw [hl4, wipe_length]) hk4 hb
          refine h3 c hc G3 H3 _ r3 _ si4 _ h11 ?_
          cases e2 : ct r3 with
          | stuck => rw [e2] at q2; exact q2.elim
          | exc x r => rw [e2] at q2; exact q2.elim
          | ok tr =>
            obtain ⟨t, r4⟩ := tr
            rw [e2] at q2
            simp only [Out.nox, Out.bind_ok] at q2
            intro G4 H4 h12
            cases t with
            | false =>
              simp only [Bool.false_eq_true, if_false] at q2 ⊢
              refine ⟨G4, wipeR r4 vs, acc, by omega, ?_, q2⟩
              rw [← weq]
              exact h12.wipe hvc (wipe_length _ _) fun j m => by rw [wipe_at, if_neg m]
            | true =>
              simp only [if_true] at q2 ⊢
              refine h4 c hc G4 H4 _ r4 _ si4 _ h12 ?_
              cases e3 : fe r4 with
              | stuck => rw [e3] at q2; exact q2.elim
              | exc x r => rw [e3] at q2; exact q2.elim
              | ok lr =>
                obtain ⟨l, r5⟩ := lr
                rw [e3] at q2
                simp only [Out.bind_ok] at q2
                intro y G5 H5 h13
                obtain ⟨G6, sg, dt6, h14⟩ := h13.freeze
                have h15 := S0.rot h14 wk.len
                obtain ⟨f1, o, nd, kk, j⟩ := S0.split (t1 := [some (.lst (acc.map .fz))]) (v1 := [some (.ref Dp)]) h15 rfl
                cases o with
                | @lst p ws ks f1 _ _ f2 hp o1 o2 =>
                  cases o2
                  obtain ⟨dta, ef⟩ := Ow.toDt (ds := acc) (vs := ws) (by simpa [List.map_map, Function.comp_def] using o1)
                  subst ef
                  have hwl := dta.length
                  refine ⟨ws, hp, by omega, G6, wipeR r5 vs, acc ++ [l.toD], by simp; omega, ?_, ?_⟩
                  · have gD : G6 Dp = none := kk Dp (by simp)
                    have h16 := j.run G6 (upd H5 Dp (.lst (ws ++ [y]))) [some (.lst ((acc ++ [l.toD]).map .fz))] [some (.ref Dp)] [Dp]
                      (by
                        have o3 : Ow c.K c.ct G6 (upd H5 Dp (.lst (ws ++ [y]))) ((acc ++ [l.toD]).map (fun d => some (L.fz d))) ((ws ++ [y]).map some) [] := Ow.ofDt (dta.app dt6)
                        have := Ow.lst (ks := (acc ++ [l.toD]).map .fz) (ws := ws ++ [y]) (p := Dp) (upd_same (H := H5)) (by simpa [List.map_map, Function.comp_def] using o3) .nil
                        simpa using this)
                      (by simp) (by simp [gD]) (fun _ _ z => z) (fun a u z => by
                        rw [upd_ne (fun e => by rw [e, gD] at z; cases z)]
                        exact h15.gh a u z)
                      (fun a u z n => by rw [upd_ne (by simpa using n)]; exact z) (fun a z => .inl z)
                    have h17 := S0.sink (t1 := tj) (v1 := vj) (th := th) (ta := ta) h16 wk.len
                    rw [← weq]
                    exact h17.wipe hvc (wipe_length _ _) fun j m => by rw [wipe_at, if_neg m]
                  · cases e4 : lcL b ct fe vs (ds.drop (i + 1)) (wipeR r5 vs) with
                    | stuck => rw [e4] at q2; exact q2.elim
                    | exc x r => exact (lc_noexc e4).elim
                    | ok er =>
                      obtain ⟨es, r6⟩ := er
                      rw [e4] at q2
                      have q3 : ∀ v G' H', S0 c G' H' (some (.lst ((acc ++ l.toD :: es).map .fz)) :: th) (wipeR r6 vs) (some v :: ta) si → Q v H' := q2
                      show ∀ v G' H', S0 c G' H' (some (.lst (((acc ++ [l.toD]) ++ es).map .fz)) :: th) (wipeR r6 vs) (some v :: ta) si → Q v H'
                      rw [List.append_assoc]
                      exact q3
      · left
        have e2 : i = ds.length := by omega
        refine ⟨w2 (by omega), ?_⟩
        rw [e2, List.drop_length] at q2
        have q3 : ∀ v G' H', S0 c G' H' (some (.lst ((acc ++ []).map .fz)) :: th) (wipeR r2 vs) (some v :: ta) si → Q v H' := q2
        rw [List.append_nil] at q3
        refine q3 _ G2 H2 ?_
        have h10 := S0.pops h9 wk.len
        exact h10.wipe hvc (wipe_length _ _).symm fun j m => by rw [wipe_at, if_neg m]
    · rw [if_neg hsz] at q; exact q.elim
def cYes : Tv := fun r => .ok (true, r)
theorem dc_yes : Dc s W tYes cYes := fun c hc G H th rh ta si Q h q => q G H h
structure Ets (X : Cx) (s : Cs) (W : WX) (e : List Expr) (t : TT) (f : Tv) : Prop where
  pts : PTs X e t
  dc : Dc s W t f
theorem ets_nil : Ets X s W [] tYes cYes := ⟨pts_nil, dc_yes⟩
theorem ets_one {e : Expr} {t f} (h : Ec X s W e t f) : Ets X s W [e] t f := ⟨pts_one h.pt, h.dc⟩
theorem ed_lc {bs : List Nat} {elt tg iter : Expr} {ifs : List Expr} {scope : Scope} {own : List (Str × Nat)} {pos : Pos} {wi : TI} {g : TG} {tt : TT} {te : TE} {fi b ct fe} (hc : X.calm = true) (hN : X.N.Nodup) (hi : Id X s W tg iter wi fi) (ok : BlkOk X.N X.env.scope scope own)
    (hg : ∀ (z : Shared) (H : Hp) (C : Addr) (cl : List (Str × Addr)) (fp : List Addr), Tg (X.blk z H scope (compEnvC scope cl C X.env) fp) s bs tg g b) (ht : ∀ (z : Shared) (H : Hp) (C : Addr) (cl : List (Str × Addr)) (fp : List Addr), Ets (X.blk z H scope (compEnvC scope cl C X.env) fp) s W0 ifs tt ct)
    (he : ∀ (z : Shared) (H : Hp) (C : Addr) (cl : List (Str × Addr)) (fp : List Addr), Ed (X.blk z H scope (compEnvC scope cl C X.env) fp) s W0 elt te fe) (hv : ∀ i ∈ own.map (·.2), s.pin[i]? ≠ some true) (hb : ∀ j ∈ bs, j ∈ own.map (·.2)) (hs : ∀ x, foldedSetIterable iter X.env x = pure x := by intro _; rfl)
    (z : Shared) (H : Hp) (C : Addr) (cl : List (Str × Addr)) :
    Ed X s W (.ListComp elt [⟨tg, iter, ifs, 0⟩] scope pos) (tLc wi g tt te (own.map (·.2))) (eLc (own.map (·.2)) fi b ct fe) :=
  ⟨pe_lc hc hN hi.pi ok (fun z H C cl fp => (hg z H C cl fp).pg) (fun z H C cl fp => (ht z H C cl fp).pts) (fun z H C cl fp => (he z H C cl fp).pe) hs,
    De.lc hi.di (hg z H C cl []).dg (ht z H C cl []).dc (he z H C cl []).de hv hb⟩
theorem sd_setLc {i : Nat} {y : Str} {py : Pos} {bs : List Nat} {elt tg iter : Expr} {ifs : List Expr} {scope : Scope} {own : List (Str × Nat)} {pos spos : Pos} {wi : TI} {g : TG} {tt : TT} {te : TE} {fi b ct fe} (hc : X.calm = true) (hN : X.N.Nodup) (hy : X.N[i]? = some y) (hyl : X.env.scope.names.lookup y = some .local) (hp : s.pin[i]? ≠ some true)
    (hsw : swapsWith (.ListComp elt [⟨tg, iter, ifs, 0⟩] scope pos) (some (.Name y py)) spos.line X.env = pure true) (hi : Id X s W tg iter wi fi) (ok : BlkOk X.N X.env.scope scope own)
    (hg : ∀ (z : Shared) (H : Hp) (C : Addr) (cl : List (Str × Addr)) (fp : List Addr), Tg (X.blk z H scope (compEnvC scope cl C X.env) fp) s bs tg g b) (ht : ∀ (z : Shared) (H : Hp) (C : Addr) (cl : List (Str × Addr)) (fp : List Addr), Ets (X.blk z H scope (compEnvC scope cl C X.env) fp) s W0 ifs tt ct)
    (he : ∀ (z : Shared) (H : Hp) (C : Addr) (cl : List (Str × Addr)) (fp : List Addr), Ed (X.blk z H scope (compEnvC scope cl C X.env) fp) s W0 elt te fe) (hv : ∀ i ∈ own.map (·.2), s.pin[i]? ≠ some true) (hb : ∀ j ∈ bs, j ∈ own.map (·.2)) (hs : ∀ x, foldedSetIterable iter X.env x = pure x := by intro _; rfl)
    (z : Shared) (H : Hp) (C : Addr) (cl : List (Str × Addr)) :
    Sd X s W (.Assign [.Name y py] (.ListComp elt [⟨tg, iter, ifs, 0⟩] scope pos) spos) (tAsg (tLc wi g tt te (own.map (·.2))) (gName i)) (gSet i (eLc (own.map (·.2)) fi b ct fe)) :=
  ⟨ps_setLc hc hN hy hyl hsw hi.pi ok (fun z H C cl fp => (hg z H C cl fp).pg) (fun z H C cl fp => (ht z H C cl fp).pts) (fun z H C cl fp => (he z H C cl fp).pe) hs,
    Ds.set (De.lc hi.di (hg z H C cl []).dg (ht z H C cl []).dc (he z H C cl []).de hv hb) hp⟩
end

/-! ### defs -/
def outs : List Bool → List L → Rho → Option (List L)
  | [], [], _ => some []
  | true :: bs, _ :: ls, some l :: r => (outs bs ls r).map (l :: ·)
  | false :: bs, .fz d :: ls, _ :: r => (outs bs ls r).map (.fz d :: ·)
  | _, _, _ => none
/-- what a def does with things -/
def dF (n : Nat) (pin : List Bool) (body : Sv) : Fv := fun ls => if ls.length = pin.length ∧ pin.length ≤ n then
    match body (ls.map some ++ List.replicate (n - ls.length) none) with
    | .ok (.ret l, r) => (match outs pin ls r with
      | some ls' => .ok (l, ls')
      | none => .stuck)
    | .ok (.nx, r) => (match outs pin ls r with
      | some ls' => .ok (.fz .non, ls')
      | none => .stuck)
    | .exc x r => (match outs pin ls r with
      | some ls' => .exc x ls'
      | none => .stuck)
    | _ => .stuck
  else .stuck
theorem outs_ok {K : PySem.W.Frag} {ct : Str → Option Addr} {G H : Hp} : ∀ {pin : List Bool} {ls ls' : List L} {r : Rho} {si : List (Option V)} {vs : List V} {fp : List Addr}, outs pin ls r = some ls' → Ow K ct G H r si fp → ls.length = vs.length →
    (∀ i : Nat, pin[i]? = some true → ∃ v : V, vs[i]? = some v ∧ si[i]? = some (some v)) → (∀ (i : Nat) (d : D) (v : V), ls[i]? = some (.fz d) → vs[i]? = some v → Dt K ct G [d] [v]) →
    ∃ fp', fp'.Sublist fp ∧ Ow K ct G H (ls'.map some) (vs.map some) fp'
  | [], [], ls', r, si, [], fp, e, _, _, _, _ => by cases e; exact ⟨[], by simp, .nil⟩
  | [], [], ls', r, si, v :: vs, fp, e, _, hl, _, _ => by simp at hl
  | [], _ :: _, _, _, _, _, _, e, _, _, _, _ => by cases e
  | true :: _, [], _, _, _, _, _, e, _, _, _, _ => by cases e
  | false :: _, [], _, _, _, _, _, e, _, _, _, _ => by cases e
  | true :: _, _ :: _, _, [], _, _, _, e, _, _, _, _ => by cases e
  | true :: _, _ :: _, _, none :: _, _, _, _, e, _, _, _, _ => by cases e
  | true :: bs, l0 :: ls, ls', some l :: r, si, [], fp, e, o, hl, hp, hd => by simp at hl
  | true :: bs, l0 :: ls, ls', some l :: r, [], v :: vs, fp, e, o, hl, hp, hd => by cases o
  | true :: bs, l0 :: ls, ls', some l :: r, y :: si, v :: vs, fp, e, o, hl, hp, hd => by
    unfold outs at e
    cases e1 : outs bs ls r with
    | none => rw [e1] at e; cases e
    | some ls1 =>
      rw [e1] at e
      cases e
      obtain ⟨w, f1, f2, rfl, o1, o2, rfl⟩ := o.uncons1
      obtain ⟨w', h1, h2⟩ := hp 0 rfl
      cases h1
      cases h2
      obtain ⟨fp', s1, o3⟩ := outs_ok e1 o2 (by simpa using hl) (fun i hi => by simpa using hp (i + 1) (by simpa using hi)) (fun i d v a b => hd (i + 1) d v (by simpa using a) (by simpa using b))
      exact ⟨f1 ++ fp', List.Sublist.append (List.Sublist.refl _) s1, Ow.cons1 o1 o3⟩
  | false :: bs, .fz d :: ls, _, [], _, _, _, e, _, _, _, _ => by cases e
  | false :: bs, .fz d :: ls, ls', x :: r, si, [], fp, e, o, hl, hp, hd => by simp at hl
  | false :: bs, .fz d :: ls, ls', x :: r, [], v :: vs, fp, e, o, hl, hp, hd => by cases o
  | false :: bs, .fz d :: ls, ls', x :: r, y :: si, v :: vs, fp, e, o, hl, hp, hd => by
    unfold outs at e
    cases e1 : outs bs ls r with
    | none => rw [e1] at e; cases e
    | some ls1 =>
      rw [e1] at e
      cases e
      obtain ⟨f1, f2, o1, o2, rfl⟩ := Ow.split (l1 := [x]) (v1 := [y]) rfl o
      obtain ⟨fp', s1, o3⟩ := outs_ok e1 o2 (by simpa using hl) (fun i hi => by simpa using hp (i + 1) (by simpa using hi)) (fun i d v a b => hd (i + 1) d v (by simpa using a) (by simpa using b))
      exact ⟨fp', s1.trans (List.sublist_append_right _ _), .fz (hd 0 d v rfl rfl) o3⟩
  | false :: _, .lst _ :: _, _, [], _, _, _, e, _, _, _, _ => by cases e
  | false :: _, .lst _ :: _, _, _ :: _, _, _, _, e, _, _, _, _ => by cases e
  | false :: _, .dct _ _ :: _, _, [], _, _, _, e, _, _, _, _ => by cases e
  | false :: _, .dct _ _ :: _, _, _ :: _, _, _, _, e, _, _, _, _ => by cases e
  | false :: _, .obj _ _ :: _, _, [], _, _, _, e, _, _, _, _ => by cases e
  | false :: _, .obj _ _ :: _, _, _ :: _, _, _, _, e, _, _, _, _ => by cases e

def dF0 (n : Nat) (pin : List Bool) (body : Sv) : Fv := fun ls => (dF n pin body ls).nox
theorem dF_len {n : Nat} {pin : List Bool} {body : Sv} {ls : List L} (h : ls.length ≠ pin.length) : dF n pin body ls = .stuck := by
  unfold dF; rw [if_neg fun z => h z.1]
theorem dF0_len {n : Nat} {pin : List Bool} {body : Sv} {ls : List L} (h : ls.length ≠ pin.length) : dF0 n pin body ls = .stuck := by
  unfold dF0; rw [dF_len h]; rfl
/-- a call's end: what lies on top is t1, v1 -/
structure Back (K : PySem.W.Frag) (ct : Str → Option Addr) (G H : Hp) (fp : List Addr) (t1 : Rho) (v1 : List (Option V)) (G' H' : Hp) (fp' : List Addr) : Prop where
  ow : Ow K ct G' H' t1 v1 fp'
  nd : fp'.Nodup
  fr : ∀ a ∈ fp', G' a = none ∧ (a ∈ fp ∨ H a = none)
  gg : Same G G'
  gh : Same G' H'
  kp : ∀ a o, H a = some o → a ∉ fp → H' a = some o
  gn : ∀ a, G' a ≠ none → G a ≠ none ∨ H a = none ∨ a ∈ fp
/-- a def's promise -/
def dSp (K : PySem.W.Frag) (ct : Str → Option Addr) (n : Nat) (F : Fv) : Sp := fun vs H Q E => vs.length = n ∧ ∃ (G : Hp) (ls : List L) (fp : List Addr), Ow K ct G H (ls.map some) (vs.map some) fp ∧ fp.Nodup ∧ (∀ a ∈ fp, G a = none) ∧ Same G H ∧
  (match F ls with
    | .ok (l, ls') => ∀ v G' H' fp', Back K ct G H fp (some l :: ls'.map some) (some v :: vs.map some) G' H' fp' → Q v H'
    | .exc x ls' => ∀ cls od G' H' fp', Back K ct G H fp (ls'.map some) (vs.map some) G' H' fp' → XR ⟨K, ct, [], kn0⟩ x cls od H' → E cls od H'
    | .stuck => False)
theorem XR.pin {K : PySem.W.Frag} {ct : Str → Option Addr} {p q : List Bool} {x : Exn} {cls : Value} {od : Option Addr} {H : Hp} (h : XR ⟨K, ct, p, kn0⟩ x cls od H) : XR ⟨K, ct, q, kn0⟩ x cls od H := h
theorem dop_call {s : Cs} {n : Nat} {F : Fv} {E : XK} (hF : ∀ ls, ls.length ≠ n → F ls = .stuck) : Dop s E (fun vs H Q => dSp s.K s.ct n F vs H Q E) F := fun c hc G H th rh ta si ls vs Q h e q => by
  subst hc
  by_cases hn : ls.length = n
  · obtain ⟨f1, o, nd, k, j⟩ := h.split (by simpa using e)
    refine ⟨by omega, G, ls, f1, o, nd, k, h.gh, ?_⟩
    cases e1 : F ls with
    | stuck => rw [e1] at q; exact q.elim
    | exc x ls' =>
      rw [e1] at q
      intro cls od G' H' fp' b xr
      exact q cls od G' H' (j.run G' H' _ _ fp' b.ow b.nd b.fr b.gg b.gh b.kp b.gn) xr
    | ok ll =>
      obtain ⟨l, ls'⟩ := ll
      rw [e1] at q
      intro v G' H' fp' b
      exact q v G' H' (j.run G' H' _ _ fp' b.ow b.nd b.fr b.gg b.gh b.kp b.gn)
  · rw [hF ls hn] at q; exact q.elim
/-- the body's end -/
theorem body_end {K : PySem.W.Frag} {ct : Str → Option Addr} {pin : List Bool} {n : Nat} {G H G' H' : Hp} {ls ls' : List L} {vs : List V} {fp : List Addr} {r : Rho} {si : List (Option V)} {t1 : Rho} {v1 : List (Option V)}
    (o : Ow K ct G H (ls.map some) (vs.map some) fp) (e : outs pin ls r = some ls') (hl : ls.length = vs.length) (h : S0 ⟨⟨K, ct, pin, kn0⟩, H, G, fp, vs, hk0⟩ G' H' t1 r v1 si) :
    ∃ fp', Back K ct G H fp (t1 ++ ls'.map some) (v1 ++ vs.map some) G' H' fp' := by
  obtain ⟨⟨f, o2, nd, k⟩, lt, gh, g0, kp, gn, pn⟩ := h
  obtain ⟨fa, fb, oa, ob, rfl⟩ := Ow.split lt o2
  have dts : ∀ (i : Nat) (d : D) (v : V), ls[i]? = some (.fz d) → vs[i]? = some v → Dt K ct G' [d] [v] := fun i d v a b => by
    have e1 : (ls.map some) = (ls.map some).take i ++ some (.fz d) :: (ls.map some).drop (i + 1) := list_at (by simp [a])
    have e2 : (vs.map some) = (vs.map some).take i ++ some v :: (vs.map some).drop (i + 1) := list_at (by simp [b])
    rw [e1, e2] at o
    obtain ⟨_, _, _, _, ox, _, _⟩ := Ow.perm (by simp [hl]) o
    cases ox with
    | fz z _ => exact z.mono g0
  obtain ⟨fp', sb, oc⟩ := outs_ok e ob hl pn dts
  have sub : ∀ a ∈ fa ++ fp', a ∈ fa ++ fb := fun a m => by
    rcases List.mem_append.mp m with m | m
    · exact List.mem_append_left _ m
    · exact List.mem_append_right _ (sb.subset m)
  refine ⟨fa ++ fp', Ow.app oa oc, (List.Sublist.append (List.Sublist.refl _) sb).nodup nd, fun a m => ?_, g0, gh, kp, fun a z => ?_⟩
  · obtain ⟨h1, h2⟩ := k a (sub a m)
    refine ⟨h1, ?_⟩
    rcases h2 with h2 | h2
    · exact .inr h2
    · exact .inl h2
  · by_cases h1 : G a = none
    · by_cases h2 : H a = none
      · exact .inr (.inl h2)
      · by_cases h3 : a ∈ fp
        · exact .inr (.inr h3)
        · exact absurd (gn a h2 h1 h3) z
    · exact .inl h1
/-- the body's start -/
theorem body_start {K : PySem.W.Frag} {ct : Str → Option Addr} {pin : List Bool} {n : Nat} {G H : Hp} {ls : List L} {vs : List V} {fp : List Addr} (o : Ow K ct G H (ls.map some) (vs.map some) fp) (nd : fp.Nodup) (k : ∀ a ∈ fp, G a = none) (gh : Same G H) (hl : vs.length = pin.length) (hn : pin.length ≤ n) :
    S0 ⟨⟨K, ct, pin, kn0⟩, H, G, fp, vs, hk0⟩ G H [] (ls.map some ++ List.replicate (n - ls.length) none) [] (vs.map some ++ List.replicate (n - vs.length) none) := by
  have e := o.length
  simp only [List.length_map] at e
  have nones : ∀ m, Ow K ct G H (List.replicate m none) (List.replicate m none) [] := fun m => by
    induction m with
    | zero => exact .nil
    | succ m ih => exact .no ih
  refine ⟨⟨fp, ?_, nd, fun a m => ⟨k a m, .inr m⟩⟩, rfl, gh, fun _ _ z => z, fun _ _ z _ => z, fun _ _ z _ => z, fun i hi => ?_⟩
  · have := Ow.app o (nones (n - ls.length))
    rw [List.append_nil] at this
    rw [← e]; exact this
  · have hi : pin[i]? = some true := hi
    have lt : i < vs.length := by
      have := (List.getElem?_eq_some_iff.mp hi).1
      omega
    refine ⟨vs[i], by simp [lt], ?_⟩
    rw [List.getElem?_append_left (by simpa using lt)]
    simp [lt]
section
variable {P : Program} {w : World} {K : PySem.W.Frag} {mg : Str → Option Value} {base : Heap} {ct : Str → Option Addr}
/-- THE RULE for a def that raises nothing -/
theorem fn_ok {x qual : Str} {st : Stmt} {f : Addr} {fd : FuncData} {N ps : List Str} {k : Nat} {pin : List Bool} {body : Sv} (F : Fun K x qual st f fd) (S : FnScope N ps (defScope st)) (hp : pin.length = ps.length)
    (hbody : ∀ (cdv : Value) (A : Around) (outer : List Env) (s : Shared) (H : Hp) (E : XK), Room k (A.deeper (PyProof.Rows.envOfC qual (defScope st) s.heap.objs.size f cdv)) →
      ∃ t, Ssd (cxOf CX0 P w K mg base N qual (defScope st) f cdv A outer s H E).nox ⟨K, ct, pin, kn0⟩ W0 (defBody st) t body) : FnOk P w K mg base CX0 (k + 1) f fd ps (dSp K ct ps.length (dF0 N.length pin body)) := by
  refine F.ok S (fun vs H Q E h => h.1) fun cdv A outer s H vs Q E hr h => ?_
  obtain ⟨t, hb⟩ := hbody cdv A outer s H E hr
  refine ⟨t, hb.pss, ?_⟩
  obtain ⟨hlen, G, ls, fp, o, nd, kk, gh, q⟩ := h
  have e := o.length
  simp only [List.length_map] at e
  unfold dF0 dF at q
  by_cases hc : ls.length = pin.length ∧ pin.length ≤ N.length
  · rw [if_pos hc] at q
    have st0 := body_start (K := K) (ct := ct) (pin := pin) (n := N.length) o nd kk gh (by omega) hc.2
    refine hb.ds _ rfl G H [] _ [] _ _ st0 ?_
    cases e1 : body (ls.map some ++ List.replicate (N.length - ls.length) none) with
    | stuck => rw [e1] at q; exact q.elim
    | exc x r =>
      rw [e1] at q
      dsimp only at q
      cases e2 : outs pin ls r with
      | none => rw [e2] at q; exact q.elim
      | some ls' => rw [e2] at q; exact q.elim
    | ok fr =>
      obtain ⟨fl, r⟩ := fr
      rw [e1] at q
      cases fl with
      | brk => exact q.elim
      | cont => exact q.elim
      | nx =>
        simp only at q
        cases e2 : outs pin ls r with
        | none => rw [e2] at q; exact q.elim
        | some ls' =>
          rw [e2] at q
          intro si' G' H' h'
          obtain ⟨fp', b⟩ := body_end (n := N.length) (t1 := [some (.fz .non)]) (v1 := [some .non]) o e2 e (h'.push (.non .nil))
          exact q .non G' H' fp' b
      | ret l =>
        simp only at q
        cases e2 : outs pin ls r with
        | none => rw [e2] at q; exact q.elim
        | some ls' =>
          rw [e2] at q
          intro v si' G' H' h'
          obtain ⟨fp', b⟩ := body_end (n := N.length) (t1 := [some l]) (v1 := [some v]) o e2 e h'
          exact q v G' H' fp' b
  · rw [if_neg hc] at q; exact q.elim
/-- .. that may raise -/
theorem fn_okX {x qual : Str} {st : Stmt} {f : Addr} {fd : FuncData} {N ps : List Str} {k : Nat} {pin : List Bool} {body : Sv} (F : Fun K x qual st f fd) (S : FnScope N ps (defScope st)) (hp : pin.length = ps.length)
    (hbody : ∀ (cdv : Value) (A : Around) (outer : List Env) (s : Shared) (H : Hp) (E : XK), Room k (A.deeper (PyProof.Rows.envOfC qual (defScope st) s.heap.objs.size f cdv)) →
      ∃ t, Ssd (cxOf (L2.CX P w) P w K mg base N qual (defScope st) f cdv A outer s H E) ⟨K, ct, pin, kn0⟩ (fun cls d _ H => E cls d H) (defBody st) t body) : FnOk P w K mg base (L2.CX P w) (k + 1) f fd ps (dSp K ct ps.length (dF N.length pin body)) := by
  refine F.okX S (fun vs H Q E h => h.1) fun cdv A outer s H vs Q E hr h => ?_
  obtain ⟨t, hb⟩ := hbody cdv A outer s H E hr
  refine ⟨t, hb.pss, ?_⟩
  obtain ⟨hlen, G, ls, fp, o, nd, kk, gh, q⟩ := h
  have e := o.length
  simp only [List.length_map] at e
  unfold dF at q
  by_cases hc : ls.length = pin.length ∧ pin.length ≤ N.length
  · rw [if_pos hc] at q
    have st0 := body_start (K := K) (ct := ct) (pin := pin) (n := N.length) o nd kk gh (by omega) hc.2
    refine hb.ds _ rfl G H [] _ [] _ _ st0 ?_
    cases e1 : body (ls.map some ++ List.replicate (N.length - ls.length) none) with
    | stuck => rw [e1] at q; exact q.elim
    | exc x r =>
      rw [e1] at q
      dsimp only at q
      cases e2 : outs pin ls r with
      | none => rw [e2] at q; exact q.elim
      | some ls' =>
        rw [e2] at q
        intro cls od si' G' H' h' xr
        obtain ⟨fp', b⟩ := body_end (n := N.length) (t1 := []) (v1 := []) o e2 e h'
        exact q cls od G' H' fp' b xr
    | ok fr =>
      obtain ⟨fl, r⟩ := fr
      rw [e1] at q
      cases fl with
      | brk => exact q.elim
      | cont => exact q.elim
      | nx =>
        simp only at q
        cases e2 : outs pin ls r with
        | none => rw [e2] at q; exact q.elim
        | some ls' =>
          rw [e2] at q
          intro si' G' H' h'
          obtain ⟨fp', b⟩ := body_end (n := N.length) (t1 := [some (.fz .non)]) (v1 := [some .non]) o e2 e (h'.push (.non .nil))
          exact q .non G' H' fp' b
      | ret l =>
        simp only at q
        cases e2 : outs pin ls r with
        | none => rw [e2] at q; exact q.elim
        | some ls' =>
          rw [e2] at q
          intro v si' G' H' h'
          obtain ⟨fp', b⟩ := body_end (n := N.length) (t1 := [some l]) (v1 := [some v]) o e2 e h'
          exact q v G' H' fp' b
  · rw [if_neg hc] at q; exact q.elim
end
end Dl
namespace Dl
open PySem L2

/-! ### looking at things -/
def asI : L → Option Int
  | .fz (.int i) => some i
  | _ => none
def asS : L → Option Str
  | .fz (.str i) => some i
  | _ => none
def asD : L → Option D
  | .fz d => some d
  | _ => none
/-- a sequence: is it a list?, its items -/
def L.seq : L → Option (Bool × List L)
  | .fz (.tup ds) => some (false, ds.map .fz)
  | .fz (.ktp ds) => some (false, ds.map .fz)
  | .fz (.lst ds) => some (true, ds.map .fz)
  | .fz (.scr ns) => some (true, (ns.map D.int).map .fz)
  | .lst ls => some (true, ls)
  | _ => none
def allD : List L → Option (List D)
  | [] => some []
  | .fz d :: ls => (allD ls).map (d :: ·)
  | _ :: _ => none
/-- a sequence of still things -/
def seqD (l : L) : Option (Bool × List D) := l.seq.bind fun (b, ks) => (allD ks).map fun ds => (b, ds)
@[simp] theorem asI_int {i : Int} : asI (.fz (.int i)) = some i := rfl
@[simp] theorem asS_str {i : Str} : asS (.fz (.str i)) = some i := rfl
@[simp] theorem asD_fz {d : D} : asD (.fz d) = some d := rfl
@[simp] theorem allD_fz (ds : List D) : allD (ds.map .fz) = some ds := by
  induction ds with
  | nil => rfl
  | cons d ds ih => simp [allD, ih]
@[simp] theorem seqD_tup {ds : List D} : seqD (.fz (.tup ds)) = some (false, ds) := by simp [seqD, L.seq]
@[simp] theorem seqD_ktp {ds : List D} : seqD (.fz (.ktp ds)) = some (false, ds) := by simp [seqD, L.seq]
@[simp] theorem seqD_lst {ds : List D} : seqD (.fz (.lst ds)) = some (true, ds) := by simp [seqD, L.seq]
@[simp] theorem seqD_scr {ns : List Int} : seqD (.fz (.scr ns)) = some (true, ns.map D.int) := by
  unfold seqD L.seq
  simp only [Option.bind_some, allD_fz, Option.map_some]
@[simp] theorem seqD_own {ds : List D} : seqD (.lst (ds.map .fz)) = some (true, ds) := by simp [seqD, L.seq]
theorem asI_some {l : L} {i : Int} (h : asI l = some i) : l = .fz (.int i) := by
  unfold asI at h
  split at h
  · cases h; rfl
  · cases h
theorem asS_some {l : L} {i : Str} (h : asS l = some i) : l = .fz (.str i) := by
  unfold asS at h
  split at h
  · cases h; rfl
  · cases h
theorem asD_some {l : L} {d : D} (h : asD l = some d) : l = .fz d := by
  unfold asD at h
  split at h
  · cases h; rfl
  · cases h
theorem allD_some : ∀ {ls : List L} {ds : List D}, allD ls = some ds → ls = ds.map .fz
  | [], ds, h => by cases h; rfl
  | .fz d :: ls, ds, h => by
    unfold allD at h
    cases e : allD ls with
    | none => rw [e] at h; cases h
    | some es => rw [e] at h; cases h; rw [allD_some e]; rfl
  | .lst _ :: _, _, h => by cases h
  | .dct _ _ :: _, _, h => by cases h
  | .obj _ _ :: _, _, h => by cases h

/-- what a thing's value is known to be -/
abbrev Vw (c : Cs) (G H : Hp) (l : L) (v : V) : Prop := ∃ f, Ow c.K c.ct G H [some l] [some v] f
section
variable {c : Cn} {G H : Hp} {th rh : Rho} {ta si : List (Option V)} {l : L} {v : V}
theorem S0.vw (h : S0 c G H (some l :: th) rh (some v :: ta) si) : Vw c.toCs G H l v := by
  obtain ⟨f1, o, _⟩ := S0.split (t1 := [some l]) (v1 := [some v]) (th := th) (ta := ta) h rfl
  exact ⟨f1, o⟩
theorem Vw.fz {s : Cs} {d : D} (h : Vw s G H (.fz d) v) : Dt s.K s.ct G [d] [v] := by
  obtain ⟨f, o⟩ := h
  cases o with
  | fz a _ => exact a
theorem Vw.int {s : Cs} {i : Int} (h : Vw s G H (.fz (.int i)) v) : v = .int i := dt_int h.fz
theorem Vw.str {s : Cs} {i : Str} (h : Vw s G H (.fz (.str i)) v) : v = .str i := dt_str h.fz
theorem Vw.bl {s : Cs} {i : Bool} (h : Vw s G H (.fz (.bl i)) v) : v = .bl i := dt_bl h.fz
/-- a sequence's items -/
theorem Vw.seq {s : Cs} {b : Bool} {ks : List L} (gh : Same G H) (h : Vw s G H l v) (e : l.seq = some (b, ks)) :
    ∃ a ws f, v = .ref a ∧ (b = true → SqL s.K H a ws) ∧ (b = false → SqT s.K H a ws) ∧ Ow s.K s.ct G H (ks.map some) (ws.map some) f := by
  obtain ⟨f, o⟩ := h
  cases l with
  | fz d =>
    cases o with
    | fz r _ =>
      cases d with
      | tup ds =>
        cases e
        cases r with
        | tup sq r _ => exact ⟨_, _, [], rfl, (fun z => by cases z), (fun _ => .inl (gh.rd sq)), by simpa [List.map_map, Function.comp_def] using Ow.ofDt r⟩
      | ktp ds =>
        cases e
        cases r with
        | ktp sq r _ => exact ⟨_, _, [], rfl, (fun z => by cases z), (fun _ => .inl (gh.rd sq.1)), by simpa [List.map_map, Function.comp_def] using Ow.ofDt r⟩
      | lst ds =>
        cases e
        cases r with
        | lst sq r _ => exact ⟨_, _, [], rfl, (fun _ => SqL.of (gh _ _ sq)), (fun z => by cases z), by simpa [List.map_map, Function.comp_def] using Ow.ofDt r⟩
      | scr ns =>
        cases e
        cases r with
        | scr sq _ => exact ⟨_, _, [], rfl, (fun _ => gh.sqL sq), (fun z => by cases z), by simpa [List.map_map, Function.comp_def] using Ow.ofDt (H := H) (Dt.ints (K := s.K) (ct := s.ct) (G := G) ns)⟩
      | _ => cases e
  | lst ls =>
    cases e
    cases o with
    | lst hp o1 _ => exact ⟨_, _, _, rfl, (fun _ => SqL.of hp), (fun z => by cases z), o1⟩
  | dct _ _ => cases e
  | obj _ _ => cases e
theorem Vw.seqD {s : Cs} {b : Bool} {ds : List D} (gh : Same G H) (h : Vw s G H l v) (e : Dl.seqD l = some (b, ds)) :
    ∃ a ws, v = .ref a ∧ (b = true → SqL s.K H a ws) ∧ (b = false → SqT s.K H a ws) ∧ Dt s.K s.ct G ds ws := by
  unfold Dl.seqD at e
  cases e1 : l.seq with
  | none => rw [e1] at e; cases e
  | some bk =>
    obtain ⟨b', ks⟩ := bk
    rw [e1] at e
    simp only [Option.bind_some, Option.map_eq_some_iff] at e
    obtain ⟨es, e2, e3⟩ := e
    cases e3
    obtain ⟨a, ws, f, ev, h1, h2, o⟩ := h.seq gh e1
    rw [allD_some e2] at o
    exact ⟨a, ws, ev, h1, h2, (Ow.toDt (by simpa [List.map_map, Function.comp_def] using o)).1⟩
/-- a new tuple of still things -/
theorem S0.newTup {ds : List D} {ws : List V} {p : Addr} (h : S0 c G H th rh ta si) (r : Dt c.K c.ct G ds ws) (np : H p = none) : ∃ G', S0 c G' (upd H p (.tup ws)) (some (.fz (.tup ds)) :: th) rh (some (.ref p) :: ta) si := by
  obtain ⟨h1, s1⟩ := h.newD (u := .tup ws) np
  exact ⟨_, h1.push (.tup (.of upd_same) (r.mono s1) .nil)⟩
/-- a new list of still things -/
theorem S0.newLst {ds : List D} {ws : List V} {p : Addr} (h : S0 c G H th rh ta si) (r : Dt c.K c.ct G ds ws) (np : H p = none) : S0 c G (upd H p (.lst ws)) (some (.lst (ds.map .fz)) :: th) rh (some (.ref p) :: ta) si := by
  refine h.new (g := []) np ?_
  have o : Ow c.K c.ct G (upd H p (.lst ws)) ((ds.map L.fz).map some) (ws.map some) [] := by simpa [List.map_map, Function.comp_def] using Ow.ofDt (H := upd H p (.lst ws)) r
  simpa using Ow.lst (upd_same (H := H)) o .nil
end

/-! ### operations that change nothing -/
def p1 (f : L → Option L) : Fv := fun ls => match ls with
  | [x] => (match f x with
    | some l => .ok (l, [x])
    | none => .stuck)
  | _ => .stuck
def p2 (f : L → L → Option L) : Fv := fun ls => match ls with
  | [x, y] => (match f x y with
    | some l => .ok (l, [x, y])
    | none => .stuck)
  | _ => .stuck
def p3 (f : L → L → L → Option L) : Fv := fun ls => match ls with
  | [x, y, z] => (match f x y z with
    | some l => .ok (l, [x, y, z])
    | none => .stuck)
  | _ => .stuck
section
variable {s : Cs} {E : XK} {r : List V → Hp → VK → Prop}
theorem dop_p1 {f : L → Option L} (h : ∀ (c : Cn), c.toCs = s → ∀ (G H : Hp) (th rh : Rho) (ta si : List (Option V)) (x : L) (v : V) (l : L) (Q : VK), S0 c G H (some x :: th) rh (some v :: ta) si → f x = some l →
    (∀ w G' H', S0 c G' H' (some l :: some x :: th) rh (some w :: some v :: ta) si → Q w H') → r [v] H Q) : Dop s E r (p1 f) := fun c hc G H th rh ta si ls vs Q h0 e q => by
  match ls, vs, e with
  | [x], [v], _ =>
    unfold p1 at q
    simp only at q
    cases e1 : f x with
    | none => rw [e1] at q; exact q.elim
    | some l => rw [e1] at q; exact h c hc G H th rh ta si x v l Q h0 e1 q
  | [], _, _ => exact q.elim
  | _ :: _ :: _, _, _ => exact q.elim
theorem dop_p2 {f : L → L → Option L} (h : ∀ (c : Cn), c.toCs = s → ∀ (G H : Hp) (th rh : Rho) (ta si : List (Option V)) (x y : L) (v u : V) (l : L) (Q : VK), S0 c G H (some x :: some y :: th) rh (some v :: some u :: ta) si → f x y = some l →
    (∀ w G' H', S0 c G' H' (some l :: some x :: some y :: th) rh (some w :: some v :: some u :: ta) si → Q w H') → r [v, u] H Q) : Dop s E r (p2 f) := fun c hc G H th rh ta si ls vs Q h0 e q => by
  match ls, vs, e with
  | [x, y], [v, u], _ =>
    unfold p2 at q
    simp only at q
    cases e1 : f x y with
    | none => rw [e1] at q; exact q.elim
    | some l => rw [e1] at q; exact h c hc G H th rh ta si x y v u l Q h0 e1 q
  | [], _, _ => exact q.elim
  | [_], _, _ => exact q.elim
  | _ :: _ :: _ :: _, _, _ => exact q.elim
theorem dop_p3 {f : L → L → L → Option L} (h : ∀ (c : Cn), c.toCs = s → ∀ (G H : Hp) (th rh : Rho) (ta si : List (Option V)) (x y z : L) (v u t : V) (l : L) (Q : VK), S0 c G H (some x :: some y :: some z :: th) rh (some v :: some u :: some t :: ta) si → f x y z = some l →
    (∀ w G' H', S0 c G' H' (some l :: some x :: some y :: some z :: th) rh (some w :: some v :: some u :: some t :: ta) si → Q w H') → r [v, u, t] H Q) : Dop s E r (p3 f) := fun c hc G H th rh ta si ls vs Q h0 e q => by
  match ls, vs, e with
  | [x, y, z], [v, u, t], _ =>
    unfold p3 at q
    simp only at q
    cases e1 : f x y z with
    | none => rw [e1] at q; exact q.elim
    | some l => rw [e1] at q; exact h c hc G H th rh ta si x y z v u t l Q h0 e1 q
  | [], _, _ => exact q.elim
  | [_], _, _ => exact q.elim
  | [_, _], _, _ => exact q.elim
  | _ :: _ :: _ :: _ :: _, _, _ => exact q.elim
/-- the first that does not stick -/
def alt (F F' : Fv) : Fv := fun ls => match F ls with
  | .stuck => F' ls
  | o => o
theorem Dop.alt {r' r'' : List V → Hp → VK → Prop} {F F' : Fv} (h1 : Dop s E r F) (h2 : Dop s E r' F') (k1 : ∀ vs H Q, r vs H Q → r'' vs H Q) (k2 : ∀ vs H Q, r' vs H Q → r'' vs H Q) : Dop s E r'' (alt F F') := fun c hc G H th rh ta si ls vs Q h0 e q => by
  unfold Dl.alt at q
  cases e1 : F ls with
  | stuck => rw [e1] at q; exact k2 _ _ _ (h2 c hc G H th rh ta si ls vs Q h0 e q)
  | ok z => rw [e1] at q; exact k1 _ _ _ (h1 c hc G H th rh ta si ls vs Q h0 e (by rw [e1]; exact q))
  | exc x z => rw [e1] at q; exact k1 _ _ _ (h1 c hc G H th rh ta si ls vs Q h0 e (by rw [e1]; exact q))
theorem Dop.imp {r' : List V → Hp → VK → Prop} {F : Fv} (h1 : Dop s E r F) (k1 : ∀ vs H Q, r vs H Q → r' vs H Q) : Dop s E r' F := fun c hc G H th rh ta si ls vs Q h0 e q => k1 _ _ _ (h1 c hc G H th rh ta si ls vs Q h0 e q)
theorem r2_inl {r r' : R2} {vs H Q} (h : r2 r vs H Q) : r2 (fun x y H Q => r x y H Q ∨ r' x y H Q) vs H Q := by
  match vs, h with
  | [x, y], h => exact .inl h
theorem r2_inr {r r' : R2} {vs H Q} (h : r2 r' vs H Q) : r2 (fun x y H Q => r x y H Q ∨ r' x y H Q) vs H Q := by
  match vs, h with
  | [x, y], h => exact .inr h
end

/-! ### ints -/
def i2 (C : Int → Int → Bool) (g : Int → Int → D) : Fv := p2 fun x y => (asI x).bind fun i => (asI y).bind fun j => if C i j then some (.fz (g i j)) else none
/-- a plain value of data -/
def D.v : D → Option V
  | .non => some .non
  | .bl b => some (.bl b)
  | .int i => some (.int i)
  | .str x => some (.str x)
  | _ => none
theorem D.v_dt {K : PySem.W.Frag} {ct : Str → Option Addr} {G : Hp} {d : D} {v : V} (h : d.v = some v) : Dt K ct G [d] [v] := by
  cases d <;> cases h
  · exact .non .nil
  · exact .bl .nil
  · exact .int .nil
  · exact .str .nil
section
variable {s : Cs} {E : XK}
theorem dop_i2 {C : Int → Int → Prop} {C' : Int → Int → Bool} {g : Int → Int → V} {g' : Int → Int → D} (hC : ∀ i j, C' i j = true → C i j) (hg : ∀ i j, (g' i j).v = some (g i j)) : Dop s E (r2 (rI C g)) (i2 C' g') :=
  dop_p2 fun c hc G H th rh ta si x y v u l Q h0 e q => by
    cases e1 : asI x with
    | none => rw [e1] at e; cases e
    | some i =>
      cases e2 : asI y with
      | none => rw [e1, e2] at e; cases e
      | some j =>
        rw [e1, e2] at e
        simp only [Option.bind_some] at e
        obtain rfl := asI_some e1
        obtain rfl := asI_some e2
        by_cases hc' : C' i j = true
        · rw [if_pos hc'] at e
          cases e
          exact ⟨i, j, h0.vw.int, h0.pop.vw.int, hC i j hc', q _ G H (h0.push (D.v_dt (hg i j)))⟩
        · rw [if_neg hc'] at e; cases e
theorem dop_i20 {g : Int → Int → V} {g' : Int → Int → D} (hg : ∀ i j, (g' i j).v = some (g i j)) : Dop s E (r2 (rI0 g)) (i2 (fun _ _ => true) g') :=
  (dop_i2 (C := fun _ _ => True) (fun _ _ _ => trivial) hg).imp fun vs H Q h => by
    match vs, h with
    | [x, y], h => obtain ⟨i, j, a, b, _, q⟩ := h; exact ⟨i, j, a, b, q⟩
def oSub : Fv := i2 (fun _ _ => true) fun i j => .int (i - j)
theorem dop_sub : Dop s E (r2 (rI0 fun i j => .int (i - j))) oSub := dop_i20 fun _ _ => rfl
def oAddI : Fv := i2 (fun _ _ => true) fun i j => .int (i + j)
def mulOk (i j : Int) : Bool := (decide (-(2 ^ 64) < i) && decide (i < 2 ^ 64)) || (decide (-(2 ^ 64) < j) && decide (j < 2 ^ 64))
def oMulI : Fv := i2 mulOk fun i j => .int (i * j)
theorem dop_mul : Dop s E (r2 (rI CMul fun i j => .int (i * j))) oMulI := dop_i2 (fun i j h => by
  unfold mulOk at h
  simp only [Bool.or_eq_true, Bool.and_eq_true, decide_eq_true_eq] at h
  exact h) fun _ _ => rfl
def divOk (_ j : Int) : Bool := decide (0 < j) && decide (j < 2 ^ 200)
def oDiv : Fv := i2 divOk fun i j => .int (i / j)
theorem dop_div : Dop s E (r2 (rI CDivW fun i j => .int (i / j))) oDiv := dop_i2 (fun i j h => by
  unfold divOk at h
  simp only [Bool.and_eq_true, decide_eq_true_eq] at h
  exact wide_div (b := 200) h.1 (by omega) (by decide) (by decide)) fun _ _ => rfl
def oMod : Fv := i2 (fun _ j => decide (0 < j)) fun i j => .int (i % j)
theorem dop_mod : Dop s E (r2 (rI (fun _ j => 0 < j) fun i j => .int (i % j))) oMod := dop_i2 (fun _ _ h => of_decide_eq_true h) fun _ _ => rfl
def powOk (i j : Int) : Bool := decide (0 ≤ j) && decide (j ≤ 1000000) && decide (i.natAbs < 2 ^ 64)
def oPow : Fv := i2 powOk fun i j => .int (i ^ j.toNat)
theorem dop_pow : Dop s E (r2 (rI CPow fun i j => .int (i ^ j.toNat))) oPow := dop_i2 (fun i j h => by
  unfold powOk at h
  simp only [Bool.and_eq_true, decide_eq_true_eq] at h
  exact ⟨h.1.1, h.1.2, h.2⟩) fun _ _ => rfl
def oAnd : Fv := i2 (fun _ _ => true) fun i j => .int (Builtin.bitAnd i j)
theorem dop_and : Dop s E (r2 (rI0 fun i j => .int (Builtin.bitAnd i j))) oAnd := dop_i20 fun _ _ => rfl
def oShr : Fv := i2 (fun _ j => decide (0 ≤ j)) fun i j => .int (i / 2 ^ j.toNat)
theorem dop_shr : Dop s E (r2 (rI (fun _ j => 0 ≤ j) fun i j => .int (i / 2 ^ j.toNat))) oShr := dop_i2 (fun _ _ h => of_decide_eq_true h) fun _ _ => rfl
def oShl : Fv := i2 powOk fun i j => .int (i * 2 ^ j.toNat)
theorem dop_shl : Dop s E (r2 (rI CPow fun i j => .int (i * 2 ^ j.toNat))) oShl := dop_i2 (fun i j h => by
  unfold powOk at h
  simp only [Bool.and_eq_true, decide_eq_true_eq] at h
  exact ⟨h.1.1, h.1.2, h.2⟩) fun _ _ => rfl
def i1 (g : Int → D) : Fv := p1 fun x => (asI x).map fun i => .fz (g i)
theorem dop_i1 {g : Int → V} {g' : Int → D} (hg : ∀ i, (g' i).v = some (g i)) : Dop s E (r1 (rU g)) (i1 g') :=
  dop_p1 fun c hc G H th rh ta si x v l Q h0 e q => by
    cases e1 : asI x with
    | none => rw [e1] at e; cases e
    | some i =>
      rw [e1] at e
      cases e
      obtain rfl := asI_some e1
      exact ⟨i, h0.vw.int, q _ G H (h0.push (D.v_dt (hg i)))⟩
def oNeg : Fv := i1 fun i => .int (-i)
theorem dop_neg : Dop s E (r1 (rU fun i => .int (-i))) oNeg := dop_i1 fun _ => rfl

/-! ### comparisons -/
def oLtI : Fv := i2 (fun _ _ => true) fun i j => .bl (decide (i < j))
theorem dop_ltI : Dop s E (r2 (rI0 fun i j => .bl (decide (i < j)))) oLtI := dop_i20 fun _ _ => rfl
def oLeI : Fv := i2 (fun _ _ => true) fun i j => .bl (decide (i ≤ j))
theorem dop_leI : Dop s E (r2 (rI0 fun i j => .bl (decide (i ≤ j)))) oLeI := dop_i20 fun _ _ => rfl
def oGtI : Fv := i2 (fun _ _ => true) fun i j => .bl (decide (j < i))
theorem dop_gtI : Dop s E (r2 (rI0 fun i j => .bl (decide (j < i)))) oGtI := dop_i20 fun _ _ => rfl
def oGeI : Fv := i2 (fun _ _ => true) fun i j => .bl (decide (j ≤ i))
theorem dop_geI : Dop s E (r2 (rI0 fun i j => .bl (decide (j ≤ i)))) oGeI := dop_i20 fun _ _ => rfl
/-- is None -/
def isN : L → Bool
  | .fz .non => true
  | _ => false
def oIsN : Fv := p2 fun x y => if isN y then some (.fz (.bl (isN x))) else none
def oNotN : Fv := p2 fun x y => if isN y then some (.fz (.bl (!isN x))) else none
theorem Vw.isN {s : Cs} {G H : Hp} {l : L} {v : V} (h : Vw s G H l v) : decide (v = .non) = isN l := by
  obtain ⟨f, o⟩ := h
  cases l with
  | fz d =>
    have r := Vw.fz ⟨f, o⟩
    cases d <;> cases r <;> simp [Dl.isN]
  | lst _ => cases o; simp [Dl.isN]
  | dct _ _ => cases o <;> simp [Dl.isN]
  | obj _ _ => cases o; simp [Dl.isN]
theorem isN_true {l : L} (h : isN l = true) : l = .fz .non := by
  unfold isN at h
  split at h
  · rfl
  · cases h
theorem dop_isN : Dop s E (r2 fun x y H Q => y = .non ∧ Q (.bl (decide (x = .non))) H) oIsN :=
  dop_p2 fun c hc G H th rh ta si x y v u l Q h0 e q => by
    by_cases hy : isN y = true
    · rw [if_pos hy] at e
      cases e
      obtain rfl := isN_true hy
      refine ⟨dt_non h0.pop.vw.fz, ?_⟩
      rw [h0.vw.isN]
      exact q _ G H (h0.push (.bl .nil))
    · rw [if_neg hy] at e; cases e
theorem dop_notN : Dop s E (r2 fun x y H Q => y = .non ∧ Q (.bl (!decide (x = .non))) H) oNotN :=
  dop_p2 fun c hc G H th rh ta si x y v u l Q h0 e q => by
    by_cases hy : isN y = true
    · rw [if_pos hy] at e
      cases e
      obtain rfl := isN_true hy
      refine ⟨dt_non h0.pop.vw.fz, ?_⟩
      rw [h0.vw.isN]
      exact q _ G H (h0.push (.bl .nil))
    · rw [if_neg hy] at e; cases e

/-! ### data at any depth, compared -/
mutual
def D.py : D → Option PyData
  | .non => some .none
  | .bl b => some (.bool b)
  | .int i => some (.int i)
  | .str x => some (.str x)
  | .tup ds => (D.pys ds).map .tuple
  | .ktp ds => (D.pys ds).map .tuple
  | .lst ds => (D.pys ds).map .list
  | .ty _ => none
  | .scr _ => none
  | .cls _ => none
  | .dct _ _ => none
  | .obj _ _ => none
def D.pys : List D → Option (List PyData)
  | [] => some []
  | d :: ds => (D.py d).bind fun x => (D.pys ds).map (x :: ·)
end
theorem D.py_dp {K : PySem.W.Frag} {ct : Str → Option Addr} {G : Hp} : ∀ {ds : List D} {vs : List V}, Dt K ct G ds vs → ∀ {xs : List PyData}, D.pys ds = some xs → DpAll K G vs xs := by
  intro ds vs h
  induction h with
  | nil => intro xs e; simp [D.pys] at e; subst e; exact .nil
  | non _ ih => intro xs e; simp [D.pys, D.py] at e; obtain ⟨b, e1, rfl⟩ := e; exact .cons .non (ih e1)
  | bl _ ih => intro xs e; simp [D.pys, D.py] at e; obtain ⟨b, e1, rfl⟩ := e; exact .cons (.bl _) (ih e1)
  | int _ ih => intro xs e; simp [D.pys, D.py] at e; obtain ⟨b, e1, rfl⟩ := e; exact .cons (.int _) (ih e1)
  | str _ ih => intro xs e; simp [D.pys, D.py] at e; obtain ⟨b, e1, rfl⟩ := e; exact .cons (.str _) (ih e1)
  | ty _ ih => intro xs e; simp [D.pys, D.py] at e
  | scr _ _ ih => intro xs e; simp [D.pys, D.py] at e
  | cls _ _ ih => intro xs e; simp [D.pys, D.py] at e
  | tup sq _ _ i1 i2 =>
    intro xs e
    simp only [D.pys, D.py] at e
    simp only [Option.bind_eq_some_iff, Option.map_eq_some_iff] at e
    obtain ⟨x, ⟨ys, e1, rfl⟩, zs, e2, rfl⟩ := e
    exact .cons (.tup ((.inl sq)) (i1 e1)) (i2 e2)
  | ktp sq _ _ i1 i2 =>
    intro xs e
    simp only [D.pys, D.py] at e
    simp only [Option.bind_eq_some_iff, Option.map_eq_some_iff] at e
    obtain ⟨x, ⟨ys, e1, rfl⟩, zs, e2, rfl⟩ := e
    exact .cons (.tup (.inl sq.1) (i1 e1)) (i2 e2)
  | lst sq _ _ i1 i2 =>
    intro xs e
    simp only [D.pys, D.py] at e
    simp only [Option.bind_eq_some_iff, Option.map_eq_some_iff] at e
    obtain ⟨x, ⟨ys, e1, rfl⟩, zs, e2, rfl⟩ := e
    exact .cons (.lst (SqL.of sq) (i1 e1)) (i2 e2)
  | dK _ _ _ _ _ _ => intro xs e; simp [D.pys, D.py] at e
  | dT _ _ _ _ _ _ => intro xs e; simp [D.pys, D.py] at e
  | obj _ _ _ _ _ _ _ => intro xs e; simp [D.pys, D.py] at e
theorem D.py_dp1 {K : PySem.W.Frag} {ct : Str → Option Addr} {G : Hp} {d : D} {v : V} (h : Dt K ct G [d] [v]) {x : PyData} (e : d.py = some x) : Dp K G v x := by
  have := D.py_dp h (xs := [x]) (by simp [D.pys, e])
  cases this with
  | cons a _ => exact a
mutual
theorem Dp.mono' {K : PySem.W.Frag} {G G' : Hp} (sg : Same G G') : ∀ {x : PyData} {v : V}, Dp K G v x → Dp K G' v x
  | _, _, .non => .non
  | _, _, .bl b => .bl b
  | _, _, .int b => .int b
  | _, _, .str b => .str b
  | _, _, .lst a b => .lst (sg.sqL a) (DpAll.mono' sg b)
  | _, _, .tup a b => .tup (sg.sqT a) (DpAll.mono' sg b)
theorem DpAll.mono' {K : PySem.W.Frag} {G G' : Hp} (sg : Same G G') : ∀ {x : List PyData} {v : List V}, DpAll K G v x → DpAll K G' v x
  | _, _, .nil => .nil
  | _, _, .cons a b => .cons (Dp.mono' sg a) (DpAll.mono' sg b)
end
/-- what a thing is as data that == reads -/
def shp (l : L) : Option PyData := (l.toD.py).bind fun x => if SeqAt.shaped x then some x else none
/-- data of a thing, its own part included -/
theorem Ow.dps {K : PySem.W.Frag} {ct : Str → Option Addr} {G H : Hp} (gh : Same G H) : ∀ {ls : List (Option L)} {vs : List (Option V)} {fp : List Addr}, Ow K ct G H ls vs fp → ∀ (ks : List L), ks.map some = ls → ∀ (ws : List V), ws.map some = vs → ∀ {xs : List PyData}, D.pys (ks.map L.toD) = some xs → DpAll K H ws xs := by
  intro ls vs fp h
  induction h with
  | nil =>
    intro ks e ws e' xs ex
    cases ks with
    | nil => cases ws with
      | nil => cases ex; exact .nil
      | cons _ _ => cases e'
    | cons _ _ => cases e
  | no _ ih =>
    intro ks e ws e'
    cases ks with
    | nil => cases e
    | cons _ _ => injection e with e _; cases e
  | fz d _ ih =>
    intro ks e ws e' xs ex
    cases ks with
    | nil => cases e
    | cons l ks => cases ws with
      | nil => cases e'
      | cons w ws =>
        simp at e e'
        obtain ⟨rfl, rfl⟩ := e
        obtain ⟨rfl, rfl⟩ := e'
        simp only [List.map_cons, D.pys, L.toD, Option.bind_eq_some_iff, Option.map_eq_some_iff] at ex
        obtain ⟨x, e1, zs, e2, rfl⟩ := ex
        exact .cons (Dp.mono' gh (D.py_dp1 d e1)) (ih _ rfl _ rfl e2)
  | lst a _ _ i1 i2 =>
    intro ks e ws e' xs ex
    cases ks with
    | nil => cases e
    | cons l ks => cases ws with
      | nil => cases e'
      | cons w ws =>
        simp at e e'
        obtain ⟨rfl, rfl⟩ := e
        obtain ⟨rfl, rfl⟩ := e'
        simp only [List.map_cons, D.pys, L.toD, D.py, toDs_map, Option.bind_eq_some_iff, Option.map_eq_some_iff] at ex
        obtain ⟨x, ⟨ys, e1, rfl⟩, zs, e2, rfl⟩ := ex
        exact .cons (.lst (SqL.of a) (i1 _ rfl _ rfl e1)) (i2 _ rfl _ rfl e2)
  | dK _ _ _ _ _ _ =>
    intro ks e ws e' xs ex
    cases ks with
    | nil => cases e
    | cons l ks =>
      simp at e
      obtain ⟨rfl, rfl⟩ := e
      simp [D.pys, L.toD, D.py] at ex
  | dT _ _ _ _ _ _ =>
    intro ks e ws e' xs ex
    cases ks with
    | nil => cases e
    | cons l ks =>
      simp at e
      obtain ⟨rfl, rfl⟩ := e
      simp [D.pys, L.toD, D.py] at ex
  | obj _ _ _ _ _ _ _ =>
    intro ks e ws e' xs ex
    cases ks with
    | nil => cases e
    | cons l ks =>
      simp at e
      obtain ⟨rfl, rfl⟩ := e
      simp [D.pys, L.toD, D.py] at ex
theorem Vw.shp {s : Cs} {G H : Hp} {l : L} {v : V} (gh : Same G H) (h : Vw s G H l v) {x : PyData} (e : Dl.shp l = some x) : Dp s.K H v x ∧ SeqAt.shaped x = true := by
  obtain ⟨f, o⟩ := h
  unfold Dl.shp at e
  cases e1 : l.toD.py with
  | none => rw [e1] at e; cases e
  | some z =>
    rw [e1] at e
    simp only [Option.bind_some] at e
    by_cases hs : SeqAt.shaped z = true
    · rw [if_pos hs] at e
      cases e
      have := Ow.dps gh o [l] rfl [v] rfl (xs := [x]) (by simp [D.pys, e1])
      cases this with
      | cons a _ => exact ⟨a, hs⟩
    · rw [if_neg hs] at e; cases e
def oEq : Fv := p2 fun x y => (shp x).bind fun a => (shp y).map fun b => .fz (.bl (PyData.eqv a b))
def oNe : Fv := p2 fun x y => (shp x).bind fun a => (shp y).map fun b => .fz (.bl (!PyData.eqv a b))
theorem dop_eq : Dop s E (r2 (rEqD s.K)) oEq := dop_p2 fun c hc G H th rh ta si x y v u l Q h0 e q => by
  subst hc
  cases e1 : shp x with
  | none => rw [e1] at e; cases e
  | some a =>
    cases e2 : shp y with
    | none => rw [e1, e2] at e; cases e
    | some b =>
      rw [e1, e2] at e
      cases e
      obtain ⟨d1, s1⟩ := h0.vw.shp h0.gh e1
      obtain ⟨d2, s2⟩ := h0.pop.vw.shp h0.gh e2
      exact ⟨a, b, d1, d2, s1, s2, q _ G H (h0.push (.bl .nil))⟩
theorem dop_ne : Dop s E (r2 (rNeD s.K)) oNe := dop_p2 fun c hc G H th rh ta si x y v u l Q h0 e q => by
  subst hc
  cases e1 : shp x with
  | none => rw [e1] at e; cases e
  | some a =>
    cases e2 : shp y with
    | none => rw [e1, e2] at e; cases e
    | some b =>
      rw [e1, e2] at e
      cases e
      obtain ⟨d1, s1⟩ := h0.vw.shp h0.gh e1
      obtain ⟨d2, s2⟩ := h0.pop.vw.shp h0.gh e2
      exact ⟨a, b, d1, d2, s1, s2, q _ G H (h0.push (.bl .nil))⟩
end
end Dl
namespace Dl
open PySem L2

/-! ### an own list changed -/
section
variable {c : Cn} {G H : Hp} {th rh : Rho} {ta si : List (Option V)}
theorem S0.relist {ks : List L} {v : V} (h : S0 c G H (some (.lst ks) :: th) rh (some v :: ta) si) :
    ∃ p ws, v = .ref p ∧ H p = some (.lst ws) ∧ ks.length = ws.length ∧ ∀ (t0 : Rho) (v0 : List (Option V)) (ks' : List L) (ws' : List V),
      (∀ f, Ow c.K c.ct G H (ks.map some) (ws.map some) f → ∃ f0 f', Ow c.K c.ct G H t0 v0 f0 ∧ Ow c.K c.ct G H (ks'.map some) (ws'.map some) f' ∧ (f.Nodup → (f0 ++ f').Nodup) ∧ ∀ a ∈ f0 ++ f', a ∈ f) →
      S0 c G (upd H p (.lst ws')) (t0 ++ some (.lst ks') :: th) rh (v0 ++ some (.ref p) :: ta) si := by
  obtain ⟨f1, o, nd, k, j⟩ := S0.split (t1 := [some (.lst ks)]) (v1 := [some v]) (th := th) (ta := ta) h rfl
  cases o with
  | @lst p ws ks f _ _ f2 hp o1 o2 =>
    cases o2
    have hl := o1.length
    simp only [List.length_map] at hl
    refine ⟨p, ws, rfl, hp, hl, fun t0 v0 ks' ws' hk => ?_⟩
    rw [List.append_nil] at nd k j
    obtain ⟨f0, f', oa, ob, hn, hs⟩ := hk f o1
    have nd' := List.nodup_cons.mp nd
    have off : ∀ a ∈ f0 ++ f', a ≠ p := fun a m e => nd'.1 (e ▸ hs a m)
    have same : ∀ a ∈ f0 ++ f', upd H p (.lst ws') a = H a := fun a m => upd_ne (off a m)
    have oa' := oa.mono (fun _ _ z => z) (fun a m => same a (by simp [m]))
    have ob' := ob.mono (fun _ _ z => z) (fun a m => same a (by simp [m]))
    have gp : G p = none := k p (by simp)
    have nd2 := hn nd'.2
    have := j.run G (upd H p (.lst ws')) (t0 ++ [some (.lst ks')]) (v0 ++ [some (.ref p)]) (f0 ++ (p :: (f' ++ [])))
      (Ow.app oa' (Ow.lst upd_same ob' .nil))
      (by
        rw [List.append_nil]
        refine List.nodup_append.mpr ⟨(List.nodup_append.mp nd2).1, List.nodup_cons.mpr ⟨fun m => off p (by simp [m]) rfl, (List.nodup_append.mp nd2).2.1⟩, fun a ha b hb e => ?_⟩
        subst e
        rcases List.mem_cons.mp hb with e | m
        · exact off a (by simp [ha]) e
        · exact (List.nodup_append.mp nd2).2.2 a ha a m rfl)
      (fun a m => by
        rw [List.append_nil] at m
        rcases List.mem_append.mp m with m | m
        · exact ⟨k a (by simp [hs a (by simp [m])]), .inl (by simp [hs a (by simp [m])])⟩
        · rcases List.mem_cons.mp m with rfl | m
          · exact ⟨gp, .inl (by simp)⟩
          · exact ⟨k a (by simp [hs a (by simp [m])]), .inl (by simp [hs a (by simp [m])])⟩)
      (fun _ _ z => z)
      (fun a u z => by
        rw [upd_ne (fun e => by rw [e, gp] at z; cases z)]
        exact h.gh a u z)
      (fun a u z n => by rw [upd_ne (fun e => n (by simp [e]))]; exact z)
      (fun a z => .inl z)
    simpa [List.append_assoc] using this
/-- the thing beneath the top made still -/
theorem S0.freeze2 {x y : L} {v u : V} (h : S0 c G H (some x :: some y :: th) rh (some v :: some u :: ta) si) : ∃ G', Same G G' ∧ Dt c.K c.ct G' [y.toD] [u] ∧ S0 c G' H (some x :: some (.fz y.toD) :: th) rh (some v :: some u :: ta) si := by
  obtain ⟨G', sg, dt, h2⟩ := h.swap.freeze
  exact ⟨G', sg, dt, (h2.push dt).swap⟩
end

/-! ### receivers -/
def isLst : L → Bool
  | .fz (.lst _) => true
  | .lst _ => true
  | _ => false
def isOwnLst : L → Bool
  | .lst _ => true
  | _ => false
def isStr : L → Bool
  | .fz (.str _) => true
  | _ => false
section
variable {s : Cs} {W : WX} {E : XK}
theorem chk_list : Chk s (fun v H => tyV s.K "list" v H) isLst := fun c hc G H th rh ta si l v h p => by
  subst hc
  cases l with
  | fz d =>
    cases d with
    | lst ds =>
      obtain ⟨a, ws, f, rfl, h1, _⟩ := h.vw.seq h.gh (b := true) rfl
      exact .inl ⟨rfl, ws, h1 rfl⟩
    | _ => cases p
  | lst ls =>
    obtain ⟨a, ws, f, rfl, h1, _⟩ := h.vw.seq h.gh (b := true) rfl
    exact .inl ⟨rfl, ws, h1 rfl⟩
  | dct _ _ => cases p
  | obj _ _ => cases p
theorem chk_str : Chk s (fun v H => tyV s.K "str" v H) isStr := fun c hc G H th rh ta si l v h p => by
  cases l with
  | fz d =>
    cases d with
    | str z =>
      have e := h.vw.str
      subst e
      exact rfl
    | _ => cases p
  | _ => cases p

/-! ### list methods -/
def rM (r : V → List V → Hp → VK → Prop) : List V → Hp → VK → Prop := fun vs H Q => match vs with
  | x :: vs => r x vs H Q
  | [] => False
def ownL : L → Option (List L)
  | .lst ks => some ks
  | _ => none
theorem ownL_some {l : L} {ks : List L} (h : ownL l = some ks) : l = .lst ks := by
  cases l <;> cases h; rfl
def m1 (f : L → Option (L × L)) : Fv := fun ls => match ls with
  | [x] => (match f x with
    | some (l, x') => .ok (l, [x'])
    | none => .stuck)
  | _ => .stuck
def m2 (f : L → L → Option (L × L × L)) : Fv := fun ls => match ls with
  | [x, y] => (match f x y with
    | some (l, x', y') => .ok (l, [x', y'])
    | none => .stuck)
  | _ => .stuck
def m3 (f : L → L → L → Option (L × L × L × L)) : Fv := fun ls => match ls with
  | [x, y, z] => (match f x y z with
    | some (l, x', y', z') => .ok (l, [x', y', z'])
    | none => .stuck)
  | _ => .stuck
theorem dop_m1 {r : List V → Hp → VK → Prop} {f : L → Option (L × L)} (h : ∀ (c : Cn), c.toCs = s → ∀ (G H : Hp) (th rh : Rho) (ta si : List (Option V)) (x : L) (v : V) (l x' : L) (Q : VK), S0 c G H (some x :: th) rh (some v :: ta) si → f x = some (l, x') →
    (∀ w G' H', S0 c G' H' (some l :: some x' :: th) rh (some w :: some v :: ta) si → Q w H') → r [v] H Q) : Dop s E r (m1 f) := fun c hc G H th rh ta si ls vs Q h0 e q => by
  match ls, vs, e with
  | [x], [v], _ =>
    unfold m1 at q
    simp only at q
    cases e1 : f x with
    | none => rw [e1] at q; exact q.elim
    | some l => rw [e1] at q; exact h c hc G H th rh ta si x v l.1 l.2 Q h0 e1 q
  | [], _, _ => exact q.elim
  | _ :: _ :: _, _, _ => exact q.elim
theorem dop_m2 {r : List V → Hp → VK → Prop} {f : L → L → Option (L × L × L)} (h : ∀ (c : Cn), c.toCs = s → ∀ (G H : Hp) (th rh : Rho) (ta si : List (Option V)) (x y : L) (v u : V) (l x' y' : L) (Q : VK), S0 c G H (some x :: some y :: th) rh (some v :: some u :: ta) si → f x y = some (l, x', y') →
    (∀ w G' H', S0 c G' H' (some l :: some x' :: some y' :: th) rh (some w :: some v :: some u :: ta) si → Q w H') → r [v, u] H Q) : Dop s E r (m2 f) := fun c hc G H th rh ta si ls vs Q h0 e q => by
  match ls, vs, e with
  | [x, y], [v, u], _ =>
    unfold m2 at q
    simp only at q
    cases e1 : f x y with
    | none => rw [e1] at q; exact q.elim
    | some l => rw [e1] at q; exact h c hc G H th rh ta si x y v u l.1 l.2.1 l.2.2 Q h0 e1 q
  | [], _, _ => exact q.elim
  | [_], _, _ => exact q.elim
  | _ :: _ :: _ :: _, _, _ => exact q.elim
theorem dop_m3 {r : List V → Hp → VK → Prop} {f : L → L → L → Option (L × L × L × L)} (h : ∀ (c : Cn), c.toCs = s → ∀ (G H : Hp) (th rh : Rho) (ta si : List (Option V)) (x y z : L) (v u t : V) (l x' y' z' : L) (Q : VK), S0 c G H (some x :: some y :: some z :: th) rh (some v :: some u :: some t :: ta) si → f x y z = some (l, x', y', z') →
    (∀ w G' H', S0 c G' H' (some l :: some x' :: some y' :: some z' :: th) rh (some w :: some v :: some u :: some t :: ta) si → Q w H') → r [v, u, t] H Q) : Dop s E r (m3 f) := fun c hc G H th rh ta si ls vs Q h0 e q => by
  match ls, vs, e with
  | [x, y, z], [v, u, t], _ =>
    unfold m3 at q
    simp only at q
    cases e1 : f x y z with
    | none => rw [e1] at q; exact q.elim
    | some l => rw [e1] at q; exact h c hc G H th rh ta si x y z v u t l.1 l.2.1 l.2.2.1 l.2.2.2 Q h0 e1 q
  | [], _, _ => exact q.elim
  | [_], _, _ => exact q.elim
  | [_, _], _, _ => exact q.elim
  | _ :: _ :: _ :: _ :: _, _, _ => exact q.elim
def mAppend : Fv := m2 fun x y => (ownL x).bind fun ks => if ks.length < sizeLine then some (.fz .non, .lst (ks ++ [.fz y.toD]), .fz y.toD) else none
theorem dop_append : Dop s E (rM rAppend) mAppend := dop_m2 fun c hc G H th rh ta si x y v u l x' y' Q h0 e q => by
  cases e1 : ownL x with
  | none => rw [e1] at e; cases e
  | some ks =>
    rw [e1] at e
    obtain rfl := ownL_some e1
    simp only [Option.bind_some] at e
    by_cases hz : ks.length < sizeLine
    · rw [if_pos hz] at e
      cases e
      obtain ⟨G1, sg, dt, h1⟩ := S0.freeze2 (th := th) (ta := ta) h0
      obtain ⟨p, ws, rfl, hp, hl, go⟩ := h1.relist
      refine ⟨p, ws, u, rfl, rfl, hp, by omega, q .non G1 _ ?_⟩
      have := go [] [] (ks ++ [.fz y.toD]) (ws ++ [u]) fun f o => ⟨[], f, .nil, by simpa using Ow.app o (Ow.fz dt .nil), fun z => by simpa using z, fun a m => by simpa using m⟩
      exact this.push (.non .nil)
    · rw [if_neg hz] at e; cases e
def mPop : Fv := m1 fun x => (ownL x).bind fun ks => ks.getLast?.map fun l => (l, .lst ks.dropLast)
theorem dop_pop : Dop s E (rM rPop) mPop := dop_m1 fun c hc G H th rh ta si x v l x' Q h0 e q => by
  cases e1 : ownL x with
  | none => rw [e1] at e; cases e
  | some ks =>
    rw [e1] at e
    obtain rfl := ownL_some e1
    simp only [Option.bind_some, Option.map_eq_some_iff] at e
    obtain ⟨l', e2, e3⟩ := e
    cases e3
    obtain ⟨p, ws, rfl, hp, hl, go⟩ := S0.relist (th := th) (ta := ta) h0
    obtain ⟨ks', rfl⟩ := List.getLast?_eq_some_iff.mp e2
    rcases List.eq_nil_or_concat ws with rfl | ⟨ws', w, rfl⟩
    · simp at hl
    have hl2 : ks'.length = ws'.length := by simpa using hl
    refine ⟨p, ws' ++ [w], w, rfl, rfl, by simpa using hp, by simp, ?_⟩
    rw [List.dropLast_concat] at q ⊢
    refine q w G _ ?_
    refine go [some l] [some w] ks' ws' fun f o => ?_
    simp only [List.concat_eq_append, List.map_append] at o
    obtain ⟨fa, fb, oa, ob, rfl⟩ := Ow.split (by simpa using hl2) o
    refine ⟨fb, fa, by simpa using ob, oa, fun z => ?_, fun a m => ?_⟩
    · exact (List.perm_append_comm.nodup_iff).mp z
    · simp only [List.mem_append] at m ⊢
      exact m.symm
theorem Ow.rev {K : PySem.W.Frag} {ct : Str → Option Addr} {G H : Hp} : ∀ {ls : List (Option L)} {vs : List (Option V)} {f : List Addr}, Ow K ct G H ls vs f → ∃ f', Ow K ct G H ls.reverse vs.reverse f' ∧ f'.Perm f
  | [], [], f, h => ⟨f, by simpa using h, .refl _⟩
  | [], _ :: _, _, h => by cases h
  | _ :: _, [], _, h => by cases h
  | x :: ls, y :: vs, f, h => by
    obtain ⟨f1, f2, o1, o2, rfl⟩ := Ow.split (l1 := [x]) (v1 := [y]) rfl h
    obtain ⟨f', o3, p⟩ := Ow.rev o2
    refine ⟨f' ++ f1, by simpa using Ow.app o3 o1, ?_⟩
    exact (List.Perm.append_right f1 p).trans List.perm_append_comm
def mReverse : Fv := m1 fun x => (ownL x).map fun ks => (.fz .non, .lst ks.reverse)
theorem dop_reverse : Dop s E (rM rReverse) mReverse := dop_m1 fun c hc G H th rh ta si x v l x' Q h0 e q => by
  cases e1 : ownL x with
  | none => rw [e1] at e; cases e
  | some ks =>
    rw [e1] at e
    obtain rfl := ownL_some e1
    cases e
    obtain ⟨p, ws, rfl, hp, hl, go⟩ := S0.relist (th := th) (ta := ta) h0
    refine ⟨p, ws, rfl, rfl, hp, q .non G _ ?_⟩
    have := go [] [] ks.reverse ws.reverse fun f o => by
      obtain ⟨f', o2, p⟩ := o.rev
      exact ⟨[], f', .nil, by simpa using o2, fun z => by simpa using p.nodup_iff.mpr z, fun a m => p.mem_iff.mp (by simpa using m)⟩
    exact this.push (.non .nil)

/-! ### exact lists: +, * -/
def lstD : L → Option (List D)
  | .fz (.lst ds) => some ds
  | .lst ks => allD ks
  | _ => none
@[simp] theorem lstD_fz {ds : List D} : lstD (.fz (.lst ds)) = some ds := rfl
@[simp] theorem lstD_own {ds : List D} : lstD (.lst (ds.map .fz)) = some ds := by simp [lstD]
theorem Vw.lstD {s : Cs} {G H : Hp} {l : L} {v : V} {ds : List D} (gh : Same G H) (h : Vw s G H l v) (e : Dl.lstD l = some ds) : ∃ a ws, v = .ref a ∧ H a = some (.lst ws) ∧ Dt s.K s.ct G ds ws := by
  obtain ⟨f, o⟩ := h
  cases l with
  | fz d =>
    cases d with
    | lst es =>
      cases e
      have r := Vw.fz ⟨f, o⟩
      cases r with
      | lst a r _ => exact ⟨_, _, rfl, gh _ _ a, r⟩
    | _ => cases e
  | lst ks =>
    cases o with
    | lst hp o1 _ =>
      rw [allD_some e] at o1
      exact ⟨_, _, rfl, hp, (Ow.toDt (by simpa [List.map_map, Function.comp_def] using o1)).1⟩
  | _ => cases e
def tupD : L → Option (List D)
  | .fz (.tup ds) => some ds
  | _ => none
@[simp] theorem tupD_fz {ds : List D} : tupD (.fz (.tup ds)) = some ds := rfl
theorem Vw.tupD {s : Cs} {G H : Hp} {l : L} {v : V} {ds : List D} (gh : Same G H) (h : Vw s G H l v) (e : Dl.tupD l = some ds) : ∃ a ws, v = .ref a ∧ SqT s.K H a ws ∧ Rd G a (.tup ws) ∧ Dt s.K s.ct G ds ws := by
  obtain ⟨f, o⟩ := h
  cases l with
  | fz d =>
    cases d with
    | tup es =>
      cases e
      have r := Vw.fz ⟨f, o⟩
      cases r with
      | tup a r _ => exact ⟨_, _, rfl, .inl (gh.rd a), a, r⟩
    | _ => cases e
  | _ => cases e
def oAddS : Fv := p2 fun x y => (asS x).bind fun i => (asS y).bind fun j => if i.length + j.length ≤ sizeLine then some (.fz (.str (i ++ j))) else none
theorem dop_addS : Dop s E (r2 fun x y H Q => ∃ i j, x = .str i ∧ y = .str j ∧ i.length + j.length ≤ sizeLine ∧ Q (.str (i ++ j)) H) oAddS := dop_p2 fun c hc G H th rh ta si x y v u l Q h0 e q => by
  cases e1 : asS x with
  | none => rw [e1] at e; cases e
  | some i =>
    cases e2 : asS y with
    | none => rw [e1, e2] at e; cases e
    | some j =>
      rw [e1, e2] at e
      simp only [Option.bind_some] at e
      obtain rfl := asS_some e1
      obtain rfl := asS_some e2
      by_cases hc' : i.length + j.length ≤ sizeLine
      · rw [if_pos hc'] at e
        cases e
        exact ⟨i, j, h0.vw.str, h0.pop.vw.str, hc', q _ G H (h0.push (.str .nil))⟩
      · rw [if_neg hc'] at e; cases e
def oAddL : Fv := p2 fun x y => (lstD x).bind fun i => (lstD y).bind fun j => if i.length + j.length ≤ sizeLine then some (.lst ((i ++ j).map .fz)) else none
theorem dop_addL : Dop s E (r2 rCat) oAddL := dop_p2 fun c hc G H th rh ta si x y v u l Q h0 e q => by
  cases e1 : lstD x with
  | none => rw [e1] at e; cases e
  | some i =>
    cases e2 : lstD y with
    | none => rw [e1, e2] at e; cases e
    | some j =>
      rw [e1, e2] at e
      simp only [Option.bind_some] at e
      by_cases hc' : i.length + j.length ≤ sizeLine
      · rw [if_pos hc'] at e
        cases e
        obtain ⟨a, ws, rfl, ha, d1⟩ := h0.vw.lstD h0.gh e1
        obtain ⟨b, zs, rfl, hb, d2⟩ := h0.pop.vw.lstD h0.gh e2
        exact ⟨a, b, ws, zs, rfl, rfl, ha, hb, by rw [← d1.length, ← d2.length]; exact hc', fun p np => q _ G _ (h0.newLst (d1.app d2) np)⟩
      · rw [if_neg hc'] at e; cases e
def oAddT : Fv := p2 fun x y => (tupD x).bind fun i => (tupD y).bind fun j => if i.length + j.length ≤ sizeLine then some (.fz (.tup (i ++ j))) else none
theorem dop_addT : Dop s E (r2 (rCatA s.K)) oAddT := dop_p2 fun c hc G H th rh ta si x y v u l Q h0 e q => by
  subst hc
  cases e1 : tupD x with
  | none => rw [e1] at e; cases e
  | some i =>
    cases e2 : tupD y with
    | none => rw [e1, e2] at e; cases e
    | some j =>
      rw [e1, e2] at e
      simp only [Option.bind_some] at e
      by_cases hc' : i.length + j.length ≤ sizeLine
      · rw [if_pos hc'] at e
        cases e
        obtain ⟨a, ws, rfl, ha, ga, d1⟩ := h0.vw.tupD h0.gh e1
        obtain ⟨b, zs, rfl, hb, gb, d2⟩ := h0.pop.vw.tupD h0.gh e2
        refine ⟨a, b, ws, zs, rfl, rfl, ha, hb, by rw [← d1.length, ← d2.length]; exact hc', fun ew => ?_, fun _ ew => ?_, fun _ _ p np => ?_⟩
        · subst ew
          cases d1
          exact q _ G H (h0.push (.tup gb d2 .nil))
        · subst ew
          cases d2
          rw [List.append_nil] at q
          exact q _ G H (h0.push (.tup ga d1 .nil))
        · obtain ⟨G', h'⟩ := h0.newTup (d1.app d2) np
          exact q _ G' _ h'
      · rw [if_neg hc'] at e; cases e
def rAddAll (K : PySem.W.Frag) : R2 := fun x y H Q => rI0 (fun i j => .int (i + j)) x y H Q ∨ (∃ i j, x = .str i ∧ y = .str j ∧ i.length + j.length ≤ sizeLine ∧ Q (.str (i ++ j)) H) ∨ rCat x y H Q ∨ rCatA K x y H Q
theorem op_addAll {X : Cx} : OpR X (binaryOp .Add) (rAddAll X.K) := op_add.or (op_add_str.or (op_cat.or op_catA))
def oAdd : Fv := alt oAddI (alt oAddS (alt oAddL oAddT))
theorem dop_add : Dop s E (r2 (rAddAll s.K)) oAdd := by
  have d1 : Dop s E (r2 (rI0 fun i j => .int (i + j))) oAddI := dop_i20 fun _ _ => rfl
  refine Dop.alt (r' := r2 fun x y H Q => (∃ i j, x = .str i ∧ y = .str j ∧ i.length + j.length ≤ sizeLine ∧ Q (.str (i ++ j)) H) ∨ rCat x y H Q ∨ rCatA s.K x y H Q) d1 ?_ (fun vs H Q h => r2_inl h) (fun vs H Q h => r2_inr h)
  refine Dop.alt (r' := r2 fun x y H Q => rCat x y H Q ∨ rCatA s.K x y H Q) dop_addS ?_ (fun vs H Q h => r2_inl h) (fun vs H Q h => r2_inr h)
  exact Dop.alt dop_addL dop_addT (fun vs H Q h => r2_inl h) (fun vs H Q h => r2_inr h)
def repL (n : Nat) (ds : List D) : List D := (List.replicate n ds).flatten
theorem Dt.rep {K : PySem.W.Frag} {ct : Str → Option Addr} {G : Hp} {ds : List D} {ws : List V} (h : Dt K ct G ds ws) : ∀ n, Dt K ct G (repL n ds) (List.replicate n ws).flatten
  | 0 => .nil
  | n + 1 => by
    unfold repL
    rw [List.replicate_succ, List.replicate_succ, List.flatten_cons, List.flatten_cons]
    exact h.app (Dt.rep h n)
def oMulL : Fv := p2 fun x y => (lstD x).bind fun i => (asI y).bind fun k => if decide (-(2 ^ 63) ≤ k) && decide (k < 2 ^ 63) && decide (i.length * k.toNat ≤ sizeLine) then some (.lst ((repL k.toNat i).map .fz)) else none
theorem dop_mulL : Dop s E (r2 rRep) oMulL := dop_p2 fun c hc G H th rh ta si x y v u l Q h0 e q => by
  cases e1 : lstD x with
  | none => rw [e1] at e; cases e
  | some i =>
    cases e2 : asI y with
    | none => rw [e1, e2] at e; cases e
    | some k =>
      rw [e1, e2] at e
      simp only [Option.bind_some] at e
      by_cases hc' : (decide (-(2 ^ 63) ≤ k) && decide (k < 2 ^ 63) && decide (i.length * k.toNat ≤ sizeLine)) = true
      · rw [if_pos hc'] at e
        cases e
        simp only [Bool.and_eq_true, decide_eq_true_eq] at hc'
        obtain ⟨a, ws, rfl, ha, d1⟩ := h0.vw.lstD h0.gh e1
        obtain rfl := asI_some e2
        exact ⟨a, k, ws, rfl, h0.pop.vw.int, ha, hc'.1.1, hc'.1.2, by rw [← d1.length]; exact hc'.2, fun p np => q _ G _ (h0.newLst (d1.rep _) np)⟩
      · rw [if_neg hc'] at e; cases e
def rMulAll : R2 := fun x y H Q => rI CMul (fun i j => .int (i * j)) x y H Q ∨ rRep x y H Q
theorem op_mulAll {X : Cx} : OpR X (binaryOp .Mult) rMulAll := op_mul.or op_rep
def oMul : Fv := alt oMulI oMulL
theorem dop_mulA : Dop s E (r2 rMulAll) oMul := Dop.alt dop_mul dop_mulL (fun vs H Q h => r2_inl h) (fun vs H Q h => r2_inr h)

/-! ### dicts looked at -/
def dctL : L → Option (Bool × List (D × L))
  | .fz (.dct t kvs) => some (t, kvs.map fun p => (p.1, .fz p.2))
  | .dct t kvs => some (t, kvs)
  | _ => none
def getL (kvs : List (D × L)) (k : D) : Option L := (kvs.find? fun p => decide (p.1 = k)).map (·.2)
/-- a key of one or of several -/
def keyOf : D → Option Key
  | .int i => some (.inl i)
  | .str x => some (.inr x)
  | _ => none
def keysOf : List D → Option (List Key)
  | [] => some []
  | d :: ds => (keyOf d).bind fun k => (keysOf ds).map (k :: ·)
def keyOk (t : Bool) : D → Bool
  | .tup _ => false
  | d => !t && (keyOf d).isSome
theorem keyOf_some {d : D} {k : Key} (h : keyOf d = some k) : d = keyD k := by
  cases d <;> cases h <;> rfl
theorem keysOf_some : ∀ {ds : List D} {ks : List Key}, keysOf ds = some ks → ds = ks.map keyD
  | [], ks, h => by cases h; rfl
  | d :: ds, ks, h => by
    unfold keysOf at h
    cases e1 : keyOf d with
    | none => rw [e1] at h; cases h
    | some k =>
      cases e2 : keysOf ds with
      | none => rw [e1, e2] at h; cases h
      | some ks' =>
        rw [e1, e2] at h
        cases h
        rw [keyOf_some e1, keysOf_some e2]; rfl
end
end Dl
namespace Dl
open PySem L2

section
variable {s : Cs} {W : WX} {E : XK}
theorem Vw.dct {G H : Hp} {l : L} {v : V} {t : Bool} {kvs : List (D × L)} (gh : Same G H) (h : Vw s G H l v) (e : dctL l = some (t, kvs)) :
    ∃ a, v = .ref a ∧ (t = false → ∃ ws f, Rd H a (.dK ws) ∧ kvs.map (·.1) = ws.map (fun p => keyD p.1) ∧ Ow s.K s.ct G H (kvs.map fun p => some p.2) (ws.map fun p => some p.2) f) ∧
      (t = true → ∃ ws f, Rd H a (.dT ws) ∧ kvs.map (·.1) = ws.map (fun p => keyT p.1) ∧ Ow s.K s.ct G H (kvs.map fun p => some p.2) (ws.map fun p => some p.2) f) := by
  obtain ⟨f, o⟩ := h
  cases l with
  | fz d =>
    cases d with
    | dct t' es =>
      cases e
      have r := Vw.fz ⟨f, o⟩
      cases r with
      | dK a e0 r _ => exact ⟨_, rfl, (fun _ => ⟨_, [], gh.rd a, by simpa [List.map_map, Function.comp_def] using e0, by simpa [List.map_map, Function.comp_def] using Ow.ofDt (H := H) r⟩), (fun z => by cases z)⟩
      | dT a e0 r _ => exact ⟨_, rfl, (fun z => by cases z), fun _ => ⟨_, [], gh.rd a, by simpa [List.map_map, Function.comp_def] using e0, by simpa [List.map_map, Function.comp_def] using Ow.ofDt (H := H) r⟩⟩
    | _ => cases e
  | dct t' es =>
    cases e
    cases o with
    | dK a e0 o1 _ => exact ⟨_, rfl, (fun _ => ⟨_, _, .inl a, e0, o1⟩), (fun z => by cases z)⟩
    | dT a e0 o1 _ => exact ⟨_, rfl, fun z => (by cases z), fun _ => ⟨_, _, .inl a, e0, o1⟩⟩
  | _ => cases e
/-- the dict's answer at a key, by positions -/
theorem getL_val {κ : Type} [DecidableEq κ] {kd : κ → D} (inj : ∀ a b, kd a = kd b → a = b) : ∀ {kvs : List (D × L)} {ws : List (κ × V)} (k : κ), kvs.map (·.1) = ws.map (fun p => kd p.1) →
    (getL kvs (kd k) = none ∧ valV ws k = none) ∨ ∃ (i : Nat) (l : L) (v : V), getL kvs (kd k) = some l ∧ valV ws k = some v ∧ (kvs.map (·.2))[i]? = some l ∧ (ws.map (·.2))[i]? = some v
  | [], [], k, _ => .inl ⟨rfl, rfl⟩
  | [], _ :: _, _, e => by simp at e
  | _ :: _, [], _, e => by simp at e
  | p :: kvs, q :: ws, k, e => by
    simp only [List.map_cons, List.cons.injEq] at e
    by_cases hk : q.1 = k
    · right
      refine ⟨0, p.2, q.2, ?_, ?_, rfl, rfl⟩
      · simp [getL, e.1, hk]
      · exact valV_pos hk
    · have hk' : ¬ p.1 = kd k := fun z => hk (inj _ _ (e.1.symm.trans z))
      have e1 : getL (p :: kvs) (kd k) = getL kvs (kd k) := by simp [getL, hk']
      rw [e1, valV_neg hk]
      rcases getL_val inj k e.2 with h | ⟨i, l, v, h1, h2, h3, h4⟩
      · exact .inl h
      · exact .inr ⟨i + 1, l, v, h1, h2, by simpa using h3, by simpa using h4⟩
theorem Ow.getAt {K : PySem.W.Frag} {ct : Str → Option Addr} {G H : Hp} {ks : List L} {ws : List V} {f : List Addr} {i : Nat} {d : D} {v : V} (o : Ow K ct G H (ks.map some) (ws.map some) f) (h1 : ks[i]? = some (.fz d)) (h2 : ws[i]? = some v) : Dt K ct G [d] [v] := by
  have e1 : (ks.map some) = (ks.map some).take i ++ some (.fz d) :: (ks.map some).drop (i + 1) := list_at (by simp [h1])
  have e2 : (ws.map some) = (ws.map some).take i ++ some v :: (ws.map some).drop (i + 1) := list_at (by simp [h2])
  have hl := o.length
  simp only [List.length_map] at hl
  rw [e1, e2] at o
  obtain ⟨_, _, _, _, ox, _, _⟩ := Ow.perm (by simp [hl]) o
  cases ox with
  | fz z _ => exact z
theorem keys_vals {K : PySem.W.Frag} {ct : Str → Option Addr} {G : Hp} : ∀ {ks : List Key} {ws : List V}, Dt K ct G (ks.map keyD) ws → ws = ks.map kV
  | [], [], r => rfl
  | [], _ :: _, r => by cases r
  | k :: ks, [], r => by have := r.length; simp at this
  | k :: ks, w :: ws, r => by
    obtain ⟨r1, r2⟩ := r.uncons
    have e1 : w = kV k := by
      cases k with
      | inl i => exact dt_int r1
      | inr i => exact dt_str r1
    rw [e1, keys_vals r2]; rfl
/-- a key's value and what DGet says of it -/
theorem dget_of {G H : Hp} {l : L} {v u : V} {t : Bool} {kvs : List (D × L)} {k : D} (gh : Same G H) (h : Vw s G H l v) (e : dctL l = some (t, kvs)) (hk : Dt s.K s.ct G [k] [u]) (ok : keyOk t k = true) :
    ∃ a, v = .ref a ∧ ((getL kvs k = none ∧ DGet H a u none) ∨ ∃ x w, getL kvs k = some x ∧ DGet H a u (some w) ∧ ∀ d, x = .fz d → Dt s.K s.ct G [d] [w]) := by
  obtain ⟨a, ev, h1, h2⟩ := h.dct gh e
  refine ⟨a, ev, ?_⟩
  have plain : ∀ key : Key, k = keyD key → t = false → ((getL kvs k = none ∧ DGet H a u none) ∨ ∃ x w, getL kvs k = some x ∧ DGet H a u (some w) ∧ ∀ d, x = .fz d → Dt s.K s.ct G [d] [w]) := fun key ek et => by
    subst ek
    obtain ⟨ws, f, rd, ek, o⟩ := h1 et
    have eu : u = kV key := by
      cases key with
      | inl i => exact dt_int hk
      | inr i => exact dt_str hk
    rcases getL_val (kd := keyD) (fun _ _ => keyD_inj) key ek with ⟨g1, g2⟩ | ⟨i, x, w, g1, g2, g3, g4⟩
    · exact .inl ⟨g1, .inl ⟨ws, key, rd, eu, g2.symm⟩⟩
    · refine .inr ⟨x, w, g1, .inl ⟨ws, key, rd, eu, g2.symm⟩, fun d ed => ?_⟩
      subst ed
      have o' : Ow s.K s.ct G H ((kvs.map (·.2)).map some) ((ws.map (·.2)).map some) f := by simpa [List.map_map, Function.comp_def] using o
      exact o'.getAt g3 g4
  cases k with
  | int i =>
    have et : t = false := by simpa [keyOk, keyOf] using ok
    exact plain (.inl i) rfl et
  | str i =>
    have et : t = false := by simpa [keyOk, keyOf] using ok
    exact plain (.inr i) rfl et
  | _ => simp [keyOk, keyOf] at ok
end
end Dl
namespace Dl
open PySem L2

/-! ### items by place -/
def rIxD : R2 := fun x y H Q => ∃ a v, x = .ref a ∧ DGet H a y (some v) ∧ Q v H
theorem ix_dict {X : Cx} (hu : X.A.units + 1 < cLine) : IxR X rIxD := by
  intro value slice pins s σ H x y v u Q I rx ry h hs
  obtain ⟨a, w, rfl, g, q⟩ := h
  cases rx
  exact PyProof.Rows.tail_any (dict_typeIs I g) PySem.F.slot_dict_getitem.lookup (d_getItem hu I g ry fun w' s3 I3 rw' => ⟨w, H, I3, rw', q⟩) hs
def rIxAll (K : PySem.W.Frag) : R2 := fun x y H Q => rIxL K x y H Q ∨ rIxT K x y H Q ∨ rIxS x y H Q ∨ rIxD x y H Q
theorem ix_all {X : Cx} (hu : X.A.units + 1 < cLine) : IxR X (rIxAll X.K) := ix_list.or (ix_tup.or (ix_str.or (ix_dict hu)))
def ixS : Fv := p2 fun x y => (seqD x).bind fun bk => (asI y).bind fun i => (atI bk.2 i).map .fz
def ixT : Fv := p2 fun x y => (asS x).bind fun z => (asI y).bind fun i => if z.length ≤ sizeLine then (atI z.cps.toList i).map (fun c => .fz (.str ⟨#[c]⟩)) else none
def ixD : Fv := p2 fun x y => (dctL x).bind fun tk => (asD y).bind fun k => if keyOk tk.1 k then (getL tk.2 k).bind fun l => (asD l).map .fz else none
def oIx : Fv := alt ixS (alt ixT ixD)
section
variable {s : Cs} {W : WX} {E : XK}
theorem Dt.at {K : PySem.W.Frag} {ct : Str → Option Addr} {G : Hp} {ds : List D} {ws : List V} {i : Int} {d : D} (h : Dt K ct G ds ws) (e : atI ds i = some d) : ∃ w, atI ws i = some w ∧ Dt K ct G [d] [w] := by
  unfold atI at e ⊢
  rw [← h.length]
  cases e1 : ixN ds.length i with
  | none => rw [e1] at e; cases e
  | some j =>
    rw [e1] at e
    obtain ⟨w, h1, h2⟩ := h.get (i := j) e
    exact ⟨w, h1, h2⟩
theorem dop_ixS : Dop s E (r2 fun x y H Q => rIxL s.K x y H Q ∨ rIxT s.K x y H Q) ixS := dop_p2 fun c hc G H th rh ta si x y v u l Q h0 e q => by
  subst hc
  cases e1 : seqD x with
  | none => rw [e1] at e; cases e
  | some bk =>
    obtain ⟨b, ds⟩ := bk
    cases e2 : asI y with
    | none => rw [e1, e2] at e; cases e
    | some i =>
      rw [e1, e2] at e
      simp only [Option.bind_some, Option.map_eq_some_iff] at e
      obtain ⟨d, e3, rfl⟩ := e
      obtain ⟨a, ws, rfl, h1, h2, dt⟩ := h0.vw.seqD h0.gh e1
      obtain ⟨w, e4, dw⟩ := dt.at e3
      obtain rfl := asI_some e2
      cases b with
      | true => exact .inl ⟨a, ws, i, w, rfl, h0.pop.vw.int, h1 rfl, e4, q w G H (h0.push dw)⟩
      | false => exact .inr ⟨a, ws, i, w, rfl, h0.pop.vw.int, h2 rfl, e4, q w G H (h0.push dw)⟩
theorem dop_ixT : Dop s E (r2 rIxS) ixT := dop_p2 fun c hc G H th rh ta si x y v u l Q h0 e q => by
  cases e1 : asS x with
  | none => rw [e1] at e; cases e
  | some z =>
    cases e2 : asI y with
    | none => rw [e1, e2] at e; cases e
    | some i =>
      rw [e1, e2] at e
      simp only [Option.bind_some] at e
      obtain rfl := asS_some e1
      obtain rfl := asI_some e2
      by_cases hz : z.length ≤ sizeLine
      · rw [if_pos hz] at e
        simp only [Option.map_eq_some_iff] at e
        obtain ⟨cc, e3, rfl⟩ := e
        exact ⟨z, i, cc, h0.vw.str, h0.pop.vw.int, hz, e3, q _ G H (h0.push (.str .nil))⟩
      · rw [if_neg hz] at e; cases e
theorem dop_ixD : Dop s E (r2 rIxD) ixD := dop_p2 fun c hc G H th rh ta si x y v u l Q h0 e q => by
  subst hc
  cases e1 : dctL x with
  | none => rw [e1] at e; cases e
  | some tk =>
    obtain ⟨t, kvs⟩ := tk
    cases e2 : asD y with
    | none => rw [e1, e2] at e; cases e
    | some k =>
      rw [e1, e2] at e
      simp only [Option.bind_some] at e
      obtain rfl := asD_some e2
      by_cases hk : keyOk t k = true
      · rw [if_pos hk] at e
        have dk := h0.pop.vw.fz
        obtain ⟨a, rfl, h1⟩ := dget_of h0.gh h0.vw e1 dk hk
        rcases h1 with ⟨g1, _⟩ | ⟨x', w, g1, g2, g3⟩
        · rw [g1] at e; cases e
        · rw [g1] at e
          simp only [Option.bind_some, Option.map_eq_some_iff] at e
          obtain ⟨d, e3, rfl⟩ := e
          obtain rfl := asD_some e3
          exact ⟨a, w, rfl, g2, q w G H (h0.push (g3 d rfl))⟩
      · rw [if_neg hk] at e; cases e
theorem r2_imp {r r' : R2} (k : ∀ x y H Q, r x y H Q → r' x y H Q) : ∀ vs H Q, r2 r vs H Q → r2 r' vs H Q := fun vs H Q h => by
  match vs, h with
  | [x, y], h => exact k x y H Q h
theorem dop_ix : Dop s E (r2 (rIxAll s.K)) oIx :=
  Dop.alt dop_ixS (Dop.alt (r'' := r2 fun x y H Q => rIxS x y H Q ∨ rIxD x y H Q) dop_ixT dop_ixD (fun _ _ _ h => r2_inl h) (fun _ _ _ h => r2_inr h))
    (r2_imp fun _ _ _ _ h => h.elim .inl fun h => .inr (.inl h)) (r2_imp fun _ _ _ _ h => h.elim (fun h => .inr (.inr (.inl h))) fun h => .inr (.inr (.inr h)))

/-! ### in -/
def flatD : D → Bool
  | .non => true
  | .bl _ => true
  | .int _ => true
  | .str _ => true
  | _ => false
theorem flat_dt {K : PySem.W.Frag} {ct : Str → Option Addr} {G : Hp} {d : D} {v : V} (h : Dt K ct G [d] [v]) (f : flatD d = true) : flatV v = true ∧ d.v = some v := by
  cases d <;> first
    | (cases f; done)
    | (cases h; exact ⟨rfl, rfl⟩)
def eqF : D → D → Bool
  | .non, .non => true
  | .bl a, .bl b => a == b
  | .bl a, .int b => (if a then 1 else 0) == b
  | .int a, .bl b => a == (if b then 1 else 0)
  | .int a, .int b => a == b
  | .str a, .str b => a == b
  | _, _ => false
theorem eqF_V {a b : D} {x y : V} (h1 : a.v = some x) (h2 : b.v = some y) : eqV x y = eqF a b := by
  cases a <;> cases h1 <;> cases b <;> cases h2 <;> rfl
theorem inF_V {K : PySem.W.Frag} {ct : Str → Option Addr} {G : Hp} {k : D} {x : V} (hk : k.v = some x) : ∀ {ds : List D} {ws : List V}, Dt K ct G ds ws → ds.all flatD = true → ws.all flatV = true ∧ inV x ws = ds.any fun z => eqF z k
  | [], [], _, _ => ⟨rfl, rfl⟩
  | [], _ :: _, h, _ => by cases h
  | _ :: _, [], h, _ => by have := h.length; simp at this
  | d :: ds, w :: ws, h, f => by
    obtain ⟨h1, h2⟩ := h.uncons
    simp only [List.all_cons, Bool.and_eq_true] at f
    obtain ⟨f1, e1⟩ := flat_dt h1 f.1
    obtain ⟨f2, e2⟩ := inF_V hk h2 f.2
    refine ⟨by simp [f1, f2], ?_⟩
    unfold inV at e2 ⊢
    rw [List.any_cons, List.any_cons, eqF_V e1 hk, e2]
def inS (neg : Bool) : Fv := p2 fun y x => (seqD x).bind fun bk => (asD y).bind fun k => if flatD k && bk.2.all flatD then some (.fz (.bl (if neg then !bk.2.any (fun z => eqF z k) else bk.2.any (fun z => eqF z k)))) else none
theorem dop_inS {neg : Bool} : Dop s E (r2 (rIn s.K neg)) (inS neg) := dop_p2 fun c hc G H th rh ta si y x u v l Q h0 e q => by
  subst hc
  cases e1 : seqD x with
  | none => rw [e1] at e; cases e
  | some bk =>
    obtain ⟨b, ds⟩ := bk
    cases e2 : asD y with
    | none => rw [e1, e2] at e; cases e
    | some k =>
      rw [e1, e2] at e
      simp only [Option.bind_some] at e
      obtain rfl := asD_some e2
      by_cases hf : (flatD k && ds.all flatD) = true
      · rw [if_pos hf] at e
        cases e
        simp only [Bool.and_eq_true] at hf
        obtain ⟨f1, ek⟩ := flat_dt h0.vw.fz hf.1
        obtain ⟨a, ws, rfl, h1, h2, dt⟩ := h0.pop.vw.seqD h0.gh e1
        obtain ⟨f2, e3⟩ := inF_V ek dt hf.2
        refine ⟨a, ws, rfl, ?_, f1, f2, ?_⟩
        · cases b with
          | true => exact .inl (h1 rfl)
          | false => exact .inr (h2 rfl)
        · rw [e3]
          exact q _ G H (h0.push (.bl .nil))
      · rw [if_neg hf] at e; cases e
def rInDct (neg : Bool) : R2 := fun y x H Q => ∃ a o, x = .ref a ∧ DGet H a y o ∧ Q (.bl (if neg then !o.isSome else o.isSome)) H
theorem op_inDct {X : Cx} (hu : X.A.units + 1 < cLine) : OpR X (compareOp .In) (rInDct false) := by
  intro pins s σ H x y v u Q I rx ry h
  obtain ⟨a, o, rfl, g, q⟩ := h
  cases ry
  exact d_in hu I g rx fun s' I' => ⟨.bl o.isSome, H, I', rfl, q⟩
theorem op_notinDct {X : Cx} (hu : X.A.units + 1 < cLine) : OpR X (compareOp .NotIn) (rInDct true) := by
  intro pins s σ H x y v u Q I rx ry h
  obtain ⟨a, o, rfl, g, q⟩ := h
  cases ry
  exact d_notIn hu I g rx fun s' I' => ⟨.bl (!o.isSome), H, I', rfl, q⟩
def inD (neg : Bool) : Fv := p2 fun y x => (dctL x).bind fun tk => (asD y).bind fun k => if keyOk tk.1 k then some (.fz (.bl (if neg then !(getL tk.2 k).isSome else (getL tk.2 k).isSome))) else none
theorem dop_inD {neg : Bool} : Dop s E (r2 (rInDct neg)) (inD neg) := dop_p2 fun c hc G H th rh ta si y x u v l Q h0 e q => by
  subst hc
  cases e1 : dctL x with
  | none => rw [e1] at e; cases e
  | some tk =>
    obtain ⟨t, kvs⟩ := tk
    cases e2 : asD y with
    | none => rw [e1, e2] at e; cases e
    | some k =>
      rw [e1, e2] at e
      simp only [Option.bind_some] at e
      obtain rfl := asD_some e2
      by_cases hk : keyOk t k = true
      · rw [if_pos hk] at e
        cases e
        have dk := h0.vw.fz
        obtain ⟨a, rfl, h1⟩ := dget_of h0.gh h0.pop.vw e1 dk hk
        rcases h1 with ⟨g1, g2⟩ | ⟨x', w, g1, g2, g3⟩
        · rw [g1] at q
          exact ⟨a, none, rfl, g2, q _ G H (h0.push (.bl .nil))⟩
        · rw [g1] at q
          exact ⟨a, some w, rfl, g2, q _ G H (h0.push (.bl .nil))⟩
      · rw [if_neg hk] at e; cases e
def sign1 (z : Str) : Option Nat := match z.cps.toList with
  | [c] => some c
  | _ => none
theorem sign1_some {z : Str} {c : Nat} (h : sign1 z = some c) : z = ⟨#[c]⟩ := by
  obtain ⟨⟨l⟩⟩ := z
  match l, h with
  | [c'], h => cases h; rfl
  | [], h => cases h
  | _ :: _ :: _, h => cases h
def rInSg (neg : Bool) : R2 := fun x y H Q => ∃ (c : Nat) (z : Str), x = .str ⟨#[c]⟩ ∧ y = .str z ∧ Q (.bl (if neg then !decide (c ∈ z.cps.toList) else decide (c ∈ z.cps.toList))) H
def inG (neg : Bool) : Fv := p2 fun x y => (asS x).bind fun a => (sign1 a).bind fun c => (asS y).map fun z => .fz (.bl (if neg then !decide (c ∈ z.cps.toList) else decide (c ∈ z.cps.toList)))
theorem dop_inG {neg : Bool} : Dop s E (r2 (rInSg neg)) (inG neg) := dop_p2 fun c hc G H th rh ta si x y v u l Q h0 e q => by
  cases e1 : asS x with
  | none => rw [e1] at e; cases e
  | some a =>
    cases e3 : sign1 a with
    | none => rw [e1] at e; simp [e3] at e
    | some cc =>
      cases e2 : asS y with
      | none => rw [e1, e2] at e; simp at e
      | some z =>
        rw [e1, e2] at e
        simp only [Option.bind_some, e3, Option.map_some] at e
        cases e
        obtain rfl := asS_some e1
        obtain rfl := asS_some e2
        obtain rfl := sign1_some e3
        exact ⟨cc, z, h0.vw.str, h0.pop.vw.str, q _ G H (h0.push (.bl .nil))⟩
def rInN (neg : Bool) : R2 := fun y x H Q => ∃ a kvs, x = .ref a ∧ y = .non ∧ Rd H a (.dK kvs) ∧ Q (.bl neg) H
theorem op_inN {X : Cx} : OpR X (compareOp .In) (rInN false) := by
  intro pins s σ H x y v u Q I rx ry h
  obtain ⟨a, kvs, rfl, rfl, g, q⟩ := h
  cases ry
  cases rx
  exact d_inNone I g fun s' I' => ⟨.bl false, H, I', rfl, q⟩
theorem op_notinN {X : Cx} : OpR X (compareOp .NotIn) (rInN true) := by
  intro pins s σ H x y v u Q I rx ry h
  obtain ⟨a, kvs, rfl, rfl, g, q⟩ := h
  cases ry
  cases rx
  exact d_notInNone I g fun s' I' => ⟨.bl true, H, I', rfl, q⟩
def inN (neg : Bool) : Fv := p2 fun y x => (dctL x).bind fun tk => if !tk.1 && isN y then some (.fz (.bl neg)) else none
theorem dop_inN {neg : Bool} : Dop s E (r2 (rInN neg)) (inN neg) := dop_p2 fun c hc G H th rh ta si y x u v l Q h0 e q => by
  subst hc
  cases e1 : dctL x with
  | none => rw [e1] at e; cases e
  | some tk =>
    obtain ⟨t, kvs⟩ := tk
    rw [e1] at e
    simp only [Option.bind_some] at e
    by_cases hk : (!t && isN y) = true
    · rw [if_pos hk] at e
      cases e
      simp only [Bool.and_eq_true, Bool.not_eq_true'] at hk
      obtain rfl := isN_true hk.2
      obtain ⟨a, rfl, h1, _⟩ := h0.pop.vw.dct h0.gh e1
      obtain ⟨ws, f, rd, _⟩ := h1 hk.1
      exact ⟨a, ws, rfl, dt_non h0.vw.fz, rd, q _ G H (h0.push (.bl .nil))⟩
    · rw [if_neg hk] at e; cases e
/-- among lists of data at any depth -/
def rInL (K : PySem.W.Frag) (neg : Bool) : R2 := fun x y H Q => ∃ d ds, Dp K H x d ∧ Dp K H y (.list ds) ∧ SeqAt.shaped d = true ∧ SeqAt.shaped (.list ds) = true ∧ Q (.bl (if neg then !ds.any fun z => PyData.eqv z d else ds.any fun z => PyData.eqv z d)) H
def pyL : PyData → Option (List PyData)
  | .list ds => some ds
  | _ => none
theorem pyL_some {x : PyData} {ds : List PyData} (h : pyL x = some ds) : x = .list ds := by
  cases x <;> cases h; rfl
def inL (neg : Bool) : Fv := p2 fun x y => (shp x).bind fun a => (shp y).bind fun b => (pyL b).map fun ds => .fz (.bl (if neg then !ds.any fun z => PyData.eqv z a else ds.any fun z => PyData.eqv z a))
theorem dop_inL {neg : Bool} : Dop s E (r2 (rInL s.K neg)) (inL neg) := dop_p2 fun c hc G H th rh ta si x y v u l Q h0 e q => by
  subst hc
  cases e1 : shp x with
  | none => rw [e1] at e; cases e
  | some a =>
    cases e2 : shp y with
    | none => rw [e1, e2] at e; cases e
    | some b =>
      rw [e1, e2] at e
      simp only [Option.bind_some, Option.map_eq_some_iff] at e
      obtain ⟨ds, e3, rfl⟩ := e
      obtain rfl := pyL_some e3
      obtain ⟨d1, s1⟩ := h0.vw.shp h0.gh e1
      obtain ⟨d2, s2⟩ := h0.pop.vw.shp h0.gh e2
      exact ⟨a, ds, d1, d2, s1, s2, q _ G H (h0.push (.bl .nil))⟩
def rInAll (K : PySem.W.Frag) (neg : Bool) : R2 := fun x y H Q => rIn K neg x y H Q ∨ rInDct neg x y H Q ∨ rInSg neg x y H Q ∨ rInN neg x y H Q ∨ rInL K neg x y H Q
theorem op_inAll {X : Cx} (hu : X.A.units + 65 < cLine) : OpR X (compareOp .In) (rInAll X.K false) := op_in_seq.or ((op_inDct (by omega)).or (op_in_sign.or (op_inN.or (op_inD hu))))
theorem op_notinAll {X : Cx} (hu : X.A.units + 65 < cLine) : OpR X (compareOp .NotIn) (rInAll X.K true) := op_notIn_seq.or ((op_notinDct (by omega)).or (op_notIn_sign.or (op_notinN.or (op_notInD hu))))
def oIn (neg : Bool) : Fv := alt (inS neg) (alt (inD neg) (alt (inG neg) (alt (inN neg) (inL neg))))
theorem dop_in {neg : Bool} : Dop s E (r2 (rInAll s.K neg)) (oIn neg) :=
  Dop.alt (r' := r2 fun x y H Q => rInDct neg x y H Q ∨ rInSg neg x y H Q ∨ rInN neg x y H Q ∨ rInL s.K neg x y H Q) dop_inS
    (Dop.alt (r' := r2 fun x y H Q => rInSg neg x y H Q ∨ rInN neg x y H Q ∨ rInL s.K neg x y H Q) dop_inD
      (Dop.alt (r' := r2 fun x y H Q => rInN neg x y H Q ∨ rInL s.K neg x y H Q) dop_inG
        (Dop.alt dop_inN dop_inL (fun _ _ _ h => r2_inl h) (fun _ _ _ h => r2_inr h)) (fun _ _ _ h => r2_inl h) (fun _ _ _ h => r2_inr h)) (fun _ _ _ h => r2_inl h) (fun _ _ _ h => r2_inr h)) (fun _ _ _ h => r2_inl h) (fun _ _ _ h => r2_inr h)

/-! ### displays -/
def oTup : Fv := fun ls => if ls.length ≤ sizeLine then .ok (.fz (.tup (ls.map L.toD)), ls.map fun l => .fz l.toD) else .stuck
theorem dop_tup : Dop s E (fun xs H1 Q => xs.length ≤ sizeLine ∧ ∀ p, H1 p = none → Q (.ref p) (upd H1 p (.tup xs))) oTup := fun c hc G H th rh ta si ls vs Q h0 e q => by
  unfold oTup at q
  by_cases hz : ls.length ≤ sizeLine
  · rw [if_pos hz] at q
    refine ⟨by omega, fun p np => ?_⟩
    obtain ⟨G1, sg, dt, h1⟩ := h0.freezes e
    have h2 := h1.pushD dt
    obtain ⟨G2, h3⟩ := h2.newTup dt np
    exact q _ G2 _ (by simpa [List.map_map, Function.comp_def] using h3)
  · rw [if_neg hz] at q; exact q.elim
def oLst : Fv := fun ls => if ls.length ≤ sizeLine then .ok (.lst (ls.map fun l => .fz l.toD), ls.map fun l => .fz l.toD) else .stuck
theorem dop_lst : Dop s E (fun xs H1 Q => xs.length ≤ sizeLine ∧ ∀ p, H1 p = none → Q (.ref p) (upd H1 p (.lst xs))) oLst := fun c hc G H th rh ta si ls vs Q h0 e q => by
  unfold oLst at q
  by_cases hz : ls.length ≤ sizeLine
  · rw [if_pos hz] at q
    refine ⟨by omega, fun p np => ?_⟩
    obtain ⟨G1, sg, dt, h1⟩ := h0.freezes e
    have h2 := h1.pushD dt
    have h3 := h2.newLst dt np
    exact q _ G1 _ (by simpa [List.map_map, Function.comp_def] using h3)
  · rw [if_neg hz] at q; exact q.elim

/-! ### slices -/
def Do (s : Cs) (W : WX) (t : TO) (f : Rho → Out Rho (Option Int × Rho)) : Prop :=
  ∀ (c : Cn), c.toCs = s → ∀ (G H : Hp) (th rh : Rho) (ta : List (Option V)) (si : L2.St) (Q : Option Int → Hp → Prop), S0 c G H th rh ta si →
    (match f rh with
      | .ok (o, r) => ∀ G' H', S0 c G' H' th r ta si → Q o H'
      | .exc x r => ∀ cls od G' H', S0 c G' H' th r ta si → XR s x cls od H' → W cls od si H'
      | .stuck => False) → t si H Q
structure Eo (X : Cx) (s : Cs) (W : WX) (e : Option Expr) (t : TO) (f : Rho → Out Rho (Option Int × Rho)) : Prop where
  po : PO X e t
  d : Do s W t f
def oNo : Rho → Out Rho (Option Int × Rho) := fun r => .ok (none, r)
def oSo (f : Ev) : Rho → Out Rho (Option Int × Rho) := fun r => (f r).bind fun (l, r1) => match asI l with
  | some i => .ok (some i, r1)
  | none => .stuck
variable {X : Cx}
theorem eo_no : Eo X s W none tNoPart oNo := ⟨po_none, fun c hc G H th rh ta si Q h q => q G H h⟩
theorem eo_so {e : Expr} {t f} (h : Ed X s W e t f) : Eo X s W (some e) (tPart t) (oSo f) := ⟨po_some h.pe, fun c hc G H th rh ta si Q h0 q => by
  refine h.de c hc G H th rh ta si _ h0 ?_
  unfold oSo at q
  cases e : f rh with
  | stuck => rw [e] at q; exact q.elim
  | exc x r => rw [e] at q; exact q
  | ok lr =>
    obtain ⟨l, r⟩ := lr
    rw [e] at q
    simp only [Out.bind_ok] at q
    intro v G' H' h1
    cases eb : asI l with
    | none => rw [eb] at q; exact q.elim
    | some i =>
      rw [eb] at q
      obtain rfl := asI_some eb
      exact ⟨i, h1.vw.int, q G' H' h1.pop⟩⟩
def cutD (xs : List D) (lo hi : Option Int) : List D := (xs.drop (HT.sIx xs.length 0 lo)).take (HT.sIx xs.length xs.length hi - HT.sIx xs.length 0 lo)
def rSlAll (K : PySem.W.Frag) : V → Option Int → Option Int → Hp → VK → Prop := fun x lo hi H Q => rSlL K x lo hi H Q ∨ rSlA K x lo hi H Q ∨ rSlS x lo hi H Q
theorem sl_all : SlR X (rSlAll X.K) := sl_list.or (sl_tupA.or sl_str)
def oSl (x : L) (lo hi : Option Int) : Option L := match seqD x, asS x with
  | some (true, ds), _ => some (.lst ((cutD ds lo hi).map .fz))
  | some (false, ds), _ => (tupD x).map fun _ => .fz (.tup (cutD ds lo hi))
  | none, some z => if z.length ≤ sizeLine then some (.fz (.str (cutS z lo hi))) else none
  | _, _ => none
theorem cut_all {α : Type} {xs : List α} {a b : Nat} (h1 : a = 0) (h2 : b = xs.length) : (xs.drop a).take (b - a) = xs := by
  subst h1 h2
  simp
theorem dsl {c : Cn} {G H : Hp} {th rh : Rho} {ta si : List (Option V)} {x l : L} {v : V} {lo hi : Option Int} {Q : VK} (h0 : S0 c G H (some x :: th) rh (some v :: ta) si) (e : oSl x lo hi = some l)
    (q : ∀ w G' H', S0 c G' H' (some l :: some x :: th) rh (some w :: some v :: ta) si → Q w H') : rSlAll c.K v lo hi H Q := by
  unfold oSl at e
  cases e1 : seqD x with
  | none =>
    cases e2 : asS x with
    | none => rw [e1, e2] at e; cases e
    | some z =>
      rw [e1, e2] at e
      simp only at e
      by_cases hz : z.length ≤ sizeLine
      · rw [if_pos hz] at e
        cases e
        obtain rfl := asS_some e2
        exact .inr (.inr ⟨z, h0.vw.str, hz, q _ G H (h0.push (.str .nil))⟩)
      · rw [if_neg hz] at e; cases e
  | some bk =>
    obtain ⟨b, ds⟩ := bk
    rw [e1] at e
    cases b with
    | true =>
      cases e
      obtain ⟨a, ws, rfl, h1, _, dt⟩ := h0.vw.seqD h0.gh e1
      have dc : Dt c.K c.ct G (cutD ds lo hi) (cutV ws lo hi) := by
        unfold cutD cutV
        rw [dt.length]
        exact (dt.drop _).take _
      exact .inl ⟨a, ws, rfl, h1 rfl, fun p np => q _ G _ (h0.newLst dc np)⟩
    | false =>
      simp only [Option.map_eq_some_iff] at e
      obtain ⟨es, e2, rfl⟩ := e
      have ex : x = .fz (.tup es) := by
        unfold tupD at e2
        split at e2
        · cases e2; rfl
        · cases e2
      subst ex
      have e3 : ds = es := by simpa using e1.symm
      subst e3
      obtain ⟨a, ws, rfl, h1, h2, dt⟩ := h0.vw.tupD h0.gh e2
      have dc : Dt c.K c.ct G (cutD ds lo hi) (cutV ws lo hi) := by
        unfold cutD cutV
        rw [dt.length]
        exact (dt.drop _).take _
      refine .inr (.inl ⟨a, ws, rfl, h1, fun hw => ?_, fun hw p np => ?_⟩)
      · have ec : cutD ds lo hi = ds := by
          unfold cutD
          have hl := dt.length
          rw [hl]
          exact cut_all hw.1 (by rw [hw.2, hl])
        rw [ec] at q
        exact q _ G H (h0.push (.tup h2 dt .nil))
      · obtain ⟨G', h'⟩ := h0.newTup dc np
        exact q _ G' _ h'
/-- x[lo:hi], x a value -/
def eSlV (o : Ev) (lo hi : Rho → Out Rho (Option Int × Rho)) : Ev := fun r => (o r).bind fun (x, r1) => (lo r1).bind fun (a, r2) => (hi r2).bind fun (b, r3) => match oSl x a b with
  | some l => .ok (l, r3)
  | none => .stuck
/-- .. x a slot -/
def eSlP (i : Nat) (lo hi : Rho → Out Rho (Option Int × Rho)) : Ev := fun r => match r[i]? with
  | some (some _) => (lo r).bind fun (a, r2) => (hi r2).bind fun (b, r3) => (match r3[i]? with
    | some (some x) => (match oSl x a b with
      | some l => .ok (l, r3)
      | none => .stuck)
    | _ => .stuck)
  | _ => .stuck
theorem ed_slV {e : Expr} {lo hi : Option Expr} {p2 pos : Pos} {t tl th f fl fh} (hk : X.K = s.K) (h : Ed X s W e t f) (hl : Eo X s W lo tl fl) (hh : Eo X s W hi th fh) : Ed X s W (.Subscript e (.Slice lo hi none p2) pos) (tSl (rSlAll X.K) t tl th) (eSlV f fl fh) :=
  ⟨pe_slice sl_all h.pe hl.po hh.po, fun c hc G H th' rh ta si Q h0 q => by
    refine h.de c hc G H th' rh ta si _ h0 ?_
    unfold eSlV at q
    cases e1 : f rh with
    | stuck => rw [e1] at q; exact q.elim
    | exc x r => rw [e1] at q; exact q
    | ok lr =>
      obtain ⟨x, r1⟩ := lr
      rw [e1] at q
      simp only [Out.bind_ok] at q
      intro v G1 H1 h1
      refine hl.d c hc G1 H1 _ r1 _ si _ h1 ?_
      cases e2 : fl r1 with
      | stuck => rw [e2] at q; exact q.elim
      | exc x r => rw [e2] at q; exact fun cls od G' H' h => q cls od G' H' h.pop
      | ok ar =>
        obtain ⟨a, r2⟩ := ar
        rw [e2] at q
        simp only [Out.bind_ok] at q
        intro G2 H2 h2
        refine hh.d c hc G2 H2 _ r2 _ si _ h2 ?_
        cases e3 : fh r2 with
        | stuck => rw [e3] at q; exact q.elim
        | exc x r => rw [e3] at q; exact fun cls od G' H' h => q cls od G' H' h.pop
        | ok br =>
          obtain ⟨b, r3⟩ := br
          rw [e3] at q
          simp only [Out.bind_ok] at q
          intro G3 H3 h3
          cases e4 : oSl x a b with
          | none => rw [e4] at q; exact q.elim
          | some l =>
            rw [e4] at q
            have hk' : X.K = c.K := by rw [hk, ← hc]
            rw [hk']
            exact dsl h3 e4 fun w G' H' h' => q w G' H' h'.swap.pop⟩
theorem ed_slP {e : Expr} {i : Nat} {lo hi : Option Expr} {p2 pos : Pos} {tl th fl fh} (hk : X.K = s.K) (h : PE X e (tVar i)) (hl : Eo X s W lo tl fl) (hh : Eo X s W hi th fh) : Ed X s W (.Subscript e (.Slice lo hi none p2) pos) (tSl (rSlAll X.K) (tVar i) tl th) (eSlP i fl fh) :=
  ⟨pe_slice sl_all h hl.po hh.po, fun c hc G H th' rh ta si Q h0 q => by
    unfold eSlP at q
    cases e0 : rh[i]? with
    | none => rw [e0] at q; exact q.elim
    | some o =>
      cases o with
      | none => rw [e0] at q; exact q.elim
      | some l0 =>
        rw [e0] at q
        simp only at q
        obtain ⟨v, ev, _⟩ := h0.take e0
        refine ⟨v, ev, hl.d c hc G H _ rh _ si _ h0 ?_⟩
        cases e2 : fl rh with
        | stuck => rw [e2] at q; exact q.elim
        | exc x r => rw [e2] at q; exact q
        | ok ar =>
          obtain ⟨a, r2⟩ := ar
          rw [e2] at q
          simp only [Out.bind_ok] at q
          intro G2 H2 h2
          refine hh.d c hc G2 H2 _ r2 _ si _ h2 ?_
          cases e3 : fh r2 with
          | stuck => rw [e3] at q; exact q.elim
          | exc x r => rw [e3] at q; exact q
          | ok br =>
            obtain ⟨b, r3⟩ := br
            rw [e3] at q
            simp only [Out.bind_ok] at q
            intro G3 H3 h3
            cases e5 : r3[i]? with
            | none => rw [e5] at q; exact q.elim
            | some o =>
              cases o with
              | none => rw [e5] at q; exact q.elim
              | some x =>
                rw [e5] at q
                simp only at q
                obtain ⟨v', ev', h4⟩ := h3.take e5
                rw [ev] at ev'
                cases ev'
                cases e4 : oSl x a b with
                | none => rw [e4] at q; exact q.elim
                | some l =>
                  rw [e4] at q
                  have hk' : X.K = c.K := by rw [hk, ← hc]
                  rw [hk']
                  refine dsl h4 e4 fun w G' H' h' => q w G' H' ?_
                  have hi : i < r3.length := (List.getElem?_eq_some_iff.mp e5).1
                  have h6 := h'.swap.back (i := i) (by simpa using hi) ev
                  rw [List.set_set] at h6
                  rwa [show r3.set i (some x) = r3 from by
                    apply List.ext_getElem?
                    intro j
                    by_cases ij : i = j
                    · subst ij
                      rw [List.getElem?_set_self hi, e5]
                    · rw [List.getElem?_set_ne ij]] at h6⟩
end
end Dl
namespace PySem
open Sem (wp)
section
variable {prog : Program} {w : World} {A : Around} {E : Value → Shared → Prop} {s : Shared}
/-- S extended by a reversed list's iterator -/
theorem dl_extend_rev {R : Result → Shared → Prop} {it l : Addr} {items : Array Value} (hh : A.handled = none) (hit : s.heap.IsRevIter it l ((items.size : Int) - 1)) (hl : s.heap.IsList l items) (hne : l ≠ it) (hn : items.size ≤ sizeLine) (S : Addr) (res : Value) (c₀ : Nat)
    (hSi : S ≠ it) (hSl : S ≠ l) (hS : s.heap.get? S = some { cls := .type "list", data := .seq #[] c₀ })
    (hR : ∀ h' tk acc' c', (∀ b o, b ≠ S → b ≠ it → s.heap.get? b = some o → h'.get? b = some o) → h'.get? S = some { cls := .type "list", dict := none, data := .seq acc' c', slots := #[] } →
      ItemsOf (fun i v => items[items.size - 1 - i]? = some v) acc' items.size → R (.ok (.ret res)) { s with heap := h', toks := tk }) :
    wpAny (model prog w) A.in1 (Builtin.List.listExtendWith (.ref S) (.ref it) res)
      (fun fin s' => match fin with | .done f => R (.ok f) s' | .again c' => c'.quiet = true ∧ codeAny (model prog w) A c' R s') (fun e s' => R (.error e) s') s := by
  have W := (Walks.listRev (prog := prog) (w := w) (A := A.in1) hh it l hne items).toS
  have hSf : S ∉ [it, l] := by simp only [List.mem_cons, List.not_mem_nil, or_false, not_or]; exact ⟨hSi, hSl⟩
  have hT : s.TypeIs (.ref it) "list_reverseiterator" := hit.typeIs
  have h1 : Builtin.List.listSameRef (.ref S) (.ref it) = false := by simp [Builtin.List.listSameRef, hSi]
  unfold Builtin.List.listExtendWith
  refine wpAny_bind (wpAny_typeOf hT ?_)
  rw [if_neg (by rw [h1]; decide)]
  refine wpAny_bind (wpAny_pyIter_revIter hit ?_)
  refine wpAny_bind (wpAny_holding ?_)
  unfold Builtin.List.listLengthHint
  refine wpAny_bind (wpAny_specialOf hT RT.nolen_lri ?_)
  show wpAny _ A.in1 (specialOf (Value.ref it) (Str.ofString "__length_hint__") >>= _) _ _ _
  refine wpAny_bind (wpAny_specialOf hT RT.hint_lri ?_)
  generalize hid : ("list_reverseiterator.__length_hint__" : String) = id0
  wp_delta
  rw [show splitId id0 = some ("list_reverseiterator", "__length_hint__") from by subst hid; decide +kernel]
  subst hid
  refine wpAny_bind (wpAny_isInstance (b := true) hT (by rw [isSubtype_type]; kernel_rfl) ?_)
  refine wpAny_pure ?_
  rw [if_neg (by decide)]
  have e0 : ((items.size : Nat) : Int) - 1 - ((0 : Nat) : Int) = (items.size : Int) - 1 := by omega
  refine wpAny_pure ⟨plainId_quiet F.plain_extend_loop _, codeAny_extend_loopS W hn _ hSf _ items.size 0 _ _ _ rfl (Nat.zero_le _) ⟨Nat.zero_le _, by rw [e0]; exact hit, hl⟩ hS (ItemsOf.nil _) fun s' acc' c' hm hS' hacc => ?_⟩
  rw [Moved.eq_with hm]
  refine hR s'.heap s'.toks acc' c' (fun b o hb hb2 e => hm.heap b o (fun hmem => ?_) e) hS' hacc
  rcases List.mem_cons.mp hmem with e' | hmem
  · exact hb e'
  · exact hb2 (List.mem_singleton.mp hmem)
theorem dl_list_init_rev {R : Result → Shared → Prop} {it l : Addr} {items : Array Value} (hh : A.handled = none) (hit : s.heap.IsRevIter it l ((items.size : Int) - 1)) (hl : s.heap.IsList l items) (hne : l ≠ it) (hn : items.size ≤ sizeLine) (S : Addr)
    (hSi : S ≠ it) (hSl : S ≠ l) (hS : s.heap.get? S = some { cls := .type "list", data := .seq #[] })
    (hR : ∀ h' tk acc' c', (∀ b o, b ≠ S → b ≠ it → s.heap.get? b = some o → h'.get? b = some o) → h'.get? S = some { cls := .type "list", dict := none, data := .seq acc' c', slots := #[] } →
      ItemsOf (fun i v => items[items.size - 1 - i]? = some v) acc' items.size → R (.ok (.ret .none)) { s with heap := h', toks := tk }) :
    wpAny (model prog w) A.in1 (Builtin.«list.__init__» ⟨[.ref S, .ref it], []⟩)
      (fun fin s' => match fin with | .done f => R (.ok f) s' | .again c' => c'.quiet = true ∧ codeAny (model prog w) A c' R s') (fun e s' => R (.error e) s') s := by
  show wpAny _ _ (do let old ← Builtin.List.listItems (.ref S); Builtin.List.listUpdate (.ref S) (fun _ => #[]); letGo old.toList.reverse; Builtin.List.listExtendWith (.ref S) (.ref it) .none) _ _ s
  refine wpAny_bind ?_
  unfold Builtin.List.listItems
  refine wpAny_bind (wpAny_seqItems hS rfl (wpAny_pure ?_))
  show wpAny _ _ (updateSeq S (fun _ => #[]) >>= fun _ => letGo (#[] : Array Value).toList.reverse >>= fun _ => Builtin.List.listExtendWith (.ref S) (.ref it) .none) _ _ s
  refine wpAny_bind (wpAny_updateSeq hS rfl ?_)
  have hS₂ := Heap.get?_update_self (Obj.mapSeq (fun _ => (#[] : Array Value))) hS rfl
  have oth : ∀ b o, b ≠ S → s.heap.get? b = some o → (s.heap.update S (Obj.mapSeq (fun _ => (#[] : Array Value)))).get? b = some o :=
    fun b o hb e => (Heap.get?_update_other _ _ (Ne.symm hb)).trans e
  refine wpAny_bind (wpAny_letGo ?_)
  refine dl_extend_rev hh (hit.at fun o e => oth it o (Ne.symm hSi) e) (hl.at fun o e => oth l o (Ne.symm hSl) e) hne hn S .none _ hSi hSl hS₂ fun h' tk acc' c' hk hS' hacc => ?_
  exact hR h' tk acc' c' (fun b o hb hb2 e => hk b o hb hb2 (oth b o hb e)) hS' hacc
theorem dl_call_list_rev {Q : Value → Shared → Prop} {it l : Addr} {items : Array Value} (hh : A.handled = none) (hit : s.heap.IsRevIter it l ((items.size : Int) - 1)) (hl : s.heap.IsList l items) (hne : l ≠ it) (hn : items.size ≤ sizeLine)
    (hQ : ∀ h' tk acc' c', (∀ b o, b ≠ it → s.heap.get? b = some o → h'.get? b = some o) →
      h'.get? s.heap.objs.size = some { cls := .type "list", dict := none, data := .seq acc' c', slots := #[] } → ItemsOf (fun i v => items[items.size - 1 - i]? = some v) acc' items.size → Q (.ref s.heap.objs.size) { s with heap := h', toks := tk }) :
    wpAny (model prog w) A (call (.type "list") [.ref it]) Q E s := by
  refine callType_codes (Q₁ := fun obj s₁ => obj = .ref s.heap.objs.size ∧ s₁ = { s with heap := s.heap.push { cls := .type "list", data := .seq #[] } }) F.called_list (F.typeCall_list_1 _) F.entry_list_init
    (code_list_new _ ⟨rfl, rfl⟩) fun obj s₁ h₁ => ?_
  obtain ⟨rfl, rfl⟩ := h₁
  have hS : (s.heap.push { cls := .type "list", data := .seq #[] }).get? s.heap.objs.size = some { cls := .type "list", data := .seq #[] } := Heap.get?_push_size _ rfl
  obtain ⟨oi, hoi, _⟩ := id hit
  obtain ⟨ol, hol, _⟩ := id hl
  refine ⟨⟨_, hS, rfl⟩, F.args_list_init_2 _ _, dl_list_init_rev (A := A.in1) hh (hit.at fun o e => Heap.get?_push_of_some _ e) (hl.push _) hne hn _ (Nat.ne_of_gt (Heap.lt_size hoi)) (Nat.ne_of_gt (Heap.lt_size hol)) hS fun h' tk acc' c' hk hS' hacc => ?_⟩
  exact ⟨rfl, hQ h' tk acc' c' (fun b o hb e => hk b o (Nat.ne_of_lt (Heap.lt_size e)) hb (Heap.get?_push_of_some _ e)) hS' hacc⟩
end
end PySem
namespace L2
open PySem PySem.Spec PyProof.Rows
def tLstRev (K : PySem.W.Frag) (te : TE) : TE := fun σ H Q => te σ H fun v H1 => ∃ (a : Addr) (xs : List V), v = .ref a ∧ SqL K H1 a xs ∧ ∀ q, H1 q = none → Q (.ref q) (upd H1 q (.lst xs.reverse))
theorem pe_lstRev {X : Cx} {e : Expr} {te : TE} {p p2 pos pos2 : Pos} (hc : X.calm = true) (hg : Gl X "list") (hm : X.mg "list" = none) (hg2 : Gl X "reversed") (hm2 : X.mg "reversed" = none) (he : PE X e te)
    (hs : starEach [e] X.env = (false, eval e X.env) :: starEach [] X.env := by rfl)
    (hs2 : starEach [.Call (.Name "reversed" p2) [e] [] pos2] X.env = (false, eval (.Call (.Name "reversed" p2) [e] [] pos2) X.env) :: starEach [] X.env := by rfl) :
    PE X (.Call (.Name "list" p) [.Call (.Name "reversed" p2) [e] [] pos2] [] pos) (tLstRev X.K te) := by
  refine ⟨fun pins s σ H Q I h => ?_⟩
  refine Call_ (ld_blt I hg hm boot_list (PyProof.Rows.callWith_type1 (args_cons (Call_ (ld_blt I hg2 hm2 PyProof.Rows.boot_reversed (PyProof.Rows.callWith_type1 (args_cons (thn (he.run pins s σ H _ I h) fun u s1 ⟨v, H1, I1, r1, q1⟩ => args_nil ?_) hs) hs rfl))) hs2) hs2 rfl))
  obtain ⟨a, xs, ev, hq, q⟩ := q1
  subst ev
  obtain rfl : u = Value.ref a := r1
  obtain ⟨its, rv, p', hz⟩ := I1.list hq
  refine call_reversed_list p'.isList (args_nil ?_)
  have k0 : ∀ b o, s1.heap.get? b = some o → (s1.heap.push (revObj a ((its.toArray.size : Int) - 1))).get? b = some o := fun b o e => Heap.get?_push_of_some _ e
  have I2 : Inv X pins σ H1 { s1 with heap := s1.heap.push (revObj a ((its.toArray.size : Int) - 1)) } := I1.kept (t' := s1.toks) k0
  obtain ⟨f0, f1, f2, f3, f4, f5⟩ := I1.fpOk (H' := H1) (b := s1.heap.objs.size) (Nat.le_refl _) (I1.hok.fresh (Nat.le_refl _))
  have hl := p'.isList
  obtain ⟨ol, hol, _⟩ := id hl
  have hne : a ≠ s1.heap.objs.size := Nat.ne_of_lt (Heap.lt_size hol)
  have hn : its.toArray.size ≤ sizeLine := by rw [List.size_toArray, ← rv.length]; exact hz
  refine dl_call_list_rev (s := { s1 with heap := s1.heap.push (revObj a ((its.toArray.size : Int) - 1)) }) (I1.ok.hd hc) ⟨_, Heap.get?_push_size _ rfl, rfl, rfl⟩ (hl.push _) hne hn fun h' tk acc c5 hk e' hi => ?_
  have hsz : (s1.heap.push (revObj a ((its.toArray.size : Int) - 1))).objs.size = s1.heap.objs.size + 1 := Heap.size_push _ _
  have hT : s1.heap.objs.size ≤ (s1.heap.push (revObj a ((its.toArray.size : Int) - 1))).objs.size := by rw [hsz]; exact Nat.le_succ _
  have e2 : h'.get? (s1.heap.push (revObj a ((its.toArray.size : Int) - 1))).objs.size = some { cls := .type "list", data := .seq acc c5 } := e'
  have I3 : Inv X pins σ (upd H1 (s1.heap.push (revObj a ((its.toArray.size : Int) - 1))).objs.size (.lst xs.reverse)) { s1 with heap := h', toks := tk } :=
    I2.turnedNew (t' := tk) (ch := [s1.heap.objs.size]) (fun b o hb e => hk b o (by simpa using hb) e) (fun b hb => by obtain rfl := List.mem_singleton.mp hb; exact ⟨f0, f1, f2, f3, f4, f5⟩) (Nat.le_refl _)
      (show ObjOk X.prog X.w _ _ _ (.lst xs.reverse) from ⟨by rw [List.length_reverse]; exact hz, acc.toList, c5, RT.vals_rev rv hi, by rw [Array.toArray_toList]; exact e2⟩)
  exact ⟨.ref (s1.heap.push (revObj a ((its.toArray.size : Int) - 1))).objs.size, _, I3, rfl, q _ (I1.hok.fresh hT)⟩
end L2
namespace Dl
open PySem L2

/-! ### lists of one kind -/
def intsD : List D → Option (List Int)
  | [] => some []
  | .int i :: ds => (intsD ds).map (i :: ·)
  | _ :: _ => none
def strsD : List D → Option (List Str)
  | [] => some []
  | .str i :: ds => (strsD ds).map (i :: ·)
  | _ :: _ => none
def blsD : List D → Option (List Bool)
  | [] => some []
  | .bl i :: ds => (blsD ds).map (i :: ·)
  | _ :: _ => none
@[simp] theorem intsD_map (ns : List Int) : intsD (ns.map D.int) = some ns := by
  induction ns with
  | nil => rfl
  | cons n ns ih => simp [intsD, ih]
@[simp] theorem strsD_map (ns : List Str) : strsD (ns.map D.str) = some ns := by
  induction ns with
  | nil => rfl
  | cons n ns ih => simp [strsD, ih]
@[simp] theorem blsD_map (ns : List Bool) : blsD (ns.map D.bl) = some ns := by
  induction ns with
  | nil => rfl
  | cons n ns ih => simp [blsD, ih]
section
variable {K : PySem.W.Frag} {ct : Str → Option Addr} {G : Hp}
theorem Dt.intsV : ∀ {ds : List D} {ws : List V} {ns : List Int}, intsD ds = some ns → Dt K ct G ds ws → ws = ns.map V.int
  | [], ws, ns, e, h => by cases e; cases h; rfl
  | .int i :: ds, ws, ns, e, h => by
    simp only [intsD, Option.map_eq_some_iff] at e
    obtain ⟨ms, e, rfl⟩ := e
    cases h with
    | int h => rw [Dt.intsV e h]; rfl
theorem Dt.strsV : ∀ {ds : List D} {ws : List V} {ns : List Str}, strsD ds = some ns → Dt K ct G ds ws → ws = ns.map V.str
  | [], ws, ns, e, h => by cases e; cases h; rfl
  | .str i :: ds, ws, ns, e, h => by
    simp only [strsD, Option.map_eq_some_iff] at e
    obtain ⟨ms, e, rfl⟩ := e
    cases h with
    | str h => rw [Dt.strsV e h]; rfl
theorem Dt.blsV : ∀ {ds : List D} {ws : List V} {ns : List Bool}, blsD ds = some ns → Dt K ct G ds ws → ws = ns.map V.bl
  | [], ws, ns, e, h => by cases e; cases h; rfl
  | .bl i :: ds, ws, ns, e, h => by
    simp only [blsD, Option.map_eq_some_iff] at e
    obtain ⟨ms, e, rfl⟩ := e
    cases h with
    | bl h => rw [Dt.blsV e h]; rfl
theorem Dt.strsD : ∀ (xs : List Str), Dt K ct G (xs.map D.str) (xs.map V.str)
  | [] => .nil
  | x :: xs => .str (Dt.strsD xs)
end
/-- a list (not a tuple) of still things -/
def lsq (l : L) : Option (List D) := (seqD l).bind fun p => if p.1 then some p.2 else none
def tsq (l : L) : Option (List D) := (seqD l).bind fun p => if p.1 then none else some p.2
theorem Vw.lsq {s : Cs} {G H : Hp} {l : L} {v : V} {ds : List D} (gh : Same G H) (h : Vw s G H l v) (e : Dl.lsq l = some ds) : ∃ a ws, v = .ref a ∧ SqL s.K H a ws ∧ Dt s.K s.ct G ds ws := by
  unfold Dl.lsq at e
  cases e1 : Dl.seqD l with
  | none => rw [e1] at e; cases e
  | some p =>
    obtain ⟨b, es⟩ := p
    rw [e1] at e
    cases b with
    | false => cases e
    | true =>
      cases e
      obtain ⟨a, ws, ev, h1, _, dt⟩ := h.seqD gh e1
      exact ⟨a, ws, ev, h1 rfl, dt⟩
theorem Vw.tsq {s : Cs} {G H : Hp} {l : L} {v : V} {ds : List D} (gh : Same G H) (h : Vw s G H l v) (e : Dl.tsq l = some ds) : ∃ a ws, v = .ref a ∧ SqT s.K H a ws ∧ Dt s.K s.ct G ds ws := by
  unfold Dl.tsq at e
  cases e1 : Dl.seqD l with
  | none => rw [e1] at e; cases e
  | some p =>
    obtain ⟨b, es⟩ := p
    rw [e1] at e
    cases b with
    | true => cases e
    | false =>
      cases e
      obtain ⟨a, ws, ev, _, h1, dt⟩ := h.seqD gh e1
      exact ⟨a, ws, ev, h1 rfl, dt⟩

/-! ### calls of the built-ins -/
section
variable {s : Cs} {E : XK} {X : Cx}
/-- how many -/
def lenN (l : L) : Option Nat := match l.seq with
  | some (_, ks) => some ks.length
  | none => match l with
    | .fz (.str z) => if z.length ≤ sizeLine then some z.length else none
    | .dct _ kvs => some kvs.length
    | _ => none
def rLen (K : PySem.W.Frag) : List V → Hp → VK → Prop := fun xs H Q => (∃ x n, xs = [x] ∧ LenV K x H n ∧ Q (.int n) H) ∨ (∃ a kvs, xs = [V.ref a] ∧ H a = some (.dK kvs) ∧ Q (.int kvs.length) H) ∨ rLenT xs H Q
theorem cl_len : CallR X (.builtin "len") (rLen X.K) := call_len.or (call_lenD.or call_len_dT)
def oLen : Fv := p1 fun x => (lenN x).map fun n => .fz (.int n)
theorem dop_len : Dop s E (rLen s.K) oLen := dop_p1 fun c hc G H th rh ta si x v l Q h0 e q => by
  subst hc
  cases e1 : lenN x with
  | none => rw [e1] at e; cases e
  | some n =>
    rw [e1] at e
    cases e
    have qq := q (.int n) G H (h0.push (.int .nil))
    unfold lenN at e1
    cases e2 : x.seq with
    | some bk =>
      obtain ⟨b, ks⟩ := bk
      rw [e2] at e1
      cases e1
      obtain ⟨a, ws, f, rfl, h1, h2, o⟩ := h0.vw.seq h0.gh e2
      have hl := o.length
      simp only [List.length_map] at hl
      rw [hl] at qq
      refine .inl ⟨_, _, rfl, ?_, qq⟩
      cases b with
      | true => exact .inl ⟨ws, h1 rfl, rfl⟩
      | false => exact .inr ⟨ws, h2 rfl, rfl⟩
    | none =>
      rw [e2] at e1
      cases x with
      | fz d =>
        cases d with
        | str z =>
          simp only at e1
          by_cases hz : z.length ≤ sizeLine
          · rw [if_pos hz] at e1
            cases e1
            have hv := h0.vw.str
            subst hv
            exact .inl ⟨_, _, rfl, ⟨hz, rfl⟩, qq⟩
          · rw [if_neg hz] at e1; cases e1
        | _ => cases e1
      | dct t kvs =>
        cases e1
        obtain ⟨f, o⟩ := h0.vw
        cases o with
        | @dK p kws ks f1 _ _ f2 hp ek o1 o2 =>
          have hl : kvs.length = kws.length := by simpa using congrArg List.length ek
          rw [hl] at qq
          exact .inr (.inl ⟨_, _, rfl, hp, qq⟩)
        | @dT p kws ks f1 _ _ f2 hp ek o1 o2 =>
          have hl : kvs.length = kws.length := by simpa using congrArg List.length ek
          rw [hl] at qq
          exact .inr (.inr ⟨_, _, rfl, hp, qq⟩)
      | _ => cases e1
/-- int of an int, of a truth -/
def oInt : Fv := p1 fun x => match x with
  | .fz (.int i) => some (.fz (.int i))
  | .fz (.bl b) => some (.fz (.int (if b then 1 else 0)))
  | _ => none
theorem dop_int1 : Dop s E (fun xs H Q => (∃ i, xs = [.int i] ∧ Q (.int i) H) ∨ ∃ k, xs = [.bl k] ∧ Q (.int (if k then 1 else 0)) H) oInt := dop_p1 fun c hc G H th rh ta si x v l Q h0 e q => by
  cases x with
  | fz d =>
    cases d with
    | int i => cases e; exact .inl ⟨i, by rw [h0.vw.int], q _ G H (h0.push (.int .nil))⟩
    | bl i => cases e; exact .inr ⟨i, by rw [h0.vw.bl], q _ G H (h0.push (.int .nil))⟩
    | _ => cases e
  | _ => cases e
/-- str of a number that is not too long, of a text -/
def oStr : Fv := p1 fun x => match x with
  | .fz (.int i) => if i.natAbs.log2 < 1920 then some (.fz (.str (toString i))) else none
  | .fz (.str z) => some (.fz (.str z))
  | _ => none
def rStr : List V → Hp → VK → Prop := fun xs H Q => (∃ i : Int, xs = [.int i] ∧ i.natAbs.log2 < 1920 ∧ Q (.str (toString i)) H) ∨ (∃ a, xs = [.str a] ∧ Q (.str a) H)
theorem cl_str : CallR X (.type "str") rStr := call_str_int.or SkE.call_str_str
theorem dop_str : Dop s E rStr oStr := dop_p1 fun c hc G H th rh ta si x v l Q h0 e q => by
  cases x with
  | fz d =>
    cases d with
    | int i =>
      simp only at e
      by_cases hz : i.natAbs.log2 < 1920
      · rw [if_pos hz] at e
        cases e
        exact .inl ⟨i, by rw [h0.vw.int], hz, q _ G H (h0.push (.str .nil))⟩
      · rw [if_neg hz] at e; cases e
    | str i => cases e; exact .inr ⟨i, by rw [h0.vw.str], q _ G H (h0.push (.str .nil))⟩
    | _ => cases e
  | _ => cases e
def oAbs : Fv := p1 fun x => (asI x).map fun i => .fz (.int (if i < 0 then -i else i))
theorem dop_abs : Dop s E (fun xs H Q => ∃ i, xs = [.int i] ∧ Q (.int (if i < 0 then -i else i)) H) oAbs := dop_p1 fun c hc G H th rh ta si x v l Q h0 e q => by
  cases e1 : asI x with
  | none => rw [e1] at e; cases e
  | some i =>
    rw [e1] at e
    cases e
    obtain rfl := asI_some e1
    exact ⟨i, by rw [h0.vw.int], q _ G H (h0.push (.int .nil))⟩
def oMax2 : Fv := i2 (fun _ _ => true) fun i j => .int (if j > i then j else i)
def oMin2 : Fv := i2 (fun _ _ => true) fun i j => .int (if j < i then j else i)
theorem dop_i2c {g : Int → Int → V} {g' : Int → Int → D} (hg : ∀ i j, (g' i j).v = some (g i j)) : Dop s E (fun xs H Q => ∃ i j, xs = [.int i, .int j] ∧ Q (g i j) H) (i2 (fun _ _ => true) g') :=
  (dop_i20 hg).imp fun vs H Q h => by
    match vs, h with
    | [x, y], h => obtain ⟨i, j, a, b, q⟩ := h; exact ⟨i, j, by rw [a, b], q⟩
theorem dop_max2 : Dop s E (fun xs H Q => ∃ i j, xs = [.int i, .int j] ∧ Q (.int (if j > i then j else i)) H) oMax2 := dop_i2c fun _ _ => rfl
theorem dop_min2 : Dop s E (fun xs H Q => ∃ i j, xs = [.int i, .int j] ∧ Q (.int (if j < i then j else i)) H) oMin2 := dop_i2c fun _ _ => rfl
/-- of a list of ints -/
def oMaxL : Fv := p1 fun x => (lsq x).bind fun ds => (intsD ds).bind fun ns => ns.max?.map fun m => .fz (.int m)
def oMinL : Fv := p1 fun x => (lsq x).bind fun ds => (intsD ds).bind fun ns => ns.min?.map fun m => .fz (.int m)
theorem dop_maxL : Dop s E (rMax s.K) oMaxL := dop_p1 fun c hc G H th rh ta si x v l Q h0 e q => by
  subst hc
  cases e1 : lsq x with
  | none => rw [e1] at e; cases e
  | some ds =>
    cases e2 : intsD ds with
    | none => rw [e1] at e; simp [e2] at e
    | some ns =>
      rw [e1] at e
      simp only [Option.bind_some, e2, Option.map_eq_some_iff] at e
      obtain ⟨m, em, rfl⟩ := e
      obtain ⟨a, ws, rfl, sq, dt⟩ := h0.vw.lsq h0.gh e1
      rw [Dt.intsV e2 dt] at sq
      refine ⟨a, ns, rfl, sq, ?_, fun m' h1 h2 => ?_⟩
      · cases ns with
        | nil => cases em
        | cons _ _ => simp
      · have : ns.max? = some m' := List.max?_eq_some_iff.mpr ⟨h1, h2⟩
        rw [em] at this
        cases this
        exact q _ G H (h0.push (.int .nil))
theorem dop_minL : Dop s E (rMin s.K) oMinL := dop_p1 fun c hc G H th rh ta si x v l Q h0 e q => by
  subst hc
  cases e1 : lsq x with
  | none => rw [e1] at e; cases e
  | some ds =>
    cases e2 : intsD ds with
    | none => rw [e1] at e; simp [e2] at e
    | some ns =>
      rw [e1] at e
      simp only [Option.bind_some, e2, Option.map_eq_some_iff] at e
      obtain ⟨m, em, rfl⟩ := e
      obtain ⟨a, ws, rfl, sq, dt⟩ := h0.vw.lsq h0.gh e1
      rw [Dt.intsV e2 dt] at sq
      refine ⟨a, ns, rfl, sq, ?_, fun m' h1 h2 => ?_⟩
      · cases ns with
        | nil => cases em
        | cons _ _ => simp
      · have : ns.min? = some m' := List.min?_eq_some_iff.mpr ⟨h1, h2⟩
        rw [em] at this
        cases this
        exact q _ G H (h0.push (.int .nil))
def oSum : Fv := p1 fun x => (lsq x).bind fun ds => (intsD ds).map fun ns => .fz (.int ns.sum)
theorem dop_sum : Dop s E (rSum s.K) oSum := dop_p1 fun c hc G H th rh ta si x v l Q h0 e q => by
  subst hc
  cases e1 : lsq x with
  | none => rw [e1] at e; cases e
  | some ds =>
    cases e2 : intsD ds with
    | none => rw [e1] at e; simp [e2] at e
    | some ns =>
      rw [e1] at e
      simp only [Option.bind_some, e2, Option.map_some] at e
      cases e
      obtain ⟨a, ws, rfl, sq, dt⟩ := h0.vw.lsq h0.gh e1
      rw [Dt.intsV e2 dt] at sq
      exact ⟨a, ns, rfl, sq, q _ G H (h0.push (.int .nil))⟩
def oAll : Fv := p1 fun x => (lsq x).bind fun ds => (blsD ds).map fun ns => .fz (.bl (ns.all id))
theorem dop_all : Dop s E (rAll s.K) oAll := dop_p1 fun c hc G H th rh ta si x v l Q h0 e q => by
  subst hc
  cases e1 : lsq x with
  | none => rw [e1] at e; cases e
  | some ds =>
    cases e2 : blsD ds with
    | none => rw [e1] at e; simp [e2] at e
    | some ns =>
      rw [e1] at e
      simp only [Option.bind_some, e2, Option.map_some] at e
      cases e
      obtain ⟨a, ws, rfl, sq, dt⟩ := h0.vw.lsq h0.gh e1
      rw [Dt.blsV e2 dt] at sq
      exact ⟨a, ns, rfl, sq, q _ G H (h0.push (.bl .nil))⟩
/-- list(x): a new one -/
def oList : Fv := p1 fun x => (seqD x).map fun p => .lst (p.2.map .fz)
theorem dop_list : Dop s E (fun xs H Q => ∃ p ys, xs = [.ref p] ∧ (SqL s.K H p ys ∨ SqT s.K H p ys) ∧ ∀ l, H l = none → Q (.ref l) (upd H l (.lst ys))) oList := dop_p1 fun c hc G H th rh ta si x v l Q h0 e q => by
  subst hc
  cases e1 : seqD x with
  | none => rw [e1] at e; cases e
  | some p =>
    obtain ⟨b, ds⟩ := p
    rw [e1] at e
    cases e
    obtain ⟨a, ws, rfl, h1, h2, dt⟩ := h0.vw.seqD h0.gh e1
    refine ⟨a, ws, rfl, ?_, fun p np => q _ G _ (h0.newLst dt np)⟩
    cases b with
    | true => exact .inl (h1 rfl)
    | false => exact .inr (h2 rfl)
/-- tuple(x): a tuple itself -/
def oTuple : Fv := p1 fun x => match x with
  | .fz (.tup ds) => some (.fz (.tup ds))
  | .fz (.ktp ds) => some (.fz (.ktp ds))
  | x => (lsq x).map fun ds => .fz (.tup ds)
theorem dop_tuple : Dop s E (fun xs H Q => ∃ p ys, xs = [.ref p] ∧ ((SqL s.K H p ys ∧ ∀ l, H l = none → Q (.ref l) (upd H l (.tup ys))) ∨ (SqT s.K H p ys ∧ Q (.ref p) H))) oTuple := dop_p1 fun c hc G H th rh ta si x v l Q h0 e q => by
  subst hc
  have lst : (lsq x).map (fun ds => L.fz (.tup ds)) = some l → ∃ p ys, [v] = [.ref p] ∧ ((SqL c.K H p ys ∧ ∀ l, H l = none → Q (.ref l) (upd H l (.tup ys))) ∨ (SqT c.K H p ys ∧ Q (.ref p) H)) := fun e => by
    cases e1 : lsq x with
    | none => rw [e1] at e; cases e
    | some ds =>
      rw [e1] at e
      cases e
      obtain ⟨a, ws, rfl, sq, dt⟩ := h0.vw.lsq h0.gh e1
      refine ⟨a, ws, rfl, .inl ⟨sq, fun p np => ?_⟩⟩
      obtain ⟨G', h'⟩ := h0.newTup dt np
      exact q _ G' _ h'
  cases x with
  | fz d =>
    cases d with
    | tup ds =>
      cases e
      obtain ⟨a, ws, rfl, h1, h2, dt⟩ := h0.vw.tupD h0.gh rfl
      exact ⟨a, ws, rfl, .inr ⟨h1, q _ G H (h0.push (.tup h2 dt .nil))⟩⟩
    | ktp ds =>
      cases e
      have r := h0.vw.fz
      cases r with
      | @ktp a ws _ _ _ sq r2 _ => exact ⟨a, ws, rfl, .inr ⟨.inl (h0.gh.rd sq.1), q _ G H (h0.push (.ktp sq r2 .nil))⟩⟩
    | _ => exact lst e
  | _ => exact lst e
/-- list(reversed(x)), tuple(reversed(x)), x[::-1], of a list -/
def eThen (f : Ev) (F : L → Option L) : Ev := fun r => (f r).bind fun (l, r1) => match F l with
  | some l' => .ok (l', r1)
  | none => .stuck
def eThenP (i : Nat) (F : L → Option L) : Ev := fun r => match r[i]? with
  | some (some l) => (match F l with
    | some l' => .ok (l', r)
    | none => .stuck)
  | _ => .stuck
variable {W : WX}
def tThn (k : V → Hp → VK → Prop) (t : TE) : TE := fun σ H Q => t σ H fun v H1 => k v H1 Q
def Thn (s : Cs) (k : V → Hp → VK → Prop) (F : L → Option L) : Prop := ∀ (c : Cn), c.toCs = s → ∀ (G H : Hp) (th rh : Rho) (ta si : List (Option V)) (x : L) (v : V) (l : L) (Q : VK), S0 c G H (some x :: th) rh (some v :: ta) si → F x = some l →
    (∀ w G' H', S0 c G' H' (some l :: some x :: th) rh (some w :: some v :: ta) si → Q w H') → k v H Q
theorem De.thn {k : V → Hp → VK → Prop} {t : TE} {f : Ev} {F : L → Option L} (hk : Thn s k F) (h1 : De s W t f) : De s W (tThn k t) (eThen f F) := fun c hc G H th rh ta si Q h0 q => by
  refine h1 c hc G H th rh ta si _ h0 ?_
  unfold eThen at q
  cases e : f rh with
  | stuck => rw [e] at q; exact q.elim
  | exc x r => rw [e] at q; exact q
  | ok lr =>
    obtain ⟨l, r1⟩ := lr
    rw [e] at q
    simp only [Out.bind_ok] at q
    intro v G1 H1 h3
    cases e2 : F l with
    | none => rw [e2] at q; exact q.elim
    | some l' =>
      rw [e2] at q
      exact hk c hc G1 H1 _ _ _ _ l v l' Q h3 e2 fun w G' H' h' => q w G' H' h'.swap.pop
theorem De.thnP {k : V → Hp → VK → Prop} {i : Nat} {F : L → Option L} (hk : Thn s k F) : De s W (tThn k (tVar i)) (eThenP i F) := fun c hc G H th rh ta si Q h0 q => by
  unfold eThenP at q
  cases e : rh[i]? with
  | none => rw [e] at q; exact q.elim
  | some o =>
    cases o with
    | none => rw [e] at q; exact q.elim
    | some l =>
      rw [e] at q
      simp only at q
      obtain ⟨v, ev, h1⟩ := h0.take e
      cases e2 : F l with
      | none => rw [e2] at q; exact q.elim
      | some l' =>
        rw [e2] at q
        refine ⟨v, ev, hk c hc G H _ _ _ _ l v l' Q h1 e2 fun w G' H' h' => q w G' H' ?_⟩
        have hi : i < rh.length := (List.getElem?_eq_some_iff.mp e).1
        have h6 := h'.swap.back (i := i) (by simpa using hi) ev
        rw [List.set_set] at h6
        rwa [show rh.set i (some l) = rh from by
          apply List.ext_getElem?
          intro j
          by_cases ij : i = j
          · subst ij
            rw [List.getElem?_set_self hi, e]
          · rw [List.getElem?_set_ne ij]] at h6
def revL (x : L) : Option L := (lsq x).map fun ds => .lst (ds.reverse.map .fz)
def revT (x : L) : Option L := (lsq x).map fun ds => .fz (.tup ds.reverse)
theorem Dt.reverse {K : PySem.W.Frag} {ct : Str → Option Addr} {G : Hp} : ∀ {ds : List D} {ws : List V}, Dt K ct G ds ws → Dt K ct G ds.reverse ws.reverse
  | [], [], _ => .nil
  | [], _ :: _, h => by cases h
  | _ :: _, [], h => by cases h
  | d :: ds, w :: ws, h => by
    obtain ⟨h1, h2⟩ := h.uncons
    simpa using (Dt.reverse h2).app h1
theorem thn_lstRev : Thn s (fun v H1 Q => ∃ (a : Addr) (xs : List V), v = .ref a ∧ SqL s.K H1 a xs ∧ ∀ q, H1 q = none → Q (.ref q) (upd H1 q (.lst xs.reverse))) revL := fun c hc G H th rh ta si x v l Q h0 e q => by
  subst hc
  unfold revL at e
  simp only [Option.map_eq_some_iff] at e
  obtain ⟨ds, e, rfl⟩ := e
  obtain ⟨a, ws, rfl, sq, dt⟩ := h0.vw.lsq h0.gh e
  exact ⟨a, ws, rfl, sq, fun p np => q _ G _ (h0.newLst dt.reverse np)⟩
theorem thn_tupRev : Thn s (fun v H1 Q => ∃ (a : Addr) (xs : List V), v = .ref a ∧ SqL s.K H1 a xs ∧ ∀ q, H1 q = none → Q (.ref q) (upd H1 q (.tup xs.reverse))) revT := fun c hc G H th rh ta si x v l Q h0 e q => by
  subst hc
  unfold revT at e
  simp only [Option.map_eq_some_iff] at e
  obtain ⟨ds, e, rfl⟩ := e
  obtain ⟨a, ws, rfl, sq, dt⟩ := h0.vw.lsq h0.gh e
  refine ⟨a, ws, rfl, sq, fun p np => ?_⟩
  obtain ⟨G', h'⟩ := h0.newTup dt.reverse np
  exact q _ G' _ h'
theorem ed_lstRev {e : Expr} {t : TE} {f : Ev} {p p2 pos pos2 : Pos} (hk : X.K = s.K) (hc : X.calm = true) (hg : Gl X "list") (hm : X.mg "list" = none) (hg2 : Gl X "reversed") (hm2 : X.mg "reversed" = none) (h : Ed X s W e t f)
    (hs : starEach [e] X.env = (false, eval e X.env) :: starEach [] X.env := by rfl) (hs2 : starEach [.Call (.Name "reversed" p2) [e] [] pos2] X.env = (false, eval (.Call (.Name "reversed" p2) [e] [] pos2) X.env) :: starEach [] X.env := by rfl) :
    Ed X s W (.Call (.Name "list" p) [.Call (.Name "reversed" p2) [e] [] pos2] [] pos) (tLstRev X.K t) (eThen f revL) := ⟨pe_lstRev hc hg hm hg2 hm2 h.pe hs hs2, by rw [hk]; exact De.thn thn_lstRev h.de⟩
theorem ed_tupRev {e : Expr} {t : TE} {f : Ev} {p p2 pos pos2 : Pos} (hk : X.K = s.K) (hc : X.calm = true) (hg : Gl X "tuple") (hm : X.mg "tuple" = none) (hg2 : Gl X "reversed") (hm2 : X.mg "reversed" = none) (h : Ed X s W e t f)
    (hs : starEach [e] X.env = (false, eval e X.env) :: starEach [] X.env := by rfl) (hs2 : starEach [.Call (.Name "reversed" p2) [e] [] pos2] X.env = (false, eval (.Call (.Name "reversed" p2) [e] [] pos2) X.env) :: starEach [] X.env := by rfl) :
    Ed X s W (.Call (.Name "tuple" p) [.Call (.Name "reversed" p2) [e] [] pos2] [] pos) (RT.tTupRev X.K t) (eThen f revT) := ⟨RT.pe_tupRev hc hg hm hg2 hm2 h.pe hs hs2, by rw [hk]; exact De.thn thn_tupRev h.de⟩
theorem ed_rev {e : Expr} {t : TE} {f : Ev} {k : Nat} {p1 p2 p3 pos : Pos} (hk : X.K = s.K) (h : Ed X s W e t f) : Ed X s W (.Subscript e (.Slice none none (some (.UnaryOp .USub (.Constant (.int 1) k p1) p2)) p3) pos) (tRevL X.K t) (eThen f revL) :=
  ⟨pe_revL h.pe, by rw [hk]; exact De.thn thn_lstRev h.de⟩
theorem ed_revP {e : Expr} {i : Nat} {k : Nat} {p1 p2 p3 pos : Pos} (hk : X.K = s.K) (h : PE X e (tVar i)) : Ed X s W (.Subscript e (.Slice none none (some (.UnaryOp .USub (.Constant (.int 1) k p1) p2)) p3) pos) (tRevL X.K (tVar i)) (eThenP i revL) :=
  ⟨pe_revL h, by rw [hk]; exact De.thnP thn_lstRev⟩
theorem ed_lstRevP {e : Expr} {i : Nat} {p p2 pos pos2 : Pos} (hk : X.K = s.K) (hc : X.calm = true) (hg : Gl X "list") (hm : X.mg "list" = none) (hg2 : Gl X "reversed") (hm2 : X.mg "reversed" = none) (h : PE X e (tVar i))
    (hs : starEach [e] X.env = (false, eval e X.env) :: starEach [] X.env := by rfl) (hs2 : starEach [.Call (.Name "reversed" p2) [e] [] pos2] X.env = (false, eval (.Call (.Name "reversed" p2) [e] [] pos2) X.env) :: starEach [] X.env := by rfl) :
    Ed X s W (.Call (.Name "list" p) [.Call (.Name "reversed" p2) [e] [] pos2] [] pos) (tLstRev X.K (tVar i)) (eThenP i revL) := ⟨pe_lstRev hc hg hm hg2 hm2 h hs hs2, by rw [hk]; exact De.thnP thn_lstRev⟩
end
end Dl
namespace Dl
open PySem L2

/-! ### a text so often -/
def repS (z : Str) (n : Int) : Str := ⟨(List.replicate n.toNat z.cps).foldl (· ++ ·) #[]⟩
def rRepS : R2 := fun x y H Q => ∃ z n, x = .str z ∧ y = .int n ∧ -(2 ^ 62) < n ∧ n < 2 ^ 62 ∧ z.length * n.toNat ≤ sizeLine ∧ Q (.str (repS z n)) H
theorem fold_nil : ∀ (k : Nat) (a : Array Nat), (List.replicate k (#[] : Array Nat)).foldl (· ++ ·) a = a
  | 0, a => rfl
  | k + 1, a => by rw [List.replicate_succ, List.foldl_cons, Array.append_empty]; exact fold_nil k a
theorem op_repS {X : Cx} : OpR X (binaryOp .Mult) rRepS := by
  intro pins s σ H x y v u Q I rx ry h
  obtain ⟨z, n, rfl, rfl, h1, h2, hz, q⟩ := h
  obtain ⟨t, rfl⟩ := rx
  obtain ⟨t', rfl⟩ := ry
  have hs : sizeLine = 16777216 := sizeLine_eq
  refine P.mul_str (by rw [decide_eq_false (by omega), decide_eq_false (by omega)]; rfl) (fun h3 h4 => ?_) (fun h3 h4 => ?_) ?_
  · have hn : (n.toNat : Int) = n := by omega
    have hn1 : 1 ≤ n.toNat := by omega
    have h6 : z.length * n.toNat ≤ 16777216 := by rw [← hs]; exact hz
    have : (z.length : Int) * n ≤ 16777216 := by
      rw [← hn, ← Int.natCast_mul]
      omega
    have hl : (z.length : Int) ≤ 16777216 := by
      have : z.length ≤ z.length * n.toNat := Nat.le_mul_of_pos_right _ hn1
      omega
    intro hgt
    have h5 : (z.length : Int) * n ≤ 2 ^ 63 - 1 := by omega
    have := (Int.le_ediv_iff_mul_le (by omega : 0 < n)).mpr h5
    omega
  · exact decide_eq_false (by omega)
  · by_cases h3 : n < 1
    · rw [if_pos h3]
      have : repS z n = Str.empty := by
        unfold repS
        rw [show n.toNat = 0 by omega]
        rfl
      rw [this] at q
      exact ⟨by decide, .str _, H, I.tok _, ⟨_, rfl⟩, q⟩
    · rw [if_neg h3]
      by_cases h4 : (n == 1 || z.length == 0) = true
      · rw [if_pos h4]
        have : repS z n = z := by
          simp only [Bool.or_eq_true, beq_iff_eq] at h4
          unfold repS
          rcases h4 with rfl | h4
          · show (⟨#[] ++ z.cps⟩ : Str) = z
            rw [Array.empty_append]
          · have he : z.cps = #[] := Array.eq_empty_of_size_eq_zero h4
            rw [he, fold_nil]
            cases z
            simp only at he
            rw [he]
        rw [this] at q
        exact ⟨.str z, H, I, ⟨_, rfl⟩, q⟩
      · rw [if_neg h4]
        have hc : ((List.replicate n.toNat z.cps).foldl (· ++ ·) #[]).size ≤ sizeLine := by
          have key : ∀ (k : Nat) (a : Array Nat), ((List.replicate k z.cps).foldl (· ++ ·) a).size = a.size + k * z.cps.size := fun k => by
            induction k with
            | zero => intro a; simp
            | succ k ih => intro a; rw [List.replicate_succ, List.foldl_cons, ih, Array.size_append, Nat.succ_mul]; omega
          rw [key]
          have hz' : z.cps.size * n.toNat ≤ sizeLine := hz
          rw [Nat.mul_comm, show (#[] : Array Nat).size = 0 from rfl, Nat.zero_add]
          exact hz'
        exact ⟨hc, .str _, H, I.tok _, ⟨_, rfl⟩, q⟩
section
variable {s : Cs} {E : XK} {X : Cx}
def oMulS : Fv := p2 fun x y => (asS x).bind fun z => (asI y).bind fun n => if -(2 ^ 62) < n ∧ n < 2 ^ 62 ∧ z.length * n.toNat ≤ sizeLine then some (.fz (.str (repS z n))) else none
theorem dop_mulS : Dop s E (r2 rRepS) oMulS := dop_p2 fun c hc G H th rh ta si x y v u l Q h0 e q => by
  cases e1 : asS x with
  | none => rw [e1] at e; cases e
  | some z =>
    cases e2 : asI y with
    | none => rw [e1, e2] at e; cases e
    | some n =>
      rw [e1, e2] at e
      simp only [Option.bind_some] at e
      obtain rfl := asS_some e1
      obtain rfl := asI_some e2
      by_cases hn : -(2 ^ 62) < n ∧ n < 2 ^ 62 ∧ z.length * n.toNat ≤ sizeLine
      · rw [if_pos hn] at e
        cases e
        exact ⟨z, n, h0.vw.str, h0.pop.vw.int, hn.1, hn.2.1, hn.2.2, q _ G H (h0.push (.str .nil))⟩
      · rw [if_neg hn] at e; cases e
def rMulA : R2 := fun x y H Q => rMulAll x y H Q ∨ rRepS x y H Q
theorem op_mulA : OpR X (binaryOp .Mult) rMulA := op_mulAll.or op_repS
def oMulA : Fv := alt oMul oMulS
theorem dop_mulAA : Dop s E (r2 rMulA) oMulA := Dop.alt dop_mulA dop_mulS (fun vs H Q h => r2_inl h) (fun vs H Q h => r2_inr h)
end

/-! ### isinstance -/
def tyN : L → Option String
  | .fz .non => some "NoneType"
  | .fz (.bl _) => some "bool"
  | .fz (.int _) => some "int"
  | .fz (.str _) => some "str"
  | .fz (.tup _) => some "tuple"
  | .fz (.ktp _) => some "tuple"
  | .fz (.lst _) => some "list"
  | .fz (.dct false _) => some "dict"
  | .lst _ => some "list"
  | .dct _ _ => some "dict"
  | _ => none
def isT (a b : String) : Option Bool := if a ∈ ["NoneType", "bool", "int", "str", "tuple", "list", "dict"] ∧ b ∈ ["bool", "int", "str", "tuple", "list", "dict"] then some (a == b || (a == "bool" && b == "int")) else none
theorem isT_ok {a b : String} {r : Bool} (h : isT a b = some r) : kitB a b = some r := by
  unfold isT at h
  by_cases hm : a ∈ ["NoneType", "bool", "int", "str", "tuple", "list", "dict"] ∧ b ∈ ["bool", "int", "str", "tuple", "list", "dict"]
  · rw [if_pos hm] at h
    cases h
    obtain ⟨h1, h2⟩ := hm
    simp only [List.mem_cons, List.not_mem_nil, or_false] at h1 h2
    rcases h1 with rfl | rfl | rfl | rfl | rfl | rfl | rfl <;> rcases h2 with rfl | rfl | rfl | rfl | rfl | rfl <;> decide +kernel
  · rw [if_neg hm] at h; cases h
theorem Vw.tyN {s : Cs} {G H : Hp} {l : L} {v : V} {n : String} (gh : Same G H) (h : Vw s G H l v) (e : Dl.tyN l = some n) : TyX s.K H v (.type n) := by
  obtain ⟨f, o⟩ := h
  cases l with
  | fz d =>
    have r := Vw.fz ⟨f, o⟩
    cases d with
    | non => cases e; cases r; exact .base .non
    | bl b => cases e; cases r; exact .base (.bl b)
    | int b => cases e; cases r; exact .base (.int b)
    | str b => cases e; cases r; exact .base (.str b)
    | tup ds =>
      cases e
      cases r with
      | tup a _ _ =>
        rcases gh.rd a with h | ⟨o, h⟩
        · exact .base (.tup h)
        · exact .fTuple h
    | ktp ds =>
      cases e
      cases r with
      | ktp a _ _ =>
        rcases gh.rd a.1 with h | ⟨o, h⟩
        · exact .base (.tup h)
        · exact .fTuple h
    | lst ds => cases e; cases r with | lst a _ _ => exact .base (.lst (gh _ _ a))
    | dct t ds =>
      cases t with
      | true => cases e
      | false =>
        cases e
        cases r with
        | dK a _ _ _ =>
          rcases a with a | ⟨ob, a⟩
          · exact .base (.dK (gh _ _ a))
          · exact .fDict (gh _ _ a)
    | _ => cases e
  | lst ks => cases e; cases o with | lst hp _ _ => exact .base (.lst hp)
  | dct t ks =>
    cases e
    cases o with
    | dK hp _ _ _ => exact .base (.dK hp)
    | dT hp _ _ _ => exact .base (.dT hp)
  | obj _ _ => cases e
def tysD : List D → Option (List String)
  | [] => some []
  | .ty n :: ds => (tysD ds).map (n :: ·)
  | _ :: _ => none
def isA (a : String) : List String → Option Bool
  | [] => some false
  | b :: bs => (isT a b).bind fun r => if r then some true else isA a bs
theorem isA_ok {K : PySem.W.Frag} {a : String} : ∀ {bs : List String} {r : Bool}, isA a bs = some r → PySem.W.kitAny K (.type a) (bs.map Value.type) = some r
  | [], r, h => by cases h; exact kitAny_nil
  | b :: bs, r, h => by
    unfold isA at h
    cases e : isT a b with
    | none => rw [e] at h; cases h
    | some z =>
      rw [e] at h
      simp only [Option.bind_some] at h
      refine kitAny_cons (kit_ty (isT_ok e)) (fun hz => ?_) (fun hz => ?_)
      · rw [hz] at h; exact isA_ok h
      · rw [hz] at h; cases h; rfl
section
variable {s : Cs} {E : XK} {X : Cx}
theorem Dt.tysV {K : PySem.W.Frag} {ct : Str → Option Addr} {G : Hp} : ∀ {ds : List D} {ws : List V} {ns : List String}, tysD ds = some ns → Dt K ct G ds ws → ws = ns.map V.ty
  | [], ws, ns, e, h => by cases e; cases h; rfl
  | .ty i :: ds, ws, ns, e, h => by
    simp only [tysD, Option.map_eq_some_iff] at e
    obtain ⟨ms, e, rfl⟩ := e
    cases h with
    | ty h => rw [Dt.tysV e h]; rfl
def oIsi : Fv := p2 fun x y => (tyN x).bind fun a => match y with
  | .fz (.ty b) => (isT a b).map fun r => .fz (.bl r)
  | .fz (.tup ds) => (tysD ds).bind fun bs => (isA a bs).map fun r => .fz (.bl r)
  | _ => none
def rIsiRd (K : PySem.W.Frag) : List V → Hp → VK → Prop := fun xs H Q => ∃ (x : V) (t : Value) (a : Addr) (ks : List V) (us : List Value) (b : Bool), xs = [x, .ref a] ∧ Rd H a (.tup ks) ∧ Paired ClsV ks us ∧ TyX K H x t ∧ PySem.W.kitAny K t us = some b ∧ Q (.bl b) H
theorem call_isiRd : CallR X (.builtin "isinstance") (rIsiRd X.K) := by
  intro pins s σ H xs vs Q I rvs hh
  obtain ⟨x, t, a, ks, us, b, rfl, hR, hp, ht, hk, q⟩ := hh
  obtain ⟨v1, v2, rfl, ra, rb⟩ := vals2 rvs
  cases (show v2 = Value.ref a from rb)
  obtain ⟨P, Z, pp, hxx⟩ := kit_of I ra ht
  obtain ⟨_, its, rv, ob, g1, g2, n, g3⟩ := (show ObjOk X.prog X.w H s.heap a (.tup ks) from hR.ok I.hok)
  have es := ClsV.all hp rv
  subst es
  obtain ⟨c0, d0, dt0, sl0⟩ := ob
  simp only at g2 g3
  subst g2 g3
  exact PySem.W.kia_tup Z I.kIn pp g1 hk hxx fun tk' => ⟨.bl b, H, I.tok tk', rfl, q⟩
def rIsiA (K : PySem.W.Frag) : List V → Hp → VK → Prop := fun xs H Q => rIsi K xs H Q ∨ rIsiRd K xs H Q
theorem cl_isi : CallR X (.builtin "isinstance") (rIsiA X.K) := call_isi.or call_isiRd
theorem paired_ty : ∀ (bs : List String), Paired ClsV (bs.map V.ty) (bs.map Value.type)
  | [] => .nil
  | b :: bs => .cons (.ty b) (paired_ty bs)
theorem dop_isi : Dop s E (rIsiA s.K) oIsi := dop_p2 fun c hc G H th rh ta si x y v u l Q h0 e q => by
  subst hc
  cases e1 : tyN x with
  | none => rw [e1] at e; cases e
  | some a =>
    rw [e1] at e
    simp only [Option.bind_some] at e
    have ty := h0.vw.tyN h0.gh e1
    cases y with
    | fz d =>
      cases d with
      | ty b =>
        simp only [Option.map_eq_some_iff] at e
        obtain ⟨r, e2, rfl⟩ := e
        have eu : u = .ty b := by
          have z := h0.pop.vw.fz
          cases z
          rfl
        subst eu
        exact .inl ⟨v, .ty b, .type a, .type b, r, rfl, .ty b, ty, kit_ty (isT_ok e2), q _ G H (h0.push (.bl .nil))⟩
      | tup ds =>
        cases e3 : tysD ds with
        | none => simp [e3] at e
        | some bs =>
          simp only [e3, Option.bind_some, Option.map_eq_some_iff] at e
          obtain ⟨r, e2, rfl⟩ := e
          obtain ⟨p, ws, rfl, sq, gp, dt⟩ := h0.pop.vw.tupD h0.gh rfl
          rw [Dt.tysV e3 dt] at gp
          exact .inr ⟨v, .type a, p, _, _, r, rfl, h0.gh.rd gp, paired_ty bs, ty, isA_ok e2, q _ G H (h0.push (.bl .nil))⟩
      | _ => cases e
    | _ => cases e
end

/-! ### list methods, more -/
section
variable {s : Cs} {E : XK} {X : Cx}
theorem rep_flat {P : List D → Prop} : ∀ {ds : List D}, ds.all flatD = true → ∀ {K : PySem.W.Frag} {ct : Str → Option Addr} {G : Hp} {ws : List V}, Dt K ct G ds ws → ws.all flatV = true
  | [], _, _, _, _, ws, h => by cases h; rfl
  | d :: ds, e, _, _, _, ws, h => by
    rw [List.all_cons, Bool.and_eq_true] at e
    cases d with
    | non => cases h with | non h => rw [List.all_cons, Bool.and_eq_true]; exact ⟨rfl, rep_flat (P := P) e.2 h⟩
    | bl b => cases h with | bl h => rw [List.all_cons, Bool.and_eq_true]; exact ⟨rfl, rep_flat (P := P) e.2 h⟩
    | int b => cases h with | int h => rw [List.all_cons, Bool.and_eq_true]; exact ⟨rfl, rep_flat (P := P) e.2 h⟩
    | str b => cases h with | str h => rw [List.all_cons, Bool.and_eq_true]; exact ⟨rfl, rep_flat (P := P) e.2 h⟩
    | _ => exact absurd e.1 Bool.false_ne_true
theorem eqF_eq {K : PySem.W.Frag} {ct : Str → Option Addr} {G : Hp} {a b : D} {u v : V} (fa : flatD a = true) (fb : flatD b = true) (ha : Dt K ct G [a] [u]) (hb : Dt K ct G [b] [v]) : eqV u v = eqF a b := by
  cases a <;> (first | exact absurd fa Bool.false_ne_true | skip) <;> cases b <;> (first | exact absurd fb Bool.false_ne_true | skip) <;> cases ha <;> cases hb <;> rfl
theorem Dt.nth {K : PySem.W.Frag} {ct : Str → Option Addr} {G : Hp} : ∀ {ds : List D} {ws : List V} {i : Nat} {d : D}, Dt K ct G ds ws → ds[i]? = some d → ∃ w, ws[i]? = some w ∧ Dt K ct G [d] [w]
  | [], _, _, _, _, e => by simp at e
  | d :: ds, [], _, _, h, _ => by cases h
  | d :: ds, w :: ws, 0, d', h, e => by
    cases e
    obtain ⟨h1, _⟩ := h.uncons
    exact ⟨w, rfl, h1⟩
  | d :: ds, w :: ws, i + 1, d', h, e => by
    obtain ⟨_, h2⟩ := h.uncons
    simpa using Dt.nth h2 (by simpa using e)
def mIndex : Fv := m2 fun x y => (lsq x).bind fun ds => (asD y).bind fun d => if flatD d ∧ ds.all flatD = true then (ds.findIdx? fun z => eqF z d).map fun j => (.fz (.int (j : Nat)), x, y) else none
theorem dop_index : Dop s E (rM (rIndex s.K)) mIndex := dop_m2 fun c hc G H th rh ta si x y v u l x' y' Q h0 e q => by
  subst hc
  cases e1 : lsq x with
  | none => rw [e1] at e; cases e
  | some ds =>
    cases e2 : asD y with
    | none => rw [e1, e2] at e; cases e
    | some d =>
      rw [e1, e2] at e
      simp only [Option.bind_some] at e
      obtain rfl := asD_some e2
      by_cases hf : flatD d ∧ ds.all flatD = true
      · rw [if_pos hf] at e
        simp only [Option.map_eq_some_iff] at e
        obtain ⟨j, ej, e3⟩ := e
        cases e3
        obtain ⟨a, ws, rfl, sq, dt⟩ := h0.vw.lsq h0.gh e1
        have dy := h0.pop.vw.fz
        have fy : ([d] : List D).all flatD = true := by simp [hf.1]
        have fu := rep_flat (P := fun _ => True) fy dy
        have fw := rep_flat (P := fun _ => True) hf.2 dt
        obtain ⟨hj, hp, hq⟩ := List.findIdx?_eq_some_iff_getElem.mp ej
        obtain ⟨w, ew, dw⟩ := dt.nth (i := j) (d := ds[j]) (by simp [hj])
        have fm : ∀ m (hm : m < ds.length), flatD ds[m] = true := fun m hm => List.all_eq_true.mp hf.2 _ (List.getElem_mem hm)
        refine ⟨a, ws, u, j, w, rfl, rfl, sq, by simpa using fu, fw, ew, ?_, fun m z' hm ez => ?_, q _ G H (h0.push (.int .nil))⟩
        · rw [eqF_eq (fm j hj) hf.1 dw dy]; exact hp
        · obtain ⟨w', ew', dw'⟩ := dt.nth (i := m) (d := ds[m]'(by omega)) (by simp [show m < ds.length by omega])
          rw [ez] at ew'
          cases ew'
          rw [eqF_eq (fm m (by omega)) hf.1 dw' dy]
          simpa using hq m hm
      · rw [if_neg hf] at e; cases e
def mInsert : Fv := m3 fun x y z => (ownL x).bind fun ks => (asI y).bind fun i => if ks.length < sizeLine ∧ 0 ≤ i ∧ i < 2 ^ 63 then some (.fz .non, .lst (ks.take i.toNat ++ [.fz z.toD] ++ ks.drop i.toNat), .fz (.int i), .fz z.toD) else none
def rInsert : V → List V → Hp → VK → Prop := fun x vs H Q => ∃ (l : Addr) (xs : List V) (i : Int) (y : V), x = .ref l ∧ vs = [.int i, y] ∧ H l = some (.lst xs) ∧ xs.length < sizeLine ∧ 0 ≤ i ∧ i < 2 ^ 63 ∧
    Q .non (upd H l (.lst (xs.take i.toNat ++ [y] ++ xs.drop i.toNat)))
theorem mt_insertR : MtR X "list.insert" rInsert := mt_insert
def mPopAt : Fv := m2 fun x y => (ownL x).bind fun ks => (asI y).bind fun i => if -(2 ^ 63) ≤ i ∧ i < 2 ^ 63 then (seqIndex? i ks.length).bind fun k => ks[k]?.map fun l => (l, .lst (ks.eraseIdx k), .fz (.int i)) else none
theorem erase_at {α : Type} {xs : List α} {i : Nat} {x : α} (h : xs[i]? = some x) : xs.eraseIdx i = xs.take i ++ xs.drop (i + 1) := List.eraseIdx_eq_take_drop_succ ..
theorem dop_popAt : Dop s E (rM rPopAt) mPopAt := dop_m2 fun c hc G H th rh ta si x y v u l x' y' Q h0 e q => by
  cases e1 : ownL x with
  | none => rw [e1] at e; cases e
  | some ks =>
    cases e2 : asI y with
    | none => rw [e1, e2] at e; cases e
    | some i =>
      rw [e1, e2] at e
      obtain rfl := ownL_some e1
      obtain rfl := asI_some e2
      simp only [Option.bind_some] at e
      by_cases hi : -(2 ^ 63) ≤ i ∧ i < 2 ^ 63
      · rw [if_pos hi] at e
        cases e3 : seqIndex? i ks.length with
        | none => rw [e3] at e; cases e
        | some k =>
          rw [e3] at e
          simp only [Option.bind_some, Option.map_eq_some_iff] at e
          obtain ⟨l', e4, e5⟩ := e
          cases e5
          have hu := h0.pop.vw.int
          subst hu
          obtain ⟨p, ws, rfl, hp, hl, go⟩ := S0.relist (th := some (.fz (.int i)) :: th) (ta := some (.int i) :: ta) h0
          have hk : k < ws.length := by
            have := (List.getElem?_eq_some_iff.mp e4).1
            omega
          refine ⟨p, ws, i, k, ws[k], rfl, rfl, hp, hi.1, hi.2, by rw [← hl]; exact e3, by simp [hk], q _ G _ ?_⟩
          refine go [some l] [some ws[k]] (ks.eraseIdx k) (ws.eraseIdx k) fun f o => ?_
          have ea : ks.map some = (ks.map some).take k ++ some l :: (ks.map some).drop (k + 1) := list_at (by simp [e4])
          have eb : ws.map some = (ws.map some).take k ++ some ws[k] :: (ws.map some).drop (k + 1) := list_at (by simp [hk])
          rw [ea, eb] at o
          obtain ⟨fa, fx, fb, rfl, ox, oa, ob⟩ := Ow.perm (by simp [hl]) o
          refine ⟨fx, fa ++ fb, ox, ?_, fun z => ?_, fun a m => ?_⟩
          · rw [erase_at e4, erase_at (x := ws[k]) (by simp [hk]), List.map_append, List.map_append, List.map_take, List.map_drop, List.map_take, List.map_drop]
            exact Ow.app oa ob
          · have pm : (fa ++ (fx ++ fb)).Perm (fx ++ (fa ++ fb)) := by
              rw [← List.append_assoc, ← List.append_assoc]
              exact List.Perm.append_right _ List.perm_append_comm
            exact pm.nodup_iff.mp z
          · simp only [List.mem_append] at m ⊢
            rcases m with m | m | m <;> simp [m]
      · rw [if_neg hi] at e; cases e
def mExtend : Fv := m2 fun x y => (ownL x).bind fun ks => (lstD y).bind fun ds => if ks.length + ds.length ≤ sizeLine then some (.fz .non, .lst (ks ++ ds.map .fz), y) else none
theorem dop_extend : Dop s E (rM rExtend) mExtend := dop_m2 fun c hc G H th rh ta si x y v u l x' y' Q h0 e q => by
  cases e1 : ownL x with
  | none => rw [e1] at e; cases e
  | some ks =>
    cases e2 : lstD y with
    | none => rw [e1, e2] at e; cases e
    | some ds =>
      rw [e1, e2] at e
      obtain rfl := ownL_some e1
      simp only [Option.bind_some] at e
      by_cases hi : ks.length + ds.length ≤ sizeLine
      · rw [if_pos hi] at e
        cases e
        obtain ⟨b, zs, rfl, hb, dt⟩ := h0.pop.vw.lstD h0.gh e2
        obtain ⟨p, ws, rfl, hp, hl, go⟩ := S0.relist (th := some y :: th) (ta := some (.ref b) :: ta) h0
        have hz := dt.length
        refine ⟨p, b, ws, zs, rfl, rfl, hp, hb, by omega, q .non G _ ?_⟩
        have := go [] [] (ks ++ ds.map .fz) (ws ++ zs) fun f o => ⟨[], f, .nil, by
          have := Ow.app o (Ow.ofDt (H := H) dt)
          simpa [List.map_map, Function.comp_def] using this, fun z => by simpa using z, fun a m => by simpa using m⟩
        exact this.push (.non .nil)
      · rw [if_neg hi] at e; cases e
def mClear : Fv := m1 fun x => (ownL x).map fun ks => (.fz .non, .lst [])
end

/-! ### methods as expressions -/
section
variable {X : Cx} {s : Cs} {W : WX} {o e : Expr} {es : List Expr} {to : TE} {fo : Ev} {ts : List TE} {ms : List (Option Nat)} {a : Av} {F : Fv} {P : L → Bool} {name : Str} {apos cpos : Pos} {T id : String} {r : V → List V → Hp → VK → Prop} {i : Nat}
theorem ed_mV (hk : X.K = s.K) (pa : PlainAttrs T) (slot : Slot T name id) (hty : typeOf (.builtin id) = pure (.type "method_descriptor")) (hm : MtR X id r) (hC : Chk s (fun v H => tyV s.K T v H) P) (h1 : Ed X s W o to fo) (h2 : Es X s W ms (e :: es) ts a) (ho : ∀ σ, Dop s (fun cls d H => W cls d σ H) (rM r) F)
    (hbase : attributeBase o name X.env (eval o X.env) = eval o X.env := by rfl)
    (hfew : ((backTo cpos (starEach (e :: es) X.env)).all (fun x => !x.1) && (backToKw cpos (keywordEach [] X.env)).all (fun x => x.1.isSome)
      && decide ((e :: es).length + ([] : List Keyword).length + (if ([] : List Keyword).isEmpty then 0 else 1) < 30)) = true := by rfl)
    (hline : (apos.endLine == cpos.line) = true := by rfl) (hs : starEach (e :: es) X.env = (false, eval e X.env) :: starEach es X.env := by rfl) (hplain : (backTo cpos (starEach es X.env)).any (·.1) = false := by rfl) :
    Ed X s W (.Call (.Attribute o name apos) (e :: es) [] cpos) (tBM X.K T r to (tAll ts)) (eRV P fo ms a F) := ⟨pe_bm pa slot hty hm h1.pe h2.pes.pa hbase hfew hline hs hplain, by
  rw [hk]
  exact De.recvV (r := rM r) hC h1.de h2.da ho⟩
theorem ed_mP (hk : X.K = s.K) (pa : PlainAttrs T) (slot : Slot T name id) (hty : typeOf (.builtin id) = pure (.type "method_descriptor")) (hm : MtR X id r) (hC : Chk s (fun v H => tyV s.K T v H) P) (h1 : PE X o (tVar i)) (h2 : Es X s W ms (e :: es) ts a) (ho : ∀ σ, Dop s (fun cls d H => W cls d σ H) (rM r) F)
    (hbase : attributeBase o name X.env (eval o X.env) = eval o X.env := by rfl)
    (hfew : ((backTo cpos (starEach (e :: es) X.env)).all (fun x => !x.1) && (backToKw cpos (keywordEach [] X.env)).all (fun x => x.1.isSome)
      && decide ((e :: es).length + ([] : List Keyword).length + (if ([] : List Keyword).isEmpty then 0 else 1) < 30)) = true := by rfl)
    (hline : (apos.endLine == cpos.line) = true := by rfl) (hs : starEach (e :: es) X.env = (false, eval e X.env) :: starEach es X.env := by rfl) (hplain : (backTo cpos (starEach es X.env)).any (·.1) = false := by rfl) :
    Ed X s W (.Call (.Attribute o name apos) (e :: es) [] cpos) (tBM X.K T r (tVar i) (tAll ts)) (eRP P i ms a F) := ⟨pe_bm pa slot hty hm h1 h2.pes.pa hbase hfew hline hs hplain, by
  rw [hk]
  exact De.recvP (r := rM r) hC h2.da ho⟩
theorem ed_mV0 (hk : X.K = s.K) (pa : PlainAttrs T) (slot : Slot T name id) (hty : typeOf (.builtin id) = pure (.type "method_descriptor")) (hm : MtR X id r) (hC : Chk s (fun v H => tyV s.K T v H) P) (h1 : Ed X s W o to fo) (ho : ∀ σ, Dop s (fun cls d H => W cls d σ H) (rM r) F)
    (hbase : attributeBase o name X.env (eval o X.env) = eval o X.env := by rfl) (hline : (apos.endLine == cpos.line) = true := by rfl) :
    Ed X s W (.Call (.Attribute o name apos) [] [] cpos) (tBM0 X.K T r to) (eRV P fo [] aNil F) := ⟨pe_bm0 pa slot hty hm h1.pe hbase hline, by
  rw [hk]
  exact De.recvV (ts := []) (r := rM r) hC h1.de (es_nil (X := X)).da ho⟩
theorem ed_mP0 (hk : X.K = s.K) (pa : PlainAttrs T) (slot : Slot T name id) (hty : typeOf (.builtin id) = pure (.type "method_descriptor")) (hm : MtR X id r) (hC : Chk s (fun v H => tyV s.K T v H) P) (h1 : PE X o (tVar i)) (ho : ∀ σ, Dop s (fun cls d H => W cls d σ H) (rM r) F)
    (hbase : attributeBase o name X.env (eval o X.env) = eval o X.env := by rfl) (hline : (apos.endLine == cpos.line) = true := by rfl) :
    Ed X s W (.Call (.Attribute o name apos) [] [] cpos) (tBM0 X.K T r (tVar i)) (eRP P i [] aNil F) := ⟨pe_bm0 pa slot hty hm h1 hbase hline, by
  rw [hk]
  exact De.recvP (ts := []) (r := rM r) hC (es_nil (X := X)).da ho⟩

/-! ### name[i] = e -/
def gStore (i : Nat) (ix e : Ev) : Sv := fun r => (e r).bind fun (l, r1) => match r1[i]? with
  | some (some _) => (ix r1).bind fun (k, r2) => (match r2[i]?, asI k with
    | some (some (.lst ks)), some n => (match ixN ks.length n with
      | some j => .ok (.nx, r2.set i (some (.lst (ks.set j (.fz l.toD)))))
      | none => .stuck)
    | _, _ => .stuck)
  | _ => .stuck
theorem set_perm {α : Type} {xs : List α} {i : Nat} {y : α} (hi : i < xs.length) : xs.set i y = xs.take i ++ y :: xs.drop (i + 1) := by
  rw [List.set_eq_take_append_cons_drop, if_pos hi]
theorem Ds.store {i : Nat} {te ti : TE} {fe fi : Ev} (h1 : De s W te fe) (h2 : De s W ti fi) : Ds s W (tAsg te (gSub (tVar i) ti rSetL)) (gStore i fi fe) := fun c hc G H th rh ta si D h q => by
  refine h1 c hc G H th rh ta si _ h ?_
  unfold gStore at q
  cases e : fe rh with
  | stuck => rw [e] at q; exact q.elim
  | exc x r => rw [e] at q; exact fun cls od G' H' h => q cls od si G' H' h
  | ok lr =>
    obtain ⟨l, r1⟩ := lr
    rw [e] at q
    simp only [Out.bind_ok] at q
    intro v G1 H1 h3
    cases e0 : r1[i]? with
    | none => rw [e0] at q; exact q.elim
    | some o =>
      cases o with
      | none => rw [e0] at q; exact q.elim
      | some l0 =>
        rw [e0] at q
        simp only at q
        obtain ⟨w, ew, _⟩ := h3.take e0
        refine ⟨w, ew, h2 c hc G1 H1 _ r1 _ si _ h3 ?_⟩
        cases e2 : fi r1 with
        | stuck => rw [e2] at q; exact q.elim
        | exc x r => rw [e2] at q; exact fun cls od G' H' h => q cls od si G' H' h.pop
        | ok kr =>
          obtain ⟨k, r2⟩ := kr
          rw [e2] at q
          simp only [Out.bind_ok] at q
          intro kv G2 H2 h4
          cases e5 : r2[i]? with
          | none => rw [e5] at q; exact q.elim
          | some o =>
            cases o with
            | none => rw [e5] at q; exact q.elim
            | some x =>
              cases ek : asI k with
              | none => rw [e5, ek] at q; cases x <;> exact q.elim
              | some n =>
                rw [e5, ek] at q
                cases x with
                | lst ks =>
                  simp only at q
                  cases ej : ixN ks.length n with
                  | none => rw [ej] at q; exact q.elim
                  | some j =>
                    rw [ej] at q
                    obtain rfl := asI_some ek
                    have hkv := h4.vw.int
                    subst hkv
                    obtain ⟨G3, sg, dt, h5⟩ := h4.pop.freeze
                    obtain ⟨w', ew', h6⟩ := h5.take e5
                    rw [ew] at ew'
                    cases ew'
                    obtain ⟨p, ws, rfl, hp, hl, go⟩ := h6.relist
                    have hj : j < ks.length := (ixN_seq ej).2.1
                    refine ⟨p, ws, n, j, rfl, rfl, hp, by rw [← hl]; exact ej, q si G3 _ ?_⟩
                    have h7 := go [] [] (ks.set j (.fz l.toD)) (ws.set j v) fun f o => by
                      have ea : ks.map some = (ks.map some).take j ++ some ks[j] :: (ks.map some).drop (j + 1) := list_at (by simp [hj])
                      have eb : ws.map some = (ws.map some).take j ++ some (ws[j]'(by omega)) :: (ws.map some).drop (j + 1) := list_at (by simp [show j < ws.length by omega])
                      rw [ea, eb] at o
                      obtain ⟨fa, fx, fb, rfl, ox, oa, ob⟩ := Ow.perm (by simp [hl]) o
                      refine ⟨[], fa ++ fb, .nil, ?_, fun z => ?_, fun a m => ?_⟩
                      · rw [set_perm hj, set_perm (by omega : j < ws.length), List.map_append, List.map_append, List.map_cons, List.map_cons, List.map_take, List.map_drop, List.map_take, List.map_drop]
                        exact Ow.app oa (Ow.fz dt ob)
                      · rw [List.nil_append]
                        have z1 := List.nodup_append.mp z
                        have z2 := List.nodup_append.mp z1.2.1
                        exact List.nodup_append.mpr ⟨z1.1, z2.2.1, fun a ha b hb => z1.2.2 a ha b (by simp [hb])⟩
                      · simp only [List.nil_append, List.mem_append] at m ⊢
                        rcases m with m | m <;> simp [m]
                    have hi : i < r2.length := (List.getElem?_eq_some_iff.mp e5).1
                    have h8 := S0.back (i := i) (by simpa using h7) (by simpa using hi) ew
                    rwa [List.set_set] at h8
                | fz _ => exact q.elim
                | dct _ _ => exact q.elim
                | obj _ _ => exact q.elim
theorem sd_store {i : Nat} {on ie e : Expr} {spos pos : Pos} {te ti fe fi} (ho : PE X on (tVar i)) (h1 : Ed X s W e te fe) (h2 : Ed X s W ie ti fi) (hs : swapsWithSole [.Subscript on ie spos] e pos.line X.env = pure false := by rfl) (hw : swappedStores [.Subscript on ie spos] e X.env = pure none := by rfl)
    (h3 : (assignEach [.Subscript on ie spos] X.env).map (·.2) = [assign (.Subscript on ie spos) X.env] := by rfl)
    (ha : ∀ v, assign (.Subscript on ie spos) X.env v = (do
      let ov ← holding [v] (eval on X.env)
      let iv ← holding [v, ov] (eval ie X.env)
      standAt spos
      holding [v, ov, iv] (setItem ov iv v)
      release [v, ov, iv] []) := by intro _; rfl) : Sd X s W (.Assign [.Subscript on ie spos] e pos) (tAsg te (gSub (tVar i) ti rSetL)) (gStore i fi fe) := ⟨ps_asg h1.pe (pg_sub ho h2.pe set_list ha) hs hw h3, Ds.store h1.de h2.de⟩
end
end Dl
namespace L2
open PySem PySem.Spec PyProof.Rows
/-- a list, a tuple, a text -/
def iAny (K : PySem.W.Frag) (tl : TE) : TI := fun σ H R => tl σ H fun x H1 => (∃ a, x = .ref a ∧ (∃ xs, SqL K H1 a xs) ∧ R (Itl K a) H1) ∨ (∃ a, x = .ref a ∧ (∃ xs, SqT K H1 a xs) ∧ R (Itt K a) H1) ∨ (∃ z, x = .str z ∧ R (Its z) H1)
theorem pi_any {X : Cx} {tg l : Expr} {tl : TE} (hl : PE X l tl) : PI X tg l (iAny X.K tl) := by
  refine ⟨fun pins s σ H R I h => ?_⟩
  refine thn (hl.run pins s σ H _ I h) fun v s1 ⟨x, H1, I1, r1, q1⟩ => ?_
  rcases q1 with ⟨a, rfl, ⟨xs, hq⟩, q⟩ | ⟨a, rfl, ⟨xs, hq⟩, q⟩ | ⟨z, rfl, q⟩
  · cases r1
    obtain ⟨its, rv, p, hz⟩ := I1.list hq
    exact wpAny_pyIter_list p.isList (pi_one (tk := s1.toks) I1 _ (turn_list a _) ⟨_, Heap.get?_push_size _ rfl, rfl, rfl⟩ q)
  · cases r1
    obtain ⟨its, rv, p, hz⟩ := I1.tuple hq
    exact wpAny_pyIter_tuple (show s1.heap.IsTuple a its.toArray from p) (pi_one (tk := s1.toks) I1 _ (turn_tuple a _) ⟨_, Heap.get?_push_size _ rfl, rfl, rfl⟩ q)
  · obtain ⟨t, rfl⟩ := r1
    cases ha : z.cps.all (· < 128)
    · exact wpAny_pyIter_wide ha (pi_one (tk := s1.toks) I1 _ (turn_str _ z t "str_iterator" (.inr rfl)) ⟨_, Heap.get?_push_size _ rfl, rfl, rfl⟩ q)
    · exact wpAny_pyIter_ascii ha (pi_one (tk := s1.toks) I1 _ (turn_str _ z t "str_ascii_iterator" (.inl rfl)) ⟨_, Heap.get?_push_size _ rfl, rfl, rfl⟩ q)
end L2
namespace Dl
open PySem L2

/-! ### what a thing is walked as -/
def itD : D → Option (List D)
  | .tup ds => some ds
  | .ktp ds => some ds
  | .lst ds => some ds
  | .scr ns => some (ns.map D.int)
  | .str z => some (z.cps.toList.map fun c => .str ⟨#[c]⟩)
  | _ => none
section
variable {c : Cn} {ds : List D} {tj : Rho} {vj : List (Option V)} {a : Addr}
theorem wk_list (hl : tj.length = vj.length) (h : ∀ (G H : Hp) (th rh : Rho) (ta si : List (Option V)), S0 c G H (tj ++ th) rh (vj ++ ta) si → ∃ ws, SqL c.K H a ws ∧ Dt c.K c.ct G ds ws) : Wk c (Itl c.K a) ds tj vj :=
  ⟨hl, fun i G H th rh ta si h0 => by
    obtain ⟨ws, sq, dt⟩ := h G H th rh ta si h0
    refine ⟨fun d e => ?_, fun hi => ⟨ws, sq, by rw [← dt.length]; exact hi⟩⟩
    obtain ⟨w, ew, dw⟩ := dt.nth e
    refine ⟨⟨ws, w, sq, ew⟩, fun x H' y => ?_⟩
    obtain ⟨rfl, y⟩ := y
    have := y ws sq
    rw [ew] at this
    cases this
    exact ⟨G, dw, h0⟩⟩
theorem wk_tup (hl : tj.length = vj.length) (h : ∀ (G H : Hp) (th rh : Rho) (ta si : List (Option V)), S0 c G H (tj ++ th) rh (vj ++ ta) si → ∃ ws, SqT c.K H a ws ∧ Dt c.K c.ct G ds ws) : Wk c (Itt c.K a) ds tj vj :=
  ⟨hl, fun i G H th rh ta si h0 => by
    obtain ⟨ws, sq, dt⟩ := h G H th rh ta si h0
    refine ⟨fun d e => ?_, fun hi => ⟨ws, sq, by rw [← dt.length]; exact hi⟩⟩
    obtain ⟨w, ew, dw⟩ := dt.nth e
    refine ⟨⟨ws, w, sq, ew⟩, fun x H' y => ?_⟩
    obtain ⟨rfl, y⟩ := y
    have := y ws sq
    rw [ew] at this
    cases this
    exact ⟨G, dw, h0⟩⟩
theorem wk_str {z : Str} : Wk c (Its z) (z.cps.toList.map fun k => .str ⟨#[k]⟩) [] [] :=
  ⟨rfl, fun i G H th rh ta si h0 => by
    refine ⟨fun d e => ?_, fun hi => by simpa [Its] using hi⟩
    rw [List.getElem?_map, Option.map_eq_some_iff] at e
    obtain ⟨k, ek, rfl⟩ := e
    rw [Array.getElem?_toList] at ek
    have hk := (Array.getElem?_eq_some_iff.mp ek).1
    refine ⟨hk, fun x H' y => ?_⟩
    obtain ⟨rfl, k', ek', rfl⟩ := y
    rw [ek] at ek'
    cases ek'
    exact ⟨G, .str .nil, h0⟩⟩
theorem wk_rng {lo : Int} {n : Nat} : Wk c (Itr lo n) ((List.range n).map fun i => D.int (lo + (i : Nat))) [] [] :=
  ⟨rfl, fun i G H th rh ta si h0 => by
    refine ⟨fun d e => ?_, fun hi => by simpa [Itr] using hi⟩
    rw [List.getElem?_map, Option.map_eq_some_iff] at e
    obtain ⟨k, ek, rfl⟩ := e
    obtain ⟨hk, rfl⟩ := List.getElem?_eq_some_iff.mp ek
    rw [List.length_range] at hk
    refine ⟨hk, fun x H' y => ?_⟩
    obtain ⟨rfl, rfl⟩ := y
    rw [List.getElem_range]
    exact ⟨G, .int .nil, h0⟩⟩
theorem wk_rngC {lo k : Int} {n : Nat} : Wk c (Itc lo k n) ((List.range n).map fun i => D.int (lo + (i : Nat) * k)) [] [] :=
  ⟨rfl, fun i G H th rh ta si h0 => by
    refine ⟨fun d e => ?_, fun hi => by simpa [Itc] using hi⟩
    rw [List.getElem?_map, Option.map_eq_some_iff] at e
    obtain ⟨j, ek, rfl⟩ := e
    obtain ⟨hk, rfl⟩ := List.getElem?_eq_some_iff.mp ek
    rw [List.length_range] at hk
    refine ⟨hk, fun x H' y => ?_⟩
    obtain ⟨rfl, rfl⟩ := y
    rw [List.getElem_range]
    exact ⟨G, .int .nil, h0⟩⟩
/-- new pairs laid at each turn -/
theorem S0.pair {G H : Hp} {th rh : Rho} {ta si : List (Option V)} {ds : List D} {ws : List V} {p : Addr} (h : S0 c G H th rh ta si) (r : Dt c.K c.ct G ds ws) (np : H p = none) : ∃ G', Dt c.K c.ct G' [.tup ds] [.ref p] ∧ S0 c G' (upd H p (.tup ws)) th rh ta si := by
  obtain ⟨h1, s1⟩ := h.newD (u := .tup ws) np
  exact ⟨_, .tup (.of upd_same) (r.mono s1) .nil, h1⟩
def enumD (i : Nat) : List D → List D
  | [] => []
  | d :: ds => .tup [.int (i : Nat), d] :: enumD (i + 1) ds
theorem enumD_at : ∀ {ds : List D} {k i : Nat}, (enumD k ds)[i]? = ds[i]?.map fun d => .tup [.int ((k + i : Nat) : Int), d]
  | [], k, i => by simp [enumD]
  | d :: ds, k, 0 => by simp [enumD]
  | d :: ds, k, i + 1 => by
    simp only [enumD, List.getElem?_cons_succ]
    rw [enumD_at, show k + 1 + i = k + (i + 1) by omega]
theorem enumD_len : ∀ {ds : List D} {k : Nat}, (enumD k ds).length = ds.length
  | [], k => rfl
  | d :: ds, k => by simp [enumD, enumD_len]
theorem wk_enum (hl : tj.length = vj.length) (h : ∀ (G H : Hp) (th rh : Rho) (ta si : List (Option V)), S0 c G H (tj ++ th) rh (vj ++ ta) si → ∃ ws, SqL c.K H a ws ∧ Dt c.K c.ct G ds ws) : Wk c (Ite c.K a) (enumD 0 ds) tj vj :=
  ⟨hl, fun i G H th rh ta si h0 => by
    obtain ⟨ws, sq, dt⟩ := h G H th rh ta si h0
    refine ⟨fun d e => ?_, fun hi => ⟨ws, sq, by rw [← dt.length, ← enumD_len (k := 0)]; exact hi⟩⟩
    rw [enumD_at, Option.map_eq_some_iff] at e
    obtain ⟨d', e, rfl⟩ := e
    obtain ⟨w, ew, dw⟩ := dt.nth e
    refine ⟨⟨ws, w, sq, ew⟩, fun x H' y => ?_⟩
    obtain ⟨p, x', rfl, np, rfl, y⟩ := y
    have := y ws sq
    rw [ew] at this
    cases this
    rw [Nat.zero_add]
    exact h0.pair (.int dw) np⟩
def zipD : List D → List D → List D
  | a :: as, b :: bs => .tup [a, b] :: zipD as bs
  | _, _ => []
theorem zipD_at : ∀ {as bs : List D} {i : Nat}, (zipD as bs)[i]? = (as[i]?).bind fun a => bs[i]?.map fun b => .tup [a, b]
  | [], bs, i => by simp [zipD]
  | a :: as, [], i => by cases i <;> simp [zipD]
  | a :: as, b :: bs, 0 => by simp [zipD]
  | a :: as, b :: bs, i + 1 => by simp [zipD, zipD_at]
theorem zipD_len : ∀ {as bs : List D}, (zipD as bs).length = min as.length bs.length
  | [], bs => by simp [zipD]
  | a :: as, [] => by simp [zipD]
  | a :: as, b :: bs => by simp [zipD, zipD_len]
variable {es : List D} {b : Addr}
theorem wk_zipL (hl : tj.length = vj.length) (h : ∀ (G H : Hp) (th rh : Rho) (ta si : List (Option V)), S0 c G H (tj ++ th) rh (vj ++ ta) si → ∃ ws zs, SqL c.K H a ws ∧ SqL c.K H b zs ∧ Dt c.K c.ct G ds ws ∧ Dt c.K c.ct G es zs) : Wk c (Itz c.K a b) (zipD ds es) tj vj :=
  ⟨hl, fun i G H th rh ta si h0 => by
    obtain ⟨ws, zs, sq, sq2, dt, dt2⟩ := h G H th rh ta si h0
    refine ⟨fun d e => ?_, fun hi => ⟨ws, zs, sq, sq2, by rw [zipD_len, dt.length, dt2.length] at hi; omega⟩⟩
    rw [zipD_at, Option.bind_eq_some_iff] at e
    obtain ⟨d1, e1, e⟩ := e
    rw [Option.map_eq_some_iff] at e
    obtain ⟨d2, e2, rfl⟩ := e
    obtain ⟨w1, ew1, dw1⟩ := dt.nth e1
    obtain ⟨w2, ew2, dw2⟩ := dt2.nth e2
    refine ⟨⟨ws, zs, w1, w2, sq, sq2, ew1, ew2⟩, fun x H' y => ?_⟩
    obtain ⟨p, x', y', rfl, np, rfl, y1, y2⟩ := y
    have h1 := y1 ws sq
    have h2 := y2 zs sq2
    rw [ew1] at h1
    rw [ew2] at h2
    cases h1
    cases h2
    exact h0.pair (dw1.app dw2) np⟩
theorem wk_zipT (hl : tj.length = vj.length) (h : ∀ (G H : Hp) (th rh : Rho) (ta si : List (Option V)), S0 c G H (tj ++ th) rh (vj ++ ta) si → ∃ ws zs, SqT c.K H a ws ∧ SqT c.K H b zs ∧ Dt c.K c.ct G ds ws ∧ Dt c.K c.ct G es zs) : Wk c (RZ.ItzT c.K a b) (zipD ds es) tj vj :=
  ⟨hl, fun i G H th rh ta si h0 => by
    obtain ⟨ws, zs, sq, sq2, dt, dt2⟩ := h G H th rh ta si h0
    refine ⟨fun d e => ?_, fun hi => ⟨ws, zs, sq, sq2, by rw [zipD_len, dt.length, dt2.length] at hi; omega⟩⟩
    rw [zipD_at, Option.bind_eq_some_iff] at e
    obtain ⟨d1, e1, e⟩ := e
    rw [Option.map_eq_some_iff] at e
    obtain ⟨d2, e2, rfl⟩ := e
    obtain ⟨w1, ew1, dw1⟩ := dt.nth e1
    obtain ⟨w2, ew2, dw2⟩ := dt2.nth e2
    refine ⟨⟨ws, zs, w1, w2, sq, sq2, ew1, ew2⟩, fun x H' y => ?_⟩
    obtain ⟨p, x', y', rfl, np, rfl, y1, y2⟩ := y
    have h1 := y1 ws sq
    have h2 := y2 zs sq2
    rw [ew1] at h1
    rw [ew2] at h2
    cases h1
    cases h2
    exact h0.pair (dw1.app dw2) np⟩
theorem wk_revL (hl : tj.length = vj.length) (h : ∀ (G H : Hp) (th rh : Rho) (ta si : List (Option V)), S0 c G H (tj ++ th) rh (vj ++ ta) si → ∃ ws, SqL c.K H a ws ∧ Dt c.K c.ct G ds ws) : Wk c (Itv c.K a ds.length) ds.reverse tj vj :=
  ⟨hl, fun i G H th rh ta si h0 => by
    obtain ⟨ws, sq, dt⟩ := h G H th rh ta si h0
    refine ⟨fun d e => ?_, fun hi => by simpa [Itv] using hi⟩
    have hi : i < ds.length := by
      have := (List.getElem?_eq_some_iff.mp e).1
      simpa using this
    rw [List.getElem?_reverse hi] at e
    obtain ⟨w, ew, dw⟩ := dt.nth e
    refine ⟨⟨hi, ws, w, sq, ew⟩, fun x H' y => ?_⟩
    obtain ⟨rfl, y⟩ := y
    have := y ws sq
    rw [ew] at this
    cases this
    exact ⟨G, dw, h0⟩⟩
theorem wk_revT (hl : tj.length = vj.length) (h : ∀ (G H : Hp) (th rh : Rho) (ta si : List (Option V)), S0 c G H (tj ++ th) rh (vj ++ ta) si → ∃ ws, SqT c.K H a ws ∧ Dt c.K c.ct G ds ws) : Wk c (RT.ItvT c.K a ds.length) ds.reverse tj vj :=
  ⟨hl, fun i G H th rh ta si h0 => by
    obtain ⟨ws, sq, dt⟩ := h G H th rh ta si h0
    refine ⟨fun d e => ?_, fun hi => by simpa [RT.ItvT] using hi⟩
    have hi : i < ds.length := by
      have := (List.getElem?_eq_some_iff.mp e).1
      simpa using this
    rw [List.getElem?_reverse hi] at e
    obtain ⟨w, ew, dw⟩ := dt.nth e
    refine ⟨⟨hi, ws, w, sq, ew⟩, fun x H' y => ?_⟩
    obtain ⟨rfl, y⟩ := y
    have := y ws sq
    rw [ew] at this
    cases this
    exact ⟨G, dw, h0⟩⟩
end

/-! ### what stands behind in -/
section
variable {X : Cx} {s : Cs} {W : WX} {tg e : Expr} {t : TE} {f : Ev}
def iItem (f : Ev) : Iv := fun r => (f r).bind fun (l, r1) => match itD l.toD with
  | some ds => .ok (ds, r1)
  | none => .stuck
/-- an own thing on top made still -/
theorem S0.still1 {c : Cn} {G H : Hp} {th rh : Rho} {ta si : List (Option V)} {l : L} {v : V} (h : S0 c G H (some l :: th) rh (some v :: ta) si) : ∃ G', S0 c G' H (some (.fz l.toD) :: th) rh (some v :: ta) si := by
  obtain ⟨G', sg, dt, h2⟩ := h.freeze
  exact ⟨G', h2.push dt⟩
theorem it_view {c : Cn} {G H : Hp} {th rh : Rho} {ta si : List (Option V)} {d : D} {v : V} {ds : List D} (h : S0 c G H (some (.fz d) :: th) rh (some v :: ta) si) (e : itD d = some ds) :
    (∃ a, v = .ref a ∧ (∃ ws, SqL c.K H a ws) ∧ Wk c (Itl c.K a) ds [some (.fz d)] [some v]) ∨ (∃ a, v = .ref a ∧ (∃ ws, SqT c.K H a ws) ∧ Wk c (Itt c.K a) ds [some (.fz d)] [some v]) ∨ (∃ z, v = .str z ∧ d = .str z) := by
  have seqL : ∀ es, seqD (.fz d) = some (true, es) → ds = es → ∃ a, v = .ref a ∧ (∃ ws, SqL c.K H a ws) ∧ Wk c (Itl c.K a) ds [some (.fz d)] [some v] := fun es e1 e2 => by
    subst e2
    obtain ⟨a, ws, rfl, h1, _, dt⟩ := h.vw.seqD h.gh e1
    refine ⟨a, rfl, ⟨ws, h1 rfl⟩, wk_list rfl fun G' H' th' rh' ta' si' h' => ?_⟩
    obtain ⟨a', ws', ea, h1', _, dt'⟩ := S0.vw (th := th') (ta := ta') h' |>.seqD h'.gh e1
    cases ea
    exact ⟨ws', h1' rfl, dt'⟩
  have seqT : ∀ es, seqD (.fz d) = some (false, es) → ds = es → ∃ a, v = .ref a ∧ (∃ ws, SqT c.K H a ws) ∧ Wk c (Itt c.K a) ds [some (.fz d)] [some v] := fun es e1 e2 => by
    subst e2
    obtain ⟨a, ws, rfl, _, h1, dt⟩ := h.vw.seqD h.gh e1
    refine ⟨a, rfl, ⟨ws, h1 rfl⟩, wk_tup rfl fun G' H' th' rh' ta' si' h' => ?_⟩
    obtain ⟨a', ws', ea, _, h1', dt'⟩ := S0.vw (th := th') (ta := ta') h' |>.seqD h'.gh e1
    cases ea
    exact ⟨ws', h1' rfl, dt'⟩
  cases d with
  | tup es => cases e; exact .inr (.inl (seqT _ (by simp) rfl))
  | ktp es => cases e; exact .inr (.inl (seqT _ (by simp) rfl))
  | lst es => cases e; exact .inl (seqL _ (by simp) rfl)
  | scr ns => cases e; exact .inl (seqL _ (by simp) rfl)
  | str z => exact .inr (.inr ⟨z, h.vw.str, rfl⟩)
  | _ => cases e
theorem Di.item (h1 : De s W t f) : Di s W (iAny s.K t) (iItem f) := fun c hc G H th rh ta si R h0 q => by
  subst hc
  refine h1 c rfl G H th rh ta si _ h0 ?_
  unfold iItem at q
  cases e : f rh with
  | stuck => rw [e] at q; exact q.elim
  | exc x r => rw [e] at q; exact q
  | ok lr =>
    obtain ⟨l, r1⟩ := lr
    rw [e] at q
    simp only [Out.bind_ok] at q
    intro v G1 H1 h3
    cases e2 : itD l.toD with
    | none => rw [e2] at q; exact q.elim
    | some ds =>
      rw [e2] at q
      obtain ⟨G2, h4⟩ := h3.still1
      rcases it_view h4 e2 with ⟨a, ev, hs, wk⟩ | ⟨a, ev, hs, wk⟩ | ⟨z, ev, ed⟩
      · exact .inl ⟨a, ev, hs, q _ _ _ G2 H1 h4 wk⟩
      · exact .inr (.inl ⟨a, ev, hs, q _ _ _ G2 H1 h4 wk⟩)
      · refine .inr (.inr ⟨z, ev, ?_⟩)
        rw [ed] at e2
        cases e2
        exact q _ [] [] G2 H1 h4.pop wk_str
theorem id_any (hk : X.K = s.K) (h : Ed X s W e t f) : Id X s W tg e (iAny X.K t) (iItem f) := ⟨pi_any h.pe, by rw [hk]; exact Di.item h.de⟩
/-- range(..) -/
def lim (i : Int) : Bool := decide (-(2 ^ 62) ≤ i) && decide (i < 2 ^ 62)
def rngD (lo : Int) (n : Nat) : List D := (List.range n).map fun i => D.int (lo + (i : Nat))
def iR1 (a : Av) : Iv := fun r => (a r).bind fun (ls, r1) => match ls with
  | [x] => (match asI x with
    | some j => if lim j then .ok (rngD 0 j.toNat, r1) else .stuck
    | none => .stuck)
  | _ => .stuck
def iR2 (a : Av) : Iv := fun r => (a r).bind fun (ls, r1) => match ls with
  | [x, y] => (match asI x, asI y with
    | some i, some j => if lim i && lim j then .ok (rngD i (j - i).toNat, r1) else .stuck
    | _, _ => .stuck)
  | _ => .stuck
variable {ts : List TE} {a : Av}
theorem Di.rng1 (h2 : Da s W [none] (tAll ts) a) : Di s W (iRng1 (tAll ts)) (iR1 a) := fun c hc G H th rh ta si R h0 q => by
  refine h2 c hc G H th rh ta si _ h0 ?_
  unfold iR1 at q
  cases e2 : a rh with
  | stuck => rw [e2] at q; exact q.elim
  | exc x r => rw [e2] at q; exact q
  | ok lr =>
    obtain ⟨ls, r1⟩ := lr
    rw [e2] at q
    simp only [Out.bind_ok] at q
    intro vs G1 H1 h3 el p
    match ls, vs, el with
    | [x], [v], _ =>
      simp only at q
      cases ex : asI x with
      | none => rw [ex] at q; exact q.elim
      | some j =>
        rw [ex] at q
        simp only at q
        obtain rfl := asI_some ex
        by_cases hj : lim j = true
        · rw [if_pos hj] at q
          unfold lim at hj
          simp only [Bool.and_eq_true, decide_eq_true_eq] at hj
          have hv : v = .int j := S0.vw (th := th) (ta := ta) h3 |>.int
          subst hv
          exact ⟨j, rfl, hj.1, hj.2, q _ [] [] G1 H1 (S0.pop (th := th) (ta := ta) h3) wk_rng⟩
        · rw [if_neg hj] at q; exact q.elim
    | [], _, _ => exact q.elim
    | _ :: _ :: _, _, _ => exact q.elim
theorem Di.rng2 (h2 : Da s W [none, none] (tAll ts) a) : Di s W (iRng2 (tAll ts)) (iR2 a) := fun c hc G H th rh ta si R h0 q => by
  refine h2 c hc G H th rh ta si _ h0 ?_
  unfold iR2 at q
  cases e2 : a rh with
  | stuck => rw [e2] at q; exact q.elim
  | exc x r => rw [e2] at q; exact q
  | ok lr =>
    obtain ⟨ls, r1⟩ := lr
    rw [e2] at q
    simp only [Out.bind_ok] at q
    intro vs G1 H1 h3 el p
    match ls, vs, el with
    | [x, y], [v, u], _ =>
      simp only at q
      cases ex : asI x with
      | none => rw [ex] at q; exact q.elim
      | some i =>
        cases ey : asI y with
        | none => rw [ex, ey] at q; exact q.elim
        | some j =>
          rw [ex, ey] at q
          simp only at q
          obtain rfl := asI_some ex
          obtain rfl := asI_some ey
          by_cases hj : (lim i && lim j) = true
          · rw [if_pos hj] at q
            unfold lim at hj
            simp only [Bool.and_eq_true, decide_eq_true_eq] at hj
            have hv : v = .int i := S0.vw (th := some (.fz (.int j)) :: th) (ta := some u :: ta) h3 |>.int
            have h4 := S0.pop (th := some (.fz (.int j)) :: th) (ta := some u :: ta) h3
            have hu : u = .int j := h4.vw.int
            subst hv hu
            exact ⟨i, j, rfl, ⟨hj.1.1, hj.1.2, hj.2.1, hj.2.2⟩, q _ [] [] G1 H1 h4.pop wk_rng⟩
          · rw [if_neg hj] at q; exact q.elim
    | [], _, _ => exact q.elim
    | [_], _, _ => exact q.elim
    | _ :: _ :: _ :: _, _, _ => exact q.elim
theorem id_rng1 {x : Expr} {p pos : Pos} (hg : Gl X "range") (hm : X.mg "range" = none) (h : Es X s W [none] [x] ts a) (hs : starEach [x] X.env = [(false, eval x X.env)] := by rfl) : Id X s W tg (.Call (.Name "range" p) [x] [] pos) (iRng1 (tAll ts)) (iR1 a) := ⟨pi_range1 hg hm h.pes.pa hs, Di.rng1 h.da⟩
theorem id_rng2 {x y : Expr} {p pos : Pos} (hg : Gl X "range") (hm : X.mg "range" = none) (h : Es X s W [none, none] [x, y] ts a) (hs : starEach [x, y] X.env = [(false, eval x X.env), (false, eval y X.env)] := by rfl) (hs2 : starEach [y] X.env = [(false, eval y X.env)] := by rfl) :
    Id X s W tg (.Call (.Name "range" p) [x, y] [] pos) (iRng2 (tAll ts)) (iR2 a) := ⟨pi_range2 hg hm h.pes.pa hs hs2, Di.rng2 h.da⟩
def iR3 (a : Av) : Iv := fun r => (a r).bind fun (ls, r1) => match ls with
  | [x, y, z] => (match asI x, asI y, asI z with
    | some i, some j, some k => if k ≠ 0 ∧ k.natAbs < 1073741824 ∧ Builtin.Range.small i j k = true ∧ 0 ≤ Builtin.Range.rangeSize i j k then .ok ((List.range (Builtin.Range.rangeSize i j k).toNat).map fun m => D.int (i + (m : Nat) * k), r1) else .stuck
    | _, _, _ => .stuck)
  | _ => .stuck
theorem Di.rng3 (h2 : Da s W [none, none, none] (tAll ts) a) : Di s W (iRng3 (tAll ts)) (iR3 a) := fun c hc G H th rh ta si R h0 q => by
  refine h2 c hc G H th rh ta si _ h0 ?_
  unfold iR3 at q
  cases e2 : a rh with
  | stuck => rw [e2] at q; exact q.elim
  | exc x r => rw [e2] at q; exact q
  | ok lr =>
    obtain ⟨ls, r1⟩ := lr
    rw [e2] at q
    simp only [Out.bind_ok] at q
    intro vs G1 H1 h3 el p
    match ls, vs, el with
    | [x, y, z], [v, u, w], _ =>
      simp only at q
      cases ex : asI x with
      | none => rw [ex] at q; exact q.elim
      | some i =>
        cases ey : asI y with
        | none => rw [ex, ey] at q; exact q.elim
        | some j =>
          cases ez : asI z with
          | none => rw [ex, ey, ez] at q; exact q.elim
          | some k =>
            rw [ex, ey, ez] at q
            simp only at q
            obtain rfl := asI_some ex
            obtain rfl := asI_some ey
            obtain rfl := asI_some ez
            by_cases hj : k ≠ 0 ∧ k.natAbs < 1073741824 ∧ Builtin.Range.small i j k = true ∧ 0 ≤ Builtin.Range.rangeSize i j k
            · rw [if_pos hj] at q
              have hv : v = .int i := S0.vw (th := some (.fz (.int j)) :: some (.fz (.int k)) :: th) (ta := some u :: some w :: ta) h3 |>.int
              have h4 := S0.pop (th := some (.fz (.int j)) :: some (.fz (.int k)) :: th) (ta := some u :: some w :: ta) h3
              have hu : u = .int j := h4.vw.int
              have hw : w = .int k := h4.pop.vw.int
              subst hv hu hw
              exact ⟨i, j, k, _, rfl, ⟨hj.1, hj.2.1, hj.2.2.1, by omega⟩, q _ [] [] G1 H1 h4.pop.pop wk_rngC⟩
            · rw [if_neg hj] at q; exact q.elim
    | [], _, _ => exact q.elim
    | [_], _, _ => exact q.elim
    | [_, _], _, _ => exact q.elim
    | _ :: _ :: _ :: _ :: _, _, _ => exact q.elim
theorem id_rng3 {x y z : Expr} {p pos : Pos} (hg : Gl X "range") (hm : X.mg "range" = none) (h : Es X s W [none, none, none] [x, y, z] ts a) (hs : starEach [x, y, z] X.env = (false, eval x X.env) :: starEach [y, z] X.env := by rfl) (hpl : (backTo pos (starEach [y, z] X.env)).any (·.1) = false := by rfl) :
    Id X s W tg (.Call (.Name "range" p) [x, y, z] [] pos) (iRng3 (tAll ts)) (iR3 a) := ⟨pi_range3 hg hm h.pes.pa hs hpl, Di.rng3 h.da⟩
/-- a list, a tuple made still: its items -/
def sqD (d : D) : Option (Bool × List D) := seqD (.fz d)
/-- reversed(x) -/
def iRevD (f : Ev) : Iv := fun r => (f r).bind fun (l, r1) => match sqD l.toD with
  | some (_, ds) => .ok (ds.reverse, r1)
  | none => .stuck
theorem Di.rev (h1 : De s W t f) : Di s W (RT.iRevA s.K t) (iRevD f) := fun c hc G H th rh ta si R h0 q => by
  subst hc
  refine h1 c rfl G H th rh ta si _ h0 ?_
  unfold iRevD at q
  cases e : f rh with
  | stuck => rw [e] at q; exact q.elim
  | exc x r => rw [e] at q; exact q
  | ok lr =>
    obtain ⟨l, r1⟩ := lr
    rw [e] at q
    simp only [Out.bind_ok] at q
    intro v G1 H1 h3
    cases e2 : sqD l.toD with
    | none => rw [e2] at q; exact q.elim
    | some bd =>
      obtain ⟨b, ds⟩ := bd
      rw [e2] at q
      obtain ⟨G2, h4⟩ := h3.still1
      obtain ⟨a, ws, rfl, k1, k2, dt⟩ := h4.vw.seqD h4.gh e2
      refine ⟨a, ws, rfl, ?_⟩
      rw [← dt.length]
      cases b with
      | true =>
        refine .inl ⟨k1 rfl, q _ [some (.fz l.toD)] [some (.ref a)] G2 H1 h4 (wk_revL rfl fun G' H' th' rh' ta' si' h' => ?_)⟩
        obtain ⟨a', ws', ea, h1', _, dt'⟩ := S0.vw (th := th') (ta := ta') h' |>.seqD h'.gh e2
        cases ea
        exact ⟨ws', h1' rfl, dt'⟩
      | false =>
        refine .inr ⟨k2 rfl, q _ [some (.fz l.toD)] [some (.ref a)] G2 H1 h4 (wk_revT rfl fun G' H' th' rh' ta' si' h' => ?_)⟩
        obtain ⟨a', ws', ea, _, h1', dt'⟩ := S0.vw (th := th') (ta := ta') h' |>.seqD h'.gh e2
        cases ea
        exact ⟨ws', h1' rfl, dt'⟩
theorem id_rev {p pos : Pos} (hk : X.K = s.K) (hg : Gl X "reversed") (hm : X.mg "reversed" = none) (h : Ed X s W e t f) (hs : starEach [e] X.env = (false, eval e X.env) :: starEach [] X.env := by rfl) : Id X s W tg (.Call (.Name "reversed" p) [e] [] pos) (RT.iRevA X.K t) (iRevD f) := ⟨RT.pi_revA hg hm h.pe hs, by rw [hk]; exact Di.rev h.de⟩
/-- enumerate(x), x a list -/
def iEnumD (f : Ev) : Iv := fun r => (f r).bind fun (l, r1) => match sqD l.toD with
  | some (true, ds) => .ok (enumD 0 ds, r1)
  | _ => .stuck
theorem Di.enum (h1 : De s W t f) : Di s W (iEnum s.K (tAll [t])) (iEnumD f) := fun c hc G H th rh ta si R h0 q => by
  subst hc
  refine h1 c rfl G H th rh ta si _ h0 ?_
  unfold iEnumD at q
  cases e : f rh with
  | stuck => rw [e] at q; exact q.elim
  | exc x r => rw [e] at q; exact q
  | ok lr =>
    obtain ⟨l, r1⟩ := lr
    rw [e] at q
    simp only [Out.bind_ok] at q
    intro v G1 H1 h3
    cases e2 : sqD l.toD with
    | none => rw [e2] at q; exact q.elim
    | some bd =>
      obtain ⟨b, ds⟩ := bd
      rw [e2] at q
      cases b with
      | false => exact q.elim
      | true =>
        obtain ⟨G2, h4⟩ := h3.still1
        obtain ⟨a, ws, rfl, k1, _, dt⟩ := h4.vw.seqD h4.gh e2
        refine ⟨a, ws, rfl, k1 rfl, q _ [some (.fz l.toD)] [some (.ref a)] G2 H1 h4 (wk_enum rfl fun G' H' th' rh' ta' si' h' => ?_)⟩
        obtain ⟨a', ws', ea, h1', _, dt'⟩ := S0.vw (th := th') (ta := ta') h' |>.seqD h'.gh e2
        cases ea
        exact ⟨ws', h1' rfl, dt'⟩
theorem id_enum {elts : List Expr} {kk : Nat} {p pos tpos : Pos} (hk : X.K = s.K) (hg : Gl X "enumerate") (hm : X.mg "enumerate" = none) (h : Ed X s W e t f) (hs : starEach [e] X.env = [(false, eval e X.env)] := by rfl) : Id X s W (.Tuple elts kk tpos) (.Call (.Name "enumerate" p) [e] [] pos) (iEnum X.K (tAll [t])) (iEnumD f) :=
  ⟨pi_enum hg hm (Pes.cons h.pe .nil hs).pa hs, by rw [hk]; exact Di.enum h.de⟩
/-- zip(x, y), both lists or both tuples -/
def iZipD (a : Av) : Iv := fun r => (a r).bind fun (ls, r1) => match ls with
  | [x, y] => (match sqD x.toD, sqD y.toD with
    | some (b, ds), some (b', es) => if b = b' then .ok (zipD ds es, r1) else .stuck
    | _, _ => .stuck)
  | _ => .stuck
theorem Di.zip (h2 : Da s W [none, none] (tAll ts) a) : Di s W (RZ.iZipA s.K (tAll ts)) (iZipD a) := fun c hc G H th rh ta si R h0 q => by
  subst hc
  refine h2 c rfl G H th rh ta si _ h0 ?_
  unfold iZipD at q
  cases e2 : a rh with
  | stuck => rw [e2] at q; exact q.elim
  | exc x r => rw [e2] at q; exact q
  | ok lr =>
    obtain ⟨ls, r1⟩ := lr
    rw [e2] at q
    simp only [Out.bind_ok] at q
    intro vs G1 H1 h3 el p
    match ls, vs, el with
    | [x, y], [v, u], _ =>
      simp only at q
      cases ex : sqD x.toD with
      | none => rw [ex] at q; exact q.elim
      | some bd =>
        obtain ⟨b, ds⟩ := bd
        cases ey : sqD y.toD with
        | none => rw [ex, ey] at q; exact q.elim
        | some be =>
          obtain ⟨b', es⟩ := be
          rw [ex, ey] at q
          simp only at q
          by_cases hb : b = b'
          · rw [if_pos hb] at q
            subst hb
            obtain ⟨G2, sg, dt, h4⟩ := S0.freezes (ls := [x, y]) (vs := [v, u]) h3 rfl
            have h5 : S0 c G2 H1 ([some (.fz x.toD), some (.fz y.toD)] ++ th) r1 ([some v, some u] ++ ta) si := h4.pushD dt
            obtain ⟨av, ws, rfl, k1, k2, d1⟩ := S0.vw (th := some (.fz y.toD) :: th) (ta := some u :: ta) h5 |>.seqD h5.gh ex
            obtain ⟨bv, zs, rfl, k3, k4, d2⟩ := S0.vw (S0.pop (th := some (.fz y.toD) :: th) (ta := some u :: ta) h5) |>.seqD h5.gh ey
            refine ⟨av, bv, ws, zs, rfl, ?_⟩
            cases b with
            | true =>
              refine .inl ⟨k1 rfl, k3 rfl, q _ _ _ G2 H1 h5 (wk_zipL rfl fun G' H' th' rh' ta' si' h' => ?_)⟩
              obtain ⟨_, ws', ea, j1, _, d1'⟩ := S0.vw (th := some (.fz y.toD) :: th') (ta := some (.ref bv) :: ta') h' |>.seqD h'.gh ex
              obtain ⟨_, zs', eb, j2, _, d2'⟩ := S0.vw (S0.pop (th := some (.fz y.toD) :: th') (ta := some (.ref bv) :: ta') h') |>.seqD h'.gh ey
              cases ea
              cases eb
              exact ⟨ws', zs', j1 rfl, j2 rfl, d1', d2'⟩
            | false =>
              refine .inr ⟨k2 rfl, k4 rfl, q _ _ _ G2 H1 h5 (wk_zipT rfl fun G' H' th' rh' ta' si' h' => ?_)⟩
              obtain ⟨_, ws', ea, _, j1, d1'⟩ := S0.vw (th := some (.fz y.toD) :: th') (ta := some (.ref bv) :: ta') h' |>.seqD h'.gh ex
              obtain ⟨_, zs', eb, _, j2, d2'⟩ := S0.vw (S0.pop (th := some (.fz y.toD) :: th') (ta := some (.ref bv) :: ta') h') |>.seqD h'.gh ey
              cases ea
              cases eb
              exact ⟨ws', zs', j1 rfl, j2 rfl, d1', d2'⟩
          · rw [if_neg hb] at q; exact q.elim
    | [], _, _ => exact q.elim
    | [_], _, _ => exact q.elim
    | _ :: _ :: _ :: _, _, _ => exact q.elim
theorem id_zip {x y : Expr} {elts : List Expr} {kk : Nat} {p pos tpos : Pos} (hk : X.K = s.K) (hg : Gl X "zip") (hm : X.mg "zip" = none) (h : Es X s W [none, none] [x, y] ts a) (hs : starEach [x, y] X.env = (false, eval x X.env) :: starEach [y] X.env := by rfl) (hpl : (backTo pos (starEach [y] X.env)).any (·.1) = false := by rfl) :
    Id X s W (.Tuple elts kk tpos) (.Call (.Name "zip" p) [x, y] [] pos) (RZ.iZipA X.K (tAll ts)) (iZipD a) := ⟨RZ.pi_zipA hg hm h.pes.pa hs hpl, by rw [hk]; exact Di.zip h.da⟩
end
end Dl
namespace Dl
open PySem L2

/-! ### a value made still -/
section
variable {X : Cx} {s : Cs} {W : WX} {e : Expr} {t : TE} {f : Ev}
def eZ (f : Ev) : Ev := fun r => (f r).bind fun (l, r1) => .ok (.fz l.toD, r1)
theorem De.z (h1 : De s W t f) : De s W t (eZ f) := fun c hc G H th rh ta si Q h0 q => by
  refine h1 c hc G H th rh ta si _ h0 ?_
  unfold eZ at q
  cases e : f rh with
  | stuck => rw [e] at q; exact q.elim
  | exc x r => rw [e] at q; exact q
  | ok lr =>
    obtain ⟨l, r1⟩ := lr
    rw [e] at q
    simp only [Out.bind_ok] at q
    intro v G1 H1 h3
    obtain ⟨G2, h4⟩ := h3.still1
    exact q v G2 H1 h4
theorem ed_z (h : Ed X s W e t f) : Ed X s W e t (eZ f) := ⟨h.pe, h.de.z⟩

/-! ### calls of own defs -/
theorem nox_exc {ε ε' α : Type} {o : Out ε α} {x : Exn} {e : ε'} : (o.nox : Out ε' α) ≠ .exc x e := by
  cases o <;> exact fun z => nomatch z
variable {es : List Expr} {ts : List TE} {ms : List (Option Nat)} {a : Av} {x : Str} {p pos : Pos} {k n : Nat} {g : Addr} {gd : FuncData} {ps : List Str} {F : Fv}
theorem dop_call0 {E : XK} (hF : ∀ ls, ls.length ≠ n → F ls = .stuck) (hx : ∀ ls x e, F ls ≠ .exc x e) : Dop s E (fun vs H Q => dSp s.K s.ct n F (vs ++ []) H Q E0) F := fun c hc G H th rh ta si ls vs Q h e q => by
  have := dop_call (s := s) (E := E0) hF c hc G H th rh ta si ls vs Q h e (by
    cases e1 : F ls with
    | stuck => rw [e1] at q; exact q
    | exc x ls' => exact (hx _ _ _ e1).elim
    | ok z => rw [e1] at q; exact q)
  show dSp s.K s.ct n F (vs ++ []) H Q E0
  rw [List.append_nil]
  exact this
theorem ed_call (hk : X.K = s.K) (F' : FnOk X.prog X.w X.K X.mg X.base CX0 k g gd ps (dSp s.K s.ct n F)) (hr : Room k X.A) (hg : Gl X x) (hm : X.mg x = some (.ref g)) (hkp : PySem.W.keepIn X.K (.ref g) = true) (hb : Binds X.K gd ps []) (hF : ∀ ls, ls.length ≠ n → F ls = .stuck) (hx : ∀ ls x e, F ls ≠ .exc x e)
    (h : Es X s W ms (e :: es) ts a) (hdb : (x == ("__debug__" : Str)) = false := by decide) (he : starEach (e :: es) X.env = (false, eval e X.env) :: starEach es X.env := by rfl) (hpl : (backTo pos (starEach es X.env)).any (·.1) = false := by rfl) :
    Ed X s W (.Call (.Name x p) (e :: es) [] pos) (tCall (dSp s.K s.ct n F) [] E0 (tAll ts)) (eO ms a F) := ⟨pe_call F' hr hg hm hkp hb .nil pass0 h.pes.pa hdb he hpl, De.op (r := fun vs H Q => dSp s.K s.ct n F (vs ++ []) H Q E0) h.da fun σ => dop_call0 hF hx⟩
theorem ed_call00 (hk : X.K = s.K) (F' : FnOk X.prog X.w X.K X.mg X.base CX0 k g gd ps (dSp s.K s.ct n F)) (hr : Room k X.A) (hg : Gl X x) (hm : X.mg x = some (.ref g)) (hkp : PySem.W.keepIn X.K (.ref g) = true) (hb : Binds X.K gd ps []) (hF : ∀ ls, ls.length ≠ n → F ls = .stuck) (hx : ∀ ls x e, F ls ≠ .exc x e)
    (hdb : (x == ("__debug__" : Str)) = false := by decide) :
    Ed X s W (.Call (.Name x p) [] [] pos) (tCall (dSp s.K s.ct n F) [] E0 tNil) (eO [] aNil F) := ⟨pe_call0 F' hr hg hm hkp hb .nil pass0 hdb, De.op (ts := []) (r := fun vs H Q => dSp s.K s.ct n F (vs ++ []) H Q E0) (es_nil (X := X)).da fun σ => dop_call0 hF hx⟩
theorem dF0_nox {n : Nat} {pin : List Bool} {body : Sv} : ∀ ls x e, dF0 n pin body ls ≠ .exc x e := fun ls x e => nox_exc
theorem dF0_ne {n m : Nat} {pin : List Bool} {body : Sv} (hm : pin.length = m) : ∀ ls : List L, ls.length ≠ m → dF0 n pin body ls = .stuck := fun ls h => dF0_len (by rw [hm]; exact h)

/-! ### a op b op c -/
def tru : Out (List L) (L × List L) → Option (Bool × L × L)
  | .ok (.fz (.bl b), [x, y]) => some (b, x, y)
  | _ => none
theorem tru_some {o : Out (List L) (L × List L)} {b : Bool} {x y : L} (h : tru o = some (b, x, y)) : o = .ok (.fz (.bl b), [x, y]) := by
  unfold tru at h
  split at h
  · cases h; rfl
  · cases h
/-- all three values; the last only where the first holds -/
def eCh (a b c : Ev) (F F' : Fv) : Ev := fun r => (a r).bind fun (x, r1) => (b r1).bind fun (y, r2) => match tru (F [x, y]) with
  | some (true, _, y') => (c r2).bind fun (z, r3) => (match tru (F' [y', z]) with
    | some (k, _, _) => .ok (.fz (.bl k), r3)
    | none => .stuck)
  | some (false, _, _) => .ok (.fz (.bl false), r2)
  | none => .stuck
variable {ea eb ec : Expr} {ta tb tc : TE} {fa fb fc : Ev} {r r' : R2} {F F' : Fv} {op op' : CmpOp}
theorem De.ch (h1 : De s W ta fa) (h2 : De s W tb fb) (h3 : De s W tc fc) (o1 : ∀ E, Dop s E (r2 r) F) (o2 : ∀ E, Dop s E (r2 r') F') : De s W (tChain r r' ta tb tc) (eCh fa fb fc F F') := fun c hc G H th rh ta' si Q h0 q => by
  refine h1 c hc G H th rh ta' si _ h0 ?_
  unfold eCh at q
  cases e : fa rh with
  | stuck => rw [e] at q; exact q.elim
  | exc x r => rw [e] at q; exact q
  | ok lr =>
    obtain ⟨x, r1⟩ := lr
    rw [e] at q
    simp only [Out.bind_ok] at q
    intro v G1 H1 h4
    refine h2 c hc G1 H1 _ r1 _ si _ h4 ?_
    cases e2 : fb r1 with
    | stuck => rw [e2] at q; exact q.elim
    | exc x r => rw [e2] at q; exact fun cls od G' H' h => q cls od G' H' h.pop
    | ok lr2 =>
      obtain ⟨y, r2⟩ := lr2
      rw [e2] at q
      simp only [Out.bind_ok] at q
      intro u G2 H2 h5
      have h6 : S0 c G2 H2 ([x, y].map some ++ th) r2 ([v, u].map some ++ ta') si := h5.swap
      refine o1 E0 c hc G2 H2 th r2 ta' si [x, y] [v, u] _ h6 rfl ?_
      cases e3 : tru (F [x, y]) with
      | none => rw [e3] at q; exact q.elim
      | some bxy =>
        obtain ⟨b, x', y'⟩ := bxy
        rw [e3] at q
        rw [tru_some e3]
        cases b with
        | true =>
          intro w G3 H3 h7
          refine ⟨true, dt_bl h7.topD, ?_⟩
          rw [if_pos rfl]
          have h8 : S0 c G3 H3 (some y' :: th) r2 (some u :: ta') si := S0.pop (th := some y' :: th) (ta := some u :: ta') (S0.pop (th := some x' :: some y' :: th) (ta := some v :: some u :: ta') h7)
          refine h3 c hc G3 H3 _ r2 _ si _ h8 ?_
          simp only at q
          cases e4 : fc r2 with
          | stuck => rw [e4] at q; exact q.elim
          | exc x r => rw [e4] at q; exact fun cls od G' H' h => q cls od G' H' h.pop
          | ok lr3 =>
            obtain ⟨z, r3⟩ := lr3
            rw [e4] at q
            simp only [Out.bind_ok] at q
            intro w2 G4 H4 h9
            have h10 : S0 c G4 H4 ([y', z].map some ++ th) r3 ([u, w2].map some ++ ta') si := h9.swap
            refine o2 E0 c hc G4 H4 th r3 ta' si [y', z] [u, w2] _ h10 rfl ?_
            cases e5 : tru (F' [y', z]) with
            | none => rw [e5] at q; exact q.elim
            | some bxy =>
              obtain ⟨k, y2, z2⟩ := bxy
              rw [e5] at q
              rw [tru_some e5]
              intro w3 G5 H5 h11
              exact q w3 G5 H5 (S0.dropMid (t0 := [some (.fz (.bl k))]) (v0 := [some w3]) (t1 := [some y2, some z2]) (v1 := [some u, some w2]) h11 rfl rfl)
        | false =>
          intro w G3 H3 h7
          refine ⟨false, dt_bl h7.topD, ?_⟩
          rw [if_neg Bool.false_ne_true]
          have h8 : S0 c G3 H3 th r2 ta' si := S0.pops (t1 := [some (.fz (.bl false)), some x', some y']) (v1 := [some w, some v, some u]) h7 rfl
          exact q _ G3 H3 (h8.push (.bl .nil))
theorem ed_chain (ho : OpR X (compareOp op) r) (ho' : OpR X (compareOp op') r') (h1 : Ed X s W ea ta fa) (h2 : Ed X s W eb tb fb) (h3 : Ed X s W ec tc fc) (o1 : ∀ E, Dop s E (r2 r) F) (o2 : ∀ E, Dop s E (r2 r') F') (hm : lastMarks [op, op'] [eb, ec] = false := by with_unfolding_all rfl) :
    Ed X s W (.Compare ea [op, op'] [eb, ec] pos) (tChain r r' ta tb tc) (eCh fa fb fc F F') := ⟨pe_chain ho ho' h1.pe h2.pe h3.pe hm, De.ch h1.de h2.de h3.de o1 o2⟩
theorem ec_chain (ho : OpR X (compareOp op) r) (ho' : OpR X (compareOp op') r') (h1 : Ed X s W ea ta fa) (h2 : Ed X s W eb tb fb) (h3 : Ed X s W ec tc fc) (o1 : ∀ E, Dop s E (r2 r) F) (o2 : ∀ E, Dop s E (r2 r') F') (hm : lastMarks [op, op'] [eb, ec] = false := by with_unfolding_all rfl) :
    Ec X s W (.Compare ea [op, op'] [eb, ec] pos) (tTest (tChain r r' ta tb tc)) (cB (eCh fa fb fc F F')) := ⟨pt_chain ho ho' h1.pe h2.pe h3.pe hm, Dc.ofB (De.ch h1.de h2.de h3.de o1 o2)⟩

/-! ### join -/
def rJoin (K : PySem.W.Frag) : V → List V → Hp → VK → Prop := fun x xs H Q => ∃ a p, ∃ ys : List Str, x = .str a ∧ xs = [.ref p] ∧ (SqL K H p (ys.map V.str) ∨ SqT K H p (ys.map V.str)) ∧ (ys.map (·.length)).sum + ys.length * a.length ≤ 16777216 ∧ Q (.str (Txt.join a ys)) H
def mJoin : Fv := m2 fun x y => (asS x).bind fun z => (seqD y).bind fun bd => (strsD bd.2).bind fun ys => if (ys.map (·.length)).sum + ys.length * z.length ≤ 16777216 then some (.fz (.str (Txt.join z ys)), x, y) else none
theorem dop_join {E : XK} : Dop s E (rM (rJoin s.K)) mJoin := dop_m2 fun c hc G H th rh ta si x y v u l x' y' Q h0 e q => by
  subst hc
  cases e1 : asS x with
  | none => rw [e1] at e; cases e
  | some z =>
    cases e2 : seqD y with
    | none => rw [e1, e2] at e; cases e
    | some bd =>
      obtain ⟨b, ds⟩ := bd
      cases e3 : strsD ds with
      | none => rw [e1, e2] at e; simp [e3] at e
      | some ys =>
        rw [e1, e2] at e
        simp only [Option.bind_some, e3] at e
        obtain rfl := asS_some e1
        by_cases hz : (ys.map (·.length)).sum + ys.length * z.length ≤ 16777216
        · rw [if_pos hz] at e
          cases e
          obtain ⟨a, ws, rfl, h1, h2, dt⟩ := h0.pop.vw.seqD h0.gh e2
          rw [Dt.strsV e3 dt] at h1 h2
          refine ⟨z, a, ys, h0.vw.str, rfl, ?_, hz, q _ G H (h0.push (.str .nil))⟩
          cases b with
          | true => exact .inl (h1 rfl)
          | false => exact .inr (h2 rfl)
        · rw [if_neg hz] at e; cases e
theorem mt_joinR : MtR X "str.join" (rJoin X.K) := mt_join
end

/-! ### a slot whose value stays -/
def pinSet (p : List Bool) (i : Nat) : List Bool := (p ++ List.replicate (i + 1 - p.length) false).set i true
def vsSet (vs : List V) (i : Nat) (v : V) : List V := (vs ++ List.replicate (i + 1 - vs.length) V.non).set i v
def Cs.pinAt (s : Cs) (i : Nat) : Cs := ⟨s.K, s.ct, pinSet s.pin i, fun j => if j = i then none else s.kn j⟩
theorem pinSet_at {p : List Bool} {i j : Nat} : (pinSet p i)[j]? = some true ↔ j = i ∨ p[j]? = some true := by
  unfold pinSet
  by_cases e : i = j
  · subst e
    rw [List.getElem?_set_self (by simp; omega)]
    simp
  · rw [List.getElem?_set_ne e, List.getElem?_append]
    by_cases hj : j < p.length
    · rw [if_pos hj]
      exact ⟨.inr, fun h => h.elim (fun z => absurd z.symm e) id⟩
    · rw [if_neg hj, List.getElem?_eq_none (l := p) (by omega)]
      constructor
      · intro h
        rw [List.getElem?_replicate] at h
        split at h <;> cases h
      · intro h
        rcases h with h | h
        · exact absurd h.symm e
        · cases h
theorem vsSet_at {vs : List V} {i : Nat} {v : V} : (vsSet vs i v)[i]? = some v := by
  unfold vsSet
  rw [List.getElem?_set_self (by simp; omega)]
theorem vsSet_ne {vs : List V} {i j : Nat} {v : V} (e : i ≠ j) {w : V} (h : vs[j]? = some w) : (vsSet vs i v)[j]? = some w := by
  unfold vsSet
  rw [List.getElem?_set_ne e, List.getElem?_append_left (List.getElem?_eq_some_iff.mp h).1, h]
def Cn.pinAt (c : Cn) (i : Nat) (v : V) : Cn := { c with
  pin := pinSet c.pin i
  vs0 := vsSet c.vs0 i v
  kn := fun j => if j = i then none else c.kn j
  hk := fun j w e => by
    by_cases h : j = i
    · rw [if_pos h] at e; cases e
    · rw [if_neg h] at e
      exact ⟨pinSet_at.mpr (.inr (c.hk j w e).1), vsSet_ne (fun z => h z.symm) (c.hk j w e).2⟩ }
section
variable {c : Cn} {G H : Hp} {th rh : Rho} {ta si : List (Option V)} {i : Nat} {v : V}
theorem S0.pinned (h : S0 c G H th rh ta si) (e : si[i]? = some (some v)) : S0 (c.pinAt i v) G H th rh ta si := by
  obtain ⟨ow, lt, gh, g0, kp, gn, pn⟩ := h
  refine ⟨ow, lt, gh, g0, kp, gn, fun j hj => ?_⟩
  rcases pinSet_at.mp hj with e1 | hj
  · subst e1
    exact ⟨v, vsSet_at, e⟩
  · by_cases e1 : i = j
    · subst e1
      exact ⟨v, vsSet_at, e⟩
    · obtain ⟨w, q1, q2⟩ := pn j hj
      exact ⟨w, vsSet_ne e1 q1, q2⟩
theorem S0.unpinned (h : S0 (c.pinAt i v) G H th rh ta si) (hp : c.pin[i]? = some true → c.vs0[i]? = some v) (hv : ∀ j : Nat, c.pin[j]? = some true → ∃ w, c.vs0[j]? = some w) : S0 c G H th rh ta si ∧ si[i]? = some (some v) := by
  obtain ⟨ow, lt, gh, g0, kp, gn, pn⟩ := h
  refine ⟨⟨ow, lt, gh, g0, kp, gn, fun j hj => ?_⟩, ?_⟩
  · obtain ⟨w, q1, q2⟩ := pn j (pinSet_at.mpr (.inr hj))
    have q1 : (vsSet c.vs0 i v)[j]? = some w := q1
    by_cases e1 : i = j
    · subst e1
      rw [vsSet_at] at q1
      cases q1
      exact ⟨v, hp hj, q2⟩
    · obtain ⟨w', p1⟩ := hv j hj
      rw [vsSet_ne e1 p1] at q1
      cases q1
      exact ⟨_, p1, q2⟩
  · obtain ⟨w, q1, q2⟩ := pn i (pinSet_at.mpr (.inl rfl))
    have q1 : (vsSet c.vs0 i v)[i]? = some w := q1
    rw [vsSet_at] at q1
    cases q1
    exact q2

/-! ### for over an own list that stands in a slot -/
def forP (i : Nat) (b : Bv) (body : Sv) (n : Nat) : Nat → Rho → Out Rho (Fl × Rho)
  | m, r => match r[i]? with
    | some (some (.lst ks)) => if ks.length = n then (match m with
      | 0 => .ok (.nx, r)
      | m + 1 => (match ks[n - (m + 1)]? with
        | some (.fz d) => (match b d r with
          | none => .stuck
          | some r1 => (body r1).bind fun (fl, r2) => match fl with
            | .nx => forP i b body n m r2
            | .cont => forP i b body n m r2
            | .brk => .ok (.nx, r2)
            | .ret l => .ok (.ret l, r2))
        | _ => .stuck)) else .stuck
    | _ => .stuck
def gForP (i : Nat) (b : Bv) (body : Sv) : Sv := fun r => match r[i]? with
  | some (some (.lst ks)) => forP i b body ks.length ks.length r
  | some (some (.fz _)) => gFor (iItem (eV i)) b body r
  | _ => .stuck
end
section
variable {X : Cx} {s : Cs} {W : WX} {i : Nat}
/-- the list that a slot holds as its own -/
theorem S0.listAt {c : Cn} {G H : Hp} {th rh : Rho} {ta si : List (Option V)} {ks : List L} (h : S0 c G H th rh ta si) (e : rh[i]? = some (some (.lst ks))) : ∃ p ws f, si[i]? = some (some (.ref p)) ∧ H p = some (.lst ws) ∧ Ow c.K c.ct G H (ks.map some) (ws.map some) f := by
  obtain ⟨v, ev, h1⟩ := h.take e
  obtain ⟨f1, o, _⟩ := S0.split (t1 := [some (.lst ks)]) (v1 := [some v]) (th := th) (ta := ta) h1 rfl
  cases o with
  | lst hp o1 _ => exact ⟨_, _, _, ev, hp, o1⟩
theorem Ow.nthD {K : PySem.W.Frag} {ct : Str → Option Addr} {G H : Hp} {ks : List L} {ws : List V} {f : List Addr} {j : Nat} {d : D} (o : Ow K ct G H (ks.map some) (ws.map some) f) (e : ks[j]? = some (.fz d)) : ∃ w, ws[j]? = some w ∧ Dt K ct G [d] [w] := by
  have hl := o.length
  simp only [List.length_map] at hl
  have hj : j < ws.length := by
    have := (List.getElem?_eq_some_iff.mp e).1
    omega
  have ea : ks.map some = (ks.map some).take j ++ some (.fz d) :: (ks.map some).drop (j + 1) := list_at (by simp [e])
  have eb : ws.map some = (ws.map some).take j ++ some ws[j] :: (ws.map some).drop (j + 1) := list_at (by simp [hj])
  rw [ea, eb] at o
  obtain ⟨_, _, _, _, ox, _, _⟩ := Ow.perm (by simp [hl]) o
  cases ox with
  | fz z _ => exact ⟨ws[j], by simp [hj], z⟩
theorem Ds.forP {bs : List Nat} {g : TG} {b : Bv} {tb : TS} {body : Sv} (h2 : Dg (s.pinAt i) bs g b) (h3 : Ds (s.pinAt i) W tb body) : Ds s W (tFor (iAny s.K (tVar i)) g tb) (gForP i b body) := fun c hc G H th rh ta si D h q => by
  subst hc
  unfold gForP at q
  cases e : rh[i]? with
  | none => rw [e] at q; exact q.elim
  | some o =>
    cases o with
    | none => rw [e] at q; exact q.elim
    | some l =>
      cases l with
      | lst ks =>
        rw [e] at q
        have q : Ct c.toCs W c th ta D (Dl.forP i b body ks.length ks.length rh) := q
        obtain ⟨p, ws, f, es, hp, o⟩ := h.listAt e
        have hpin : c.pin[i]? = some true → c.vs0[i]? = some (V.ref p) := fun hh => by
          obtain ⟨w, q1, q2⟩ := h.pn i hh
          rw [es] at q2
          cases q2
          exact q1
        have hv : ∀ j : Nat, c.pin[j]? = some true → ∃ w, c.vs0[j]? = some w := fun j hj => by
          obtain ⟨w, q1, _⟩ := h.pn j hj
          exact ⟨w, q1⟩
        refine ⟨.ref p, es, .inl ⟨p, rfl, ⟨ws, SqL.of hp⟩, ?_⟩⟩
        have hc' : (c.pinAt i (.ref p)).toCs = c.toCs.pinAt i := rfl
        have fin : ∀ {G' H' : Hp} {t1 r : Rho} {v1 si' : List (Option V)}, S0 (c.pinAt i (.ref p)) G' H' (t1 ++ th) r (v1 ++ ta) si' → S0 c G' H' (t1 ++ th) r (v1 ++ ta) si' := fun h => (h.unpinned hpin hv).1
        refine ⟨fun k m σ H => m = ks.length - k ∧ k ≤ ks.length ∧ ∃ G r, S0 (c.pinAt i (.ref p)) G H th r ta σ ∧ Ct c.toCs W c th ta D (Dl.forP i b body ks.length m r), ⟨ks.length, by simp, Nat.zero_le _, G, rh, h.pinned es, q⟩, ?_⟩
        rintro k m σ H2 ⟨rfl, hi, G2, r2, h4, q2⟩
        obtain ⟨h4c, hs⟩ := h4.unpinned hpin hv
        unfold Dl.forP at q2
        cases e2 : r2[i]? with
        | none => rw [e2] at q2; exact q2.elim
        | some o2 =>
          cases o2 with
          | none => rw [e2] at q2; exact q2.elim
          | some l2 =>
            cases l2 with
            | lst ks2 =>
              rw [e2] at q2
              simp only at q2
              obtain ⟨p2, ws2, f2, es2, hp2, o2⟩ := h4.listAt e2
              rw [hs] at es2
              cases es2
              have hl2 := o2.length
              simp only [List.length_map] at hl2
              by_cases hn : ks2.length = ks.length
              · rw [if_pos hn] at q2
                by_cases hlt : k < ks.length
                · right
                  obtain ⟨m', em⟩ : ∃ m', ks.length - k = m' + 1 := ⟨ks.length - k - 1, by omega⟩
                  rw [em] at q2
                  have ek : ks.length - (m' + 1) = k := by omega
                  simp only [ek] at q2
                  cases e3 : ks2[k]? with
                  | none => rw [e3] at q2; exact q2.elim
                  | some d0 =>
                    cases d0 with
                    | fz d =>
                      rw [e3] at q2
                      simp only at q2
                      obtain ⟨w, ew, dw⟩ := o2.nthD e3
                      cases e4 : b d r2 with
                      | none => rw [e4] at q2; exact q2.elim
                      | some r3 =>
                        rw [e4] at q2
                        refine ⟨⟨ws2, w, SqL.of hp2, ew⟩, fun σ' H' => ∃ G' r', S0 (c.pinAt i (.ref p)) G' H' th r' ta σ' ∧ Ct c.toCs W c th ta D (Dl.forP i b body ks.length m' r'), fun σ' H' hh => ⟨m', by omega, by omega, hlt, hh⟩, fun x H3 y => ?_⟩
                        obtain ⟨rfl, y⟩ := y
                        have ey := y ws2 (SqL.of hp2)
                        rw [ew] at ey
                        cases ey
                        refine h2 _ hc' G2 H3 _ r2 r3 _ σ _ w _ h4 dw e4 fun σ4 h6 _ _ => ?_
                        refine h3 _ hc' G2 H3 _ r3 _ σ4 _ h6 ?_
                        simp only at q2
                        cases e5 : body r3 with
                        | stuck => rw [e5] at q2; exact q2.elim
                        | exc x r => rw [e5] at q2; exact fun cls od si' G' H' h' xr => q2 cls od si' G' H' (fin (t1 := []) (v1 := []) h') xr
                        | ok fr =>
                          obtain ⟨fl, r4⟩ := fr
                          rw [e5] at q2
                          simp only [Out.bind_ok] at q2
                          cases fl with
                          | nx => exact fun si' G' H' h' => ⟨G', r4, h', q2⟩
                          | cont => exact fun si' G' H' h' => ⟨G', r4, h', q2⟩
                          | brk => exact fun si' G' H' h' => q2 si' G' H' (fin (t1 := []) (v1 := []) h')
                          | ret l => exact fun v si' G' H' h' => q2 v si' G' H' (fin (t1 := [some l]) (v1 := [some v]) h')
                    | lst _ => rw [e3] at q2; exact q2.elim
                    | dct _ _ => rw [e3] at q2; exact q2.elim
                    | obj _ _ => rw [e3] at q2; exact q2.elim
                · left
                  have e3 : k = ks.length := by omega
                  refine ⟨⟨ws2, SqL.of hp2, by omega⟩, ?_⟩
                  rw [e3, Nat.sub_self] at q2
                  exact q2 σ G2 H2 h4c
              · rw [if_neg hn] at q2; exact q2.elim
            | fz _ => rw [e2] at q2; exact q2.elim
            | dct _ _ => rw [e2] at q2; exact q2.elim
            | obj _ _ => rw [e2] at q2; exact q2.elim
      | fz d =>
        rw [e] at q
        simp only at q
        obtain ⟨v, ev, _⟩ := h.take e
        have hpin : c.pin[i]? = some true → c.vs0[i]? = some v := fun hh => by
          obtain ⟨w, q1, q2⟩ := h.pn i hh
          rw [ev] at q2
          cases q2
          exact q1
        have hv : ∀ j : Nat, c.pin[j]? = some true → ∃ w, c.vs0[j]? = some w := fun j hj => by
          obtain ⟨w, q1, _⟩ := h.pn j hj
          exact ⟨w, q1⟩
        have fin : ∀ {G' H' : Hp} {t1 r : Rho} {v1 si' : List (Option V)}, S0 (c.pinAt i v) G' H' (t1 ++ th) r (v1 ++ ta) si' → S0 c G' H' (t1 ++ th) r (v1 ++ ta) si' := fun h => (h.unpinned hpin hv).1
        have dv : De (c.toCs.pinAt i) W (tVar i) (eV i) := De.var
        have := Ds.for_ (Di.item dv) h2 h3 (c.pinAt i v) rfl G H th rh ta si D (h.pinned ev)
        refine this ?_
        have q : Ct c.toCs W c th ta D (gFor (iItem (eV i)) b body rh) := q
        cases e5 : gFor (iItem (eV i)) b body rh with
        | stuck => rw [e5] at q; exact q.elim
        | exc x r => rw [e5] at q; exact fun cls od si' G' H' h' xr => q cls od si' G' H' (fin (t1 := []) (v1 := []) h') xr
        | ok fr =>
          obtain ⟨fl, r4⟩ := fr
          rw [e5] at q
          cases fl with
          | nx => exact fun si' G' H' h' => q si' G' H' (fin (t1 := []) (v1 := []) h')
          | cont => exact fun si' G' H' h' => q si' G' H' (fin (t1 := []) (v1 := []) h')
          | brk => exact fun si' G' H' h' => q si' G' H' (fin (t1 := []) (v1 := []) h')
          | ret l => exact fun w si' G' H' h' => q w si' G' H' (fin (t1 := [some l]) (v1 := [some w]) h')
      | dct _ _ => rw [e] at q; exact q.elim
      | obj _ _ => rw [e] at q; exact q.elim
theorem sd_forP {bs : List Nat} {tg iter : Expr} {body : List Stmt} {pos : Pos} {g tb b f} (hk : X.K = s.K) (hp : PassesOwn (model X.prog X.w) X.A X.env X.xe) (hc : X.calm = true) (h1 : PE X iter (tVar i)) (h2 : Tg X (s.pinAt i) bs tg g b) (h3 : Ssd X (s.pinAt i) W body tb f)
    (hs : ∀ x, foldedSetIterable iter X.env x = pure x := by intro _; rfl) : Sd X s W (.For tg iter body [] pos) (tFor (iAny X.K (tVar i)) g tb) (gForP i b f) := ⟨ps_for hp hc (pi_any h1) h2.pg h3.pss hs, by rw [hk]; exact Ds.forP h2.dg h3.ds⟩

/-! ### a comprehension over an own list that stands in a slot -/
abbrev Ivp := Rho → Out Rho (List D × Rho × L)
def Dip (s : Cs) (W : WX) (i : Nat) (wi : TI) (f : Ivp) : Prop :=
  ∀ (c : Cn), c.toCs = s → ∀ (G H : Hp) (th rh : Rho) (ta : List (Option V)) (si : L2.St) (R : It → Hp → Prop), S0 c G H th rh ta si →
    (match f rh with
      | .ok (ds, r, l) => ∀ J tj vj G' H', S0 c G' H' (tj ++ th) r (vj ++ ta) si → Wk c J ds tj vj → (∀ (G H : Hp) (th r : Rho) (ta : List (Option V)), S0 c G H (tj ++ th) r (vj ++ ta) si → S0 c G H th (r.set i (some l)) ta si) → R J H'
      | .exc x r => ∀ cls od G' H', S0 c G' H' th r ta si → XR s x cls od H' → W cls od si H'
      | .stuck => False) → wi si H R
def itO : L → Option (List D)
  | .lst ks => allD ks
  | .fz d => itD d
  | _ => none
def iOwn (i : Nat) : Ivp := fun r => match r[i]? with
  | some (some l) => (match itO l with
    | some ds => .ok (ds, r.set i none, l)
    | none => .stuck)
  | _ => .stuck
theorem Dip.own : Dip s W i (iAny s.K (tVar i)) (iOwn i) := fun c hc G H th rh ta si R h q => by
  subst hc
  unfold iOwn at q
  cases e : rh[i]? with
  | none => rw [e] at q; exact q.elim
  | some o =>
    cases o with
    | none => rw [e] at q; exact q.elim
    | some l =>
      rw [e] at q
      simp only at q
      cases e2 : itO l with
      | none => rw [e2] at q; exact q.elim
      | some ds =>
        rw [e2] at q
        obtain ⟨v, ev, h1⟩ := h.take e
        have back : ∀ (t1 : Rho) (v1 : List (Option V)), t1 = [some l] → v1 = [some v] → ∀ (G H : Hp) (th r : Rho) (ta : List (Option V)), S0 c G H (t1 ++ th) r (v1 ++ ta) si → S0 c G H th (r.set i (some l)) ta si := fun t1 v1 e1 e2 G' H' th' r' ta' h' => by
          subst e1 e2
          have hl := h'.len
          have hi := (List.getElem?_eq_some_iff.mp ev).1
          exact S0.back (th := th') (ta := ta') h' (by omega) ev
        refine ⟨v, ev, ?_⟩
        cases l with
        | lst ks =>
          obtain ⟨a, ws, rfl, k1, _, dt⟩ := h1.vw.seqD h1.gh (b := true) (ds := ds) (by simp [Dl.seqD, L.seq, show allD ks = some ds from e2])
          refine .inl ⟨a, rfl, ⟨ws, k1 rfl⟩, q _ [some (.lst ks)] [some (.ref a)] G H h1 (wk_list rfl fun G' H' th' rh' ta' si' h' => ?_) (back _ _ rfl rfl)⟩
          obtain ⟨a', ws', ea, h1', _, dt'⟩ := S0.vw (th := th') (ta := ta') h' |>.seqD h'.gh (b := true) (ds := ds) (by simp [Dl.seqD, L.seq, show allD ks = some ds from e2])
          cases ea
          exact ⟨ws', h1' rfl, dt'⟩
        | fz d =>
          rcases it_view h1 e2 with ⟨a, ev', hs, wk⟩ | ⟨a, ev', hs, wk⟩ | ⟨z, ev', ed⟩
          · exact .inl ⟨a, ev', hs, q _ _ _ G H h1 wk (back _ _ rfl rfl)⟩
          · exact .inr (.inl ⟨a, ev', hs, q _ _ _ G H h1 wk (back _ _ rfl rfl)⟩)
          · refine .inr (.inr ⟨z, ev', ?_⟩)
            subst ed
            cases e2
            refine q _ [some (.fz (.str z))] [some v] G H h1 ⟨rfl, fun k G' H' th' rh' ta' si' h' => ?_⟩ (back _ _ rfl rfl)
            exact (wk_str (c := c)).run k G' H' (some (.fz (.str z)) :: th') rh' (some v :: ta') si' h'
        | dct _ _ => cases e2
        | obj _ _ => cases e2
def eLcP (vs : List Nat) (i0 : Nat) (fi : Ivp) (b : Bv) (ct : Tv) (fe : Ev) : Ev := fun r => (fi r).bind fun (ds, r1, lp) => if ds.length ≤ sizeLine then (lcL b ct fe vs ds (wipeR r1 vs)).bind fun (es, r2) => .ok (.lst (es.map .fz), (wipeR r2 vs).set i0 (some lp)) else .stuck
theorem De.lcP {bs vs : List Nat} {i0 : Nat} {wi : TI} {fi : Ivp} {g : TG} {b : Bv} {tt : TT} {ct : Tv} {te : TE} {fe : Ev} (h1 : Dip s W i0 wi fi) (hi0 : i0 ∉ vs) (h2 : Dg s bs g b) (h3 : Dc s W0 tt ct) (h4 : De s W0 te fe) (hv : ∀ i ∈ vs, s.pin[i]? ≠ some true) (hb : ∀ j ∈ bs, j ∈ vs) :
    De s W (tLc wi g tt te vs) (eLcP vs i0 fi b ct fe) := fun c hc G H th rh ta si Q h q => by
  refine h1 c hc G H th rh ta si _ h ?_
  unfold eLcP at q
  cases e : fi rh with
  | stuck => rw [e] at q; exact q.elim
  | exc x r => rw [e] at q; exact q
  | ok lr =>
    obtain ⟨ds, r1, lp⟩ := lr
    rw [e] at q
    simp only [Out.bind_ok] at q
    intro J tj vj G1 H1 h5 wk back Dp nD
    have hvc : ∀ i ∈ vs, c.pin[i]? ≠ some true := by
      intro i m
      have e1 : c.pin = s.pin := by rw [← hc]
      rw [e1]; exact hv i m
    by_cases hsz : ds.length ≤ sizeLine
    · rw [if_pos hsz] at q
      have h6 : S0 c G1 H1 (tj ++ th) (wipeR r1 vs) (vj ++ ta) (wipe si vs) := h5.wipe hvc (wipe_length _ _) fun j m => by rw [wipe_at, if_neg m]
      have h7 : S0 c G1 (upd H1 Dp (.lst [])) (some (.lst []) :: (tj ++ th)) (wipeR r1 vs) (some (.ref Dp) :: (vj ++ ta)) (wipe si vs) := h6.new (g := []) nD (by simpa using Ow.lst (ks := []) upd_same .nil .nil)
      have h8 := h7.sink wk.len
      let Cn : List D → Out Rho (List D × Rho) → Prop := fun acc o => match o with
        | .ok (es, r) => ∀ v G' H', S0 c G' H' (some (.lst ((acc ++ es).map .fz)) :: th) ((wipeR r vs).set i0 (some lp)) (some v :: ta) si → Q v H'
        | _ => False
      have q0 : Cn [] (lcL b ct fe vs ds (wipeR r1 vs)) := by
        cases e3 : lcL b ct fe vs ds (wipeR r1 vs) with
        | stuck => rw [e3] at q; exact q.elim
        | exc x r => exact (lc_noexc e3).elim
        | ok er => rw [e3] at q; exact q
      refine ⟨fun i m H => m = ds.length - i ∧ i ≤ ds.length ∧ ∃ G r acc, acc.length ≤ i ∧ S0 c G H (tj ++ some (.lst (acc.map .fz)) :: th) r (vj ++ some (.ref Dp) :: ta) (wipe si vs) ∧ Cn acc (lcL b ct fe vs (ds.drop i) r), ⟨ds.length, by simp, Nat.zero_le _, G1, _, [], Nat.zero_le _, h8, q0⟩, ?_⟩
      rintro i m H2 ⟨rfl, hi, G2, r2, acc, ha, h9, q2⟩
      obtain ⟨w1, w2⟩ := wk.run i G2 H2 _ r2 _ _ h9
      by_cases hlt : i < ds.length
      · right
        obtain ⟨go, yl⟩ := w1 ds[i] (by simp [hlt])
        rw [show ds.drop i = ds[i] :: ds.drop (i + 1) from by rw [List.getElem_cons_drop]] at q2
        unfold lcL at q2
        cases e1 : b ds[i] r2 with
        | none => rw [e1] at q2; exact q2.elim
        | some r3 =>
          rw [e1] at q2
          simp only at q2
          refine ⟨go, fun H' => ∃ G r acc, acc.length ≤ i + 1 ∧ S0 c G H' (tj ++ some (.lst (acc.map .fz)) :: th) r (vj ++ some (.ref Dp) :: ta) (wipe si vs) ∧ Cn acc (lcL b ct fe vs (ds.drop (i + 1)) r), fun H' hh => ⟨ds.length - (i + 1), by omega, rfl, hlt, hh⟩, fun x H3 y => ?_⟩
          obtain ⟨G3, dt, h10⟩ := yl x H3 y
          refine h2 c hc G3 H3 _ r2 r3 _ _ _ x _ h10 dt e1 fun si4 h11 hl4 hk4 => ⟨wipe_eq (by rw [hl4, wipe_length]) hk4 hb, ?_⟩
          have weq := wipe_eq (σ := si) (σ' := si4) (vs := vs) (by rw [hl4, wipe_length]) hk4 hb
          refine h3 c hc G3 H3 _ r3 _ si4 _ h11 ?_
          cases e2 : ct r3 with
          | stuck => rw [e2] at q2; exact q2.elim
          | exc x r => rw [e2] at q2; exact q2.elim
          | ok tr =>
            obtain ⟨t, r4⟩ := tr
            rw [e2] at q2
            simp only [Out.nox, Out.bind_ok] at q2
            intro G4 H4 h12
            cases t with
            | false =>
              simp only [Bool.false_eq_true, if_false] at q2 ⊢
              refine ⟨G4, wipeR r4 vs, acc, by omega, ?_, q2⟩
              rw [← weq]
              exact h12.wipe hvc (wipe_length _ _) fun j m => by rw [wipe_at, if_neg m]
            | true =>
              simp only [if_true] at q2 ⊢
              refine h4 c hc G4 H4 _ r4 _ si4 _ h12 ?_
              cases e3 : fe r4 with
              | stuck => rw [e3] at q2; exact q2.elim
              | exc x r => rw [e3] at q2; exact q2.elim
              | ok lr =>
                obtain ⟨l, r5⟩ := lr
                rw [e3] at q2
                simp only [Out.bind_ok] at q2
                intro y G5 H5 h13
                obtain ⟨G6, sg, dt6, h14⟩ := h13.freeze
                have h15 := S0.rot h14 wk.len
                obtain ⟨f1, o, nd, kk, j⟩ := S0.split (t1 := [some (.lst (acc.map .fz))]) (v1 := [some (.ref Dp)]) h15 rfl
                cases o with
                | @lst p ws ks f1 _ _ f2 hp o1 o2 =>
                  cases o2
                  obtain ⟨dta, ef⟩ := Ow.toDt (ds := acc) (vs := ws) (by simpa [List.map_map, Function.comp_def] using o1)
                  subst ef
                  have hwl := dta.length
                  refine ⟨ws, hp, by omega, G6, wipeR r5 vs, acc ++ [l.toD], by simp; omega, ?_, ?_⟩
                  · have gD : G6 Dp = none := kk Dp (by simp)
                    have h16 := j.run G6 (upd H5 Dp (.lst (ws ++ [y]))) [some (.lst ((acc ++ [l.toD]).map .fz))] [some (.ref Dp)] [Dp]
                      (by
                        have o3 : Ow c.K c.ct G6 (upd H5 Dp (.lst (ws ++ [y]))) ((acc ++ [l.toD]).map (fun d => some (L.fz d))) ((ws ++ [y]).map some) [] := Ow.ofDt (dta.app dt6)
                        have := Ow.lst (ks := (acc ++ [l.toD]).map .fz) (ws := ws ++ [y]) (p := Dp) (upd_same (H := H5)) (by simpa [List.map_map, Function.comp_def] using o3) .nil
                        simpa using this)
                      (by simp) (by simp [gD]) (fun _ _ z => z) (fun a u z => by
                        rw [upd_ne (fun e => by rw [e, gD] at z; cases z)]
                        exact h15.gh a u z)
                      (fun a u z n => by rw [upd_ne (by simpa using n)]; exact z) (fun a z => .inl z)
                    have h17 := S0.sink (t1 := tj) (v1 := vj) (th := th) (ta := ta) h16 wk.len
                    rw [← weq]
                    exact h17.wipe hvc (wipe_length _ _) fun j m => by rw [wipe_at, if_neg m]
                  · cases e4 : lcL b ct fe vs (ds.drop (i + 1)) (wipeR r5 vs) with
                    | stuck => rw [e4] at q2; exact q2.elim
                    | exc x r => exact (lc_noexc e4).elim
                    | ok er =>
                      obtain ⟨es, r6⟩ := er
                      rw [e4] at q2
                      have q3 : ∀ v G' H', S0 c G' H' (some (.lst ((acc ++ l.toD :: es).map .fz)) :: th) ((wipeR r6 vs).set i0 (some lp)) (some v :: ta) si → Q v H' := q2
                      show ∀ v G' H', S0 c G' H' (some (.lst (((acc ++ [l.toD]) ++ es).map .fz)) :: th) ((wipeR r6 vs).set i0 (some lp)) (some v :: ta) si → Q v H'
                      rw [List.append_assoc]
                      exact q3
      · left
        have e2 : i = ds.length := by omega
        refine ⟨w2 (by omega), ?_⟩
        rw [e2, List.drop_length] at q2
        have q3 : ∀ v G' H', S0 c G' H' (some (.lst ((acc ++ []).map .fz)) :: th) ((wipeR r2 vs).set i0 (some lp)) (some v :: ta) si → Q v H' := q2
        rw [List.append_nil] at q3
        refine q3 _ G2 H2 ?_
        have h10 := h9.wipe hvc (wipe_length _ _).symm fun j m => by rw [wipe_at, if_neg m]
        exact back _ _ _ _ _ h10
    · rw [if_neg hsz] at q; exact q.elim
theorem ed_lcP {bs : List Nat} {elt tg iter : Expr} {ifs : List Expr} {scope : Scope} {own : List (Str × Nat)} {pos : Pos} {g : TG} {tt : TT} {te : TE} {b ct fe} (hk : X.K = s.K) (hc : X.calm = true) (hN : X.N.Nodup) (hi : PE X iter (tVar i)) (hi0 : i ∉ own.map (·.2)) (ok : BlkOk X.N X.env.scope scope own)
    (hg : ∀ (z : Shared) (H : Hp) (C : Addr) (cl : List (Str × Addr)) (fp : List Addr), Tg (X.blk z H scope (compEnvC scope cl C X.env) fp) s bs tg g b) (ht : ∀ (z : Shared) (H : Hp) (C : Addr) (cl : List (Str × Addr)) (fp : List Addr), Ets (X.blk z H scope (compEnvC scope cl C X.env) fp) s W0 ifs tt ct)
    (he : ∀ (z : Shared) (H : Hp) (C : Addr) (cl : List (Str × Addr)) (fp : List Addr), Ed (X.blk z H scope (compEnvC scope cl C X.env) fp) s W0 elt te fe) (hv : ∀ i ∈ own.map (·.2), s.pin[i]? ≠ some true) (hb : ∀ j ∈ bs, j ∈ own.map (·.2)) (hs : ∀ x, foldedSetIterable iter X.env x = pure x := by intro _; rfl)
    (z : Shared) (H : Hp) (C : Addr) (cl : List (Str × Addr)) :
    Ed X s W (.ListComp elt [⟨tg, iter, ifs, 0⟩] scope pos) (tLc (iAny X.K (tVar i)) g tt te (own.map (·.2))) (eLcP (own.map (·.2)) i (iOwn i) b ct fe) :=
  ⟨pe_lc hc hN (pi_any hi) ok (fun z H C cl fp => (hg z H C cl fp).pg) (fun z H C cl fp => (ht z H C cl fp).pts) (fun z H C cl fp => (he z H C cl fp).pe) hs,
    by rw [hk]; exact De.lcP Dip.own hi0 (hg z H C cl []).dg (ht z H C cl []).dc (he z H C cl []).de hv hb⟩
theorem sd_setLcP {j : Nat} {y : Str} {py : Pos} {bs : List Nat} {elt tg iter : Expr} {ifs : List Expr} {scope : Scope} {own : List (Str × Nat)} {pos spos : Pos} {g : TG} {tt : TT} {te : TE} {b ct fe} (hk : X.K = s.K) (hc : X.calm = true) (hN : X.N.Nodup) (hy : X.N[j]? = some y) (hyl : X.env.scope.names.lookup y = some .local) (hp : s.pin[j]? ≠ some true) (hsw : swapsWith (.ListComp elt [⟨tg, iter, ifs, 0⟩] scope pos) (some (.Name y py)) spos.line X.env = pure true) (hi : PE X iter (tVar i)) (hi0 : i ∉ own.map (·.2)) (ok : BlkOk X.N X.env.scope scope own)
    (hg : ∀ (z : Shared) (H : Hp) (C : Addr) (cl : List (Str × Addr)) (fp : List Addr), Tg (X.blk z H scope (compEnvC scope cl C X.env) fp) s bs tg g b) (ht : ∀ (z : Shared) (H : Hp) (C : Addr) (cl : List (Str × Addr)) (fp : List Addr), Ets (X.blk z H scope (compEnvC scope cl C X.env) fp) s W0 ifs tt ct)
    (he : ∀ (z : Shared) (H : Hp) (C : Addr) (cl : List (Str × Addr)) (fp : List Addr), Ed (X.blk z H scope (compEnvC scope cl C X.env) fp) s W0 elt te fe) (hv : ∀ i ∈ own.map (·.2), s.pin[i]? ≠ some true) (hb : ∀ j ∈ bs, j ∈ own.map (·.2)) (hs : ∀ x, foldedSetIterable iter X.env x = pure x := by intro _; rfl)
    (z : Shared) (H : Hp) (C : Addr) (cl : List (Str × Addr)) :
    Sd X s W (.Assign [.Name y py] (.ListComp elt [⟨tg, iter, ifs, 0⟩] scope pos) spos) (tAsg (tLc (iAny X.K (tVar i)) g tt te (own.map (·.2))) (gName j)) (gSet j (eLcP (own.map (·.2)) i (iOwn i) b ct fe)) :=
  ⟨ps_setLc hc hN hy hyl hsw (pi_any hi) ok (fun z H C cl fp => (hg z H C cl fp).pg) (fun z H C cl fp => (ht z H C cl fp).pts) (fun z H C cl fp => (he z H C cl fp).pe) hs,
    Ds.set (by rw [hk]; exact De.lcP Dip.own hi0 (hg z H C cl []).dg (ht z H C cl []).dc (he z H C cl []).de hv hb) hp⟩
end
end Dl
namespace Dl
open PySem L2

/-! ### small facts that the walks lean on -/
theorem ne_of1 {p : List Bool} {i : Nat} (h : (p[i]? != some true) = true) : p[i]? ≠ some true := by simpa using h
def okPin (p : List Bool) (vs : List Nat) : Bool := vs.all fun i => p[i]? != some true
theorem okPin_all {p : List Bool} {vs : List Nat} (h : okPin p vs = true) : ∀ i ∈ vs, p[i]? ≠ some true := fun i m => ne_of1 (List.all_eq_true.mp h i m)
theorem hu0_of {A : Around} {k : Nat} (hr : Room k A) : A.units + 1 < cLine := by have := hr.un; omega
theorem huE_of {A : Around} {k : Nat} (hr : Room k A) : A.units + 64 < cLine := by have := hr.un; omega
theorem hu1_of {A : Around} {k : Nat} (hr : Room k A) : A.units + 65 < cLine := by have := hr.un; omega
section
variable {X : Cx} {s : Cs} {W : WX} {e x y tg : Expr} {t t1 t2 : TE} {f f1 f2 : Ev} {a : Av} {ts : List TE}
/-- what is never come to -/
theorem sd_stuck {st : Stmt} : Sd X s W st (fun _ _ _ => False) (fun _ => .stuck) := ⟨⟨fun _ _ _ _ _ _ h => h.elim⟩, fun _ _ _ _ _ _ _ _ _ _ q => q⟩
theorem ed_stuck : Ed X s W e (fun _ _ _ => False) (fun _ => .stuck) := ⟨⟨fun _ _ _ _ _ _ h => h.elim⟩, fun _ _ _ _ _ _ _ _ _ _ q => q⟩

/-! ### list(range(n)), tuple(range(n)), reversed(range(n)) -/
theorem rgV_rep {K : PySem.W.Frag} {ct : Str → Option Addr} {G : Hp} (a b : Int) : Dt K ct G (rngD a (b - a).toNat) (rgV a b) := by
  unfold rngD rgV
  rw [show (fun i : Nat => D.int (a + (i : Nat))) = (D.int ∘ fun i : Nat => a + (i : Int)) from rfl, show (fun i : Nat => V.int (a + (i : Nat))) = (V.int ∘ fun i : Nat => a + (i : Int)) from rfl, ← List.map_map, ← List.map_map]
  exact Dt.ints _
def rgOk1 (j : Int) : Bool := decide (-(2 ^ 62) ≤ j) && decide (j < 2 ^ 62) && decide (j.toNat ≤ 2 ^ 24)
def eRg1 (lst : Bool) (f : Ev) : Ev := fun r => (f r).bind fun (l, r1) => match asI l with
  | some j => if rgOk1 j then .ok (if lst then .lst ((rngD 0 j.toNat).map .fz) else .fz (.tup (rngD 0 j.toNat)), r1) else .stuck
  | none => .stuck
abbrev eLRg1 (f : Ev) : Ev := eRg1 true f
abbrev eTRg1 (f : Ev) : Ev := eRg1 false f
theorem rg1_sub (j : Int) : j - 0 = j := by omega
theorem De.lstRg1 (h : De s W t f) : De s W (tLstRg (tRg1 t)) (eLRg1 f) := fun c hc G H th rh ta si Q h0 q => by
  refine h c hc G H th rh ta si _ h0 ?_
  unfold eLRg1 eRg1 at q
  cases e : f rh with
  | stuck => rw [e] at q; exact q.elim
  | exc x r => rw [e] at q; exact q
  | ok lr =>
    obtain ⟨l, r1⟩ := lr
    rw [e] at q
    simp only [Out.bind_ok] at q
    intro v G1 H1 h3
    cases ej : asI l with
    | none => rw [ej] at q; exact q.elim
    | some j =>
      rw [ej] at q
      simp only at q
      obtain rfl := asI_some ej
      by_cases hj : rgOk1 j = true
      · rw [if_pos hj] at q
        unfold rgOk1 at hj
        simp only [Bool.and_eq_true, decide_eq_true_eq] at hj
        refine ⟨j, h3.vw.int, ⟨by omega, by omega, hj.1.1, hj.1.2, by omega⟩, fun p np => ?_⟩
        have hd := rgV_rep (K := c.K) (ct := c.ct) (G := G1) 0 j
        rw [show (j - 0).toNat = j.toNat by omega] at hd
        exact q _ G1 _ (h3.pop.newLst hd np)
      · rw [if_neg hj] at q; exact q.elim
theorem De.tupRg1 (h : De s W t f) : De s W (tTupRg (tRg1 t)) (eTRg1 f) := fun c hc G H th rh ta si Q h0 q => by
  refine h c hc G H th rh ta si _ h0 ?_
  unfold eTRg1 eRg1 at q
  cases e : f rh with
  | stuck => rw [e] at q; exact q.elim
  | exc x r => rw [e] at q; exact q
  | ok lr =>
    obtain ⟨l, r1⟩ := lr
    rw [e] at q
    simp only [Out.bind_ok] at q
    intro v G1 H1 h3
    cases ej : asI l with
    | none => rw [ej] at q; exact q.elim
    | some j =>
      rw [ej] at q
      simp only at q
      obtain rfl := asI_some ej
      by_cases hj : rgOk1 j = true
      · rw [if_pos hj] at q
        unfold rgOk1 at hj
        simp only [Bool.and_eq_true, decide_eq_true_eq] at hj
        refine ⟨j, h3.vw.int, ⟨by omega, by omega, hj.1.1, hj.1.2, by omega⟩, fun p np => ?_⟩
        have hd := rgV_rep (K := c.K) (ct := c.ct) (G := G1) 0 j
        rw [show (j - 0).toNat = j.toNat by omega] at hd
        obtain ⟨G2, h4⟩ := h3.pop.newTup hd np
        exact q _ G2 _ h4
      · rw [if_neg hj] at q; exact q.elim
theorem ed_lstRg1 {p p2 pos pos2 : Pos} (hk : X.K = s.K) (hc : X.calm = true) (hg : Gl X "list") (hm : X.mg "list" = none) (hg2 : Gl X "range") (hm2 : X.mg "range" = none) (h : Ed X s W x t f)
    (na : starEach [x] X.env = (false, eval x X.env) :: starEach [] X.env := by rfl) (na2 : starEach [.Call (.Name "range" p2) [x] [] pos2] X.env = (false, eval (.Call (.Name "range" p2) [x] [] pos2) X.env) :: starEach [] X.env := by rfl) :
    Ed X s W (.Call (.Name "list" p) [.Call (.Name "range" p2) [x] [] pos2] [] pos) (tLstRg (tRg1 t)) (eLRg1 f) := ⟨pe_listRg hc hg hm (prg_1 hg2 hm2 h.pe na) na2, De.lstRg1 h.de⟩
theorem ed_tupRg1 {p p2 pos pos2 : Pos} (hk : X.K = s.K) (hc : X.calm = true) (hg : Gl X "tuple") (hm : X.mg "tuple" = none) (hg2 : Gl X "range") (hm2 : X.mg "range" = none) (h : Ed X s W x t f)
    (na : starEach [x] X.env = (false, eval x X.env) :: starEach [] X.env := by rfl) (na2 : starEach [.Call (.Name "range" p2) [x] [] pos2] X.env = (false, eval (.Call (.Name "range" p2) [x] [] pos2) X.env) :: starEach [] X.env := by rfl) :
    Ed X s W (.Call (.Name "tuple" p) [.Call (.Name "range" p2) [x] [] pos2] [] pos) (tTupRg (tRg1 t)) (eTRg1 f) := ⟨pe_tupRg hc hg hm (prg_1 hg2 hm2 h.pe na) na2, De.tupRg1 h.de⟩
end
end Dl
namespace Dl
open PySem L2
/-- the law's own def at a script -/
theorem sp_true {K : PySem.W.Frag} {ct : Str → Option Addr} {F : Fv} {a : Addr} {ns : List Int} {H : Hp} {Q : VK} {E : XK} (h : ∃ ls, F [.fz (.scr ns)] = .ok (.fz (.bl true), ls)) (sq : SqL K H a (ns.map V.int)) (k : ∀ H', Q (.bl true) H') : dSp K ct 1 F [.ref a] H Q E := by
  obtain ⟨ls, h⟩ := h
  refine ⟨rfl, H, [.fz (.scr ns)], [], .fz (.scr sq .nil) .nil, by simp, by simp, fun _ _ z => z, ?_⟩
  rw [h]
  intro v G' H' fp b
  obtain ⟨f1, f2, o1, o2, rfl⟩ := Ow.split (l1 := [some (.fz (.bl true))]) (v1 := [some v]) rfl b.ow
  cases o1 with
  | fz d _ =>
    rw [dt_bl d]
    exact k H'
end Dl
namespace Dl
open PySem L2

/-! ### what things come to, as rules for simp -/
/-- still things as a list's items -/
def fzs (ds : List D) : List L := ds.map .fz
@[simp] theorem allD_fzs {ds : List D} : allD (fzs ds) = some ds := allD_fz ds
@[simp] theorem fzs_length {ds : List D} : (fzs ds).length = ds.length := by simp [fzs]
@[simp] theorem fzs_snoc {ds : List D} {d : D} : fzs ds ++ [.fz d] = fzs (ds ++ [d]) := by simp [fzs]
@[simp] theorem fzs_toD {ds : List D} : (fzs ds).map L.toD = ds := by simp [fzs, L.toD, Function.comp_def]
@[simp] theorem fzs_last {ds : List D} : (fzs ds).getLast? = ds.getLast?.map .fz := by simp [fzs]
@[simp] theorem fzs_drop {ds : List D} : (fzs ds).dropLast = fzs ds.dropLast := by simp [fzs, List.map_dropLast]
@[simp] theorem fzs_rev {ds : List D} : (fzs ds).reverse = fzs ds.reverse := by simp [fzs]
@[simp] theorem fzs_set {ds : List D} {j : Nat} {d : D} : (fzs ds).set j (.fz d) = fzs (ds.set j d) := by simp [fzs, List.map_set]
@[simp] theorem fzs_at {ds : List D} {j : Nat} : (fzs ds)[j]? = ds[j]?.map .fz := by simp [fzs]
@[simp] theorem fzs_eq {ds es : List D} : fzs ds = fzs es ↔ ds = es := by
  constructor
  · intro h
    have := congrArg (List.map L.toD) h
    simpa using this
  · intro h; rw [h]
@[simp] theorem seqD_fzs {ds : List D} : seqD (.lst (fzs ds)) = some (true, ds) := seqD_own
@[simp] theorem lstD_fzs {ds : List D} : lstD (.lst (fzs ds)) = some ds := lstD_own
@[simp] theorem lsq_fzs {ds : List D} : lsq (.lst (fzs ds)) = some ds := by simp [lsq]
@[simp] theorem lsq_fl {ds : List D} : lsq (.fz (.lst ds)) = some ds := by simp [lsq]
section
variable {r : Rho} {e e1 e2 f g h : Ev} {a : Av} {i j : Nat} {F : Fv} {ms : List (Option Nat)} {l l' : L} {ls : List L} {c c1 c2 : Tv} {b : Bv} {s1 s2 : Sv} {fi : Iv}
@[simp] theorem gSeq_ap : gSeq s1 s2 r = (s1 r).bind fun (fl, r1) => match fl with
  | .nx => s2 r1
  | fl => .ok (fl, r1) := id rfl
@[simp] theorem gNx_ap : gNx r = .ok (.nx, r) := id rfl
@[simp] theorem gFl_ap {fl : Fl} : gFl fl r = .ok (fl, r) := id rfl
@[simp] theorem gDrop_ap : gDrop e r = (e r).bind fun (_, r1) => .ok (.nx, r1) := id rfl
@[simp] theorem gRet_ap : gRet e r = (e r).bind fun (l, r1) => .ok (.ret l, r1) := id rfl
@[simp] theorem gRetP_ap : gRetP i r = match r[i]? with
  | some (some l) => .ok (.ret l, r.set i none)
  | _ => .stuck := id rfl
@[simp] theorem gIf_ap : gIf c s1 s2 r = (c r).bind fun (b, r1) => if b then s1 r1 else s2 r1 := id rfl
@[simp] theorem gSet_ap : gSet i e r = (e r).bind fun (l, r1) => if i < r1.length then .ok (.nx, r1.set i (some l)) else .stuck := id rfl
@[simp] theorem gAsg_ap : gAsg b e r = (e r).bind fun (l, r1) => match b l.toD r1 with
  | some r2 => .ok (.nx, r2)
  | none => .stuck := id rfl
@[simp] theorem gFor_ap : gFor fi b s1 r = (fi r).bind fun (ds, r1) => forL b s1 ds r1 := id rfl
@[simp] theorem forL_nil : forL b s1 [] r = .ok (.nx, r) := id rfl
@[simp] theorem bName_ap {d : D} : bName i d r = if i < r.length then some (r.set i (some (.fz d))) else none := id rfl
@[simp] theorem bTup_ap {bs : Bvs} {n : Nat} {ds : List D} : bTup bs n (.tup ds) r = if ds.length = n then bs ds r else none := id rfl
@[simp] theorem bCons_ap {bs : Bvs} {d : D} {ds : List D} : bCons b bs (d :: ds) r = (b d r).bind fun r1 => bs ds r1 := id rfl
@[simp] theorem bNil_ap : bNil [] r = some r := id rfl
@[simp] theorem eC_ap {d : D} : eC d r = .ok (.fz d, r) := id rfl
@[simp] theorem eV_ap : eV i r = match r[i]? with
  | some (some (.fz d)) => .ok (.fz d, r)
  | some (some l) => .ok (.fz l.toD, r.set i (some (.fz l.toD)))
  | _ => .stuck := id rfl
@[simp] theorem eZ_ap : eZ e r = (e r).bind fun (l, r1) => .ok (.fz l.toD, r1) := id rfl
@[simp] theorem aNil_ap : aNil r = .ok ([], r) := id rfl
@[simp] theorem aV_ap : aV e a r = (e r).bind fun (l, r1) => (a r1).bind fun (ls, r2) => .ok (l :: ls, r2) := id rfl
@[simp] theorem aP_ap : aP i a r = match r[i]? with
  | some (some _) => (a r).bind fun (ls, r2) => match r2[i]? with
    | some (some l) => .ok (l :: ls, r2.set i none)
    | _ => .stuck
  | _ => .stuck := id rfl
@[simp] theorem eO_ap : eO ms a F r = (a r).bind fun (ls, r1) => match F ls with
  | .ok (l, ls') => .ok (l, backs ms ls' r1)
  | .exc x ls' => .exc x (backs ms ls' r1)
  | .stuck => .stuck := id rfl
@[simp] theorem backs_s : backs (some i :: ms) (l :: ls) r = backs ms ls (r.set i (some l)) := id rfl
@[simp] theorem backs_n : backs (none :: ms) (l :: ls) r = backs ms ls r := id rfl
@[simp] theorem backs_0 : backs [] ls r = r := by cases ls <;> rfl
@[simp] theorem backs_1 : backs ms [] r = r := by
  cases ms with
  | nil => rfl
  | cons m ms => cases m <;> rfl
@[simp] theorem cB_ap : cB e r = (e r).bind fun (l, r1) => match asB l with
  | some b => .ok (b, r1)
  | none => .stuck := id rfl
@[simp] theorem asB_bl {b : Bool} : asB (.fz (.bl b)) = some b := id rfl
@[simp] theorem cNot_ap : cNot c r = (c r).bind fun (b, r1) => .ok (!b, r1) := id rfl
@[simp] theorem cAnd_ap : cAnd c1 c2 r = (c1 r).bind fun (b, r1) => if b then c2 r1 else .ok (false, r1) := id rfl
@[simp] theorem cOr_ap : cOr c1 c2 r = (c1 r).bind fun (b, r1) => if b then .ok (true, r1) else c2 r1 := id rfl
@[simp] theorem cYes_ap : cYes r = .ok (true, r) := id rfl
@[simp] theorem eAnd_ap : eAnd f g r = (f r).bind fun (l, r1) => match asB l with
  | some true => g r1
  | some false => .ok (.fz (.bl false), r1)
  | none => .stuck := id rfl
@[simp] theorem eOr_ap : eOr f g r = (f r).bind fun (l, r1) => match asB l with
  | some true => .ok (.fz (.bl true), r1)
  | some false => g r1
  | none => .stuck := id rfl
@[simp] theorem eNot_ap : eNot f r = (f r).bind fun (l, r1) => match asB l with
  | some b => .ok (.fz (.bl (!b)), r1)
  | none => .stuck := id rfl
@[simp] theorem eIf_ap : eIf c f g r = (c r).bind fun (b, r1) => if b then f r1 else g r1 := id rfl
@[simp] theorem eRV_ap {P : L → Bool} : eRV P e ms a F r = (e r).bind fun (l, r1) => if P l then eO (none :: ms) (fun r => (a r).bind fun (ls, r2) => .ok (l :: ls, r2)) F r1 else .stuck := id rfl
@[simp] theorem eRP_ap {P : L → Bool} : eRP P i ms a F r = match r[i]? with
  | some (some l) => if P l then eO (some i :: ms) (aP i a) F r else .stuck
  | _ => .stuck := id rfl
@[simp] theorem eThen_ap {k : L → Option L} : eThen f k r = (f r).bind fun (l, r1) => match k l with
  | some l' => .ok (l', r1)
  | none => .stuck := id rfl
@[simp] theorem eThenP_ap {k : L → Option L} : eThenP i k r = match r[i]? with
  | some (some l) => (match k l with
    | some l' => .ok (l', r)
    | none => .stuck)
  | _ => .stuck := id rfl
@[simp] theorem oNo_ap : oNo r = .ok (none, r) := id rfl
@[simp] theorem oSo_ap : oSo f r = (f r).bind fun (l, r1) => match asI l with
  | some i => .ok (some i, r1)
  | none => .stuck := id rfl
@[simp] theorem eSlV_ap {lo hi : Rho → Out Rho (Option Int × Rho)} : eSlV e lo hi r = (e r).bind fun (x, r1) => (lo r1).bind fun (a, r2) => (hi r2).bind fun (b, r3) => match oSl x a b with
  | some l => .ok (l, r3)
  | none => .stuck := id rfl
@[simp] theorem gStore_ap : gStore i f e r = (e r).bind fun (l, r1) => match r1[i]? with
  | some (some _) => (f r1).bind fun (k, r2) => (match r2[i]?, asI k with
    | some (some (.lst ks)), some n => (match ixN ks.length n with
      | some j => .ok (.nx, r2.set i (some (.lst (ks.set j (.fz l.toD)))))
      | none => .stuck)
    | _, _ => .stuck)
  | _ => .stuck := id rfl
@[simp] theorem iR1_ap : iR1 a r = (a r).bind fun (ls, r1) => match ls with
  | [x] => (match asI x with
    | some j => if lim j then .ok (rngD 0 j.toNat, r1) else .stuck
    | none => .stuck)
  | _ => .stuck := id rfl
@[simp] theorem iR2_ap : iR2 a r = (a r).bind fun (ls, r1) => match ls with
  | [x, y] => (match asI x, asI y with
    | some i, some j => if lim i && lim j then .ok (rngD i (j - i).toNat, r1) else .stuck
    | _, _ => .stuck)
  | _ => .stuck := id rfl
@[simp] theorem iItem_ap : iItem f r = (f r).bind fun (l, r1) => match itD l.toD with
  | some ds => .ok (ds, r1)
  | none => .stuck := id rfl
@[simp] theorem iEnumD_ap : iEnumD f r = (f r).bind fun (l, r1) => match sqD l.toD with
  | some (true, ds) => .ok (enumD 0 ds, r1)
  | _ => .stuck := id rfl
@[simp] theorem iRevD_ap : iRevD f r = (f r).bind fun (l, r1) => match sqD l.toD with
  | some (_, ds) => .ok (ds.reverse, r1)
  | none => .stuck := id rfl
@[simp] theorem eLc_ap {vs : List Nat} : eLc vs fi b c f r = (fi r).bind fun (ds, r1) => if ds.length ≤ sizeLine then (lcL b c f vs ds (wipeR r1 vs)).bind fun (es, r2) => .ok (.lst (fzs es), wipeR r2 vs) else .stuck := id rfl
@[simp] theorem wipeR_nil : wipeR r [] = r := id rfl
@[simp] theorem wipeR_cons {v : Nat} {vs : List Nat} : wipeR r (v :: vs) = (wipeR r vs).set v none := id rfl
@[simp] theorem toD_fz {d : D} : (L.fz d).toD = d := id rfl
@[simp] theorem toD_lst {ks : List L} : (L.lst ks).toD = .lst (ks.map L.toD) := by simp only [L.toD, toDs_map]
@[simp] theorem toD_comp : (L.toD ∘ L.fz) = id := id rfl
@[simp] theorem sqD_lst {ds : List D} : sqD (.lst ds) = some (true, ds) := by simp [sqD]
@[simp] theorem sqD_tup {ds : List D} : sqD (.tup ds) = some (false, ds) := by simp [sqD]
@[simp] theorem sqD_scr {ns : List Int} : sqD (.scr ns) = some (true, ns.map D.int) := by simp [sqD]
@[simp] theorem itD_lst {ds : List D} : itD (.lst ds) = some ds := id rfl
@[simp] theorem itD_tup {ds : List D} : itD (.tup ds) = some ds := id rfl
@[simp] theorem itD_scr {ns : List Int} : itD (.scr ns) = some (ns.map D.int) := id rfl
end
/-- a def's end -/
def fin0 (pin : List Bool) (ls : List L) (o : Out Rho (Fl × Rho)) : Out (List L) (L × List L) := match o with
  | .ok (.ret l, r) => (match outs pin ls r with
    | some ls' => .ok (l, ls')
    | none => .stuck)
  | .ok (.nx, r) => (match outs pin ls r with
    | some ls' => .ok (.fz .non, ls')
    | none => .stuck)
  | _ => .stuck
theorem dF0_run {n : Nat} {pin : List Bool} {body : Sv} {ls : List L} (h : (decide (ls.length = pin.length) && decide (pin.length ≤ n)) = true) : dF0 n pin body ls = fin0 pin ls (body (ls.map some ++ List.replicate (n - ls.length) none)) := by
  simp only [Bool.and_eq_true, decide_eq_true_eq] at h
  unfold dF0 dF fin0
  rw [if_pos h]
  cases body (ls.map some ++ List.replicate (n - ls.length) none) with
  | stuck => rfl
  | exc x r =>
    dsimp only
    cases outs pin ls r <;> rfl
  | ok fr =>
    obtain ⟨fl, r⟩ := fr
    cases fl <;> dsimp only <;> first | rfl | (cases outs pin ls r <;> rfl)
section
variable {pin : List Bool} {ls : List L} {r : Rho} {l l0 : L} {d : D}
@[simp] theorem fin0_ret : fin0 pin ls (.ok (.ret l, r)) = match outs pin ls r with
    | some ls' => .ok (l, ls')
    | none => .stuck := id rfl
@[simp] theorem fin0_nx : fin0 pin ls (.ok (.nx, r)) = match outs pin ls r with
    | some ls' => .ok (.fz .non, ls')
    | none => .stuck := id rfl
@[simp] theorem outs_0 : outs [] [] r = some [] := by cases r <;> rfl
@[simp] theorem outs_t : outs (true :: pin) (l0 :: ls) (some l :: r) = (outs pin ls r).map (l :: ·) := id rfl
@[simp] theorem outs_f {x : Option L} : outs (false :: pin) (.fz d :: ls) (x :: r) = (outs pin ls r).map (.fz d :: ·) := id rfl
end

/-! ### operations at ints and texts -/
section
variable {i j : Int} {x y : Str} {p q : Bool} {ks : List L} {ds es : List D} {d : D} {l : L}
@[simp] theorem oAdd_int : oAdd [.fz (.int i), .fz (.int j)] = .ok (.fz (.int (i + j)), [.fz (.int i), .fz (.int j)]) := id rfl
@[simp] theorem oSub_int : oSub [.fz (.int i), .fz (.int j)] = .ok (.fz (.int (i - j)), [.fz (.int i), .fz (.int j)]) := id rfl
theorem oMulA_ok (h : mulOk i j = true) : oMulA [.fz (.int i), .fz (.int j)] = .ok (.fz (.int (i * j)), [.fz (.int i), .fz (.int j)]) := by
  simp [oMulA, oMul, oMulI, alt, i2, p2, h]
theorem oMulA_r (h0 : -(2 ^ 64) < j) (h : j < 2 ^ 64) : oMulA [.fz (.int i), .fz (.int j)] = .ok (.fz (.int (i * j)), [.fz (.int i), .fz (.int j)]) := oMulA_ok (by
  unfold mulOk
  rw [decide_eq_true h0, decide_eq_true h]
  simp)
theorem oMulA_l (h0 : -(2 ^ 64) < i) (h : i < 2 ^ 64) : oMulA [.fz (.int i), .fz (.int j)] = .ok (.fz (.int (i * j)), [.fz (.int i), .fz (.int j)]) := oMulA_ok (by
  unfold mulOk
  rw [decide_eq_true h0, decide_eq_true h]
  simp)
theorem oMod_ok (h : 0 < j) : oMod [.fz (.int i), .fz (.int j)] = .ok (.fz (.int (i % j)), [.fz (.int i), .fz (.int j)]) := by simp [oMod, i2, p2, h]
theorem oDiv_ok (h0 : 0 < j) (h : j < 2 ^ 200) : oDiv [.fz (.int i), .fz (.int j)] = .ok (.fz (.int (i / j)), [.fz (.int i), .fz (.int j)]) := by
  have : divOk i j = true := by
    unfold divOk
    rw [decide_eq_true h0, decide_eq_true h]
    rfl
  simp only [oDiv, i2, p2, asI_int, Option.bind_some, this, if_true]
@[simp] theorem oPow_10_18 : oPow [.fz (.int 10), .fz (.int 18)] = .ok (.fz (.int 1000000000000000000), [.fz (.int 10), .fz (.int 18)]) := id rfl
@[simp] theorem oAnd_int : oAnd [.fz (.int i), .fz (.int j)] = .ok (.fz (.int (Builtin.bitAnd i j)), [.fz (.int i), .fz (.int j)]) := id rfl
@[simp] theorem oNeg_int : oNeg [.fz (.int i)] = .ok (.fz (.int (-i)), [.fz (.int i)]) := id rfl
@[simp] theorem oLtI_int : oLtI [.fz (.int i), .fz (.int j)] = .ok (.fz (.bl (decide (i < j))), [.fz (.int i), .fz (.int j)]) := id rfl
@[simp] theorem oLeI_int : oLeI [.fz (.int i), .fz (.int j)] = .ok (.fz (.bl (decide (i ≤ j))), [.fz (.int i), .fz (.int j)]) := id rfl
@[simp] theorem oGtI_int : oGtI [.fz (.int i), .fz (.int j)] = .ok (.fz (.bl (decide (j < i))), [.fz (.int i), .fz (.int j)]) := id rfl
@[simp] theorem oGeI_int : oGeI [.fz (.int i), .fz (.int j)] = .ok (.fz (.bl (decide (j ≤ i))), [.fz (.int i), .fz (.int j)]) := id rfl
@[simp] theorem oMax2_int : oMax2 [.fz (.int i), .fz (.int j)] = .ok (.fz (.int (if j > i then j else i)), [.fz (.int i), .fz (.int j)]) := id rfl
@[simp] theorem oMin2_int : oMin2 [.fz (.int i), .fz (.int j)] = .ok (.fz (.int (if j < i then j else i)), [.fz (.int i), .fz (.int j)]) := id rfl
@[simp] theorem oInt_int : oInt [.fz (.int i)] = .ok (.fz (.int i), [.fz (.int i)]) := id rfl
@[simp] theorem oInt_bl : oInt [.fz (.bl p)] = .ok (.fz (.int (if p then 1 else 0)), [.fz (.bl p)]) := id rfl
@[simp] theorem oIsN_non : oIsN [l, .fz .non] = .ok (.fz (.bl (isN l)), [l, .fz .non]) := id rfl
@[simp] theorem oNotN_non : oNotN [l, .fz .non] = .ok (.fz (.bl (!isN l)), [l, .fz .non]) := id rfl
@[simp] theorem isN_non : isN (.fz .non) = true := id rfl
@[simp] theorem isN_int : isN (.fz (.int i)) = false := id rfl
@[simp] theorem isN_str : isN (.fz (.str x)) = false := id rfl
@[simp] theorem isN_lst : isN (.lst ks) = false := id rfl
@[simp] theorem isN_tup : isN (.fz (.tup ds)) = false := id rfl
@[simp] theorem oLen_lst : oLen [.lst ks] = .ok (.fz (.int (ks.length : Nat)), [.lst ks]) := id rfl
@[simp] theorem oLen_fl : oLen [.fz (.lst ds)] = .ok (.fz (.int (ds.length : Nat)), [.fz (.lst ds)]) := by simp [oLen, p1, lenN, L.seq]
@[simp] theorem oLen_ft : oLen [.fz (.tup ds)] = .ok (.fz (.int (ds.length : Nat)), [.fz (.tup ds)]) := by simp [oLen, p1, lenN, L.seq]
@[simp] theorem oLen_scr {ns : List Int} : oLen [.fz (.scr ns)] = .ok (.fz (.int (ns.length : Nat)), [.fz (.scr ns)]) := by simp [oLen, p1, lenN, L.seq]
theorem oLen_str (h : x.length ≤ sizeLine) : oLen [.fz (.str x)] = .ok (.fz (.int (x.length : Nat)), [.fz (.str x)]) := by simp [oLen, p1, lenN, L.seq, h]
theorem oAdd_str (h : x.length + y.length ≤ sizeLine) : oAdd [.fz (.str x), .fz (.str y)] = .ok (.fz (.str (x ++ y)), [.fz (.str x), .fz (.str y)]) := by
  have e1 : oAddI [.fz (.str x), .fz (.str y)] = .stuck := rfl
  have e2 : oAddS [.fz (.str x), .fz (.str y)] = .ok (.fz (.str (x ++ y)), [.fz (.str x), .fz (.str y)]) := by
    unfold oAddS p2
    simp only [asS_str, Option.bind_some, if_pos h]
  unfold oAdd alt
  rw [e1]
  dsimp only
  rw [e2]
theorem oAdd_lst {xs ys : List L} (h1 : Dl.lstD (.lst xs) = some ds) (h2 : Dl.lstD (.lst ys) = some es) (h : ds.length + es.length ≤ sizeLine) : oAdd [.lst xs, .lst ys] = .ok (.lst (fzs (ds ++ es)), [.lst xs, .lst ys]) := by
  have e1 : oAddI [.lst xs, .lst ys] = .stuck := rfl
  have e2 : oAddS [.lst xs, .lst ys] = .stuck := rfl
  have e3 : oAddL [.lst xs, .lst ys] = .ok (.lst (fzs (ds ++ es)), [.lst xs, .lst ys]) := by
    unfold oAddL p2
    simp only [h1, h2, Option.bind_some, if_pos h]
    rfl
  simp only [oAdd, alt, e1, e2, e3]
theorem oIx_seq {b : Bool} {m : L} (h : seqD m = some (b, ds)) (h2 : atI ds i = some d) : oIx [m, .fz (.int i)] = .ok (.fz d, [m, .fz (.int i)]) := by
  simp [oIx, alt, ixS, p2, h, h2]
theorem atI_nat {α : Type} {xs : List α} {k : Nat} {x : α} (h : xs[k]? = some x) : atI xs (k : Int) = some x := by
  have hk := (List.getElem?_eq_some_iff.mp h).1
  unfold atI ixN
  rw [if_pos (by omega), if_pos (by omega)]
  simpa using h
theorem atI_pos {α : Type} {xs : List α} {k : Int} {x : α} (h0 : 0 ≤ k) (h : xs[k.toNat]? = some x) : atI xs k = some x := by
  have := atI_nat h
  rwa [show ((k.toNat : Nat) : Int) = k by omega] at this
theorem atI_last {α : Type} {xs : List α} {x : α} (h : xs.getLast? = some x) : atI xs (-1) = some x := by
  cases xs with
  | nil => simp at h
  | cons a as =>
    unfold atI ixN
    rw [if_neg (by omega), if_pos (by simp; omega)]
    rw [List.getLast?_eq_getElem?] at h
    rw [Option.bind_some, show (-1 + (((a :: as).length : Nat) : Int)).toNat = (a :: as).length - 1 by simp only [List.length_cons]; omega]
    exact h
theorem oIx_str {k : Nat} (hz : x.length ≤ sizeLine) (h : x.cps.toList[i.toNat]? = some k) (h0 : 0 ≤ i) : oIx [.fz (.str x), .fz (.int i)] = .ok (.fz (.str ⟨#[k]⟩), [.fz (.str x), .fz (.int i)]) := by
  have e1 : ixS [.fz (.str x), .fz (.int i)] = .stuck := rfl
  have e2 : ixT [.fz (.str x), .fz (.int i)] = .ok (.fz (.str ⟨#[k]⟩), [.fz (.str x), .fz (.int i)]) := by
    unfold ixT p2
    simp only [asS_str, asI_int, Option.bind_some, if_pos hz, atI_pos h0 h, Option.map_some]
  simp only [oIx, alt, e1, e2]
@[simp] theorem isLst_own : isLst (.lst ks) = true := id rfl
@[simp] theorem isLst_fz : isLst (.fz (.lst ds)) = true := id rfl
@[simp] theorem isStr_str : isStr (.fz (.str x)) = true := id rfl
theorem mAppend_ok (h : ks.length < sizeLine) : mAppend [.lst ks, l] = .ok (.fz .non, [.lst (ks ++ [.fz l.toD]), .fz l.toD]) := by simp [mAppend, m2, ownL, h]
theorem mPop_ok (h : ks.getLast? = some l) : mPop [.lst ks] = .ok (l, [.lst ks.dropLast]) := by simp [mPop, m1, ownL, h]
@[simp] theorem mReverse_ok : mReverse [.lst ks] = .ok (.fz .non, [.lst ks.reverse]) := id rfl
theorem oLst_ok {ls : List L} (h : ls.length ≤ 1000) : oLst ls = .ok (.lst (ls.map fun l => .fz l.toD), ls.map fun l => .fz l.toD) := by
  have hs : sizeLine = 16777216 := sizeLine_eq
  unfold oLst
  rw [if_pos (by omega)]
theorem oTup_ok {ls : List L} (h : ls.length ≤ 1000) : oTup ls = .ok (.fz (.tup (ls.map L.toD)), ls.map fun l => .fz l.toD) := by
  have hs : sizeLine = 16777216 := sizeLine_eq
  unfold oTup
  rw [if_pos (by omega)]
@[simp] theorem oLst_0 : oLst [] = .ok (.lst (fzs []), []) := oLst_ok (ls := []) (by decide)
@[simp] theorem oTup_0 : oTup [] = .ok (.fz (.tup []), []) := oTup_ok (ls := []) (by decide)
@[simp] theorem oTup_1 {a : L} : oTup [a] = .ok (.fz (.tup [a.toD]), [.fz a.toD]) := oTup_ok (by simp)
@[simp] theorem oTup_2 {a b : L} : oTup [a, b] = .ok (.fz (.tup [a.toD, b.toD]), [.fz a.toD, .fz b.toD]) := oTup_ok (by simp)
@[simp] theorem oTup_3 {a b c : L} : oTup [a, b, c] = .ok (.fz (.tup [a.toD, b.toD, c.toD]), [.fz a.toD, .fz b.toD, .fz c.toD]) := oTup_ok (by simp)
@[simp] theorem oLst_1 {a : L} : oLst [a] = .ok (.lst (fzs [a.toD]), [.fz a.toD]) := oLst_ok (by simp)
@[simp] theorem oLst_2 {a b : L} : oLst [a, b] = .ok (.lst (fzs [a.toD, b.toD]), [.fz a.toD, .fz b.toD]) := oLst_ok (by simp)
@[simp] theorem oLst_3 {a b c : L} : oLst [a, b, c] = .ok (.lst (fzs [a.toD, b.toD, c.toD]), [.fz a.toD, .fz b.toD, .fz c.toD]) := oLst_ok (by simp)
@[simp] theorem oLst_4 {a b c d : L} : oLst [a, b, c, d] = .ok (.lst (fzs [a.toD, b.toD, c.toD, d.toD]), [.fz a.toD, .fz b.toD, .fz c.toD, .fz d.toD]) := oLst_ok (by simp)
theorem oList_ok {b : Bool} {m : L} (h : seqD m = some (b, ds)) : oList [m] = .ok (.lst (fzs ds), [m]) := by simp [oList, p1, h, fzs]
theorem oTuple_lst {m : L} (h : lsq m = some ds) : oTuple [m] = .ok (.fz (.tup ds), [m]) := by
  have h2 : (lsq m).map (fun ds => L.fz (.tup ds)) = some (.fz (.tup ds)) := by rw [h]; rfl
  have nt : ∀ es, m ≠ .fz (.tup es) := fun es e => by subst e; simp [lsq] at h
  have nk : ∀ es, m ≠ .fz (.ktp es) := fun es e => by subst e; simp [lsq] at h
  unfold oTuple p1
  cases m with
  | fz d =>
    cases d with
    | tup es => exact absurd rfl (nt es)
    | ktp es => exact absurd rfl (nk es)
    | _ => dsimp only; rw [h2]
  | _ => dsimp only; rw [h2]
@[simp] theorem revL_fzs {ds : List D} : revL (.lst (fzs ds)) = some (.lst (fzs ds.reverse)) := by simp [revL, fzs, lsq]
@[simp] theorem oSl_scr {ns : List Int} {lo hi : Option Int} : oSl (.fz (.scr ns)) lo hi = some (.lst (fzs (cutD (ns.map D.int) lo hi))) := by simp [oSl, fzs]
@[simp] theorem oSl_fl {ds : List D} {lo hi : Option Int} : oSl (.fz (.lst ds)) lo hi = some (.lst (fzs (cutD ds lo hi))) := by simp [oSl, fzs]
@[simp] theorem oSl_fzs {ds : List D} {lo hi : Option Int} : oSl (.lst (fzs ds)) lo hi = some (.lst (fzs (cutD ds lo hi))) := by simp [oSl, fzs]
theorem lim_of (h0 : 0 ≤ i) (h : i ≤ 16777216) : lim i = true := by
  unfold lim
  rw [decide_eq_true (by omega), decide_eq_true (by omega)]
  rfl
end

/-! ### == over data -/
mutual
def D.eqv : D → D → Bool
  | .non, .non => true
  | .bl a, .bl b => a == b
  | .bl a, .int b => (if a then 1 else 0) == b
  | .int a, .bl b => a == (if b then 1 else 0)
  | .int a, .int b => a == b
  | .str a, .str b => a == b
  | .lst a, .lst b => D.eqvs a b
  | .tup a, .tup b => D.eqvs a b
  | _, _ => false
def D.eqvs : List D → List D → Bool
  | [], [] => true
  | a :: as, b :: bs => D.eqv a b && D.eqvs as bs
  | _, _ => false
end
/-- plain data of depth n at most, its texts sound -/
def D.pl : Nat → D → Bool
  | _, .non => true
  | _, .bl _ => true
  | _, .int _ => true
  | _, .str x => PyData.strOk x
  | n + 1, .lst ds => ds.all (D.pl n)
  | n + 1, .tup ds => ds.all (D.pl n)
  | _, _ => false
theorem pl_py : ∀ {n : Nat} {d : D}, D.pl n d = true → ∃ x, d.py = some x ∧ x.canLay0 = true ∧ x.depth ≤ n ∧ ∀ {m : Nat} {d' : D} {x' : PyData}, D.pl m d' = true → d'.py = some x' → PyData.eqv x x' = D.eqv d d'
  | n, .non, _ => ⟨.none, rfl, rfl, by simp [PyData.depth], fun {m d' x'} h e => by
      cases d' <;> simp [D.py] at e <;> (try subst e) <;> (try (obtain ⟨_, _, rfl⟩ := e)) <;> first | rfl | (simp [D.pl] at h)⟩
  | n, .bl b, _ => ⟨.bool b, rfl, rfl, by simp [PyData.depth], fun {m d' x'} h e => by
      cases d' <;> simp [D.py] at e <;> (try subst e) <;> (try (obtain ⟨_, _, rfl⟩ := e)) <;> first | rfl | (simp [D.pl] at h)⟩
  | n, .int b, _ => ⟨.int b, rfl, rfl, by simp [PyData.depth], fun {m d' x'} h e => by
      cases d' <;> simp [D.py] at e <;> (try subst e) <;> (try (obtain ⟨_, _, rfl⟩ := e)) <;> first | rfl | (simp [D.pl] at h)⟩
  | n, .str b, hb => ⟨.str b, rfl, by cases n <;> simpa [D.pl, PyData.canLay0] using hb, by simp [PyData.depth], fun {m d' x'} h e => by
      cases d' <;> simp [D.py] at e <;> (try subst e) <;> (try (obtain ⟨_, _, rfl⟩ := e)) <;> first | rfl | (simp [D.pl] at h)⟩
  | 0, .lst _, h => by simp [D.pl] at h
  | 0, .tup _, h => by simp [D.pl] at h
  | n + 1, .lst ds, h => by
    simp only [D.pl] at h
    have key : ∀ (ds : List D), ds.all (D.pl n) = true → ∃ xs, D.pys ds = some xs ∧ PyData.canLayAll0 xs = true ∧ PyData.depthAll xs ≤ n ∧ ∀ {m : Nat} {ds' : List D} {xs' : List PyData}, ds'.all (D.pl m) = true → D.pys ds' = some xs' → PyData.eqvAll xs xs' = D.eqvs ds ds' := fun ds => by
      induction ds with
      | nil => intro _; exact ⟨[], rfl, rfl, by simp [PyData.depthAll], fun {m ds' xs'} h e => by
          cases ds' with
          | nil => simp [D.pys] at e; subst e; rfl
          | cons d ds' =>
            simp [D.pys, Option.bind_eq_some_iff] at e
            obtain ⟨x, _, ys, _, rfl⟩ := e
            rfl⟩
      | cons d ds ih =>
        intro h
        simp only [List.all_cons, Bool.and_eq_true] at h
        obtain ⟨x, e1, c1, p1, q1⟩ := pl_py h.1
        obtain ⟨xs, e2, c2, p2, q2⟩ := ih h.2
        refine ⟨x :: xs, by simp [D.pys, e1, e2], by simp [PyData.canLayAll0, c1, c2], by simp [PyData.depthAll]; omega, fun {m ds' xs'} h' e => ?_⟩
        cases ds' with
        | nil => simp [D.pys] at e; subst e; rfl
        | cons d' ds' =>
          simp only [List.all_cons, Bool.and_eq_true] at h'
          simp only [D.pys, Option.bind_eq_some_iff, Option.map_eq_some_iff] at e
          obtain ⟨x', e3, ys, e4, rfl⟩ := e
          simp only [PyData.eqvAll, D.eqvs]
          rw [q1 h'.1 e3, q2 h'.2 e4]
    obtain ⟨xs, e1, c1, p1, q1⟩ := key ds h
    refine ⟨.list xs, by simp [D.py, e1], by simp [PyData.canLay0, c1], by simp [PyData.depth]; omega, fun {m d' x'} h' e => ?_⟩
    cases d' with
    | lst ds' =>
      cases m with
      | zero => simp [D.pl] at h'
      | succ m =>
        simp only [D.pl] at h'
        simp only [D.py, Option.map_eq_some_iff] at e
        obtain ⟨xs', e2, rfl⟩ := e
        simp only [PyData.eqv, D.eqv]
        exact q1 h' e2
    | tup ds' => simp only [D.py, Option.map_eq_some_iff] at e; obtain ⟨xs', e2, rfl⟩ := e; rfl
    | non => cases e; rfl
    | bl _ => cases e; rfl
    | int _ => cases e; rfl
    | str _ => cases e; rfl
    | _ => cases m <;> simp [D.pl] at h'
  | n + 1, .tup ds, h => by
    simp only [D.pl] at h
    have key : ∀ (ds : List D), ds.all (D.pl n) = true → ∃ xs, D.pys ds = some xs ∧ PyData.canLayAll0 xs = true ∧ PyData.depthAll xs ≤ n ∧ ∀ {m : Nat} {ds' : List D} {xs' : List PyData}, ds'.all (D.pl m) = true → D.pys ds' = some xs' → PyData.eqvAll xs xs' = D.eqvs ds ds' := fun ds => by
      induction ds with
      | nil => intro _; exact ⟨[], rfl, rfl, by simp [PyData.depthAll], fun {m ds' xs'} h e => by
          cases ds' with
          | nil => simp [D.pys] at e; subst e; rfl
          | cons d ds' =>
            simp [D.pys, Option.bind_eq_some_iff] at e
            obtain ⟨x, _, ys, _, rfl⟩ := e
            rfl⟩
      | cons d ds ih =>
        intro h
        simp only [List.all_cons, Bool.and_eq_true] at h
        obtain ⟨x, e1, c1, p1, q1⟩ := pl_py h.1
        obtain ⟨xs, e2, c2, p2, q2⟩ := ih h.2
        refine ⟨x :: xs, by simp [D.pys, e1, e2], by simp [PyData.canLayAll0, c1, c2], by simp [PyData.depthAll]; omega, fun {m ds' xs'} h' e => ?_⟩
        cases ds' with
        | nil => simp [D.pys] at e; subst e; rfl
        | cons d' ds' =>
          simp only [List.all_cons, Bool.and_eq_true] at h'
          simp only [D.pys, Option.bind_eq_some_iff, Option.map_eq_some_iff] at e
          obtain ⟨x', e3, ys, e4, rfl⟩ := e
          simp only [PyData.eqvAll, D.eqvs]
          rw [q1 h'.1 e3, q2 h'.2 e4]
    obtain ⟨xs, e1, c1, p1, q1⟩ := key ds h
    refine ⟨.tuple xs, by simp [D.py, e1], by simp [PyData.canLay0, c1], by simp [PyData.depth]; omega, fun {m d' x'} h' e => ?_⟩
    cases d' with
    | tup ds' =>
      cases m with
      | zero => simp [D.pl] at h'
      | succ m =>
        simp only [D.pl] at h'
        simp only [D.py, Option.map_eq_some_iff] at e
        obtain ⟨xs', e2, rfl⟩ := e
        simp only [PyData.eqv, D.eqv]
        exact q1 h' e2
    | lst ds' => simp only [D.py, Option.map_eq_some_iff] at e; obtain ⟨xs', e2, rfl⟩ := e; rfl
    | non => cases e; rfl
    | bl _ => cases e; rfl
    | int _ => cases e; rfl
    | str _ => cases e; rfl
    | _ => cases m <;> simp [D.pl] at h'
  | n, .ty _, h => by cases n <;> simp [D.pl] at h
  | n, .cls _, h => by cases n <;> simp [D.pl] at h
  | n, .scr _, h => by cases n <;> simp [D.pl] at h
  | n, .ktp _, h => by cases n <;> simp [D.pl] at h
  | n, .dct _ _, h => by cases n <;> simp [D.pl] at h
  | n, .obj _ _, h => by cases n <;> simp [D.pl] at h
theorem shp_pl {l : L} (h : D.pl 64 l.toD = true) : ∃ x, shp l = some x ∧ l.toD.py = some x := by
  obtain ⟨x, e, c, p, _⟩ := pl_py h
  refine ⟨x, ?_, e⟩
  unfold shp
  rw [e]
  simp only [Option.bind_some]
  rw [if_pos]
  unfold SeqAt.shaped
  rw [c, decide_eq_true p]
  rfl
theorem oEq_ok {a b : L} (h1 : D.pl 64 a.toD = true) (h2 : D.pl 64 b.toD = true) : oEq [a, b] = .ok (.fz (.bl (D.eqv a.toD b.toD)), [a, b]) := by
  obtain ⟨x, e1, f1⟩ := shp_pl h1
  obtain ⟨y, e2, f2⟩ := shp_pl h2
  obtain ⟨x', e, _, _, q⟩ := pl_py h1
  rw [f1] at e
  cases e
  unfold oEq p2
  simp only [e1, e2, Option.bind_some, Option.map_some, q h2 f2]
theorem oNe_ok {a b : L} (h1 : D.pl 64 a.toD = true) (h2 : D.pl 64 b.toD = true) : oNe [a, b] = .ok (.fz (.bl (!D.eqv a.toD b.toD)), [a, b]) := by
  obtain ⟨x, e1, f1⟩ := shp_pl h1
  obtain ⟨y, e2, f2⟩ := shp_pl h2
  obtain ⟨x', e, _, _, q⟩ := pl_py h1
  rw [f1] at e
  cases e
  unfold oNe p2
  simp only [e1, e2, Option.bind_some, Option.map_some, q h2 f2]
@[simp] theorem oEq_int {i j : Int} : oEq [.fz (.int i), .fz (.int j)] = .ok (.fz (.bl (i == j)), [.fz (.int i), .fz (.int j)]) := oEq_ok rfl rfl
@[simp] theorem oNe_int {i j : Int} : oNe [.fz (.int i), .fz (.int j)] = .ok (.fz (.bl (!(i == j))), [.fz (.int i), .fz (.int j)]) := oNe_ok rfl rfl
@[simp] theorem oEq_bl {i j : Bool} : oEq [.fz (.bl i), .fz (.bl j)] = .ok (.fz (.bl (i == j)), [.fz (.bl i), .fz (.bl j)]) := oEq_ok rfl rfl
@[simp] theorem oNe_bl {i j : Bool} : oNe [.fz (.bl i), .fz (.bl j)] = .ok (.fz (.bl (!(i == j))), [.fz (.bl i), .fz (.bl j)]) := oNe_ok rfl rfl
mutual
theorem eqv_refl : ∀ {n : Nat} {d : D}, D.pl n d = true → D.eqv d d = true
  | _, .non, _ => rfl
  | _, .bl b, _ => by simp [D.eqv]
  | _, .int b, _ => by simp [D.eqv]
  | _, .str b, _ => by simp [D.eqv]
  | n + 1, .lst ds, h => by simp only [D.pl] at h; simp only [D.eqv]; exact eqvs_refl h
  | n + 1, .tup ds, h => by simp only [D.pl] at h; simp only [D.eqv]; exact eqvs_refl h
  | 0, .lst ds, h => by simp [D.pl] at h
  | 0, .tup ds, h => by simp [D.pl] at h
  | n, .ty _, h => by cases n <;> simp [D.pl] at h
  | n, .cls _, h => by cases n <;> simp [D.pl] at h
  | n, .scr _, h => by cases n <;> simp [D.pl] at h
  | n, .ktp _, h => by cases n <;> simp [D.pl] at h
  | n, .dct _ _, h => by cases n <;> simp [D.pl] at h
  | n, .obj _ _, h => by cases n <;> simp [D.pl] at h
theorem eqvs_refl : ∀ {n : Nat} {ds : List D}, ds.all (D.pl n) = true → D.eqvs ds ds = true
  | _, [], _ => rfl
  | n, d :: ds, h => by
    simp only [List.all_cons, Bool.and_eq_true] at h
    simp only [D.eqvs, eqv_refl h.1, eqvs_refl h.2, Bool.and_self]
end
end Dl
namespace Dl
open PySem L2

/-! ### loops by their invariant -/
section
variable {b : Bv} {body : Sv} {ds : List D} {r : Rho} {ct : Tv} {fe : Ev} {vs : List Nat}
/-- a loop that runs to its end -/
theorem forL_nx (P : Nat → Rho → Prop) (hs : ∀ k r d, ds[k]? = some d → P k r → ∃ r1 r2, b d r = some r1 ∧ (body r1 = .ok (.nx, r2) ∨ body r1 = .ok (.cont, r2)) ∧ P (k + 1) r2) (h0 : P 0 r) : ∃ r', forL b body ds r = .ok (.nx, r') ∧ P ds.length r' := by
  induction ds generalizing r P with
  | nil => exact ⟨r, rfl, h0⟩
  | cons d ds ih =>
    obtain ⟨r1, r2, e1, e2, h1⟩ := hs 0 r d rfl h0
    obtain ⟨r', e3, h3⟩ := ih (r := r2) (fun k r => P (k + 1) r) (fun k r d' e h => hs (k + 1) r d' (by simpa using e) h) h1
    refine ⟨r', ?_, h3⟩
    unfold forL
    rw [e1]
    rcases e2 with e2 | e2 <;> simp only [e2, Out.bind_ok] <;> exact e3
/-- a loop that may hand back -/
theorem forL_ret (P : Nat → Rho → Prop) (R : L → Rho → Prop) (hs : ∀ k r d, ds[k]? = some d → P k r → ∃ r1, b d r = some r1 ∧ ((∃ r2, (body r1 = .ok (.nx, r2) ∨ body r1 = .ok (.cont, r2)) ∧ P (k + 1) r2) ∨ ∃ l r2, body r1 = .ok (.ret l, r2) ∧ R l r2)) (h0 : P 0 r) :
    (∃ r', forL b body ds r = .ok (.nx, r') ∧ P ds.length r') ∨ ∃ l r', forL b body ds r = .ok (.ret l, r') ∧ R l r' := by
  induction ds generalizing r P with
  | nil => exact .inl ⟨r, rfl, h0⟩
  | cons d ds ih =>
    obtain ⟨r1, e1, h1⟩ := hs 0 r d rfl h0
    rcases h1 with ⟨r2, e2, h1⟩ | ⟨l, r2, e2, h1⟩
    · have := ih (r := r2) (fun k r => P (k + 1) r) (fun k r d' e h => hs (k + 1) r d' (by simpa using e) h) h1
      have ef : forL b body (d :: ds) r = forL b body ds r2 := by
        rw [forL, e1]
        rcases e2 with e2 | e2 <;> simp only [e2, Out.bind_ok]
      rw [ef]
      exact this
    · refine .inr ⟨l, r2, ?_, h1⟩
      rw [forL, e1]
      simp only [e2, Out.bind_ok]
/-- a comprehension: acc is what it has told so far -/
theorem lcL_inv (P : Nat → List D → Rho → Prop) (hs : ∀ k acc r d, ds[k]? = some d → P k acc r → ∃ r1 t r2, b d r = some r1 ∧ ct r1 = .ok (t, r2) ∧ (t = true → ∃ l r3, fe r2 = .ok (l, r3) ∧ P (k + 1) (acc ++ [l.toD]) (wipeR r3 vs)) ∧ (t = false → P (k + 1) acc (wipeR r2 vs))) (h0 : P 0 [] r) :
    ∃ es r', lcL b ct fe vs ds r = .ok (es, r') ∧ P ds.length es r' := by
  suffices h : ∀ (ds : List D) (P : Nat → List D → Rho → Prop) (acc : List D) (r : Rho), (∀ k acc r d, ds[k]? = some d → P k acc r → ∃ r1 t r2, b d r = some r1 ∧ ct r1 = .ok (t, r2) ∧ (t = true → ∃ l r3, fe r2 = .ok (l, r3) ∧ P (k + 1) (acc ++ [l.toD]) (wipeR r3 vs)) ∧ (t = false → P (k + 1) acc (wipeR r2 vs))) → P 0 acc r →
      ∃ es r', lcL b ct fe vs ds r = .ok (es, r') ∧ P ds.length (acc ++ es) r' by
    obtain ⟨es, r', e, h⟩ := h ds P [] r hs h0
    exact ⟨es, r', e, h⟩
  intro ds
  induction ds with
  | nil => intro P acc r hs h0; exact ⟨[], r, rfl, by simpa using h0⟩
  | cons d ds ih =>
    intro P acc r hs h0
    obtain ⟨r1, t, r2, e1, e2, h1, h2⟩ := hs 0 acc r d rfl h0
    cases t with
    | true =>
      obtain ⟨l, r3, e3, h3⟩ := h1 rfl
      obtain ⟨es, r', e4, h4⟩ := ih (fun k a r => P (k + 1) a r) (acc ++ [l.toD]) (wipeR r3 vs) (fun k a r d' e h => hs (k + 1) a r d' (by simpa using e) h) h3
      refine ⟨l.toD :: es, r', ?_, by simpa using h4⟩
      rw [lcL, e1]
      simp only [e2, Out.nox, Out.bind_ok, if_true, e3, e4]
    | false =>
      have h3 := h2 rfl
      obtain ⟨es, r', e4, h4⟩ := ih (fun k a r => P (k + 1) a r) acc (wipeR r2 vs) (fun k a r d' e h => hs (k + 1) a r d' (by simpa using e) h) h3
      refine ⟨es, r', ?_, by simpa using h4⟩
      rw [lcL, e1]
      simp only [e2, Out.nox, Out.bind_ok, Bool.false_eq_true, if_false, e4]
/-- .. each item by itself, all taken -/
theorem lcL_map (g : D → D) (h : ∀ d ∈ ds, ∃ r1 l, b d r = some r1 ∧ ct r1 = .ok (true, r1) ∧ fe r1 = .ok (l, r1) ∧ l.toD = g d ∧ wipeR r1 vs = r) : lcL b ct fe vs ds r = .ok (ds.map g, r) := by
  obtain ⟨es, r', e, h1, h2⟩ := lcL_inv (b := b) (ct := ct) (fe := fe) (vs := vs) (ds := ds) (r := r) (fun k acc r' => acc = (ds.take k).map g ∧ r' = r) (fun k acc r' d e ⟨h1, h2⟩ => by
    subst h2
    obtain ⟨r1, l, e1, e2, e3, e4, e5⟩ := h d (List.mem_of_getElem? e)
    refine ⟨r1, true, r1, e1, e2, fun _ => ⟨l, r1, e3, ?_, e5⟩, fun z => (Bool.noConfusion z)⟩
    obtain ⟨hk, rfl⟩ := List.getElem?_eq_some_iff.mp e
    rw [h1, e4, List.take_succ_eq_append_getElem hk, List.map_append]
    rfl) ⟨by simp, rfl⟩
  rw [e, h1, h2, List.take_length]
/-- .. some taken, the slots left as they are -/
theorem lcL_filter (p : D → Bool) (g : D → D) (h : ∀ d ∈ ds, ∃ r1, b d r = some r1 ∧ ct r1 = .ok (p d, r1) ∧ (p d = true → ∃ l, fe r1 = .ok (l, r1) ∧ l.toD = g d) ∧ wipeR r1 vs = r) : lcL b ct fe vs ds r = .ok ((ds.filter p).map g, r) := by
  obtain ⟨es, r', e, h1, h2⟩ := lcL_inv (b := b) (ct := ct) (fe := fe) (vs := vs) (ds := ds) (r := r) (fun k acc r' => acc = ((ds.take k).filter p).map g ∧ r' = r) (fun k acc r' d e ⟨h1, h2⟩ => by
    subst h2
    obtain ⟨r1, e1, e2, e3, e5⟩ := h d (List.mem_of_getElem? e)
    obtain ⟨hk, rfl⟩ := List.getElem?_eq_some_iff.mp e
    refine ⟨r1, p ds[k], r1, e1, e2, fun ht => ?_, fun hf => ⟨?_, e5⟩⟩
    · obtain ⟨l, e3, e4⟩ := e3 ht
      refine ⟨l, r1, e3, ?_, e5⟩
      rw [h1, e4, List.take_succ_eq_append_getElem hk, List.filter_append, List.map_append]
      simp [ht]
    · rw [h1, List.take_succ_eq_append_getElem hk, List.filter_append]
      simp [hf]) ⟨by simp, rfl⟩
  rw [e, h1, h2, List.take_length]
end
section
variable {i j : Int} {ks : List L} {ds es : List D} {d : D} {l : L}
theorem oMulA_rep (h0 : 0 ≤ i) (h : ds.length * i.toNat ≤ 16777216) (h2 : i < 2 ^ 62) : oMulA [.lst (fzs ds), .fz (.int i)] = .ok (.lst (fzs (repL i.toNat ds)), [.lst (fzs ds), .fz (.int i)]) := by
  have hs : sizeLine = 16777216 := sizeLine_eq
  have e1 : oMulI [.lst (fzs ds), .fz (.int i)] = .stuck := rfl
  have e2 : oMulL [.lst (fzs ds), .fz (.int i)] = .ok (.lst (fzs (repL i.toNat ds)), [.lst (fzs ds), .fz (.int i)]) := by
    unfold oMulL p2
    have : (decide (-(2 ^ 63) ≤ i) && decide (i < 2 ^ 63) && decide (ds.length * i.toNat ≤ sizeLine)) = true := by
      rw [decide_eq_true (by omega), decide_eq_true (by omega), decide_eq_true (by omega)]
      rfl
    simp only [lstD_fzs, asI_int, Option.bind_some, if_pos this]
    rfl
  simp only [oMulA, oMul, alt, e1, e2]
@[simp] theorem rngD_length {lo : Int} {n : Nat} : (rngD lo n).length = n := by simp [rngD]
theorem rngD_at {lo : Int} {n k : Nat} {d : D} (h : (rngD lo n)[k]? = some d) : d = .int (lo + k) ∧ k < n := by
  unfold rngD at h
  rw [List.getElem?_map, Option.map_eq_some_iff] at h
  obtain ⟨a, e, rfl⟩ := h
  obtain ⟨hk, rfl⟩ := List.getElem?_eq_some_iff.mp e
  rw [List.length_range] at hk
  rw [List.getElem_range]
  exact ⟨rfl, hk⟩
theorem rngD_mem {lo : Int} {n : Nat} {d : D} (h : d ∈ rngD lo n) : ∃ k : Nat, d = .int (lo + k) ∧ k < n := by
  obtain ⟨k, hk, e⟩ := List.mem_iff_getElem.mp h
  obtain ⟨h1, h2⟩ := rngD_at (List.getElem?_eq_some_iff.mpr ⟨hk, e⟩)
  exact ⟨k, h1, h2⟩
end
end Dl
namespace Dl
open PySem L2

/-! ### sound texts of so many signs at most -/
structure Wd (n : Nat) (z : Str) : Prop where
  ok : PyData.strOk z = true
  le : z.length ≤ n
theorem Wd.mono {n m : Nat} {z : Str} (h : Wd n z) (hm : n ≤ m) : Wd m z := ⟨h.ok, Nat.le_trans h.le hm⟩
theorem Wd.app {n m : Nat} {x y : Str} (h1 : Wd n x) (h2 : Wd m y) : Wd (n + m) (x ++ y) := by
  refine ⟨?_, ?_⟩
  · have e : (x ++ y).cps = x.cps ++ y.cps := rfl
    have a := h1.ok
    have b := h2.ok
    unfold PyData.strOk at a b ⊢
    rw [e, Array.all_append, a, b]
    rfl
  · have e : (x ++ y).length = x.length + y.length := by
      show (x.cps ++ y.cps).size = x.cps.size + y.cps.size
      exact Array.size_append
    rw [e]
    have := h1.le
    have := h2.le
    omega
theorem Wd.cut {n : Nat} {z : Str} {lo hi : Option Int} (h : Wd n z) : Wd n (cutS z lo hi) := by
  refine ⟨?_, ?_⟩
  · have a := h.ok
    unfold PyData.strOk at a ⊢
    unfold cutS
    rw [Array.all_eq_true'] at a
    rw [Array.all_eq_true']
    intro c hc
    refine a c ?_
    have hc : c ∈ ((z.cps.toList.drop (HT.sIx z.length 0 lo)).take (HT.sIx z.length z.length hi - HT.sIx z.length 0 lo)) := by simpa using hc
    have := List.mem_of_mem_drop (List.mem_of_mem_take hc)
    simpa using this
  · have : (cutS z lo hi).length ≤ z.length := by
      show (cutS z lo hi).cps.size ≤ z.cps.size
      unfold cutS
      simp only [List.size_toArray, List.length_take, List.length_drop, Array.length_toList]
      omega
    exact Nat.le_trans this h.le
theorem wd_sign {k : Nat} (h : k < 1114112) : Wd 1 ⟨#[k]⟩ := by
  refine ⟨?_, Nat.le_refl _⟩
  show (#[k] : Array Nat).all (· < 0x110000) = true
  simp
  omega
theorem wd_nil : Wd 0 "" := ⟨by decide +kernel, by decide +kernel⟩
theorem oSl_str {z : Str} {lo hi : Option Int} (h : z.length ≤ 16777216) : oSl (.fz (.str z)) lo hi = some (.fz (.str (cutS z lo hi))) := by
  have hs : sizeLine = 16777216 := sizeLine_eq
  have e : seqD (.fz (.str z)) = none := rfl
  simp only [oSl, e, asS_str]
  rw [if_pos (by omega)]
theorem abc_at : ∀ n : Fin 26, ∃ k : Fin 1114112, ("abcdefghijklmnopqrstuvwxyz" : Str).cps.toList[n.val]? = some k.val := by
  intro n
  have : ∀ n : Fin 26, (match ("abcdefghijklmnopqrstuvwxyz" : Str).cps.toList[n.val]? with | some k => decide (k < 1114112) | none => false) = true := by decide +kernel
  have h := this n
  cases e : ("abcdefghijklmnopqrstuvwxyz" : Str).cps.toList[n.val]? with
  | none => rw [e] at h; cases h
  | some k => rw [e] at h; exact ⟨⟨k, by simpa using h⟩, rfl⟩
theorem abc_len : ("abcdefghijklmnopqrstuvwxyz" : Str).length = 26 := by decide +kernel
theorem abc_ix {i : Int} (h0 : 0 ≤ i) (h1 : i < 26) : ∃ z, oIx [.fz (.str "abcdefghijklmnopqrstuvwxyz"), .fz (.int i)] = .ok (.fz (.str z), [.fz (.str "abcdefghijklmnopqrstuvwxyz"), .fz (.int i)]) ∧ Wd 1 z := by
  have hs : sizeLine = 16777216 := sizeLine_eq
  obtain ⟨k, e⟩ := abc_at ⟨i.toNat, by omega⟩
  exact ⟨_, oIx_str (by rw [abc_len, hs]; omega) e h0, wd_sign k.2⟩
theorem abc_mod (i : Int) : ∃ z, oIx [.fz (.str "abcdefghijklmnopqrstuvwxyz"), .fz (.int (i % 26))] = .ok (.fz (.str z), [.fz (.str "abcdefghijklmnopqrstuvwxyz"), .fz (.int (i % 26))]) ∧ Wd 1 z := abc_ix (by omega) (by omega)
theorem Wd.add {n m : Nat} {x y : Str} (h1 : Wd n x) (h2 : Wd m y) (h : n + m ≤ 16777216) : oAdd [.fz (.str x), .fz (.str y)] = .ok (.fz (.str (x ++ y)), [.fz (.str x), .fz (.str y)]) := by
  have hs : sizeLine = 16777216 := sizeLine_eq
  have := h1.le
  have := h2.le
  exact oAdd_str (by omega)
end Dl
namespace Dl
open PySem L2
open PySem.W PyProof.Rows

/-! ### a op b op c op d, as a test -/
def tChain4 (r r' r'' : R2) (ta tb tc td : TE) : TE := fun σ H Q => ta σ H fun x H1 => tb σ H1 fun y H2 => r x y H2 fun z H3 => ∃ k, z = .bl k ∧
  (if k = true then tc σ H3 fun u H4 => r' y u H4 fun z' H5 => ∃ k', z' = .bl k' ∧ (if k' = true then td σ H5 fun v H6 => r'' u v H6 Q else Q (.bl false) H5) else Q (.bl false) H3)
section
variable {X : Cx} {s : Cs} {W : WX} {ea eb ec ed : Expr} {ta tb tc td : TE} {fa fb fc fd : Ev} {r r' r'' : R2} {F F' F'' : Fv} {op op' op'' : CmpOp} {pos : Pos}
theorem pt_chain4 (ho : OpR X (compareOp op) r) (ho' : OpR X (compareOp op') r') (ho'' : OpR X (compareOp op'') r'') (ha : PE X ea ta) (hb : PE X eb tb) (hc : PE X ec tc) (hd : PE X ed td)
    (hm : lastMarks [op, op', op''] [eb, ec, ed] = false := by with_unfolding_all rfl) : PT X (.Compare ea [op, op', op''] [eb, ec, ed] pos) (tTest (tChain4 r r' r'' ta tb tc td)) := by
  refine ⟨fun pins s σ H Q I h => ?_⟩
  refine isTrue_chain (thn (ha.run pins s σ H _ I h) fun v s1 ⟨x, H1, I1, r1, q1⟩ => test_link (thn (hb.run pins s1 σ H1 _ I1 q1) fun u s2 ⟨y, H2, I2, r2, q2⟩ =>
    thn (ho pins s2 σ H2 x y v u _ I2 r1 r2 q2) fun d s3 ⟨z, H3, I3, r3, k, e, q3⟩ => ?_)) hm
  subst e
  cases r3
  refine wpAny_truthy_bool ?_
  cases k with
  | false =>
    obtain ⟨k', e', q'⟩ := q3
    cases e'
    exact ite_ff ⟨H3, I3, q'⟩
  | true =>
    refine ite_tt (test_link (thn (hc.run pins s3 σ H3 _ I3 q3) fun w' s4 ⟨z', H4, I4, r4, q4⟩ => thn (ho' pins s4 σ H4 y z' u w' _ I4 r2 r4 q4) fun d' s5 ⟨z2, H5, I5, r5, k2, e2, q5⟩ => ?_))
    subst e2
    cases r5
    refine wpAny_truthy_bool ?_
    cases k2 with
    | false =>
      obtain ⟨k', e', q'⟩ := q5
      cases e'
      exact ite_ff ⟨H5, I5, q'⟩
    | true =>
      refine ite_tt (test_last (thn (hd.run pins s5 σ H5 _ I5 q5) fun w2 s6 ⟨z3, H6, I6, r6, q6⟩ => thn (ho'' pins s6 σ H6 z' z3 w' w2 _ I6 r4 r6 q6) fun d2 s7 ⟨z4, H7, I7, r7, k3, e3, q7⟩ => ?_))
      subst e3
      cases r7
      exact wpAny_truthy_bool ⟨H7, I7, q7⟩
def eCh4 (a b c d : Ev) (F F' F'' : Fv) : Ev := fun r => (a r).bind fun (x, r1) => (b r1).bind fun (y, r2) => match tru (F [x, y]) with
  | some (true, _, y') => (c r2).bind fun (z, r3) => (match tru (F' [y', z]) with
    | some (true, _, z') => (d r3).bind fun (u, r4) => (match tru (F'' [z', u]) with
      | some (k, _, _) => .ok (.fz (.bl k), r4)
      | none => .stuck)
    | some (false, _, _) => .ok (.fz (.bl false), r3)
    | none => .stuck)
  | some (false, _, _) => .ok (.fz (.bl false), r2)
  | none => .stuck
theorem De.ch4 (h1 : De s W ta fa) (h2 : De s W tb fb) (h3 : De s W tc fc) (h4 : De s W td fd) (o1 : ∀ E, Dop s E (r2 r) F) (o2 : ∀ E, Dop s E (r2 r') F') (o3 : ∀ E, Dop s E (r2 r'') F'') : De s W (tChain4 r r' r'' ta tb tc td) (eCh4 fa fb fc fd F F' F'') := fun c hc G H th rh ta' si Q h0 q => by
  refine h1 c hc G H th rh ta' si _ h0 ?_
  unfold eCh4 at q
  cases e : fa rh with
  | stuck => rw [e] at q; exact q.elim
  | exc x r => rw [e] at q; exact q
  | ok lr =>
    obtain ⟨x, r1⟩ := lr
    rw [e] at q
    simp only [Out.bind_ok] at q
    intro v G1 H1 h4'
    refine h2 c hc G1 H1 _ r1 _ si _ h4' ?_
    cases e2 : fb r1 with
    | stuck => rw [e2] at q; exact q.elim
    | exc x r => rw [e2] at q; exact fun cls od G' H' h => q cls od G' H' h.pop
    | ok lr2 =>
      obtain ⟨y, r2⟩ := lr2
      rw [e2] at q
      simp only [Out.bind_ok] at q
      intro u G2 H2 h5
      have h6 : S0 c G2 H2 ([x, y].map some ++ th) r2 ([v, u].map some ++ ta') si := h5.swap
      refine o1 E0 c hc G2 H2 th r2 ta' si [x, y] [v, u] _ h6 rfl ?_
      cases e3 : tru (F [x, y]) with
      | none => rw [e3] at q; exact q.elim
      | some bxy =>
        obtain ⟨b, x', y'⟩ := bxy
        rw [e3] at q
        rw [tru_some e3]
        cases b with
        | true =>
          intro w G3 H3 h7
          refine ⟨true, dt_bl h7.topD, ?_⟩
          rw [if_pos rfl]
          have h8 : S0 c G3 H3 (some y' :: th) r2 (some u :: ta') si := S0.pop (th := some y' :: th) (ta := some u :: ta') (S0.pop (th := some x' :: some y' :: th) (ta := some v :: some u :: ta') h7)
          refine h3 c hc G3 H3 _ r2 _ si _ h8 ?_
          simp only at q
          cases e4 : fc r2 with
          | stuck => rw [e4] at q; exact q.elim
          | exc x r => rw [e4] at q; exact fun cls od G' H' h => q cls od G' H' h.pop
          | ok lr3 =>
            obtain ⟨z, r3⟩ := lr3
            rw [e4] at q
            simp only [Out.bind_ok] at q
            intro w2 G4 H4 h9
            have h10 : S0 c G4 H4 ([y', z].map some ++ th) r3 ([u, w2].map some ++ ta') si := h9.swap
            refine o2 E0 c hc G4 H4 th r3 ta' si [y', z] [u, w2] _ h10 rfl ?_
            cases e5 : tru (F' [y', z]) with
            | none => rw [e5] at q; exact q.elim
            | some bxy =>
              obtain ⟨k, y2, z2⟩ := bxy
              rw [e5] at q
              rw [tru_some e5]
              cases k with
              | false =>
                intro w3 G5 H5 h11
                refine ⟨false, dt_bl h11.topD, ?_⟩
                rw [if_neg Bool.false_ne_true]
                have h12 : S0 c G5 H5 th r3 ta' si := S0.pops (t1 := [some (.fz (.bl false)), some y2, some z2]) (v1 := [some w3, some u, some w2]) h11 rfl
                exact q _ G5 H5 (h12.push (.bl .nil))
              | true =>
                intro w3 G5 H5 h11
                refine ⟨true, dt_bl h11.topD, ?_⟩
                rw [if_pos rfl]
                have h12 : S0 c G5 H5 (some z2 :: th) r3 (some w2 :: ta') si := S0.pop (th := some z2 :: th) (ta := some w2 :: ta') (S0.pop (th := some y2 :: some z2 :: th) (ta := some u :: some w2 :: ta') h11)
                refine h4 c hc G5 H5 _ r3 _ si _ h12 ?_
                simp only at q
                cases e6 : fd r3 with
                | stuck => rw [e6] at q; exact q.elim
                | exc x r => rw [e6] at q; exact fun cls od G' H' h => q cls od G' H' h.pop
                | ok lr4 =>
                  obtain ⟨u4, r4⟩ := lr4
                  rw [e6] at q
                  simp only [Out.bind_ok] at q
                  intro w5 G6 H6 h13
                  have h14 : S0 c G6 H6 ([z2, u4].map some ++ th) r4 ([w2, w5].map some ++ ta') si := h13.swap
                  refine o3 E0 c hc G6 H6 th r4 ta' si [z2, u4] [w2, w5] _ h14 rfl ?_
                  cases e7 : tru (F'' [z2, u4]) with
                  | none => rw [e7] at q; exact q.elim
                  | some bxy =>
                    obtain ⟨k3, y3, z3⟩ := bxy
                    rw [e7] at q
                    rw [tru_some e7]
                    intro w6 G7 H7 h15
                    exact q w6 G7 H7 (S0.dropMid (t0 := [some (.fz (.bl k3))]) (v0 := [some w6]) (t1 := [some y3, some z3]) (v1 := [some w2, some w5]) h15 rfl rfl)
        | false =>
          intro w G3 H3 h7
          refine ⟨false, dt_bl h7.topD, ?_⟩
          rw [if_neg Bool.false_ne_true]
          have h8 : S0 c G3 H3 th r2 ta' si := S0.pops (t1 := [some (.fz (.bl false)), some x', some y']) (v1 := [some w, some v, some u]) h7 rfl
          exact q _ G3 H3 (h8.push (.bl .nil))
theorem ec_chain4 (ho : OpR X (compareOp op) r) (ho' : OpR X (compareOp op') r') (ho'' : OpR X (compareOp op'') r'') (h1 : Ed X s W ea ta fa) (h2 : Ed X s W eb tb fb) (h3 : Ed X s W ec tc fc) (h4 : Ed X s W ed td fd) (o1 : ∀ E, Dop s E (r2 r) F) (o2 : ∀ E, Dop s E (r2 r') F') (o3 : ∀ E, Dop s E (r2 r'') F'') (hm : lastMarks [op, op', op''] [eb, ec, ed] = false := by with_unfolding_all rfl) :
    Ec X s W (.Compare ea [op, op', op''] [eb, ec, ed] pos) (tTest (tChain4 r r' r'' ta tb tc td)) (cB (eCh4 fa fb fc fd F F' F'')) := ⟨pt_chain4 ho ho' ho'' h1.pe h2.pe h3.pe h4.pe hm, Dc.ofB (De.ch4 h1.de h2.de h3.de h4.de o1 o2 o3)⟩
end
end Dl
namespace Dl
open PySem L2

/-! ### the same rules, by the part that is written alone -/
section
variable {X : Cx} {s : Cs} {W : WX}
theorem tg_tupS {bs : List Nat} {es : List Expr} {k : Nat} {pos : Pos} {n : Nat} {g b} (hk : X.K = s.K) (hc : X.calm = true) (h : Tgs X s bs es g b) (hn : (assignEach es X.env).length = n := by rfl) (hst : (assignEach es X.env).findIdx? (·.1) = none := by rfl) : Tg X s bs (.Tuple es k pos) (gTup s.K n g) (bTup b n) := by
  have := tg_tup hk hc h hn hst (pos := pos) (k := k)
  rw [hk] at this
  exact this
theorem ed_slVS {e : Expr} {lo hi : Option Expr} {p2 pos : Pos} {t tl th f fl fh} (hk : X.K = s.K) (h : Ed X s W e t f) (hl : Eo X s W lo tl fl) (hh : Eo X s W hi th fh) : Ed X s W (.Subscript e (.Slice lo hi none p2) pos) (tSl (rSlAll s.K) t tl th) (eSlV f fl fh) := by
  have := ed_slV hk h hl hh (p2 := p2) (pos := pos)
  rw [hk] at this
  exact this
theorem ed_slPS {e : Expr} {i : Nat} {lo hi : Option Expr} {p2 pos : Pos} {tl th fl fh} (hk : X.K = s.K) (h : PE X e (tVar i)) (hl : Eo X s W lo tl fl) (hh : Eo X s W hi th fh) : Ed X s W (.Subscript e (.Slice lo hi none p2) pos) (tSl (rSlAll s.K) (tVar i) tl th) (eSlP i fl fh) := by
  have := ed_slP (W := W) hk h hl hh (p2 := p2) (pos := pos)
  rw [hk] at this
  exact this
theorem ed_revS {e : Expr} {t : TE} {f : Ev} {k : Nat} {p1 p2 p3 pos : Pos} (hk : X.K = s.K) (h : Ed X s W e t f) : Ed X s W (.Subscript e (.Slice none none (some (.UnaryOp .USub (.Constant (.int 1) k p1) p2)) p3) pos) (tRevL s.K t) (eThen f revL) := by
  have := ed_rev (W := W) hk h (k := k) (p1 := p1) (p2 := p2) (p3 := p3) (pos := pos)
  rw [hk] at this
  exact this
theorem ed_revPS {e : Expr} {i : Nat} {k : Nat} {p1 p2 p3 pos : Pos} (hk : X.K = s.K) (h : PE X e (tVar i)) : Ed X s W (.Subscript e (.Slice none none (some (.UnaryOp .USub (.Constant (.int 1) k p1) p2)) p3) pos) (tRevL s.K (tVar i)) (eThenP i revL) := by
  have := ed_revP (W := W) hk h (k := k) (p1 := p1) (p2 := p2) (p3 := p3) (pos := pos)
  rw [hk] at this
  exact this
theorem id_anyS {tg e : Expr} {t : TE} {f : Ev} (hk : X.K = s.K) (h : Ed X s W e t f) : Id X s W tg e (iAny s.K t) (iItem f) := by
  have := id_any hk h (tg := tg)
  rw [hk] at this
  exact this
theorem id_enumS {e : Expr} {t : TE} {f : Ev} {elts : List Expr} {kk : Nat} {p pos tpos : Pos} (hk : X.K = s.K) (hg : Gl X "enumerate") (hm : X.mg "enumerate" = none) (h : Ed X s W e t f) (hs : starEach [e] X.env = [(false, eval e X.env)] := by rfl) : Id X s W (.Tuple elts kk tpos) (.Call (.Name "enumerate" p) [e] [] pos) (iEnum s.K (tAll [t])) (iEnumD f) := by
  have := id_enum hk hg hm h hs (elts := elts) (kk := kk) (p := p) (pos := pos) (tpos := tpos)
  rw [hk] at this
  exact this
/-- (a, b, ..) = a list -/
def bLst (b : Bvs) (n : Nat) : Bv := fun d r => match d with
  | .lst ds => if ds.length = n then b ds r else none
  | _ => none
theorem dg_lst {n : Nat} {bs : List Nat} {g : TGs} {b : Bvs} (h1 : Dgs s bs g b) : Dg s bs (gLst s.K n g) (bLst b n) := fun c hc G H th rh r' ta si d v Q h r e q => by
  subst hc
  unfold bLst at e
  cases d with
  | lst ds =>
    simp only at e
    by_cases hn : ds.length = n
    · rw [if_pos hn] at e
      cases r with
      | @lst a ws _ _ _ sq r _ => exact ⟨a, ws, rfl, .inl (.inl (h.gh _ _ sq)), by rw [← hn, r.length], h1 c rfl G H th rh r' ta si ds ws Q h r e q⟩
    · rw [if_neg hn] at e; cases e
  | _ => cases e
theorem tg_lstS {bs : List Nat} {es : List Expr} {k : Nat} {pos : Pos} {n : Nat} {g b} (hk : X.K = s.K) (hc : X.calm = true) (h : Tgs X s bs es g b) (hn : (assignEach es X.env).length = n := by rfl) (hst : (assignEach es X.env).findIdx? (·.1) = none := by rfl) : Tg X s bs (.Tuple es k pos) (gLst s.K n g) (bLst b n) :=
  ⟨by rw [← hk]; exact pg_lst hc h.pgs hn hst, dg_lst h.dgs⟩
end
end Dl
/-! enumerate(tuple) -/
namespace L2
open PySem PySem.Spec PyProof.Rows
theorem news_enum1 {u : Value} {ob : Obj} {Y : Heap → Prop} (B : Begins u ob Y) :
    Meets (Builtin.«enumerate.__new__» ⟨[.type "enumerate", u], []⟩) (fun _ R z => Y z.heap ∧ R (.ok (.ret (.ref (z.heap.push ob).objs.size)))
      { z with heap := (z.heap.push ob).push { cls := .type "enumerate", data := .fields #[.none, .bool false, .ref z.heap.objs.size, rawInt 0, .none, .none] } }) := by
  refine .of_wp fun pr wo B0 R z hz => ?_
  obtain ⟨hp1, g1, d1, tk1, os1⟩ := z
  obtain ⟨hy, hr⟩ := hz
  have sube := sub_enumerate
  have go : ∀ {B' : Around} {F1 : Value → Shared → Prop} {Q1 : Value → Shared → Prop}, Q1 (.ref hp1.objs.size) ⟨hp1.push ob, g1, d1, tk1, os1⟩ → wpAny (model pr wo) B' (pyIter u) Q1 F1 ⟨hp1, g1, d1, tk1, os1⟩ := fun q =>
    B.iter pr wo _ _ ⟨hp1, g1, d1, tk1, os1⟩ _ hy q
  wp_walk using go
  refine wpAny_stack_any fun stk => wpAny_pure ?_
  split
  · rename_i cl _ _ _ _ _
    cases (cl == Value.type "enumerate") <;> (wp_walk using go; exact ⟨_, rfl, hr⟩)
  · wp_walk using go
    exact ⟨_, rfl, hr⟩
theorem call_enum1 {P1 : Program} {w1 : World} {A1 : Around} {F1 : Value → Shared → Prop} {z : Shared} {u : Value} {ob : Obj} {Y : Heap → Prop} {Q1 : Value → Shared → Prop} (B : Begins u ob Y) (hy : Y z.heap)
    (k : ∀ g, IsEnum g (z.heap.objs.size + 1) z.heap.objs.size 0 .none → g.get? z.heap.objs.size = some ob → (∀ b o, z.heap.get? b = some o → g.get? b = some o) → Q1 (.ref (z.heap.objs.size + 1)) { z with heap := g }) :
    wpAny (model P1 w1) A1 (call (.type "enumerate") [u]) Q1 F1 z := by
  refine callType_new F.called_enumerate (by decide) (F.typeCall_enumerate_1 _) (F.newCall_enumerate_1 _) (fun o2 => F.args_object_init_2 o2 _) F.entry_enumerate_new (news_enum1 B) ⟨hy, ?_⟩
  have sz : (z.heap.push ob).objs.size = z.heap.objs.size + 1 := Heap.size_push ..
  show _ ∧ _
  rw [sz]
  have en : IsEnum ((z.heap.push ob).push { cls := .type "enumerate", data := .fields #[.none, .bool false, .ref z.heap.objs.size, rawInt 0, .none, .none] }) (z.heap.objs.size + 1) z.heap.objs.size 0 .none := by
    have := Heap.get?_push_size (z.heap.push ob) (o := { cls := .type "enumerate", data := .fields #[.none, .bool false, .ref z.heap.objs.size, rawInt 0, .none, .none] }) rfl
    rwa [sz] at this
  exact ⟨⟨_, en, rfl⟩, k _ en (Heap.get?_push_of_some _ (Heap.get?_push_size _ B.free)) fun b o q => Heap.get?_push_of_some _ (Heap.get?_push_of_some _ q)⟩
/-- the tuple at a, each item in a new pair -/
def Itet (K : PySem.W.Frag) (a : Addr) : It :=
  ⟨fun i H => ∃ (ys : List V) (y : V), SqT K H a ys ∧ ys[i]? = some y, fun i H v H' => ∃ T y, v = .ref T ∧ H T = none ∧ H' = upd H T (.tup [.int (i : Nat), y]) ∧ ∀ ys, SqT K H a ys → ys[i]? = some y, fun i H => ∃ ys : List V, SqT K H a ys ∧ ys.length ≤ i⟩
theorem turn_enumT {P1 : Program} {w1 : World} {K : PySem.W.Frag} {el : List Expr} {k1 : Nat} {tp : Pos} (a e it : Addr) :
    Turn P1 w1 K (.Tuple el k1 tp) (Itet K a) [e, it] e (fun i g => (∃ ol, IsEnum g e it ((i : Nat) : Int) ol) ∧ g.IsTupleIter it a i ∧ e ≠ it ∧ a ≠ it ∧ e ≠ a) where
  mem := by simp
  obj := fun i g st b hb => by
    obtain ⟨⟨ol, en⟩, ⟨o, ho, hc, hd⟩, _⟩ := st
    rcases (show b = e ∨ b = it by simpa using hb) with q | q
    · rw [q]; exact ⟨_, en, fun v q => nomatch q⟩
    · rw [q]; exact ⟨o, ho, fun v q => by rw [hd] at q; cases q⟩
  keep := fun i g g' st k => let ⟨⟨ol, en⟩, hi, ne⟩ := st; ⟨⟨ol, k e (by simp) _ en⟩, hi.at fun o q => k it (by simp) o q, ne⟩
  item := by
    intro X hP hw hK hc i pins s σ H E I hf st hg
    subst hP hw hK
    obtain ⟨⟨ol, en⟩, tit, ne, nat, nea⟩ := st
    obtain ⟨ys, y, sq, ey⟩ := hg
    obtain ⟨its, rv, p, hz⟩ := I.tuple sq
    obtain ⟨u, hu, ru⟩ := rv.get ey
    have le : e < s.heap.objs.size := Heap.lt_size en
    have li : it < s.heap.objs.size := by obtain ⟨_, q, _⟩ := tit; exact Heap.lt_size q
    have D := Draws.tuple (prog := X.prog) (w := X.w) (A := X.A.in1) (I.ok.hd hc) it a nat its.toArray
    have hlt : i < its.toArray.size := by
      have := (List.getElem?_eq_some_iff.mp hu).1
      simpa using this
    refine wpAny_pyNext_enum_itemD D en ⟨tit, p⟩ hlt ne (by simp [ne, nea]) fun x g tk hx ho hs hT hsz hk => ?_
    obtain rfl : u = x := by
      have e2 : its.toArray[i]? = some x := hx
      rw [show its.toArray[i]? = its[i]? by simp, hu] at e2
      cases e2; rfl
    refine ⟨_, rfl, wpAny_letOwnedTupleGo_enum (s := { s with heap := g, toks := tk + 1 }) ho fun g2 en2 sb => ?_⟩
    have hT2 : g2.get? s.heap.objs.size = some { cls := .type "tuple", data := .seq #[.int i tk, u] } := (sb.2 _ (Nat.ne_of_gt le)).trans hT
    have nw : ObjOk X.prog X.w (upd H s.heap.objs.size (.tup [.int (i : Nat), y])) g2 s.heap.objs.size (.tup [.int (i : Nat), y]) :=
      ⟨by show 2 ≤ sizeLine; decide, [.int i tk, u], .cons ⟨_, rfl⟩ (.cons ru .nil), ⟨_, hT2, rfl, _, rfl⟩⟩
    have I2 : Inv X pins σ (upd H s.heap.objs.size (.tup [.int (i : Nat), y])) { s with heap := g2, toks := tk + 1 } :=
      I.turnedNew (ch := [e, it]) (fun b o hb q => (sb.2 b (fun z => hb (by simp [z]))).trans (hk b o (fun z => hb (by simp [z])) (fun z => hb (by simp [z])) q)) hf (Nat.le_refl _) nw
    refine ⟨.ref s.heap.objs.size, _, I2, rfl, ⟨_, y, rfl, I.hok.fresh (Nat.le_refl _), rfl, fun zs hq => by rw [I.tuple_inj hq sq]; exact ey⟩, ⟨⟨u, ?_⟩, hs.1.at fun o q => (sb.2 it (Ne.symm ne)).trans q, ne, nat, nea⟩, fun b hb => ?_⟩
    · rw [show ((i + 1 : Nat) : Int) = (i : Int) + 1 by omega]
      exact en2
    · have lb : b < s.heap.objs.size := by
        rcases (show b = e ∨ b = it by simpa using hb) with q | q
        · rw [q]; exact le
        · rw [q]; exact li
      rw [upd_ne (Nat.ne_of_lt lb)]
      exact (hf b hb).1
  done := by
    intro X hP hw hK hc i pins s σ H E I hf st hg
    subst hP hw hK
    obtain ⟨⟨ol, en⟩, tit, ne, nat, nea⟩ := st
    obtain ⟨ys, sq, hi⟩ := hg
    obtain ⟨its, rv, p, hz⟩ := I.tuple sq
    obtain ⟨f0, f1, f2, f3, f4, f5⟩ := hf it (by simp)
    have hl := rv.length
    have D : Draws X.prog X.w X.A.in1 it [it, a] i (fun _ _ => True) (fun j g => j = i ∧ g.IsTupleIter it a i ∧ g.IsTuple a its.toArray) :=
      { live := fun _ _ q => let ⟨o, ho, _⟩ := q.2.1; ⟨o, ho⟩
        frame := fun _ _ _ q k => ⟨q.1, q.2.1.at fun o z => k it (by simp) o z, q.2.2.at fun o z => k a (by simp) o z⟩
        item := fun j _ _ _ hj q _ => absurd q.1 (Nat.ne_of_lt hj)
        done := fun _ _ _ q k => wpAny_nextOf_tuple_end (I.ok.hd hc) q.2.1 q.2.2 (by simp; omega) k }
    exact wpAny_pyNext_enum_endD D en ⟨rfl, tit, p⟩ fun g eb => ⟨rfl, I.turned (t' := s.toks) (fun b o hb z => eb b o hb z) f0 f1 f3 f4 f5⟩
  self := fun A i s Q E st h => let ⟨⟨_, en⟩, _⟩ := st; wpAny_pyIter_enum en h
def iEnumT (K : PySem.W.Frag) (ta : TA) : TI := fun σ H R => ta σ H fun vs H1 => ∃ a ys, vs = [.ref a] ∧ SqT K H1 a ys ∧ R (Itet K a) H1
theorem pi_enumT {X : Cx} {e : Expr} {ta : TA} {p pos tp : Pos} {el : List Expr} {k1 : Nat} (hg : Gl X "enumerate") (hm : X.mg "enumerate" = none) (ha : PA X [e] ta) (hs : starEach [e] X.env = [(false, eval e X.env)] := by rfl) :
    PI X (.Tuple el k1 tp) (.Call (.Name "enumerate" p) [e] [] pos) (iEnumT X.K ta) := by
  refine ⟨fun pins s σ H R I h => Call_ (ld_blt I hg hm boot_enumerate (PyProof.Rows.callWith_type1 (thn (ha.run pos pins s σ H _ I h) fun us s1 ⟨vs, H1, I1, r1, q1⟩ => ?_) hs rfl))⟩
  obtain ⟨a, ys, ev, sq, q⟩ := q1
  subst ev
  cases r1 with
  | cons r rr =>
    cases rr
    cases r
    obtain ⟨its, rv, pt, hz⟩ := I1.tuple sq
    have la : a < s1.heap.objs.size := by obtain ⟨_, z, _⟩ := id pt; exact Heap.lt_size z
    refine call_enum1 (begins_tuple a its.toArray) pt fun g en eit hk => wpAny_pyIter_enum en ?_
    have I2 : Inv X pins σ H1 { s1 with heap := g } := I1.kept (t' := s1.toks) hk
    refine ⟨s1.heap.objs.size + 1, [s1.heap.objs.size + 1, s1.heap.objs.size], _, _, H1, rfl, I2, turn_enumT a (s1.heap.objs.size + 1) s1.heap.objs.size,
      ⟨⟨.none, en⟩, ⟨_, eit, rfl, rfl⟩, Nat.succ_ne_self _, Nat.ne_of_lt la, Nat.ne_of_gt (Nat.lt_succ_of_lt la)⟩, fun b hb => ?_, q⟩
    have lb : s1.heap.objs.size ≤ b := by
      rcases (show b = s1.heap.objs.size + 1 ∨ b = s1.heap.objs.size by simpa using hb) with z | z
      · exact z ▸ Nat.le_succ _
      · exact Nat.le_of_eq z.symm
    exact I1.fpOk lb (I1.hok.fresh lb)
end L2
namespace Dl
open PySem L2
section
variable {X : Cx} {s : Cs} {W : WX} {e : Expr} {t : TE} {f : Ev} {c : Cn} {a : Addr} {tj : Rho} {vj : List (Option V)} {ds : List D}
theorem wk_enumT (hl : tj.length = vj.length) (h : ∀ (G H : Hp) (th rh : Rho) (ta si : List (Option V)), S0 c G H (tj ++ th) rh (vj ++ ta) si → ∃ ws, SqT c.K H a ws ∧ Dt c.K c.ct G ds ws) : Wk c (Itet c.K a) (enumD 0 ds) tj vj :=
  ⟨hl, fun i G H th rh ta si h0 => by
    obtain ⟨ws, sq, dt⟩ := h G H th rh ta si h0
    refine ⟨fun d ed => ?_, fun hi => ⟨ws, sq, by rw [← dt.length, ← enumD_len (k := 0)]; exact hi⟩⟩
    rw [enumD_at, Option.map_eq_some_iff] at ed
    obtain ⟨d2, ed, rfl⟩ := ed
    obtain ⟨v, ev, dv⟩ := dt.nth ed
    refine ⟨⟨ws, v, sq, ev⟩, fun x H' y => ?_⟩
    obtain ⟨p, v2, rfl, np, rfl, y⟩ := y
    have := y ws sq
    rw [ev] at this
    cases this
    rw [Nat.zero_add]
    exact h0.pair (.int dv) np⟩
def iEnumTD (f : Ev) : Iv := fun r => (f r).bind fun (l, r1) => match sqD l.toD with
  | some (false, ds) => .ok (enumD 0 ds, r1)
  | _ => .stuck
theorem Di.enumT (h1 : De s W t f) : Di s W (iEnumT s.K (tAll [t])) (iEnumTD f) := fun c hc G H th rh ta si R h0 q => by
  subst hc
  refine h1 c rfl G H th rh ta si _ h0 ?_
  unfold iEnumTD at q
  cases e : f rh with
  | stuck => rw [e] at q; exact q.elim
  | exc x r => rw [e] at q; exact q
  | ok lr =>
    obtain ⟨l, r1⟩ := lr
    rw [e] at q
    simp only [Out.bind_ok] at q
    intro v G1 H1 h3
    cases e2 : sqD l.toD with
    | none => rw [e2] at q; exact q.elim
    | some bd =>
      obtain ⟨b, ds⟩ := bd
      rw [e2] at q
      cases b with
      | true => exact q.elim
      | false =>
        obtain ⟨G2, h4⟩ := h3.still1
        obtain ⟨a, ws, rfl, _, k1, dt⟩ := h4.vw.seqD h4.gh e2
        refine ⟨a, ws, rfl, k1 rfl, q _ [some (.fz l.toD)] [some (.ref a)] G2 H1 h4 (wk_enumT rfl fun G' H' th' rh' ta' si' h' => ?_)⟩
        obtain ⟨a', ws', ea, _, h1', dt'⟩ := S0.vw (th := th') (ta := ta') h' |>.seqD h'.gh e2
        cases ea
        exact ⟨ws', h1' rfl, dt'⟩
/-- a list or a tuple -/
def iEnA (f : Ev) : Iv := fun r => (f r).bind fun (l, r1) => match sqD l.toD with
  | some (_, ds) => .ok (enumD 0 ds, r1)
  | _ => .stuck
def iEnumA (K : PySem.W.Frag) (ta : TA) : TI := fun σ H R => iEnum K ta σ H R ∨ iEnumT K ta σ H R
theorem Di.enA (h1 : De s W t f) : Di s W (iEnumA s.K (tAll [t])) (iEnA f) := fun c hc G H th rh ta si R h0 q => by
  unfold iEnA at q
  cases e : f rh with
  | stuck => rw [e] at q; exact q.elim
  | exc x r =>
    rw [e] at q
    refine .inl (Di.enum h1 c hc G H th rh ta si R h0 ?_)
    unfold iEnumD
    rw [e]
    exact q
  | ok lr =>
    obtain ⟨l, r1⟩ := lr
    rw [e] at q
    simp only [Out.bind_ok] at q
    cases e2 : sqD l.toD with
    | none => rw [e2] at q; exact q.elim
    | some bd =>
      obtain ⟨b, ds⟩ := bd
      rw [e2] at q
      cases b with
      | true =>
        refine .inl (Di.enum h1 c hc G H th rh ta si R h0 ?_)
        unfold iEnumD
        rw [e]
        simp only [Out.bind_ok, e2]
        exact q
      | false =>
        refine .inr (Di.enumT h1 c hc G H th rh ta si R h0 ?_)
        unfold iEnumTD
        rw [e]
        simp only [Out.bind_ok, e2]
        exact q
theorem id_enA {elts : List Expr} {kk : Nat} {p pos tpos : Pos} (hk : X.K = s.K) (hg : Gl X "enumerate") (hm : X.mg "enumerate" = none) (h : Ed X s W e t f) (hs : starEach [e] X.env = [(false, eval e X.env)] := by rfl) : Id X s W (.Tuple elts kk tpos) (.Call (.Name "enumerate" p) [e] [] pos) (iEnumA s.K (tAll [t])) (iEnA f) := by
  have a := pi_enum hg hm (Pes.cons h.pe .nil hs).pa hs (elts := elts) (kk := kk) (p := p) (pos := pos) (tpos := tpos)
  have b := pi_enumT hg hm (Pes.cons h.pe .nil hs).pa hs (el := elts) (k1 := kk) (p := p) (pos := pos) (tp := tpos)
  rw [hk] at a b
  exact ⟨⟨fun pins z σ H R I q => q.elim (a.run pins z σ H R I) (b.run pins z σ H R I)⟩, Di.enA h.de⟩
end
end Dl
namespace Dl
open PySem L2
/-! ### recursion: at fuel 0 nothing is told -/
theorem ss_stuck {X : Cx} {s : Cs} {W : WX} {st : List Stmt} : Ssd X s W st (fun _ _ _ => False) (fun _ => .stuck) := ⟨⟨fun _ _ _ _ _ _ h => h.elim⟩, fun _ _ _ _ _ _ _ _ _ _ q => q⟩
end Dl
namespace Dl
open PySem L2 PySem.Spec PyProof.Rows

/-! ### bools among ints -/
section
variable {s : Cs} {E : XK} {X : Cx}
def bI (k : Bool) : Int := if k = true then 1 else 0
def rBI (g : Int → Int → Int) : R2 := fun x y H Q => (∃ k j, x = .bl k ∧ y = .int j ∧ Q (.int (g (bI k) j)) H) ∨ ∃ i k, x = .int i ∧ y = .bl k ∧ Q (.int (g i (bI k))) H
theorem op_addBI : OpR X (binaryOp .Add) (rBI fun i j => i + j) := by
  intro pins s σ H x y v u Q I rx ry h
  rcases h with ⟨k, j, rfl, rfl, q⟩ | ⟨i, k, rfl, rfl, q⟩
  · cases rx
    obtain ⟨t, rfl⟩ := ry
    exact PySem.IntBool.add_bool_int ⟨.int (bI k + j), H, I.tok _, ⟨_, rfl⟩, q⟩
  · obtain ⟨t, rfl⟩ := rx
    cases ry
    exact PySem.add_int_bool ⟨.int (i + bI k), H, I.tok _, ⟨_, rfl⟩, q⟩
theorem op_subBI : OpR X (binaryOp .Sub) (rBI fun i j => i - j) := by
  intro pins s σ H x y v u Q I rx ry h
  rcases h with ⟨k, j, rfl, rfl, q⟩ | ⟨i, k, rfl, rfl, q⟩
  · cases rx
    obtain ⟨t, rfl⟩ := ry
    exact PySem.IntBool.sub_bool_int ⟨.int (bI k - j), H, I.tok _, ⟨_, rfl⟩, q⟩
  · obtain ⟨t, rfl⟩ := rx
    cases ry
    exact PySem.IntBool.sub_int_bool ⟨.int (i - bI k), H, I.tok _, ⟨_, rfl⟩, q⟩
def oBI (g : Int → Int → Int) : Fv := p2 fun x y => match x, y with
  | .fz (.bl k), .fz (.int j) => some (.fz (.int (g (bI k) j)))
  | .fz (.int i), .fz (.bl k) => some (.fz (.int (g i (bI k))))
  | _, _ => none
theorem dop_BI {g : Int → Int → Int} : Dop s E (r2 (rBI g)) (oBI g) := dop_p2 fun c hc G H th rh ta si x y v u l Q h0 e q => by
  cases x with
  | fz d =>
    cases y with
    | fz d' =>
      cases d <;> cases d' <;> first | cases e | skip
      · exact .inl ⟨_, _, h0.vw.bl, h0.pop.vw.int, q _ G H (h0.push (.int .nil))⟩
      · exact .inr ⟨_, _, h0.vw.int, h0.pop.vw.bl, q _ G H (h0.push (.int .nil))⟩
    | _ => cases d <;> cases e
  | _ => cases e
def rAddX (K : PySem.W.Frag) : R2 := fun x y H Q => rAddAll K x y H Q ∨ rBI (fun i j => i + j) x y H Q
theorem op_addX : OpR X (binaryOp .Add) (rAddX X.K) := op_addAll.or op_addBI
def oAddX : Fv := alt oAdd (oBI fun i j => i + j)
theorem dop_addX : Dop s E (r2 (rAddX s.K)) oAddX := Dop.alt dop_add dop_BI (fun vs H Q h => r2_inl h) (fun vs H Q h => r2_inr h)
def rSubX : R2 := fun x y H Q => rI0 (fun i j => .int (i - j)) x y H Q ∨ rBI (fun i j => i - j) x y H Q
theorem op_subX : OpR X (binaryOp .Sub) rSubX := op_sub.or op_subBI
def oSubX : Fv := alt oSub (oBI fun i j => i - j)
theorem dop_subX : Dop s E (r2 rSubX) oSubX := Dop.alt dop_sub dop_BI (fun vs H Q h => r2_inl h) (fun vs H Q h => r2_inr h)

/-! ### str of a truth, of None -/
def rStrB : List V → Hp → VK → Prop := fun xs H Q => (∃ k, xs = [.bl k] ∧ Q (.str (if k then "True" else "False")) H) ∨ (xs = [.non] ∧ Q (.str "None") H)
theorem cl_strB : CallR X (.type "str") rStrB := by
  intro pins s σ H xs us Q I r h
  rcases h with ⟨k, rfl, q⟩ | ⟨rfl, q⟩
  · obtain ⟨u, rfl, r1⟩ := vals1 r
    cases r1
    exact PySem.P.str_of_bool ⟨.str _, H, I.tok _, ⟨_, rfl⟩, q⟩
  · obtain ⟨u, rfl, r1⟩ := vals1 r
    cases r1
    exact PySem.P.str_of_none ⟨.str _, H, I.tok _, ⟨_, rfl⟩, q⟩
def oStrB : Fv := p1 fun x => match x with
  | .fz (.bl k) => some (.fz (.str (if k then "True" else "False")))
  | .fz .non => some (.fz (.str "None"))
  | _ => none
theorem dop_strB : Dop s E rStrB oStrB := dop_p1 fun c hc G H th rh ta si x v l Q h0 e q => by
  cases x with
  | fz d =>
    cases d with
    | bl i => cases e; exact .inl ⟨i, by rw [h0.vw.bl], q _ G H (h0.push (.str .nil))⟩
    | non => cases e; exact .inr ⟨by rw [dt_non h0.vw.fz], q _ G H (h0.push (.str .nil))⟩
    | _ => cases e
  | _ => cases e
def rStrX : List V → Hp → VK → Prop := fun xs H Q => rStr xs H Q ∨ rStrB xs H Q
theorem cl_strX : CallR X (.type "str") rStrX := cl_str.or cl_strB
def oStrX : Fv := alt oStr oStrB
theorem dop_strX : Dop s E rStrX oStrX := Dop.alt dop_str dop_strB (fun vs H Q h => .inl h) (fun vs H Q h => .inr h)

/-! ### a tuple of anything, compared with () -/
def rEq0 (K : PySem.W.Frag) (neg : Bool) : R2 := fun x y H Q => ∃ a b xs, x = .ref a ∧ y = .ref b ∧ SqT K H a xs ∧ SqT K H b [] ∧ Q (.bl (if neg then !xs.isEmpty else xs.isEmpty)) H
theorem op_eq0 (hu : X.A.units + 64 < cLine) : OpR X (compareOp .Eq) (rEq0 X.K false) := by
  intro pins s σ H x y v u Q I rx ry h
  obtain ⟨a, b, xs, rfl, rfl, ha, hb, q⟩ := h
  cases (show v = Value.ref a from rx)
  cases (show u = Value.ref b from ry)
  obtain ⟨us, r1, p1, _⟩ := I.tuple ha
  obtain ⟨ws, r2, p2, _⟩ := I.tuple hb
  cases r2
  have e1 := r1.length
  refine SeqAt.RcAt.tuples (e := fun _ => true) p1 p2 (by omega) (fun j h1 h2 => absurd h2 (Nat.not_lt_zero j)) _ _ _ _ ?_
  refine ⟨.bl _, H, I, rfl, ?_⟩
  simp only [List.size_toArray, List.length_nil, Nat.min_zero, List.range_zero, List.all_nil, Bool.true_and]
  cases xs with
  | nil => cases us with
    | nil => exact q
    | cons _ _ => simp at e1
  | cons _ _ => cases us with
    | nil => simp at e1
    | cons _ _ => simpa using q
def oEq0 : Fv := p2 fun x y => match x, y with
  | .fz (.tup ds), .fz (.tup []) => some (.fz (.bl ds.isEmpty))
  | _, _ => none
theorem dop_eq0 : Dop s E (r2 (rEq0 s.K false)) oEq0 := dop_p2 fun c hc G H th rh ta si x y v u l Q h0 e q => by
  subst hc
  cases x with
  | fz d =>
    cases d with
    | tup ds =>
      cases y with
      | fz d' =>
        cases d' with
        | tup es =>
          cases es with
          | nil =>
            cases e
            obtain ⟨p, ws, rfl, sq, gp, dt⟩ := h0.vw.tupD h0.gh rfl
            obtain ⟨p2, ws2, rfl, sq2, gp2, dt2⟩ := h0.pop.vw.tupD h0.gh rfl
            cases dt2
            have hl := dt.length
            refine ⟨p, p2, ws, rfl, rfl, sq, sq2, ?_⟩
            have : ws.isEmpty = ds.isEmpty := by cases ws <;> cases ds <;> simp_all
            rw [if_neg Bool.false_ne_true, this]
            exact q _ G H (h0.push (.bl .nil))
          | cons _ _ => cases e
        | _ => cases e
      | _ => cases e
    | _ => cases y <;> cases e
  | _ => cases e
def rEqE (K : PySem.W.Frag) : R2 := fun x y H Q => rEq0 K false x y H Q ∨ rEqD K x y H Q
theorem op_eqE (hu : X.A.units + 64 < cLine) : OpR X (compareOp .Eq) (rEqE X.K) := (op_eq0 hu).or (op_eqD hu)
def oEqE : Fv := alt oEq0 oEq
theorem dop_eqE : Dop s E (r2 (rEqE s.K)) oEqE := Dop.alt dop_eq0 dop_eq (fun vs H Q h => r2_inl h) (fun vs H Q h => r2_inr h)
end

/-! ### an own dict changed -/
section
variable {c : Cn} {G H : Hp} {th rh : Rho} {ta si : List (Option V)}
theorem S0.redct {ks : List (D × L)} {v : V} (h : S0 c G H (some (.dct false ks) :: th) rh (some v :: ta) si) :
    ∃ p ws, v = .ref p ∧ H p = some (.dK ws) ∧ ks.map (·.1) = ws.map (fun p => keyD p.1) ∧ ∀ (t0 : Rho) (v0 : List (Option V)) (ks' : List (D × L)) (ws' : List (Key × V)), ks'.map (·.1) = ws'.map (fun p => keyD p.1) →
      (∀ f, Ow c.K c.ct G H (ks.map fun p => some p.2) (ws.map fun p => some p.2) f → ∃ f0 f', Ow c.K c.ct G H t0 v0 f0 ∧ Ow c.K c.ct G H (ks'.map fun p => some p.2) (ws'.map fun p => some p.2) f' ∧ (f.Nodup → (f0 ++ f').Nodup) ∧ ∀ a ∈ f0 ++ f', a ∈ f) →
      S0 c G (upd H p (.dK ws')) (t0 ++ some (.dct false ks') :: th) rh (v0 ++ some (.ref p) :: ta) si := by
  obtain ⟨f1, o, nd, k, j⟩ := S0.split (t1 := [some (.dct false ks)]) (v1 := [some v]) (th := th) (ta := ta) h rfl
  cases o with
  | @dK p ws ks f _ _ f2 hp hk1 o1 o2 =>
    cases o2
    refine ⟨p, ws, rfl, hp, hk1, fun t0 v0 ks' ws' hk2 hk => ?_⟩
    rw [List.append_nil] at nd k j
    obtain ⟨f0, f', oa, ob, hn, hs⟩ := hk f o1
    have nd' := List.nodup_cons.mp nd
    have off : ∀ a ∈ f0 ++ f', a ≠ p := fun a m e => nd'.1 (e ▸ hs a m)
    have same : ∀ a ∈ f0 ++ f', upd H p (.dK ws') a = H a := fun a m => upd_ne (off a m)
    have oa' := oa.mono (fun _ _ z => z) (fun a m => same a (by simp [m]))
    have ob' := ob.mono (fun _ _ z => z) (fun a m => same a (by simp [m]))
    have gp : G p = none := k p (by simp)
    have nd2 := hn nd'.2
    have := j.run G (upd H p (.dK ws')) (t0 ++ [some (.dct false ks')]) (v0 ++ [some (.ref p)]) (f0 ++ (p :: (f' ++ [])))
      (Ow.app oa' (Ow.dK upd_same hk2 ob' .nil))
      (by
        rw [List.append_nil]
        refine List.nodup_append.mpr ⟨(List.nodup_append.mp nd2).1, List.nodup_cons.mpr ⟨fun m => off p (by simp [m]) rfl, (List.nodup_append.mp nd2).2.1⟩, fun a ha b hb e => ?_⟩
        subst e
        rcases List.mem_cons.mp hb with e | m
        · exact off a (by simp [ha]) e
        · exact (List.nodup_append.mp nd2).2.2 a ha a m rfl)
      (fun a m => by
        rw [List.append_nil] at m
        rcases List.mem_append.mp m with m | m
        · exact ⟨k a (by simp [hs a (by simp [m])]), .inl (by simp [hs a (by simp [m])])⟩
        · rcases List.mem_cons.mp m with rfl | m
          · exact ⟨gp, .inl (by simp)⟩
          · exact ⟨k a (by simp [hs a (by simp [m])]), .inl (by simp [hs a (by simp [m])])⟩)
      (fun _ _ z => z)
      (fun a u z => by
        rw [upd_ne (fun e => by rw [e, gp] at z; cases z)]
        exact h.gh a u z)
      (fun a u z n => by rw [upd_ne (fun e => n (by simp [e]))]; exact z)
      (fun a z => .inl z)
    simpa [List.append_assoc] using this
end
section
variable {s : Cs} {E : XK} {X : Cx} {W : WX}
/-- {} -/
def eDN : Ev := fun r => .ok (.dct false [], r)
theorem De.dnew : De s W tDNewK eDN := fun c hc G H th rh ta si Q h0 q => by
  intro p np
  exact q (.ref p) G (upd H p (.dK [])) (h0.new (g := []) np (by simpa using Ow.dK (K := c.K) (ct := c.ct) (G := G) (H := upd H p (.dK [])) (ks := []) upd_same rfl .nil .nil))
theorem ed_dnew {pos : Pos} : Ed X s W (.Dict [] [] pos) tDNewK eDN := ⟨pe_dnewK, De.dnew⟩
/-- {k: v} -/
def eD1 (a : Av) : Ev := fun r => (a r).bind fun (ls, r1) => match ls with
  | [k, v] => match keyOf k.toD with
    | some _ => .ok (.dct false [(k.toD, .fz v.toD)], r1)
    | none => .stuck
  | _ => .stuck
theorem De.d1 {tk tv : TE} {a : Av} (h2 : Da s W [none, none] (tAll [tk, tv]) a) : De s W (tDisp [(tk, tv)]) (eD1 a) := fun c hc G H th rh ta si Q h0 q => by
  intro p np
  have h1 := h0.new (u := .dK []) (l := .dct false []) (g := []) np (by simpa using Ow.dK (K := c.K) (ct := c.ct) (G := G) (H := upd H p (.dK [])) (ks := []) upd_same rfl .nil .nil)
  show tAll [tk, tv] si (upd H p (.dK [])) (fun vs H2 => match vs with
    | [x, y] => H2 p = some (.dK []) ∧ ∃ kvs : List (Key × V), [(x, y)] = kvs.map (fun kv => (kV kv.1, kv.2)) ∧ kvs.length ≤ 15 ∧ Q (.ref p) (upd H2 p (.dK (mergeK [] kvs)))
    | _ => False)
  refine h2 c hc _ _ _ _ _ _ _ h1 ?_
  unfold eD1 at q
  cases e2 : a rh with
  | stuck => rw [e2] at q; exact q.elim
  | exc x r => rw [e2] at q; exact fun cls od G' H' h => q cls od G' H' h.pop
  | ok lr2 =>
    obtain ⟨ls, r2⟩ := lr2
    rw [e2] at q
    simp only [Out.bind_ok] at q
    intro vs G' H' h3 e3 _
    match ls, vs, e3, q, h3 with
    | [k, v], [x, y], _, q, h3 =>
      simp only at q
      cases e4 : keyOf k.toD with
      | none => rw [e4] at q; exact q.elim
      | some key =>
        rw [e4] at q
        simp only at q
        obtain ⟨G2, sg, dt, h4⟩ := S0.freezes (ls := [k, v]) (vs := [x, y]) h3 rfl
        obtain ⟨p', ws, ep, hp, hk, go⟩ := h4.redct
        cases ep
        have hw : ws = [] := by cases ws with
          | nil => rfl
          | cons _ _ => simp at hk
        subst hw
        have ek := keyOf_some e4
        have dk := dt.uncons.1
        have dv := dt.uncons.2
        simp only [List.map_cons, List.map_nil, ek] at dk dv
        have ex : x = kV key := by
          have := keys_vals (ks := [key]) (ws := [x]) (by simpa using dk)
          simpa using this
        refine ⟨hp, [(key, y)], by simp [ex], by simp, ?_⟩
        have h5 := go [] [] [(k.toD, .fz v.toD)] [(key, y)] (by simp [ek]) (fun f _ => ⟨[], [], .nil, .fz dv .nil, by simp, by simp⟩)
        exact q _ G2 _ h5
    | [], _, _, q, _ => exact q.elim
    | [_], _, _, q, _ => exact q.elim
    | _ :: _ :: _ :: _, _, _, q, _ => exact q.elim
    | [_, _], [], e3, _, _ => simp at e3
    | [_, _], [_], e3, _, _ => simp at e3
    | [_, _], _ :: _ :: _ :: _, e3, _, _ => simp at e3
theorem ed_d1 {k v : Expr} {tk tv : TE} {pos : Pos} {a : Av} (h : Es X s W [none, none] [k, v] [tk, tv] a) : Ed X s W (.Dict [some k] [v] pos) (tDisp [(tk, tv)]) (eD1 a) :=
  ⟨pe_disp (pps_cons h.pes.two.1 h.pes.two.2 pps_nil) rfl rfl (fun z => by cases z) (by show 1 ≤ 15; decide), De.d1 h.da⟩
end
section
variable {X : Cx} {s : Cs} {W : WX} {ea eb ec ed : Expr} {ta tb tc td : TE} {fa fb fc fd : Ev} {r r' r'' : R2} {F F' F'' : Fv} {op op' op'' : CmpOp} {pos : Pos}
theorem pe_chain4 (ho : OpR X (compareOp op) r) (ho' : OpR X (compareOp op') r') (ho'' : OpR X (compareOp op'') r'') (ha : PE X ea ta) (hb : PE X eb tb) (hc : PE X ec tc) (hd : PE X ed td)
    (hm : lastMarks [op, op', op''] [eb, ec, ed] = false := by with_unfolding_all rfl) : PE X (.Compare ea [op, op', op''] [eb, ec, ed] pos) (tChain4 r r' r'' ta tb tc td) := by
  refine ⟨fun pins s σ H Q I h => ?_⟩
  refine Compare_chain (thn (ha.run pins s σ H _ I h) fun v s1 ⟨x, H1, I1, r1, q1⟩ => chain_link (thn (hb.run pins s1 σ H1 _ I1 q1) fun u s2 ⟨y, H2, I2, r2, q2⟩ =>
    thn (ho pins s2 σ H2 x y v u _ I2 r1 r2 q2) fun d s3 ⟨z, H3, I3, r3, k, e, q3⟩ => ?_)) hm
  subst e
  cases r3
  refine wpAny_truthy_bool ?_
  cases k with
  | false => exact ite_ff ⟨.bl false, H3, I3, rfl, q3⟩
  | true =>
    refine ite_tt (chain_link (thn (hc.run pins s3 σ H3 _ I3 q3) fun w' s4 ⟨z', H4, I4, r4, q4⟩ => thn (ho' pins s4 σ H4 y z' u w' _ I4 r2 r4 q4) fun d' s5 ⟨z2, H5, I5, r5, k2, e2, q5⟩ => ?_))
    subst e2
    cases r5
    refine wpAny_truthy_bool ?_
    cases k2 with
    | false => exact ite_ff ⟨.bl false, H5, I5, rfl, q5⟩
    | true => exact ite_tt (chain_last (thn (hd.run pins s5 σ H5 _ I5 q5) fun w2 s6 ⟨z3, H6, I6, r6, q6⟩ => ho'' pins s6 σ H6 z' z3 w' w2 Q I6 r4 r6 q6))
theorem ed_chain4 (ho : OpR X (compareOp op) r) (ho' : OpR X (compareOp op') r') (ho'' : OpR X (compareOp op'') r'') (h1 : Ed X s W ea ta fa) (h2 : Ed X s W eb tb fb) (h3 : Ed X s W ec tc fc) (h4 : Ed X s W ed td fd) (o1 : ∀ E, Dop s E (r2 r) F) (o2 : ∀ E, Dop s E (r2 r') F') (o3 : ∀ E, Dop s E (r2 r'') F'') (hm : lastMarks [op, op', op''] [eb, ec, ed] = false := by with_unfolding_all rfl) :
    Ed X s W (.Compare ea [op, op', op''] [eb, ec, ed] pos) (tChain4 r r' r'' ta tb tc td) (eCh4 fa fb fc fd F F' F'') := ⟨pe_chain4 ho ho' ho'' h1.pe h2.pe h3.pe h4.pe hm, De.ch4 h1.de h2.de h3.de h4.de o1 o2 o3⟩
end
/-! ### t[::-1] -/
theorem range_all {α : Type} : ∀ l : List α, (List.range l.length).filterMap (fun m => l[m]?) = l
  | [] => rfl
  | a :: l => by
    rw [List.length_cons, List.range_succ_eq_map, List.filterMap_cons]
    simp only [List.getElem?_cons_zero, List.filterMap_map, List.cons.injEq, true_and]
    have : ((fun m => (a :: l)[m]?) ∘ Nat.succ) = fun m => l[m]? := by funext m; simp
    rw [this]
    exact range_all l
theorem fm_congr {α β : Type} {f g : α → Option β} : ∀ {l : List α}, (∀ x, x ∈ l → f x = g x) → l.filterMap f = l.filterMap g
  | [], _ => rfl
  | a :: l, h => by
    rw [List.filterMap_cons, List.filterMap_cons, h a (by simp), fm_congr fun x hx => h x (by simp [hx])]
theorem range_rev {α : Type} (xs : Array α) : ((List.range xs.size).filterMap fun (m : Nat) => xs[(((xs.size : Int) - 1) + (m : Int) * (-1)).toNat]?).toArray = xs.toList.reverse.toArray := by
  congr 1
  have e := range_all xs.toList.reverse
  rw [List.length_reverse, Array.length_toList] at e
  rw [← e]
  refine fm_congr fun m hm => ?_
  rw [List.mem_range] at hm
  rw [List.getElem?_reverse (by simpa using hm), Array.length_toList, Array.getElem?_toList]
  congr 1
  omega
namespace TupRev
open PySem PySem.Spec PyProof.Rows HT
section
variable {prog : Program} {w : World} {A : Around} {E : Value → Shared → Prop} {s : Shared}
theorem sliceApplied_rev {sl : Addr} {vl vu vs : Value} {n : Nat} {Q : Int × Int × Nat → Shared → Prop} (hs : s.heap.IsSliceOf sl vl vu vs) (pl : IsPart vl none) (pu : IsPart vu none) (ps : IsPart vs (some (-1)))
    (h : Q ((n : Int) - 1, -1, n) s) : wpAny (model prog w) A (Builtin.Slice.sliceApplied (.ref sl) (pure (n : Int))) Q E s := by
  obtain ⟨os, hos, hcs, hds⟩ := id hs
  unfold Builtin.Slice.sliceApplied Builtin.Slice.sliceFields
  refine wpAny_bind (wpAny_bind (wpAny_field hos hds (x := vl) rfl (wpAny_bind (wpAny_field hos hds (x := vu) rfl (wpAny_bind (wpAny_field hos hds (x := vs) rfl (wpAny_pure ?_)))))))
  refine wpAny_bind (slicePart_ ps ?_)
  show wpAny _ _ (if ((-1 : Int) == 0) = true then _ else _) _ _ s
  rw [if_neg (by decide)]
  refine wpAny_bind (slicePart_ pl (wpAny_bind (slicePart_ pu (wpAny_bind (wpAny_pure ?_)))))
  have e : Builtin.Slice.slicePlaces ((n : Int) - 1) (-1) (-1) = n := by
    unfold Builtin.Slice.slicePlaces
    rw [if_neg (by decide)]
    by_cases hn : n = 0
    · subst hn; rfl
    · rw [if_pos (by omega)]
      simp
  show wpAny _ _ (pure ((n : Int) - 1, (-1 : Int), Builtin.Slice.slicePlaces ((n : Int) - 1) (-1) (-1))) _ _ s
  rw [e]
  exact wpAny_pure h
theorem getItem_tuple_rev {t sl : Addr} {items : Array Value} {vl vu vs : Value} {Q : Value → Shared → Prop} (ht : IsTup s.heap t items) (hs : s.heap.IsSliceOf sl vl vu vs) (pl : IsPart vl none) (pu : IsPart vu none) (ps : IsPart vs (some (-1)))
    (h : Q (.ref s.heap.objs.size) { s with heap := s.heap.push { cls := .type "tuple", data := .seq items.toList.reverse.toArray } })
    (hsz : items.size ≤ sizeLine) : wpAny (model prog w) A (getItem (.ref t) (.ref sl)) Q E s := by
  have htake : sizeOk (.seq items.toList.reverse.toArray) := by
    show items.toList.reverse.toArray.size ≤ sizeLine
    rw [List.size_toArray, List.length_reverse, Array.length_toList]
    omega
  obtain ⟨os, hos, hcs, hds⟩ := id hs
  have hTs : s.TypeIs (.ref sl) "slice" := ⟨os, hos, hcs⟩
  unfold getItem
  try with_reducible refine wpAny_holding ?_
  first | refine wpAny_bind (wpAny_pure ?_) | skip
  refine wpAny_bind (wpAny_sequenceKey ht.typeIs (by decide) ?_)
  refine wpAny_bind (wpAny_callSpecial?_slot (name := Str.ofString "__getitem__") ht.typeIs PyProof.Rows.slot_tuple_getitem
    (wpAny_call_entry PyProof.Rows.slot_tuple_getitem ht.typeIs entry_tuple_getitem ?_ (args_tuple_getitem _ _)))
  show wpAny _ _ (Builtin.Tuple.tupleItemsOf (.ref t) >>= _) _ _ s
  refine wpAny_bind (tupleItemsOf_ ht ?_)
  refine wpAny_bind (wpAny_typeOf hTs ?_)
  rw [if_pos (by decide)]
  refine wpAny_bind (sliceApplied_rev hs pl pu ps ?_)
  have hno : ¬ ((((items.size : Int) - 1) == 0 && (-1 : Int) == 1 && items.size == items.size) = true) := by
    intro q
    rw [Bool.and_eq_true, Bool.and_eq_true] at q
    exact absurd (eq_of_beq q.1.2) (by decide)
  show wpAny _ _ (if (((items.size : Int) - 1) == 0 && (-1 : Int) == 1 && items.size == items.size) = true then _ else _) _ _ s
  rw [if_neg hno, range_rev]
  first
    | exact wpAny_bind (m := Builtin.Tuple.tupleExact _) (wpAny_newObj_type (wpAny_pure ⟨_, rfl, wpAny_pure h⟩) htake)
    | exact wpAny_bind (m := Builtin.Tuple.tupleExact _) (wpAny_newObj_type (wpAny_bind (wpAny_pure (wpAny_pure ⟨_, rfl, wpAny_pure h⟩))) htake)
    | exact wpAny_bind (wpAny_bind (m := Builtin.Tuple.tupleExact _) (wpAny_newObj_type (wpAny_pure (wpAny_pure ⟨_, rfl, wpAny_pure h⟩)) htake))
    | exact wpAny_bind (wpAny_bind (m := Builtin.Tuple.tupleExact _) (wpAny_newObj_type (wpAny_pure ⟨_, rfl, wpAny_pure h⟩) htake))
end
end TupRev
section
open PySem PySem.Spec PyProof.Rows
variable {X : Cx} {s : Cs} {W : WX}
/-- x[::-1], a list or a tuple -/
def tRevA (K : PySem.W.Frag) (te : TE) : TE := fun σ H Q => te σ H fun x H1 => (∃ a xs, x = .ref a ∧ SqL K H1 a xs ∧ ∀ p, H1 p = none → Q (.ref p) (upd H1 p (.lst xs.reverse))) ∨ ∃ a xs, x = .ref a ∧ SqT K H1 a xs ∧ ∀ p, H1 p = none → Q (.ref p) (upd H1 p (.tup xs.reverse))
theorem pe_revA {e : Expr} {te : TE} {k : Nat} {p1 p2 p3 pos : Pos} (he : PE X e te) : PE X (.Subscript e (.Slice none none (some (.UnaryOp .USub (.Constant (.int 1) k p1) p2)) p3) pos) (tRevA X.K te) := by
  refine ⟨fun pins s σ H Q I h => ?_⟩
  refine Subscript_ (thn (he.run pins s σ H _ I h) fun v s1 ⟨x, H1, I1, r1, q1⟩ => ?_)
  have hst : PO X (some (.UnaryOp .USub (.Constant (.int 1) k p1) p2)) (tPart (tUn (rU fun i => .int (-i)) (tC (.int 1)))) := po_some (pe_un un_neg pe_int)
  refine wpAny_Slice (thn (po_none.run pins s1 σ H1 (fun o H2 => o = none ∧ H2 = H1) I1 ⟨rfl, rfl⟩) fun vl s2 ⟨l, H2, I2, pl, el, e2⟩ => ?_)
  subst el e2
  refine thn (po_none.run pins s2 σ H2 (fun o H3 => o = none ∧ H3 = H2) I2 ⟨rfl, rfl⟩) fun vu s3 ⟨u, H3, I3, pu, eu, e3⟩ => ?_
  subst eu e3
  refine thn (hst.run pins s3 σ H3 (fun o H4 => o = some (-1) ∧ H4 = H3) I3 ⟨1, rfl, -1, rfl, rfl, rfl⟩) fun vs s4 ⟨o, H4, I4, ps, eo, e4⟩ => ?_
  subst eo e4
  have I5 : Inv X pins σ H4 { s4 with heap := s4.heap.push { cls := .type "slice", data := .fields #[vl, vu, vs] } } := I4.kept (t' := s4.toks) fun b ob q => Heap.get?_push_of_some _ q
  rcases q1 with ⟨a, xs, ex, hx, q⟩ | ⟨a, xs, ex, hx, q⟩
  · subst ex
    cases r1
    obtain ⟨its, r, ht, hz⟩ := I5.list hx
    have hlen := r.length
    show wpAny (model X.prog X.w) X.A (subscriptTail e (.Slice none none (some (.UnaryOp .USub (.Constant (.int 1) k p1) p2)) p3) (.ref a) (.ref s4.heap.objs.size)) (EP X pins σ Q) X.xe { s4 with heap := s4.heap.push { cls := .type "slice", data := .fields #[vl, vu, vs] } }
    refine tail_any (ops := [.ref a, .ref s4.heap.objs.size]) ht.isList.typeIs (PySem.slot_list_getitem.lookup) ?_ (by with_unfolding_all rfl)
    refine wpAny_getItem_list_slice ht.isList (Heap.IsSliceOf.new _ vl vu vs) pl pu ps (by decide) ?_ (by rw [List.size_toArray]; omega)
    rw [PySem.W.krv_pick]
    refine ⟨.ref _, _, I5.laid (t' := s4.toks) (o := .lst xs.reverse) (fun b ob q => Heap.get?_push_of_some _ q) (Nat.le_refl _) ?_, rfl, q _ (I5.hok.fresh (Nat.le_refl _))⟩
    exact ⟨by rw [List.length_reverse]; exact hz, _, 0, r.reverse, Heap.get?_push_size _ rfl⟩
  · subst ex
    cases r1
    obtain ⟨its, r, ht, hz⟩ := I5.tuple hx
    have hlen := r.length
    show wpAny (model X.prog X.w) X.A (subscriptTail e (.Slice none none (some (.UnaryOp .USub (.Constant (.int 1) k p1) p2)) p3) (.ref a) (.ref s4.heap.objs.size)) (EP X pins σ Q) X.xe { s4 with heap := s4.heap.push { cls := .type "slice", data := .fields #[vl, vu, vs] } }
    refine tail_any (ops := [.ref a, .ref s4.heap.objs.size]) ht.typeIs (PyProof.Rows.slot_tuple_getitem.lookup) ?_ (by with_unfolding_all rfl)
    refine TupRev.getItem_tuple_rev ht (Heap.IsSliceOf.new _ vl vu vs) pl pu ps ?_ (by rw [List.size_toArray]; omega)
    refine ⟨.ref _, _, I5.laid (t' := s4.toks) (o := .tup xs.reverse) (fun b ob q => Heap.get?_push_of_some _ q) (Nat.le_refl _) ?_, rfl, q _ (I5.hok.fresh (Nat.le_refl _))⟩
    exact ⟨by rw [List.length_reverse]; exact hz, _, r.reverse, IsTup.new _ _⟩
def revA (x : L) : Option L := match seqD x with
  | some (true, ds) => some (.lst (ds.reverse.map .fz))
  | some (false, ds) => some (.fz (.tup ds.reverse))
  | none => none
theorem thn_revA : Thn s (fun x H1 Q => (∃ a xs, x = .ref a ∧ SqL s.K H1 a xs ∧ ∀ p, H1 p = none → Q (.ref p) (upd H1 p (.lst xs.reverse))) ∨ ∃ a xs, x = .ref a ∧ SqT s.K H1 a xs ∧ ∀ p, H1 p = none → Q (.ref p) (upd H1 p (.tup xs.reverse))) revA := fun c hc G H th rh ta si x v l Q h0 e q => by
  subst hc
  unfold revA at e
  cases e1 : seqD x with
  | none => rw [e1] at e; cases e
  | some p =>
    obtain ⟨b, ds⟩ := p
    rw [e1] at e
    cases b with
    | true =>
      cases e
      obtain ⟨a, ws, rfl, sq, dt⟩ := h0.vw.lsq h0.gh (show lsq x = some ds by unfold lsq; rw [e1]; rfl)
      exact .inl ⟨a, ws, rfl, sq, fun p np => q _ G _ (h0.newLst dt.rev np)⟩
    | false =>
      cases e
      obtain ⟨a, ws, rfl, sq, dt⟩ := h0.vw.tsq h0.gh (show tsq x = some ds by unfold tsq; rw [e1]; rfl)
      refine .inr ⟨a, ws, rfl, sq, fun p np => ?_⟩
      obtain ⟨G', h1⟩ := h0.newTup dt.rev np
      exact q _ G' _ h1
theorem ed_revAS {e : Expr} {t : TE} {f : Ev} {k : Nat} {p1 p2 p3 pos : Pos} (hk : X.K = s.K) (h : Ed X s W e t f) : Ed X s W (.Subscript e (.Slice none none (some (.UnaryOp .USub (.Constant (.int 1) k p1) p2)) p3) pos) (tRevA s.K t) (eThen f revA) :=
  ⟨by rw [← hk]; exact pe_revA h.pe, De.thn thn_revA h.de⟩
end
end Dl
namespace Dl
open PySem L2 PySem.Spec PyProof.Rows

/-! ### tuples whose object is known: tuple(xs), t.index(x) -/
section
variable {c : Cn} {G H : Hp} {th rh : List (Option L)} {ta si : List (Option V)}
theorem S0.newKtp {ds : List D} {ws : List V} {p : Addr} {o : Obj} (h : S0 c G H th rh ta si) (r : Dt c.K c.ct G ds ws) (np : H p = none) (hd : o.dict = none) : ∃ G', S0 c G' (upd H p (.frz o (.tup ws))) (some (.fz (.ktp ds)) :: th) rh (some (.ref p) :: ta) si := by
  obtain ⟨h1, s1⟩ := h.newD (u := .frz o (.tup ws)) np
  exact ⟨_, h1.push (.ktp ⟨.inr ⟨o, upd_same⟩, o, hd, .inl ⟨_, upd_same⟩⟩ (r.mono s1) .nil)⟩
end
section
variable {s : Cs} {E : XK} {X : Cx}
def rTupN (K : PySem.W.Frag) : List V → Hp → VK → Prop := fun xs H Q => ∃ p ys, xs = [.ref p] ∧ SqL K H p ys ∧ ∀ (l : Addr) (o : Obj), H l = none → o.dict = none → Q (.ref l) (upd H l (.frz o (.tup ys)))
theorem call_tupleN : CallR X (.type "tuple") (rTupN X.K) := by
  intro pins s σ H xs us Q I r h
  obtain ⟨p, ys, rfl, hq, q⟩ := h
  obtain ⟨u, rfl, rx⟩ := vals1 r
  cases rx
  obtain ⟨its, r', pl, hz⟩ := I.list hq
  have hlen := r'.length
  refine call_tuple_list pl.isList (fun h' kp => ?_) (by simp only [List.size_toArray] <;> omega)
  have I1 : Inv X pins σ H { s with heap := h' } := I.kept (t' := s.toks) kp
  have I2 : Inv X pins σ (upd H h'.objs.size (.frz { cls := .type "tuple", data := .seq its.toArray } (.tup ys))) { s with heap := h'.push { cls := .type "tuple", data := .seq its.toArray } } :=
    I1.laid (t' := s.toks) (fun b o e => Heap.get?_push_of_some _ e) (Nat.le_refl _) (show ObjOk X.prog X.w _ _ _ (.frz _ (.tup ys)) from ⟨Heap.get?_push_size _ rfl, hz, its, r', IsTup.new _ _⟩)
  exact ⟨.ref h'.objs.size, _, I2, rfl, q _ _ (I1.hok.fresh (Nat.le_refl _)) rfl⟩
def oTupleN : Fv := p1 fun x => (lsq x).map fun ds => .fz (.ktp ds)
theorem dop_tupleN : Dop s E (rTupN s.K) oTupleN := dop_p1 fun c hc G H th rh ta si x v l Q h0 e q => by
  subst hc
  cases e1 : lsq x with
  | none => rw [e1] at e; cases e
  | some ds =>
    rw [e1] at e
    cases e
    obtain ⟨a, ws, rfl, sq, dt⟩ := h0.vw.lsq h0.gh e1
    refine ⟨a, ws, rfl, sq, fun p o np hd => ?_⟩
    obtain ⟨G', h'⟩ := h0.newKtp dt np hd
    exact q _ G' _ h'

/-! the receiver -/
def isKtp : L → Bool
  | .fz (.ktp _) => true
  | _ => false
def knT (K : PySem.W.Frag) (x : V) (H : Hp) : Prop := ∃ p ws, x = .ref p ∧ SqN K H p ws
theorem chk_ktp : Chk s (fun v H => knT s.K v H) isKtp := fun c hc G H th rh ta si l v h p => by
  subst hc
  cases l with
  | fz d =>
    cases d with
    | ktp ds =>
      have r := h.vw.fz
      cases r with
      | @ktp a ws _ _ _ sq r2 _ => exact ⟨a, ws, rfl, h.gh.sqN sq⟩
    | _ => cases p
  | _ => cases p
theorem knT_is {pins : List (Addr × Obj)} {σ : L2.St} {H : Hp} {s : Shared} {x : V} {v : Value} (I : Inv X pins σ H s) (r : RelV x v) (ty : knT X.K x H) :
    s.TypeIs v "tuple" ∧ ∀ a, v = .ref a → ∃ ob, s.heap.get? a = some ob ∧ ob.dict = none := by
  obtain ⟨p, ws, rfl, h, o, hd, ho⟩ := ty
  cases r
  obtain ⟨its, _, pl, _⟩ := I.tuple (.inl h)
  refine ⟨pl.typeIs, fun a e => ?_⟩
  cases e
  rcases ho with ⟨u, ho⟩ | ho
  · exact ⟨o, (I.hok _ _ ho).1, hd⟩
  · exact ⟨o, I.kIn _ o ho, hd⟩
def tKM (K : PySem.W.Frag) (r : V → List V → Hp → VK → Prop) (to : TE) (t : TA) : TE := fun σ H Q => to σ H fun x H1 => knT K x H1 ∧ t σ H1 fun xs H2 => r x xs H2 Q
section
variable {o e : Expr} {es : List Expr} {to : TE} {t : TA} {name : Str} {apos cpos : Pos} {id : String} {r : V → List V → Hp → VK → Prop}
theorem pe_km (pa : PlainAttrs "tuple") (slot : Slot "tuple" name id) (hty : typeOf (.builtin id) = pure (.type "method_descriptor")) (hm : MtR X id r) (ho : PE X o to) (ha : PA X (e :: es) t)
    (hbase : attributeBase o name X.env (eval o X.env) = eval o X.env := by rfl)
    (hfew : ((backTo cpos (starEach (e :: es) X.env)).all (fun x => !x.1) && (backToKw cpos (keywordEach [] X.env)).all (fun x => x.1.isSome)
      && decide ((e :: es).length + ([] : List Keyword).length + (if ([] : List Keyword).isEmpty then 0 else 1) < 30)) = true := by rfl)
    (hline : (apos.endLine == cpos.line) = true := by rfl) (hs : starEach (e :: es) X.env = (false, eval e X.env) :: starEach es X.env := by rfl) (hplain : (backTo cpos (starEach es X.env)).any (·.1) = false := by rfl) :
    PE X (.Call (.Attribute o name apos) (e :: es) [] cpos) (tKM X.K r to t) := by
  refine ⟨fun pins s σ H Q I h => ?_⟩
  refine wpAny_Call_method_late hbase hfew hline rfl (thn (ho.run pins s σ H _ I h) fun v s1 ⟨x, H1, I1, r1, ty, q1⟩ => ?_)
  obtain ⟨h1, h2⟩ := knT_is I1 r1 ty
  refine ⟨"tuple", id, pa, slot, hty, h1, h2, ?_⟩
  have hA := ha.run cpos pins s1 σ H1 _ I1 q1
  rw [hs] at hA ⊢
  refine Calls.callWith_builtin (by show (false || (backTo cpos (starEach es X.env)).any (·.1)) = false; rw [hplain] <;> rfl) (Calls.evalArgs_plain ?_)
  exact thn hA fun us s2 ⟨vs, H2, I2, r2, q2⟩ => hm pins s2 σ H2 x vs v us Q I2 r1 r2 q2
end
section
variable {W : WX} {o e : Expr} {es : List Expr} {to : TE} {fo : Ev} {ts : List TE} {ms : List (Option Nat)} {a : Av} {F : Fv} {P : L → Bool} {name : Str} {apos cpos : Pos} {id : String} {r : V → List V → Hp → VK → Prop} {i : Nat}
theorem ed_kV (hk : X.K = s.K) (pa : PlainAttrs "tuple") (slot : Slot "tuple" name id) (hty : typeOf (.builtin id) = pure (.type "method_descriptor")) (hm : MtR X id r) (hC : Chk s (fun v H => knT s.K v H) P) (h1 : Ed X s W o to fo) (h2 : Es X s W ms (e :: es) ts a) (ho : ∀ σ, Dop s (fun cls d H => W cls d σ H) (rM r) F)
    (hbase : attributeBase o name X.env (eval o X.env) = eval o X.env := by rfl)
    (hfew : ((backTo cpos (starEach (e :: es) X.env)).all (fun x => !x.1) && (backToKw cpos (keywordEach [] X.env)).all (fun x => x.1.isSome)
      && decide ((e :: es).length + ([] : List Keyword).length + (if ([] : List Keyword).isEmpty then 0 else 1) < 30)) = true := by rfl)
    (hline : (apos.endLine == cpos.line) = true := by rfl) (hs : starEach (e :: es) X.env = (false, eval e X.env) :: starEach es X.env := by rfl) (hplain : (backTo cpos (starEach es X.env)).any (·.1) = false := by rfl) :
    Ed X s W (.Call (.Attribute o name apos) (e :: es) [] cpos) (tKM X.K r to (tAll ts)) (eRV P fo ms a F) := ⟨pe_km pa slot hty hm h1.pe h2.pes.pa hbase hfew hline hs hplain, by
  rw [hk]
  exact De.recvV (r := rM r) hC h1.de h2.da ho⟩
end

/-! t.index(x) -/
def rIndexT (K : PySem.W.Frag) : V → List V → Hp → VK → Prop := fun x xs H Q => ∃ (a : Addr) (ys : List V) (y : V) (j : Nat) (z : V), x = V.ref a ∧ xs = [y] ∧ SqT K H a ys ∧ flatV y = true ∧ ys.all flatV = true ∧ ys[j]? = some z ∧ eqV z y = true ∧
  (∀ (m : Nat) (z' : V), m < j → ys[m]? = some z' → eqV z' y = false) ∧ Q (.int (j : Nat)) H
theorem mt_indexT : MtR X "tuple.index" (rIndexT X.K) := by
  intro pins s σ H x xs v us Q I rx rxs h
  obtain ⟨a, ys, y, j, z, rfl, rfl, hs, fy, fys, hz, hzj, hno, q⟩ := h
  cases rx
  cases rxs with
  | cons ry rt =>
    rename_i uy ut
    cases rt
    obtain ⟨its, rv, ⟨⟨cls, dd, data, sl⟩, ho, hc, n, hd⟩, hlen⟩ := I.tuple hs
    simp only at hc hd
    subst hc hd
    obtain ⟨u, hu, ru⟩ := rv.get hz
    obtain ⟨hjl, hje⟩ := List.getElem?_eq_some_iff.mp hu
    have hvl := rv.length
    have hj : j < its.toArray.size := by simpa using hjl
    refine call_meets PySem.F.slot_tuple_index ⟨_, ho, rfl⟩ PySem.F.entry_tuple_index (PySem.F.args_tuple_index_2 _ _)
      (TI.tuple_indexAt a its.toArray n dd sl uy (eqU y) j hj ?_ ?_) ⟨ho, fun u' hu' => mem_eqAt ry fy rv fys u' (by simpa using hu'), ?_⟩
    · have e1 : its.toArray[j] = u := by simpa using hje
      rw [e1, eqU_of ru (flat_at fys hz)]
      exact hzj
    · intro m hm hmj
      have hml : m < its.length := by simpa using hm
      have hmy : m < ys.length := by omega
      have hy' : ys[m]? = some ys[m] := List.getElem?_eq_getElem hmy
      obtain ⟨u2, hu2, ru2⟩ := rv.get hy'
      obtain ⟨_, hme⟩ := List.getElem?_eq_some_iff.mp hu2
      have e1 : its.toArray[m] = u2 := by simpa using hme
      rw [e1, eqU_of ru2 (flat_at fys hy')]
      exact hno m _ hmj hy'
    · exact ⟨.int (j : Nat), H, I.tok _, ⟨_, rfl⟩, q⟩
def mIndexT : Fv := m2 fun x y => match x with
  | .fz (.ktp ds) => (asD y).bind fun d => if flatD d ∧ ds.all flatD = true then (ds.findIdx? fun z => eqF z d).map fun j => (.fz (.int (j : Nat)), x, y) else none
  | _ => none
theorem dop_indexT : Dop s E (rM (rIndexT s.K)) mIndexT := dop_m2 fun c hc G H th rh ta si x y v u l x' y' Q h0 e q => by
  subst hc
  cases x with
  | fz dx =>
    cases dx with
    | ktp ds =>
      cases e2 : asD y with
      | none => simp [e2] at e
      | some d =>
        simp only [e2, Option.bind_some] at e
        obtain rfl := asD_some e2
        by_cases hf : flatD d ∧ ds.all flatD = true
        · rw [if_pos hf] at e
          simp only [Option.map_eq_some_iff] at e
          obtain ⟨j, ej, e3⟩ := e
          cases e3
          have rr := h0.vw.fz
          cases rr with
          | @ktp a ws _ _ _ sq dt _ =>
            have dy := h0.pop.vw.fz
            have fy : ([d] : List D).all flatD = true := by simp [hf.1]
            have fu := rep_flat (P := fun _ => True) fy dy
            have fw := rep_flat (P := fun _ => True) hf.2 dt
            obtain ⟨hj, hp, hq⟩ := List.findIdx?_eq_some_iff_getElem.mp ej
            obtain ⟨w, ew, dw⟩ := dt.nth (i := j) (d := ds[j]) (by simp [hj])
            have fm : ∀ m (hm : m < ds.length), flatD ds[m] = true := fun m hm => List.all_eq_true.mp hf.2 _ (List.getElem_mem hm)
            refine ⟨a, ws, u, j, w, rfl, rfl, .inl (h0.gh.rd sq.1), by simpa using fu, fw, ew, ?_, fun m z' hm ez => ?_, q _ G H (h0.push (.int .nil))⟩
            · rw [eqF_eq (fm j hj) hf.1 dw dy]; exact hp
            · obtain ⟨w', ew', dw'⟩ := dt.nth (i := m) (d := ds[m]'(by omega)) (by simp [show m < ds.length by omega])
              rw [ez] at ew'
              cases ew'
              rw [eqF_eq (fm m (by omega)) hf.1 dw' dy]
              simpa using hq m hm
        · rw [if_neg hf] at e; cases e
    | _ => cases e
  | _ => cases e

/-! min(t), t a tuple of ints -/
theorem reads_ints {h : Heap} : ∀ {ns : List Int} {us : List Value}, Vals (ns.map V.int) us → ReadsAll h us (ns.map PyData.int) []
  | [], _, .nil => .nil
  | n :: ns, _, .cons r t => by
    obtain ⟨k, rfl⟩ := r
    exact ReadsAll.cons (.int n k) (reads_ints t)
theorem alike_ints (ns : List Int) : PySem.W.AlikeAll (ns.map PyData.int) := by
  refine ⟨fun x hx y hy => ?_, fun x hx => ?_⟩
  · obtain ⟨i, _, rfl⟩ := List.mem_map.mp hx
    obtain ⟨j, _, rfl⟩ := List.mem_map.mp hy
    first | rfl | simp [PySem.W.alike]
  · obtain ⟨i, _, rfl⟩ := List.mem_map.mp hx
    simp
theorem depth_ints : ∀ ns : List Int, PyData.depthAll (ns.map PyData.int) = 0
  | [] => rfl
  | n :: ns => by
    rw [List.map_cons, PyData.depthAll, depth_ints ns]
    rfl
def rMinT (K : PySem.W.Frag) : List V → Hp → VK → Prop := fun vs H Q => ∃ (a : Addr) (n : Int) (ns : List Int), vs = [V.ref a] ∧ SqT K H a ((n :: ns).map V.int) ∧ Q (.int (ns.foldl min n)) H
theorem cr_minT (hc : X.calm = true) (hu : X.A.units + 64 < cLine) : CallR X (.builtin "min") (rMinT X.K) := by
  intro pins s σ H vs us Q I r h
  obtain ⟨a, n, ns, rfl, hs, q⟩ := h
  obtain ⟨its, rv, pl, _⟩ := I.tuple hs
  rw [Vals.ref1 r]
  have rd : ReadsAll s.heap its.toArray.toList (PyData.int n :: ns.map PyData.int) [] := by
    have := reads_ints (h := s.heap) rv
    simpa using this
  refine PySem.W.min_tuple_data (I.ok.hd hc) pl rd (by simpa using alike_ints (n :: ns)) (by have := depth_ints (n :: ns); rw [List.map_cons] at this; rw [this]; omega) fun i v h' tk bs hi hr hk => ?_
  rw [PySem.W.minD_ints] at hr
  cases hr
  exact ⟨.int _, H, I.kept hk, ⟨_, rfl⟩, q⟩
def rMinX (K : PySem.W.Frag) : List V → Hp → VK → Prop := fun xs H Q => rMin K xs H Q ∨ rMinT K xs H Q
theorem cr_minX (hc : X.calm = true) (hu : X.A.units + 64 < cLine) : CallR X (.builtin "min") (rMinX X.K) := (cr_min hc).or (cr_minT hc hu)
def oMinX : Fv := p1 fun x => (seqD x).bind fun p => (intsD p.2).bind fun ns => ns.min?.map fun m => .fz (.int m)
theorem dop_minX : Dop s E (rMinX s.K) oMinX := dop_p1 fun c hc G H th rh ta si x v l Q h0 e q => by
  subst hc
  cases e1 : seqD x with
  | none => rw [e1] at e; cases e
  | some p =>
    obtain ⟨b, ds⟩ := p
    cases e2 : intsD ds with
    | none => rw [e1] at e; simp [e2] at e
    | some ns =>
      rw [e1] at e
      simp only [Option.bind_some, e2, Option.map_eq_some_iff] at e
      obtain ⟨m, em, rfl⟩ := e
      obtain ⟨a, ws, rfl, h1, h2, dt⟩ := h0.vw.seqD h0.gh e1
      rw [Dt.intsV e2 dt] at h1 h2
      cases b with
      | true =>
        refine .inl ⟨a, ns, rfl, h1 rfl, ?_, fun m' h1 h2 => ?_⟩
        · cases ns with
          | nil => cases em
          | cons _ _ => simp
        · have : ns.min? = some m' := List.min?_eq_some_iff.mpr ⟨h1, h2⟩
          rw [em] at this
          cases this
          exact q _ G H (h0.push (.int .nil))
      | false =>
        cases ns with
        | nil => cases em
        | cons n ns =>
          refine .inr ⟨a, n, ns, rfl, h2 rfl, ?_⟩
          rw [List.min?_cons'] at em
          cases em
          exact q _ G H (h0.push (.int .nil))

/-! xs.insert(i, x), xs.pop(i) -/
theorem mt_popAtR : MtR X "list.pop" rPopAt := mt_popAt
theorem dop_insert : Dop s E (rM rInsert) mInsert := dop_m3 fun c hc G H th rh ta si x y z v u t l x' y' z' Q h0 e q => by
  cases e1 : ownL x with
  | none => rw [e1] at e; cases e
  | some ks =>
    cases e2 : asI y with
    | none => rw [e1, e2] at e; cases e
    | some i =>
      rw [e1, e2] at e
      obtain rfl := ownL_some e1
      obtain rfl := asI_some e2
      simp only [Option.bind_some] at e
      by_cases hi : ks.length < sizeLine ∧ 0 ≤ i ∧ i < 2 ^ 63
      · rw [if_pos hi] at e
        cases e
        obtain ⟨G1, sg, dt, h1⟩ := (S0.rot (t1 := [some (.lst ks), some (.fz (.int i))]) (v1 := [some v, some u]) h0 rfl).freeze
        have h2 := S0.sink (t1 := [some (.lst ks), some (.fz (.int i))]) (v1 := [some v, some u]) (h1.push dt) rfl
        have h3 : S0 c G1 H (some (.lst ks) :: some (.fz (.int i)) :: some (.fz z.toD) :: th) rh (some v :: some u :: some t :: ta) si := h2
        have hu := h3.pop.vw.int
        subst hu
        obtain ⟨p, ws, rfl, hp, hl, go⟩ := h3.relist
        refine ⟨p, ws, i, t, rfl, rfl, hp, by omega, hi.2.1, hi.2.2, q .non G1 _ ?_⟩
        have := go [] [] (ks.take i.toNat ++ [.fz z.toD] ++ ks.drop i.toNat) (ws.take i.toNat ++ [t] ++ ws.drop i.toNat) fun f o => by
          have hl2 : (ks.take i.toNat).length = (ws.take i.toNat).length := by simp [hl]
          have o' : Ow c.K c.ct G1 H ((ks.take i.toNat).map some ++ (ks.drop i.toNat).map some) ((ws.take i.toNat).map some ++ (ws.drop i.toNat).map some) f := by
            rw [← List.map_append, ← List.map_append, List.take_append_drop, List.take_append_drop]
            exact o
          obtain ⟨fa, fb, oa, ob, rfl⟩ := Ow.split (by simpa using hl2) o'
          refine ⟨[], fa ++ fb, .nil, ?_, fun z => by simpa using z, fun a m => by simpa using m⟩
          rw [List.map_append, List.map_append, List.map_append, List.map_append]
          have := Ow.app (Ow.app oa (Ow.fz dt .nil)) ob
          simpa using this
        exact this.push (.non .nil)
      · rw [if_neg hi] at e; cases e

section
variable {W : WX} {o e : Expr} {es : List Expr} {ts : List TE} {ms : List (Option Nat)} {a : Av} {F : Fv} {P : L → Bool} {name : Str} {apos cpos : Pos} {id T : String} {r : V → List V → Hp → VK → Prop} {i : Nat}
/-- the same, told by the case's K alone (for comprehensions: the term may not name what the block binds) -/
theorem ed_mPK (hk : X.K = s.K) (pa : PlainAttrs T) (slot : Slot T name id) (hty : typeOf (.builtin id) = pure (.type "method_descriptor")) (hm : MtR X id r) (hC : Chk s (fun v H => tyV s.K T v H) P) (h1 : PE X o (tVar i)) (h2 : Es X s W ms (e :: es) ts a) (ho : ∀ σ, Dop s (fun cls d H => W cls d σ H) (rM r) F)
    (hbase : attributeBase o name X.env (eval o X.env) = eval o X.env := by rfl)
    (hfew : ((backTo cpos (starEach (e :: es) X.env)).all (fun x => !x.1) && (backToKw cpos (keywordEach [] X.env)).all (fun x => x.1.isSome)
      && decide ((e :: es).length + ([] : List Keyword).length + (if ([] : List Keyword).isEmpty then 0 else 1) < 30)) = true := by rfl)
    (hline : (apos.endLine == cpos.line) = true := by rfl) (hs : starEach (e :: es) X.env = (false, eval e X.env) :: starEach es X.env := by rfl) (hplain : (backTo cpos (starEach es X.env)).any (·.1) = false := by rfl) :
    Ed X s W (.Call (.Attribute o name apos) (e :: es) [] cpos) (tBM s.K T r (tVar i) (tAll ts)) (eRP P i ms a F) := by
  rw [← hk]
  exact ed_mP hk pa slot hty hm hC h1 h2 ho hbase hfew hline hs hplain
end

/-! a value told with its known tuples as tuples -/
section
variable {W : WX} {e : Expr} {t : TE} {f : Ev}
theorem S0.weak {c : Cn} {G H : Hp} {th rh : Rho} {ta si : List (Option V)} {l : L} {v : V} (h : S0 c G H (some l :: th) rh (some v :: ta) si) : ∃ G', S0 c G' H (some (.fz l.toD.wk) :: th) rh (some v :: ta) si := by
  obtain ⟨G', sg, dt, h2⟩ := h.freeze
  exact ⟨G', h2.push (by have := dt.wk; simpa [D.wks] using this)⟩
def eWk (f : Ev) : Ev := fun r => (f r).bind fun (l, r1) => .ok (.fz l.toD.wk, r1)
theorem De.weak (h1 : De s W t f) : De s W t (eWk f) := fun c hc G H th rh ta si Q h0 q => by
  refine h1 c hc G H th rh ta si _ h0 ?_
  unfold eWk at q
  cases e : f rh with
  | stuck => rw [e] at q; exact q.elim
  | exc x r => rw [e] at q; exact q
  | ok lr =>
    obtain ⟨l, r1⟩ := lr
    rw [e] at q
    simp only [Out.bind_ok] at q
    intro v G1 H1 h3
    obtain ⟨G2, h4⟩ := h3.weak
    exact q v G2 H1 h4
theorem ed_wk (h : Ed X s W e t f) : Ed X s W e t (eWk f) := ⟨h.pe, h.de.weak⟩
end
end
end Dl
namespace Dl
open PySem L2
section
variable {X : Cx} {s : Cs} {W : WX}
theorem sd_setLcZ {i : Nat} {y : Str} {py : Pos} {bs : List Nat} {elt tg iter : Expr} {ifs : List Expr} {scope : Scope} {own : List (Str × Nat)} {pos spos : Pos} {wi : TI} {g : TG} {tt : TT} {te : TE} {fi b ct fe} (hc : X.calm = true) (hN : X.N.Nodup) (hy : X.N[i]? = some y) (hyl : X.env.scope.names.lookup y = some .local) (hp : s.pin[i]? ≠ some true)
    (hsw : swapsWith (.ListComp elt [⟨tg, iter, ifs, 0⟩] scope pos) (some (.Name y py)) spos.line X.env = pure true) (hi : Id X s W tg iter wi fi) (ok : BlkOk X.N X.env.scope scope own)
    (hg : ∀ (z : Shared) (H : Hp) (C : Addr) (cl : List (Str × Addr)) (fp : List Addr), Tg (X.blk z H scope (compEnvC scope cl C X.env) fp) s bs tg g b) (ht : ∀ (z : Shared) (H : Hp) (C : Addr) (cl : List (Str × Addr)) (fp : List Addr), Ets (X.blk z H scope (compEnvC scope cl C X.env) fp) s W0 ifs tt ct)
    (he : ∀ (z : Shared) (H : Hp) (C : Addr) (cl : List (Str × Addr)) (fp : List Addr), Ed (X.blk z H scope (compEnvC scope cl C X.env) fp) s W0 elt te fe) (hv : ∀ i ∈ own.map (·.2), s.pin[i]? ≠ some true) (hb : ∀ j ∈ bs, j ∈ own.map (·.2)) (hs : ∀ x, foldedSetIterable iter X.env x = pure x := by intro _; rfl)
    (z : Shared) (H : Hp) (C : Addr) (cl : List (Str × Addr)) :
    Sd X s W (.Assign [.Name y py] (.ListComp elt [⟨tg, iter, ifs, 0⟩] scope pos) spos) (tAsg (tLc wi g tt te (own.map (·.2))) (gName i)) (gSet i (eZ (eLc (own.map (·.2)) fi b ct fe))) :=
  ⟨ps_setLc hc hN hy hyl hsw hi.pi ok (fun z H C cl fp => (hg z H C cl fp).pg) (fun z H C cl fp => (ht z H C cl fp).pts) (fun z H C cl fp => (he z H C cl fp).pe) hs,
    Ds.set (De.z (De.lc hi.di (hg z H C cl []).dg (ht z H C cl []).dc (he z H C cl []).de hv hb)) hp⟩
end
section
variable {X : Cx} {s : Cs} {W : WX} {i : Nat}
theorem sd_setLcPZ {j : Nat} {y : Str} {py : Pos} {bs : List Nat} {elt tg iter : Expr} {ifs : List Expr} {scope : Scope} {own : List (Str × Nat)} {pos spos : Pos} {g : TG} {tt : TT} {te : TE} {b ct fe} (hk : X.K = s.K) (hc : X.calm = true) (hN : X.N.Nodup) (hy : X.N[j]? = some y) (hyl : X.env.scope.names.lookup y = some .local) (hp : s.pin[j]? ≠ some true) (hsw : swapsWith (.ListComp elt [⟨tg, iter, ifs, 0⟩] scope pos) (some (.Name y py)) spos.line X.env = pure true) (hi : PE X iter (tVar i)) (hi0 : i ∉ own.map (·.2)) (ok : BlkOk X.N X.env.scope scope own)
    (hg : ∀ (z : Shared) (H : Hp) (C : Addr) (cl : List (Str × Addr)) (fp : List Addr), Tg (X.blk z H scope (compEnvC scope cl C X.env) fp) s bs tg g b) (ht : ∀ (z : Shared) (H : Hp) (C : Addr) (cl : List (Str × Addr)) (fp : List Addr), Ets (X.blk z H scope (compEnvC scope cl C X.env) fp) s W0 ifs tt ct)
    (he : ∀ (z : Shared) (H : Hp) (C : Addr) (cl : List (Str × Addr)) (fp : List Addr), Ed (X.blk z H scope (compEnvC scope cl C X.env) fp) s W0 elt te fe) (hv : ∀ i ∈ own.map (·.2), s.pin[i]? ≠ some true) (hb : ∀ j ∈ bs, j ∈ own.map (·.2)) (hs : ∀ x, foldedSetIterable iter X.env x = pure x := by intro _; rfl)
    (z : Shared) (H : Hp) (C : Addr) (cl : List (Str × Addr)) :
    Sd X s W (.Assign [.Name y py] (.ListComp elt [⟨tg, iter, ifs, 0⟩] scope pos) spos) (tAsg (tLc (iAny X.K (tVar i)) g tt te (own.map (·.2))) (gName j)) (gSet j (eZ (eLcP (own.map (·.2)) i (iOwn i) b ct fe))) :=
  ⟨ps_setLc hc hN hy hyl hsw (pi_any hi) ok (fun z H C cl fp => (hg z H C cl fp).pg) (fun z H C cl fp => (ht z H C cl fp).pts) (fun z H C cl fp => (he z H C cl fp).pe) hs,
    Ds.set (by rw [hk]; exact De.z (De.lcP Dip.own hi0 (hg z H C cl []).dg (ht z H C cl []).dc (he z H C cl []).de hv hb)) hp⟩
end
end Dl
namespace Dl
open PySem L2 PySem.Spec PyProof.Rows PySem.Froz

/-! ### sets of texts -/
/-- the set at a holds the texts l; it can be walked -/
def TxR (P : Program) (w : World) (h : Heap) (a : Addr) (l : List Str) : Prop :=
  ∃ D : SD, h.get? a = some (sObj "set" D) ∧ TxOk P w D l ∧ l.Nodup ∧ Ris D.2.2.place.toList ∧ (w.params.followText "set-order" = true ∨ D.2.2.led = true)
section
variable {P : Program} {w : World} {A : Around} {E : Value → Shared → Prop} {s : Shared} {a : Addr} {l : List Str} {k : Str} {u : Tok}
theorem TxR.keep {h h' : Heap} (r : TxR P w h a l) (hk : ∀ o, h.get? a = some o → h'.get? a = some o) : TxR P w h' a l := by
  obtain ⟨D, ho, rest⟩ := r
  exact ⟨D, hk _ ho, rest⟩
theorem tail_ris {ep : Nat} {es : Array (Int × Value)} {t : SetTable} {d : Bool} (r : Ris t.place.toList) : Ris (tailTx ep es t d).2.2.place.toList := by
  unfold tailTx
  split
  · exact relayAll_ris ..
  · exact r
theorem tail_led {ep : Nat} {es : Array (Int × Value)} {t : SetTable} {d : Bool} : (tailTx ep es t d).2.2.led = t.led := by
  unfold tailTx
  split
  · exact relayAll_led ..
  · rfl
theorem add_ris {h : Int} {v : Value} {D : SD} (r : Ris D.2.2.place.toList) : Ris (addTx h v D).2.2.place.toList := by
  have q := layNew_ris D.2.2 D.1 h v r
  unfold addTx
  refine tail_ris ?_
  split <;> exact q
theorem add_led {h : Int} {v : Value} {D : SD} : (addTx h v D).2.2.led = D.2.2.led := by
  have q := layNew_led D.2.2 D.1 h v
  unfold addTx
  rw [tail_led]
  split <;> exact q
/-- a text that is there already -/
theorem txr_again {Q : Bool → Shared → Prop} (r : TxR P w s.heap a l) (hk : k ∈ l) (hb : l.length < scanBound) (h : Q false s) : wpAny (model P w) A (setAddHashed a (.str k u) (hashStr w k)) Q E s := by
  obtain ⟨⟨es, ep, t⟩, ho, F, _⟩ := r
  have hd : (sObj "set" (es, ep, t)).data = .set es ep t := rfl
  have fit : t.fits es.size = true := F.fit
  have hel : ElemsOf (strKind P w) es.toList := F.el
  have hsz : es.size = l.length := F.sz
  have key : (strKind P w).is k (.str k u) = true := is_str k u
  obtain ⟨e, he, q⟩ := (F.mem k).mp hk
  unfold setAddHashed setAddHashedIn
  refine wpAny_holding (wpAny_bind (wpAny_setState_of ho hd fit ?_))
  dsimp only
  rw [byScan_of (x := Value.str k u) rfl (by omega) hel]
  simp only [↓reduceIte]
  unfold setAddByScan
  refine wpAny_bind (wpAny_bind (wpAny_rule (wpAny_bind (wpAny_setScan_of (knd := strKind P w) (k := k) key ho hd fit hel ?_))))
  cases hfi : List.findIdx? (fun e => (strKind P w).is k e.2) es.toList with
  | none =>
    have := List.findIdx?_eq_none_iff.mp hfi e he
    rw [q] at this
    cases this
  | some j => exact wpAny_pure (wpAny_pure h)
theorem txr_add {Q : Bool → Shared → Prop} (r : TxR P w s.heap a l) (room : l.length + 1 < scanBound)
    (h : ∀ h' l' b, Heap.SameBut a s.heap h' → TxR P w h' a l' → (∀ z, z ∈ l' ↔ z = k ∨ z ∈ l) → l'.length ≤ l.length + 1 → Q b { s with heap := h' }) : wpAny (model P w) A (setAddHashed a (.str k u) (hashStr w k)) Q E s := by
  by_cases hk : k ∈ l
  · exact txr_again r hk (by omega) (h s.heap l false (Heap.SameBut.refl a s.heap) r (fun z => ⟨.inr, fun q => q.elim (fun e => e ▸ hk) id⟩) (by omega))
  · obtain ⟨D, ho, F, nd, ri, le⟩ := r
    refine add_x ho F hk room (h _ (k :: l) true (Heap.SameBut.update s.heap a _) ⟨_, get_upd _ ho rfl, add_ok u F, List.nodup_cons.mpr ⟨hk, nd⟩, add_ris ri, le.imp id fun z => by rw [add_led]; exact z⟩ (fun z => List.mem_cons) (by simp))
theorem txr_fresh {h : Heap} (ho : h.get? a = some { cls := .type "set", dict := none, data := .set #[] 0 (.fresh 0 0 (!w.params.followText "set-order")) }) : TxR P w h a [] := by
  refine ⟨(#[], 0, .fresh 0 0 (!w.params.followText "set-order")), ho, TxOk.nil rfl, List.nodup_nil, List.Pairwise.nil, ?_⟩
  show _ ∨ (!w.params.followText "set-order") = true
  cases w.params.followText "set-order"
  · exact .inr rfl
  · exact .inl rfl
end

/-! set(xs), xs a list of texts -/
section
variable {P : Program} {w : World} {A : Around}
def TxHas (zs : List Str) (i : Nat) (l : List Str) : Prop := (∀ z, z ∈ l ↔ z ∈ zs.take i) ∧ l.length ≤ i
theorem TxHas.step {zs l l' : List Str} {i : Nat} {z : Str} (g : TxHas zs i l) (e : zs[i]? = some z) (h : ∀ y, y ∈ l' ↔ y = z ∨ y ∈ l) (hl : l'.length ≤ l.length + 1) : TxHas zs (i + 1) l' := by
  obtain ⟨hi, rfl⟩ := List.getElem?_eq_some_iff.mp e
  refine ⟨fun y => ?_, by have := g.2; omega⟩
  rw [h y, g.1 y, List.take_succ_eq_append_getElem hi, List.mem_append, List.mem_singleton]
  exact Or.comm
theorem update_txts {I : Addr} {fp wr : List Addr} {G : Array GenState → Array GenState → Prop} {n : Nat} {Pv : Nat → Value → Prop} {St : Nat → Shared → Prop} {R : Result → Shared → Prop}
    (Wk : WalksS P w A.in1 I fp wr G n Pv St) (a : Addr) (ha : a ∉ fp) (zs : List Str) (hn : n = zs.length) (few : zs.length + 1 < scanBound) (val : ∀ i v, Pv i v → ∃ z u, zs[i]? = some z ∧ v = .str z u) (h0 : Heap) (hS0 : h0.get? a = none) (hw0 : ∀ b ∈ wr, h0.get? b = none) :
    ∀ (m i : Nat) (s : Shared), n - i = m → i ≤ n → St i s → (∀ b o, h0.get? b = some o → s.heap.get? b = some o) → (∃ l, TxR P w s.heap a l ∧ TxHas zs i l) →
      (∀ s' l, Moved (a :: wr) G s s' → TxR P w s'.heap a l → TxHas zs n l → (∀ b o, h0.get? b = some o → s'.heap.get? b = some o) → R (.ok (.ret .none)) s') →
      codeAny (model P w) A (.builtin "set.update.loop" ⟨[.ref a, .ref I], []⟩) R s := by
  have haw : a ∉ wr := fun z => ha (Wk.sub _ z)
  have up : ∀ b ∈ wr, b ∈ a :: wr := fun b hb => List.mem_cons_of_mem _ hb
  have still : ∀ {s s' : Shared}, Moved wr G s s' → (∀ b o, h0.get? b = some o → s.heap.get? b = some o) → ∀ b o, h0.get? b = some o → s'.heap.get? b = some o := fun mv k b o e =>
    mv.heap b o (fun hb => by rw [hw0 b hb] at e; cases e) (k b o e)
  intro m
  induction m with
  | zero =>
    intro i s hm hi st k ⟨l, hl, hz⟩ fin
    obtain rfl : i = n := by omega
    refine codeAny_builtin F.entry_set_update_loop ?_
    rw [Around.under_plainId F.plain_set_update_loop _]
    show wpAny _ A.in1 (pyNext (.ref I) >>= _) _ _ s
    refine wpAny_bind (Wk.done s _ _ st fun s1 mv => ?_)
    show wpAny _ A.in1 (ret Value.none) _ _ s1
    exact wpAny_pure (fin s1 l (mv.mono up) (hl.keep fun o e => mv.heap a o haw e) hz (still mv k))
  | succ m ih =>
    intro i s hm hi st k ⟨l, hl, hz⟩ fin
    have hlt : i < n := by omega
    refine codeAny_builtin F.entry_set_update_loop ?_
    rw [Around.under_plainId F.plain_set_update_loop _]
    show wpAny _ A.in1 (pyNext (.ref I) >>= _) _ _ s
    refine wpAny_bind (Wk.item i s _ _ hlt st fun v s1 hP st1 mv => ?_)
    obtain ⟨z, u, ez, rfl⟩ := val i v hP
    have k1 := still mv k
    have hl1 : TxR P w s1.heap a l := hl.keep fun o e => mv.heap a o haw e
    show wpAny _ A.in1 (holding [Value.str z u] (setAdd a (.str z u)) >>= _) _ _ s1
    refine wpAny_bind (wpAny_holding ?_)
    unfold setAdd
    refine wpAny_holding (wpAny_bind ((strKind P w).pyHash (k := z) (is_str z u) ?_))
    show wpAny _ _ (setAddHashed a (.str z u) (hashStr w z)) _ _ _
    refine txr_add (s := { s1 with toks := s1.toks + 1 }) hl1 (by have := hz.2; omega) fun h' l' b sb hl' mem len => ?_
    have k2 : ∀ b o, h0.get? b = some o → h'.get? b = some o := fun b o e => (sb.2 b fun q => by rw [q, hS0] at e; cases e).trans (k1 b o e)
    refine wpAny_pure ⟨plainId_quiet F.plain_set_update_loop _, ih (i + 1) _ (by omega) hlt (Wk.frame _ s1 _ _ st1 (Nat.le_add_right _ _) fun b hb o e => ?_) k2 ⟨l', hl', hz.step ez mem len⟩ fun s2 l2 mv2 r2 g2 k3 => ?_⟩
    · rw [sb.2 b fun q : b = a => ha (q ▸ hb)]; exact e
    · refine fin s2 l2 (Moved.trans Wk.gtrans ((mv.mono up).then_heap (Nat.le_add_right _ _) fun b o hb e => ?_) mv2) r2 g2 k3
      rw [sb.2 b fun q : b = a => hb (q ▸ List.mem_cons_self)]; exact e
end

section
variable {P : Program} {w : World} {A : Around} {E : Value → Shared → Prop} {s : Shared}
abbrev setNew (w : World) : Obj := { cls := .type "set", dict := none, data := .set #[] 0 (.fresh 0 0 (!w.params.followText "set-order")) }
set_option maxHeartbeats 3200000 in
theorem call_set_txts {x : Addr} {its : Array Value} (zs : List Str) {Q : Value → Shared → Prop} (hh : A.handled = none) (hl : s.heap.IsList x its) (hit : Vals (zs.map V.str) its.toList) (few : zs.length + 1 < scanBound)
    (h : ∀ (h' : Heap) (tk : Nat) l, TxR P w h' s.heap.objs.size l → TxHas zs zs.length l → (∀ b o, s.heap.get? b = some o → h'.get? b = some o) → Q (.ref s.heap.objs.size) { s with heap := h', toks := tk }) :
    wpAny (model P w) A (call (.type "set") [.ref x]) Q E s := by
  have hsz : its.size = zs.length := by
    have q : (zs.map V.str).length = its.toList.length := Vals.length hit
    simp at q
    exact q.symm
  obtain ⟨c, tl, hmro⟩ := F.called_set.mro
  have hmade := F.called_set.made
  have hsub := F.called_set.sub
  refine wpAny_call (codeAny_of_tree ?_)
  show wpAny _ _ (callAny (.type "set") _) _ _ _
  refine wpAny_pure ⟨Code.quiet_builtin _ (by decide +kernel), codeAny_builtin F.entry_type_call ?_⟩
  rw [Around.under_plain (weight_type_call_type "set" [.ref x] []) rfl]
  have h1 := F.called_set.notType
  have h2 := F.called_set.canCreate
  have hct := F.typeCall_set_1 (.ref x)
  repeat (any_goals (first | assumption | wp_step))
  refine codeAny_mono (code_set_led1 (.ref x) (E := E) (Q₁ := fun obj s₁ => obj = .ref s.heap.objs.size ∧ s₁ = { s with heap := s.heap.push (setNew w) }) ⟨rfl, rfl⟩) fun r s₁ hr => ?_
  cases r with
  | error e => exact hr
  | ok fl =>
    cases fl with
    | ret obj =>
      obtain ⟨rfl, rfl⟩ := hr
      have hS : (s.heap.push (setNew w)).get? s.heap.objs.size = some (setNew w) := Heap.get?_push_size _ rfl
      have hT : Shared.TypeIs { s with heap := s.heap.push (setNew w) } (.ref s.heap.objs.size) "set" := ⟨_, hS, rfl⟩
      have hli := F.called_set.init.lookup
      have hbi := F.called_set.init.bind (.ref s.heap.objs.size)
      repeat (any_goals (first | assumption | wp_step))
      refine codeAny_mono (codeAny_call_builtin (R := wants (fun r s₂ => r = .none ∧ ∃ h' tk l, s₂ = { s with heap := h', toks := tk } ∧ TxR P w h' s.heap.objs.size l ∧ TxHas zs zs.length l ∧
          (∀ b o, s.heap.get? b = some o → h'.get? b = some o)) E) F.called_set.init.plain F.entry_set_init (check_set_init_1 hT ?_)) fun r₂ s₂ hr₂ => ?_
      · obtain ⟨ol, hol, hcl, nl, hdl⟩ := hl
        obtain ⟨ocls, odict, odata, oslots⟩ := ol
        simp only at hcl hdl
        subst hcl; subst hdl
        have hol' : (s.heap.push (setNew w)).get? x = some { cls := .type "list", dict := odict, data := .seq its nl, slots := oslots } := Heap.get?_push_of_some _ hol
        have hsls := F.sub_list_set
        have hslf := F.sub_list_frozenset
        have hne : (Value.type "list" == Value.type "dict") = false := by decide
        have hl1 : (s.heap.push (setNew w)).IsList x its := ⟨_, hol', rfl, nl, rfl⟩
        unfold Builtin.«set.__init__» noKeywords Builtin.Frozenset.updateFrom
        generalize hPI : pyIter = PI
        wp_walk
        subst hPI
        refine wpAny_pyIter_list hl1 ?_
        refine wpAny_bind (wpAny_runValue ?_)
        have hxS : x < s.heap.objs.size := Heap.lt_size hol
        have hh3 : A.in1.in1.in1.handled = none := by simp [hh]
        have hneI : x ≠ (s.heap.push (setNew w)).objs.size := by
          rw [Heap.size_push]; exact Nat.ne_of_lt (Nat.lt_succ_of_lt hxS)
        have hSf : s.heap.objs.size ∉ [(s.heap.push (setNew w)).objs.size, x] := by
          rw [Heap.size_push, List.mem_cons, List.mem_singleton, not_or]
          exact ⟨Nat.ne_of_lt (Nat.lt_succ_self _), Nat.ne_of_gt hxS⟩
        have hval : ∀ (i : Nat) (v : Value), its[i]? = some v → ∃ z u, zs[i]? = some z ∧ v = .str z u := fun i v hv => by
          have q : its.toList[i]? = some v := by rw [Array.getElem?_toList]; exact hv
          have hi : i < zs.length := by
            have := (Array.getElem?_eq_some_iff.mp hv).1
            omega
          obtain ⟨u, eu, ru⟩ := Vals.get hit (i := i) (x := .str zs[i]) (by simp [hi])
          rw [q] at eu
          cases eu
          obtain ⟨tk, rfl⟩ := ru
          exact ⟨zs[i], tk, by simp [hi], rfl⟩
        have free : ∀ b, s.heap.objs.size ≤ b → s.heap.get? b = none := fun b hb => by
          cases q : s.heap.get? b with
          | none => rfl
          | some o => exact absurd (Nat.lt_of_lt_of_le (Heap.lt_size q) hb) (Nat.lt_irrefl _)
        refine update_txts ((Walks.list hh3 _ x hneI its).toS) s.heap.objs.size hSf zs hsz few hval s.heap (free _ (Nat.le_refl _)) (fun b hb => free b (by
            rw [List.mem_singleton.mp hb, Heap.size_push]
            exact Nat.le_succ _)) (its.size - 0) 0 _ (by omega) (Nat.zero_le _)
          ⟨⟨_, Heap.get?_push_size _ rfl, rfl, rfl⟩, (hl1.push _)⟩ (fun b o e => Heap.get?_push_of_some _ (Heap.get?_push_of_some _ e)) ?hS0 ?hR
        case hS0 =>
          exact ⟨[], txr_fresh (Heap.get?_push_of_some _ hS), ⟨fun z => by simp, Nat.le_refl _⟩⟩
        case hR =>
          intro s' l mv hl' g' kp
          obtain ⟨h', g2, d', tk', os'⟩ := s'
          have eg : g2 = s.gens := mv.gens
          have ed : d' = s.drawn := mv.drawn
          have eo : os' = s.os := mv.os
          subst eg; subst ed; subst eo
          show wpAny _ _ _ _ _ _
          refine wpAny_pure ?_
          show wpAny _ _ (ret Value.none) _ _ _
          rw [hsz] at g'
          exact wpAny_pure ⟨rfl, h', tk', l, rfl, hl', g', kp⟩
      · cases r₂ with
        | error e => exact hr₂
        | ok fl₂ =>
          cases fl₂ with
          | ret r =>
            obtain ⟨rfl, h', tk, l, rfl, hl', g', hk'⟩ := hr₂
            repeat (any_goals (first | assumption | wp_step))
            exact h _ _ _ hl' g' hk'
          | _ => exact hr₂.elim
    | _ => exact hr.elim
end

/-! texts in a row -/
section
theorem cps_anti : ∀ {a b : List Nat}, ltCps a b = false → ltCps b a = false → a = b
  | [], [], _, _ => rfl
  | [], _ :: _, h, _ => by cases h
  | _ :: _, [], _, h => by cases h
  | x :: a, y :: b, h, g => by
    simp only [ltCps, Bool.or_eq_false_iff, Bool.and_eq_false_iff, decide_eq_false_iff_not, beq_eq_false_iff_ne] at h g
    have e : x = y := by omega
    subst e
    rw [cps_anti (h.2.resolve_left (fun z => z rfl)) (g.2.resolve_left (fun z => z rfl))]
theorem cps_trans : ∀ {a b c : List Nat}, ltCps b a = false → ltCps c b = false → ltCps c a = false
  | a, b, [], h, g => by
    cases b with
    | nil => exact h
    | cons => cases g
  | [], _, _ :: _, _, _ => rfl
  | x :: a, [], _ :: _, h, _ => by cases h
  | x :: a, y :: b, z :: c, h, g => by
    simp only [ltCps, Bool.or_eq_false_iff, Bool.and_eq_false_iff, decide_eq_false_iff_not, beq_eq_false_iff_ne] at h g ⊢
    refine ⟨by omega, ?_⟩
    by_cases e : z = x
    · right
      subst e
      have e2 : y = z := by omega
      subst e2
      exact cps_trans (h.2.resolve_left (fun z => z rfl)) (g.2.resolve_left (fun z => z rfl))
    · exact .inl e
theorem rising_pw : ∀ {l : List Str} {p : Str}, risingS p l = true → (p :: l).Pairwise fun a b => ltCps b.cps.toList a.cps.toList = false
  | [], p, _ => List.pairwise_singleton _ _
  | x :: l, p, h => by
    simp only [risingS, Bool.and_eq_true, Bool.not_eq_true'] at h
    have ih := rising_pw h.2
    refine List.pairwise_cons.mpr ⟨fun y hy => ?_, ih⟩
    rcases List.mem_cons.mp hy with rfl | hy
    · exact h.1
    · exact cps_trans h.1 ((List.pairwise_cons.mp ih).1 y hy)
theorem sorted_pw {l : List Str} (h : sortedS l = true) : l.Pairwise fun a b => ltCps b.cps.toList a.cps.toList = false := by
  cases l with
  | nil => exact List.Pairwise.nil
  | cons x l => exact rising_pw h
theorem str_cps {a b : Str} (h : a.cps.toList = b.cps.toList) : a = b := by
  obtain ⟨⟨a⟩⟩ := a
  obtain ⟨⟨b⟩⟩ := b
  simpa using h
/-- ys: the texts of zs, each once, rising -/
def SortOf (zs ys : List Str) : Prop := (∀ z, z ∈ ys ↔ z ∈ zs) ∧ ys.Nodup ∧ sortedS ys = true
theorem pw_uniq : ∀ {a b : List Str}, a.Pairwise (fun x y => ltCps y.cps.toList x.cps.toList = false) → b.Pairwise (fun x y => ltCps y.cps.toList x.cps.toList = false) → a.Nodup → b.Nodup → (∀ z, z ∈ a ↔ z ∈ b) → a = b
  | [], [], _, _, _, _, _ => rfl
  | [], y :: b, _, _, _, _, h => absurd ((h y).mpr List.mem_cons_self) List.not_mem_nil
  | x :: a, [], _, _, _, _, h => absurd ((h x).mp List.mem_cons_self) List.not_mem_nil
  | x :: a, y :: b, pa, pb, na, nb, h => by
    obtain ⟨pa1, pa2⟩ := List.pairwise_cons.mp pa
    obtain ⟨pb1, pb2⟩ := List.pairwise_cons.mp pb
    obtain ⟨na1, na2⟩ := List.nodup_cons.mp na
    obtain ⟨nb1, nb2⟩ := List.nodup_cons.mp nb
    have e : x = y := by
      rcases List.mem_cons.mp ((h x).mp List.mem_cons_self) with e | hx
      · exact e
      rcases List.mem_cons.mp ((h y).mpr List.mem_cons_self) with e | hy
      · exact e.symm
      exact str_cps (cps_anti (pb1 x hx) (pa1 y hy))
    subst e
    rw [pw_uniq pa2 pb2 na2 nb2 fun z => ?_]
    have hz := h z
    rw [List.mem_cons, List.mem_cons] at hz
    constructor
    · intro q
      rcases hz.mp (.inr q) with rfl | q
      · exact absurd q na1
      · exact q
    · intro q
      rcases hz.mpr (.inr q) with rfl | q
      · exact absurd q nb1
      · exact q
theorem SortOf.uniq {zs a b : List Str} (h : SortOf zs a) (g : SortOf zs b) : a = b := pw_uniq (sorted_pw h.2.2) (sorted_pw g.2.2) h.2.1 g.2.1 fun z => (h.1 z).trans (g.1 z).symm
noncomputable def srt (zs : List Str) : List Str := @dite _ (∃ ys, SortOf zs ys) (Classical.propDecidable _) (fun h => Classical.choose h) fun _ => []
theorem SortOf.srt {zs ys : List Str} (h : SortOf zs ys) : srt zs = ys := by
  have e : ∃ ys, SortOf zs ys := ⟨ys, h⟩
  unfold Dl.srt
  rw [dif_pos e]
  exact (Classical.choose_spec e).uniq h
theorem perm_of {α : Type} : ∀ {l ks : List α}, l.Nodup → (∀ z, z ∈ l → z ∈ ks) → ks.length = l.length → ks.Perm l
  | [], ks, _, _, h => by rw [List.eq_nil_of_length_eq_zero h]
  | x :: l, ks, nd, h, hl => by
    obtain ⟨n1, n2⟩ := List.nodup_cons.mp nd
    obtain ⟨k1, k2, rfl⟩ := List.append_of_mem (h x List.mem_cons_self)
    refine List.perm_middle.trans (List.Perm.cons x (perm_of n2 (fun z hz => ?_) (by simp at hl ⊢; omega)))
    have := h z (List.mem_cons_of_mem _ hz)
    rw [List.mem_append, List.mem_cons] at this
    rw [List.mem_append]
    rcases this with q | rfl | q
    · exact .inl q
    · exact absurd hz n1
    · exact .inr q
end

/-! sorted(set(xs)) -/
section
variable {P : Program} {w : World} {A : Around} {E : Value → Shared → Prop} {s : Shared} {a : Addr} {l : List Str}
def strOf : Value → Str
  | .str z _ => z
  | _ => ⟨#[]⟩
theorem strs_of : ∀ {vs : List Value}, (∀ v ∈ vs, ∃ z u, v = Value.str z u) → StrsAre vs (vs.map strOf)
  | [], _ => .nil
  | v :: vs, h => by
    obtain ⟨z, u, rfl⟩ := h v List.mem_cons_self
    exact .cons z u (strs_of fun x hx => h x (List.mem_cons_of_mem _ hx))
theorem sorted_txts {Q : Value → Shared → Prop} (r : TxR P w s.heap a l) (hh : A.handled = none) (h64 : l.length < 64)
    (hQ : ∀ s' p (out : Array Value) (c : Nat) (ys : List Str), (∀ b o, s.heap.get? b = some o → s'.heap.get? b = some o) → s'.gens = s.gens → s'.os = s.os → s.heap.objs.size ≤ p →
      s'.heap.get? p = some (seqObj "list" out c) → StrsAre out.toList ys → SortOf l ys → Q (.ref p) s') :
    wpAny (model P w) A (call (.builtin "sorted") [.ref a]) Q E s := by
  obtain ⟨⟨es, ep, t⟩, ho, F, nd, ri, le⟩ := r
  have hsz : es.size = l.length := F.sz
  have each : ∀ e ∈ es.toList, ∃ z u, e.2 = Value.str z u ∧ z ∈ l := fun e he => by
    obtain ⟨⟨k, hk, _⟩, _⟩ := F.el e he
    obtain ⟨u, hu⟩ := Value.isStrOf_shape (x := k) (v := e.2) hk
    exact ⟨k, u, hu, (F.mem k).mpr ⟨e, he, hk⟩⟩
  refine Calls.call_function_entry kind_sorted plain_sorted entry_sorted (args_sorted1 _) ?_
  unfold Builtin.«sorted»
  refine wpAny_bind (m := checkCount "sorted" 1 1 _) (wpAny_pure ?_)
  refine wpAny_bind (collect_set (A := A.in1) hh ⟨_, ho, rfl, rfl⟩ F.fit (by show es.size < scanBound; unfold scanBound; omega) ri le fun s1 vs k1 hz g1 o1 pm => ?_)
  have hvl : vs.length = l.length := by rw [pm.length_eq, List.length_map, Array.length_toList]; exact hsz
  have hS : StrsAre vs (vs.map strOf) := strs_of fun v hv => by
    obtain ⟨e, he, q⟩ := List.mem_map.mp (pm.mem_iff.mp hv)
    obtain ⟨z, u, e1, _⟩ := each e he
    exact ⟨z, u, by rw [← q, e1]⟩
  have pl : (vs.map strOf).Perm l := perm_of nd (fun z hz => by
    obtain ⟨e, he, q⟩ := (F.mem z).mp hz
    obtain ⟨u, hu⟩ := Value.isStrOf_shape (x := z) (v := e.2) q
    exact List.mem_map.mpr ⟨e.2, pm.mem_iff.mpr (List.mem_map_of_mem he), by rw [hu]; rfl⟩) (by rw [List.length_map]; exact hvl)
  refine wpAny_bind (wpAny_newList ?_ (by rw [hvl, sizeLine_eq]; omega))
  have hoL : (s1.heap.push (seqObj "list" vs.toArray 0)).get? s1.heap.objs.size = some (seqObj "list" vs.toArray 0) := Heap.get?_push_size _ rfl
  refine wpAny_bind (wpAny_holding (wpAny_call_entry slot_list_sort ⟨_, hoL, rfl⟩ entry_list_sort
    (list_sort_treeK strKind_oneLt hoL hS.keysOf (fun v₁ v₂ rest e => keyKind_strs (by rw [← e]; exact hS)) (by rw [hvl]; exact h64) fun st' hp hs => ⟨_, rfl, ?_⟩) (args_list_sort _)))
  obtain ⟨ys, q1, q2, q3⟩ := sorted_out_str hS hp hs
  obtain ⟨c, hc⟩ := sortedHeap_at (vs := vs) (out := (arrOf st').map (·.2)) hoL
  have p2 : ys.Perm l := q2.trans pl
  refine wpAny_pure ⟨_, rfl, hQ _ s1.heap.objs.size _ c ys (fun b u e => ?_) g1 o1 hz hc q1 ⟨fun z => p2.mem_iff, p2.nodup_iff.mpr nd, q3⟩⟩
  have q := k1 b u e
  have hlt := Heap.lt_size q
  show (sortedHeap (s1.heap.push (seqObj "list" vs.toArray 0)) s1.heap.objs.size vs _).get? b = some u
  rw [sortedHeap_old (Nat.ne_of_lt hlt) (by rw [size_push']; exact Nat.lt_succ_of_lt hlt)]
  exact Heap.get?_push_of_some _ q
end

end Dl
namespace Dl
open PySem L2 PySem.Spec PyProof.Rows PySem.Froz
section
variable {X : Cx}
theorem run_sortTx {pins : List (Addr × Obj)} {σ : L2.St} {H : Hp} {s : Shared} {a : Addr} {l : List Str} {Q : VK} (hc : X.calm = true) (I : Inv X pins σ H s) (hT : TxR X.prog X.w s.heap a l) (few : l.length < 64)
    (q : ∀ (ys : List Str) (p : Addr), SortOf l ys → H p = none → Q (.ref p) (upd H p (.lst (ys.map V.str)))) : wpAny (model X.prog X.w) X.A (call (.builtin "sorted") [.ref a]) (EP X pins σ Q) X.xe s := by
  refine sorted_txts hT (I.ok.hd hc) few fun s' p out c ys kp g o hp hgt hstrs hso => ?_
  obtain ⟨D, _, _, nd, _⟩ := hT
  have hlen : (ys.map V.str).length ≤ sizeLine := by
    have a1 : ys.length ≤ l.length := List.Nodup.length_le_of_subset hso.2.1 fun z hz => (hso.1 z).mp hz
    rw [List.length_map, sizeLine_eq]
    omega
  have hn : H p = none := I.hok.fresh hp
  have J : Inv X pins σ (upd H p (.lst (ys.map V.str))) { s with heap := s'.heap, gens := s'.gens, drawn := s'.drawn, toks := s'.toks } :=
    I.call (ch := []) (Un.laid kp hp hn) (I.hok.laid kp hp ⟨hlen, out.toList, c, vals_of_strs hstrs, hgt⟩) (by rw [g]; exact I.bare) (fun _ z => nomatch z)
  have e : s' = { s with heap := s'.heap, gens := s'.gens, drawn := s'.drawn, toks := s'.toks } := by
    cases s'
    cases s
    cases o
    rfl
  rw [e]
  exact ⟨.ref p, _, J, rfl, q ys p hso hn⟩
def tSortSet (K : PySem.W.Frag) (ta : TE) : TE := fun σ H Q => ta σ H fun x H1 => ∃ (l : Addr) (zs : List Str), x = .ref l ∧ SqL K H1 l (zs.map V.str) ∧ zs.length < 64 ∧ ∀ (ys : List Str) (p : Addr), SortOf zs ys → H1 p = none → Q (.ref p) (upd H1 p (.lst (ys.map V.str)))
theorem pe_sortSet {a : Expr} {ta : TE} {p p2 q pos : Pos} (hc : X.calm = true) (hg : Gl X "sorted") (hm : X.mg "sorted" = none) (hg2 : Gl X "set") (hm2 : X.mg "set" = none) (ha : PE X a ta)
    (na : starEach [a] X.env = (false, eval a X.env) :: starEach [] X.env := by rfl) : PE X (.Call (.Name "sorted" p) [.Call (.Name "set" p2) [a] [] q] [] pos) (tSortSet X.K ta) := by
  refine ⟨fun pins s σ H Q I h => ?_⟩
  refine Call_ (ld_blt I hg hm PyProof.Rows.boot_sorted ?_)
  refine PyProof.Rows.callWith_builtin1 (PyProof.Rows.args_cons ?_ rfl) rfl rfl
  refine Call_ (ld_blt I hg2 hm2 PyProof.Rows.boot_set ?_)
  refine PyProof.Rows.callWith_type1 (PyProof.Rows.args_cons (thn (ha.run pins s σ H _ I h) fun v s1 ⟨x, H1, I1, r1, q1⟩ => PyProof.Rows.args_nil ?_) na) na rfl
  obtain ⟨l, zs, rfl, sq, few, q1⟩ := q1
  cases r1
  obtain ⟨its, r, pl, hz⟩ := I1.list sq
  refine call_set_txts (its := its.toArray) zs (I1.ok.hd hc) pl.isList (by simpa using r) (by unfold scanBound; omega) fun h' tk l' hT hH hk => ?_
  refine PyProof.Rows.args_nil ?_
  have I2 : Inv X pins σ H1 { s1 with heap := h', toks := tk } := I1.kept hk
  exact run_sortTx (s := { s1 with heap := h', toks := tk }) hc I2 hT (by have := hH.2; omega) fun ys p hso hn => q1 ys p ⟨fun z => (hso.1 z).trans (by rw [hH.1 z, List.take_length]), hso.2⟩ hn
end

/-! the texts in a row: there is one -/
theorem cps_asym : ∀ {a b : List Nat}, ltCps a b = true → ltCps b a = false
  | [], [], h => by cases h
  | [], _ :: _, _ => rfl
  | _ :: _, [], h => by cases h
  | x :: a, y :: b, h => by
    simp only [ltCps, Bool.or_eq_true, Bool.and_eq_true, decide_eq_true_eq, beq_iff_eq] at h
    simp only [ltCps, Bool.or_eq_false_iff, Bool.and_eq_false_iff, decide_eq_false_iff_not, beq_eq_false_iff_ne]
    rcases h with h | ⟨rfl, h⟩
    · exact ⟨by omega, .inl (by omega)⟩
    · exact ⟨by omega, .inr (cps_asym h)⟩
def insS (x : Str) : List Str → List Str
  | [] => [x]
  | y :: l => if x = y then y :: l else if ltCps x.cps.toList y.cps.toList then x :: y :: l else y :: insS x l
theorem ins_mem {x z : Str} : ∀ {l : List Str}, z ∈ insS x l ↔ z = x ∨ z ∈ l
  | [] => by simp [insS]
  | y :: l => by
    unfold insS
    by_cases e : x = y
    · rw [if_pos e]
      subst e
      simp
    · rw [if_neg e]
      split
      · simp
      · rw [List.mem_cons, ins_mem (l := l), List.mem_cons]
        constructor
        · rintro (h | h | h)
          · exact .inr (.inl h)
          · exact .inl h
          · exact .inr (.inr h)
        · rintro (h | h | h)
          · exact .inr (.inl h)
          · exact .inl h
          · exact .inr (.inr h)
def RowS (l : List Str) : Prop := l.Pairwise (fun a b => ltCps b.cps.toList a.cps.toList = false) ∧ l.Nodup
theorem ins_row {x : Str} : ∀ {l : List Str}, RowS l → RowS (insS x l)
  | [], _ => ⟨List.pairwise_singleton _ _, List.nodup_cons.mpr ⟨List.not_mem_nil, List.nodup_nil⟩⟩
  | y :: l, h => by
    obtain ⟨p1, p2⟩ := List.pairwise_cons.mp h.1
    obtain ⟨n1, n2⟩ := List.nodup_cons.mp h.2
    unfold insS
    by_cases e : x = y
    · rw [if_pos e]; exact h
    · rw [if_neg e]
      split
      · rename_i hlt
        refine ⟨List.pairwise_cons.mpr ⟨fun z hz => ?_, h.1⟩, List.nodup_cons.mpr ⟨fun hz => ?_, h.2⟩⟩
        · rcases List.mem_cons.mp hz with rfl | hz
          · exact cps_asym hlt
          · exact cps_trans (cps_asym hlt) (p1 z hz)
        · rcases List.mem_cons.mp hz with q | hz
          · exact e q
          · have := p1 x hz
            rw [hlt] at this
            cases this
      · rename_i hlt
        have ih := ins_row (x := x) ⟨p2, n2⟩
        refine ⟨List.pairwise_cons.mpr ⟨fun z hz => ?_, ih.1⟩, List.nodup_cons.mpr ⟨fun hz => ?_, ih.2⟩⟩
        · rcases ins_mem.mp hz with rfl | hz
          · simpa using hlt
          · exact p1 z hz
        · rcases ins_mem.mp hz with q | hz
          · exact e q.symm
          · exact n1 hz
theorem row_of : ∀ zs : List Str, ∃ ys, (∀ z, z ∈ ys ↔ z ∈ zs) ∧ RowS ys
  | [] => ⟨[], fun _ => Iff.rfl, List.Pairwise.nil, List.nodup_nil⟩
  | x :: zs => by
    obtain ⟨ys, h1, h2⟩ := row_of zs
    exact ⟨insS x ys, fun z => by rw [ins_mem, h1 z, List.mem_cons], ins_row h2⟩
theorem srt_ok (zs : List Str) : SortOf zs (srt zs) := by
  obtain ⟨ys, h1, h2⟩ := row_of zs
  have h : SortOf zs ys := ⟨h1, h2.2, sortedS_of_pairwise ys h2.1⟩
  rw [h.srt]
  exact h

/-! sorted(set(xs)) over slots -/
noncomputable def eSS (f : Ev) : Ev := fun r => (f r).bind fun (l, r1) => match (lsq l).bind strsD with
  | some zs => if zs.length < 64 then .ok (.lst (((srt zs).map D.str).map .fz), r1) else .stuck
  | none => .stuck
section
variable {X : Cx} {s : Cs} {W : WX} {a : Expr} {t : TE} {f : Ev}
theorem De.sortSet (h1 : De s W t f) : De s W (tSortSet s.K t) (eSS f) := fun c hc G H th rh ta si Q h0 q => by
  refine h1 c hc G H th rh ta si _ h0 ?_
  unfold eSS at q
  cases e : f rh with
  | stuck => rw [e] at q; exact q.elim
  | exc x r => rw [e] at q; exact q
  | ok lr =>
    obtain ⟨l, r1⟩ := lr
    rw [e] at q
    simp only [Out.bind_ok] at q
    intro v G1 H1 h3
    cases e1 : lsq l with
    | none => rw [e1] at q; exact q.elim
    | some ds =>
      cases e2 : strsD ds with
      | none => rw [e1] at q; simp only [Option.bind_some, e2] at q
      | some zs =>
        rw [e1] at q
        simp only [Option.bind_some, e2] at q
        by_cases few : zs.length < 64
        · rw [if_pos few] at q
          obtain ⟨p, ws, rfl, sq, dt⟩ := h3.vw.lsq h3.gh e1
          obtain rfl := Dt.strsV e2 dt
          subst hc
          refine ⟨p, zs, rfl, sq, few, fun ys b hs nb => ?_⟩
          rw [hs.srt] at q
          exact q _ G1 _ (h3.pop.newLst (Dt.strsD ys) nb)
        · rw [if_neg few] at q; exact q.elim
theorem ed_sortSet {p p2 q pos : Pos} (hk : X.K = s.K) (hc : X.calm = true) (hg : Gl X "sorted") (hm : X.mg "sorted" = none) (hg2 : Gl X "set") (hm2 : X.mg "set" = none) (h : Ed X s W a t f)
    (na : starEach [a] X.env = (false, eval a X.env) :: starEach [] X.env := by rfl) : Ed X s W (.Call (.Name "sorted" p) [.Call (.Name "set" p2) [a] [] q] [] pos) (tSortSet s.K t) (eSS f) :=
  ⟨by rw [← hk]; exact pe_sortSet hc hg hm hg2 hm2 h.pe na, h.de.sortSet⟩
end
end Dl
namespace Dl
open PySem L2 PySem.Spec PyProof.Rows

/-! ### defs that want no repr under way -/
/-- a def's promise where no repr is under way -/
structure FnG (P : Program) (w : World) (K : PySem.W.Frag) (mg : Str → Option Value) (base : Heap) (CX : CXT) (k : Nat) (f : Addr) (fd : FuncData) (ps : List Str) (sp : Sp) : Prop where
  len : ∀ vs H Q E, sp vs H Q E → vs.length = ps.length
  run : ∀ (A : Around) (outer : List Env) (s : Shared) (H : Hp) (args : Args) (us : List Value) (vs : List V) (Q : VK) (E : XK), A.guards = some [] → Room k A → Env0 P w K mg base A outer s H → BindsTo s fd args (ps.zip us) → Vals vs us → sp vs H Q E →
    codeAny (model P w) A (.call (.ref f) args) (CR CX outer P w H s Q E) s
section
variable {P : Program} {w : World} {K : PySem.W.Frag} {mg : Str → Option Value} {base : Heap} {CX : CXT} {ct : Str → Option Addr}
theorem FnG.imp {k : Nat} {f : Addr} {fd : FuncData} {ps : List Str} {sp sp' : Sp} (F : FnG P w K mg base CX k f fd ps sp)
    (h : ∀ vs H Q E, sp' vs H Q E → sp vs H Q E) : FnG P w K mg base CX k f fd ps sp' :=
  ⟨fun vs H Q E q => F.len vs H Q E (h _ _ _ _ q), fun A outer s H args us vs Q E hg hr he hb hv hs => F.run A outer s H args us vs Q E hg hr he hb hv (h _ _ _ _ hs)⟩
theorem deeper_guards {A : Around} {env : Env} (hg : A.guards = some []) : (A.deeper env).guards = some [] := by
  first | exact hg | simpa [Around.deeper, pushGuards] using hg
theorem fnG_of {k : Nat} {f : Addr} {name qual : Str} {params : Arguments} {body : List Stmt} {scope : Scope} {dV kV doc pm cdv cT oc : Value} {an od : Option Addr}
    {osl : Array (Option Value)} {N ps : List Str} {sp : Sp} (lk : K.lookup f = some ⟨oc, od, .func (PySem.W.fnOf name qual params body scope dV kV doc pm an cdv cT), osl⟩) (hcd : PySem.W.codeIn K cdv qual = true) (S : FnScope N ps scope)
    (len : ∀ vs H Q E, sp vs H Q E → vs.length = ps.length)
    (hbody : ∀ (A : Around) (outer : List Env) (s : Shared) (H : Hp) (vs : List V) (Q : VK) (E : XK), A.guards = some [] → Room k (A.deeper (envOfC qual scope s.heap.objs.size f cdv)) → sp vs H Q E →
      ∃ t, PSs (cxOf CX P w K mg base N qual scope f cdv A outer s H E) body t ∧ t { nx := fun _ H' => Q .non H', rt := Q } (L2.start N vs) H) :
    FnG P w K mg base CX (k + 1) f (PySem.W.fnOf name qual params body scope dV kV doc pm an cdv cT) ps sp := by
  refine ⟨len, fun A outer s H args us vs Q E hg hr e0 hb r hsp => ?_⟩
  have KX : K.In s.heap := e0.mod.kin.keeps fun b o e => (e0.bs b o e).1
  have lim : s.heap.NoLimit := e0.mod.nolimit.keeps fun b o e => (e0.bs b o e).1
  have hkind : ∀ y ∈ ps.zip us, scope.names.lookup y.1 = some .local ∨ (scope.names.lookup y.1 = some .cell ∧ ((cellsFrom (s.heap.objs.size + 1) scope.names []).lookup y.1).isSome = true) := by
    rintro ⟨n, v⟩ hy
    cases S.par n (List.of_mem_zip hy).1 with
    | inl q => exact .inl q
    | inr q => exact .inr ⟨q, PySem.W.cellsFrom_some _ _ _ (.inl q)⟩
  refine codeAny_call_function hr.depth (KX _ _ lk) rfl S.co S.gen rfl (PySem.W.codeRec_of KX hcd) (hb _ _ _ _ (wpAny_newFunctionEnv_cells S.kind hkind fun env he s1 x => ?_))
  subst he
  refine ⟨lim.keeps x.toInCall.keep, codeAny_func ?_⟩
  obtain ⟨t, ht, hq⟩ := hbody A outer s H vs Q E hg (hr.deeper _) hsp
  have I : Inv (cxOf CX P w K mg base N qual scope f cdv A outer s H E) [] (L2.start N vs) H s1 := inv_start S hr.hd e0 (len _ _ _ _ hsp) r x
  refine wpAny_mono (ht.run [] s1 (L2.start N vs) H _ I hq) (fun fl s' hs => ?_) fun e s' hs => hs
  cases fl with
  | ret u =>
    obtain ⟨v, σ', H', J, rv, q⟩ := hs
    exact ⟨v, H', J.os, J.bare, J.base, J.hok, rv, q⟩
  | next =>
    obtain ⟨σ', H', J, q⟩ := hs
    exact ⟨.non, H', J.os, J.bare, J.base, J.hok, rfl, q⟩
  | brk =>
    obtain ⟨_, _, _, q⟩ := hs
    exact q.elim
  | cont =>
    obtain ⟨_, _, _, q⟩ := hs
    exact q.elim
theorem fnG_ok {x qual : Str} {st : Stmt} {f : Addr} {fd : FuncData} {N ps : List Str} {k : Nat} {pin : List Bool} {body : Sv} (F : Fun K x qual st f fd) (S : FnScope N ps (defScope st)) (hp : pin.length = ps.length)
    (hbody : ∀ (cdv : Value) (A : Around) (outer : List Env) (s : Shared) (H : Hp) (E : XK), Room k (A.deeper (PyProof.Rows.envOfC qual (defScope st) s.heap.objs.size f cdv)) → (A.deeper (PyProof.Rows.envOfC qual (defScope st) s.heap.objs.size f cdv)).guards = some [] →
      ∃ t, Ssd (cxOf CX0 P w K mg base N qual (defScope st) f cdv A outer s H E).nox ⟨K, ct, pin, kn0⟩ W0 (defBody st) t body) : FnG P w K mg base CX0 (k + 1) f fd ps (dSp K ct ps.length (dF0 N.length pin body)) := by
  obtain ⟨oc, od, kV, doc, pm, an, cdv, cT, osl, rfl, lk, hcd⟩ := F.ex
  refine fnG_of lk hcd S (fun vs H Q E h => h.1) fun A outer s H vs Q E hg hr h => ?_
  obtain ⟨t, hb⟩ := hbody cdv A outer s H E hr (deeper_guards hg)
  refine ⟨t, hb.pss.nox, ?_⟩
  obtain ⟨hlen, G, ls, fp, o, nd, kk, gh, q⟩ := h
  have e := o.length
  simp only [List.length_map] at e
  unfold dF0 dF at q
  by_cases hc : ls.length = pin.length ∧ pin.length ≤ N.length
  · rw [if_pos hc] at q
    have st0 := body_start (K := K) (ct := ct) (pin := pin) (n := N.length) o nd kk gh (by omega) hc.2
    refine hb.ds _ rfl G H [] _ [] _ _ st0 ?_
    cases e1 : body (ls.map some ++ List.replicate (N.length - ls.length) none) with
    | stuck => rw [e1] at q; exact q.elim
    | exc x r =>
      rw [e1] at q
      dsimp only at q
      cases e2 : outs pin ls r with
      | none => rw [e2] at q; exact q.elim
      | some ls' => rw [e2] at q; exact q.elim
    | ok fr =>
      obtain ⟨fl, r⟩ := fr
      rw [e1] at q
      cases fl with
      | brk => exact q.elim
      | cont => exact q.elim
      | nx =>
        simp only at q
        cases e2 : outs pin ls r with
        | none => rw [e2] at q; exact q.elim
        | some ls' =>
          rw [e2] at q
          intro si' G' H' h'
          obtain ⟨fp', b⟩ := body_end (n := N.length) (t1 := [some (.fz .non)]) (v1 := [some .non]) o e2 e (h'.push (.non .nil))
          exact q .non G' H' fp' b
      | ret l =>
        simp only at q
        cases e2 : outs pin ls r with
        | none => rw [e2] at q; exact q.elim
        | some ls' =>
          rw [e2] at q
          intro v si' G' H' h'
          obtain ⟨fp', b⟩ := body_end (n := N.length) (t1 := [some l]) (v1 := [some v]) o e2 e h'
          exact q v G' H' fp' b
  · rw [if_neg hc] at q; exact q.elim
end

/-! the call of one -/
section
variable {X : Cx} {CX : CXT} {k : Nat} {f : Addr} {fd : FuncData} {ps : List Str} {sp : Sp} {dvs : List V} {ds : List Value} {E : XK} {x : Str} {p pos : Pos} {e : Expr} {es : List Expr} {t : TA}
theorem run_fnG {pins : List (Addr × Obj)} {σ : L2.St} {H : Hp} {s : Shared} {Q : VK} {us : List Value} {vs : List V} (F : FnG X.prog X.w X.K X.mg X.base CX k f fd ps sp) (hgd : X.A.guards = some []) (hr : Room k X.A) (hb : Binds X.K fd ps ds) (hd : Vals dvs ds) (hx : Passes CX X E)
    (I : Inv X pins σ H s) (r : Vals vs us) (h : sp (vs ++ dvs) H Q E) : wpAny (model X.prog X.w) X.A (call (.ref f) us) (EP X pins σ Q) X.xe s := by
  have r2 : Vals (vs ++ dvs) (us ++ ds) := r.append hd
  have hl : (us ++ ds).length = ps.length := by rw [← r2.length]; exact F.len _ _ _ _ h
  refine wpAny_call (codeAny_mono (F.run X.A X.stack s H ⟨us, []⟩ (us ++ ds) (vs ++ dvs) Q E hgd hr I.env0 (hb s us I.kIn hl) r2 h) fun r s' hq => ?_)
  match r, hq with
  | .error e, hq => exact hx pins σ H s e s' I hq
  | .ok (.ret u), hq => exact I.after hq
  | .ok .next, hq => exact hq.elim
  | .ok .brk, hq => exact hq.elim
  | .ok .cont, hq => exact hq.elim
theorem pe_callG (F : FnG X.prog X.w X.K X.mg X.base CX k f fd ps sp) (hgd : X.A.guards = some []) (hr : Room k X.A) (hg : Gl X x) (hm : X.mg x = some (.ref f)) (hk : PySem.W.keepIn X.K (.ref f) = true) (hb : Binds X.K fd ps ds) (hd : Vals dvs ds) (hx : Passes CX X E)
    (ha : PA X (e :: es) t) (hdb : (x == ("__debug__" : Str)) = false := by decide) (he : starEach (e :: es) X.env = (false, eval e X.env) :: starEach es X.env := by rfl) (hpl : (backTo pos (starEach es X.env)).any (·.1) = false := by rfl) :
    PE X (.Call (.Name x p) (e :: es) [] pos) (tCall sp dvs E t) :=
  ⟨fun pins s σ H Q I h => wpAny_Call_Name_kw (ld_glob I hg hm (PySem.W.callWith_K (h₀ := X.base) I.ok.mod.kin hk (thn (ha.run pos pins s σ H _ I h) fun us s1 ⟨vs, H1, I1, r, q⟩ => ⟨I1.kIn, run_fnG F hgd hr hb hd hx I1 r q⟩) he hpl) hdb)⟩
end
section
variable {X : Cx} {s : Cs} {W : WX} {es : List Expr} {e : Expr} {ts : List TE} {ms : List (Option Nat)} {a : Av} {x : Str} {p pos : Pos} {k n : Nat} {g : Addr} {gd : FuncData} {ps : List Str} {F : Fv}
theorem ed_callG (hk : X.K = s.K) (F' : FnG X.prog X.w X.K X.mg X.base CX0 k g gd ps (dSp s.K s.ct n F)) (hgd : X.A.guards = some []) (hr : Room k X.A) (hg : Gl X x) (hm : X.mg x = some (.ref g)) (hkp : PySem.W.keepIn X.K (.ref g) = true) (hb : Binds X.K gd ps []) (hF : ∀ ls, ls.length ≠ n → F ls = .stuck) (hx : ∀ ls x e, F ls ≠ .exc x e)
    (h : Es X s W ms (e :: es) ts a) (hdb : (x == ("__debug__" : Str)) = false := by decide) (he : starEach (e :: es) X.env = (false, eval e X.env) :: starEach es X.env := by rfl) (hpl : (backTo pos (starEach es X.env)).any (·.1) = false := by rfl) :
    Ed X s W (.Call (.Name x p) (e :: es) [] pos) (tCall (dSp s.K s.ct n F) [] E0 (tAll ts)) (eO ms a F) := ⟨pe_callG F' hgd hr hg hm hkp hb .nil pass0 h.pes.pa hdb he hpl, De.op (r := fun vs H Q => dSp s.K s.ct n F (vs ++ []) H Q E0) h.da fun σ => dop_call0 hF hx⟩
end

/-! the head -/
section
theorem law_callG {P : Program} {w : World} {K : PySem.W.Frag} {mg mb : Str → Option Value} {CX : CXT} {k : Nat} {fa a : Addr} {fd : FuncData} {x : Str} {sp : Sp} {s₁ : Shared} {vs : List Value} {ns : List Int}
    (KX : K.In s₁.heap) (hns : s₁.heap.Ns mainGlobals mg) (hb : s₁.heap.Ns builtinsNs mb) (hbb : ∀ x : Str, x ≠ "__name__" → mb x = bootBuiltins x) (hlim : s₁.heap.NoLimit) (hg : s₁.gens = #[])
    (ha : s₁.heap.get? a = some { cls := .type "list", data := .seq vs.toArray }) (hi : IntsAre vs ns) (hl : ns.length ≤ sizeLine) (hr : Room k callerA)
    (F : ∀ base : Heap, K.In base → base.Ns mainGlobals mg → FnG P w K mg base CX k fa fd [x] sp) (hbind : ∀ (s : Shared) (u : Value), BindsTo s fd ⟨[u], []⟩ [(x, u)])
    (hsp : ∀ H : Hp, Only H → SqL K H a (ns.map V.int) → sp [.ref a] H (fun v _ => v = .bl true) fun _ _ _ => False)
    (hCX : ∀ H e s', CX [] H s₁ (fun _ _ _ => False) e s' → False) :
    codeAny (model P w) callerA (.call (.ref fa) ⟨[.ref a], []⟩) (fun r s' => r = .ok (.ret (.bool true)) ∧ OldK s₁.heap s'.heap ∧ s'.os = s₁.os ∧ AllBare s'.gens) s₁ := by
  have rv := vals_ints hi
  have core : ∀ H : Hp, Only H → SqL K H a (ns.map V.int) → HOk P w H s₁.heap → (∀ b, H b ≠ none → b = a) → (H a ≠ none → K.lookup a = none) →
      codeAny (model P w) callerA (.call (.ref fa) ⟨[.ref a], []⟩) (fun r s' => r = .ok (.ret (.bool true)) ∧ OldK s₁.heap s'.heap ∧ s'.os = s₁.os ∧ AllBare s'.gens) s₁ := by
    intro H hO hS hok hA hK
    have free : ∀ b, b ≠ a → H b = none := fun b hb => by
      cases q : H b with
      | none => rfl
      | some u => exact absurd (hA b (by rw [q]; simp)) hb
    have nsK : ∀ {b : Addr} {m : Str → Option Value}, s₁.heap.Ns b m → (hidT s₁.heap H).Ns b m := by
      rintro b m ⟨o, es, ep, e, d, r⟩
      refine ⟨o, es, ep, hidT_get e (free b ?_), d, r⟩
      rintro rfl
      rw [ha] at e
      cases e
      cases d
    have hKb : K.In (hidT s₁.heap H) := fun b o e => hidT_get (KX b o e) (by
      by_cases hb : b = a
      · subst hb
        cases q : H b with
        | none => rfl
        | some u => rw [hK (by rw [q]; simp)] at e; cases e
      · exact free b hb)
    have hM : Mod K mg (hidT s₁.heap H) := ⟨hKb, nsK hns, ⟨mb, nsK hb, hbb⟩, let ⟨mc, h1, h2⟩ := hlim; ⟨mc, nsK h1, h2⟩⟩
    have e0 : Env0 P w K mg (hidT s₁.heap H) callerA [] s₁ H := ⟨rfl, hM, fun b o e => of_hidT e, Nat.le_of_eq (hidT_size _ _), trivial, fun b hb => absurd (show b ∈ ([] : List Addr) from hb) (by simp), hok, .of_eq hg⟩
    refine codeAny_mono ((F _ hKb (nsK hns)).run callerA [] s₁ H ⟨[.ref a], []⟩ [.ref a] [.ref a] _ _ rfl hr e0 (hbind s₁ (.ref a)) (.cons rfl .nil) (hsp H hO hS)) fun r s' h => ?_
    match r, h with
    | .error e, h => exact (hCX H e s' h).elim
    | .ok .next, h => exact h.elim
    | .ok .brk, h => exact h.elim
    | .ok .cont, h => exact h.elim
    | .ok (.ret u), ⟨v, H', os, bare, un, hok', r', q⟩ =>
      have q' : v = .bl true := q
      subst q'
      obtain rfl : u = Value.bool true := r'
      refine ⟨rfl, OldK.of_keep fun b o e => ?_, os, bare⟩
      rcases hO b with z | ⟨ob, xs, z⟩
      · exact un.keep b o e z (fun z => nomatch z) (fun z => nomatch z)
      · obtain ⟨e1, _⟩ := hok b _ z
        obtain ⟨e2, _⟩ := hok' b _ (un.frzs b ob _ z)
        rw [e] at e1
        cases e1
        exact e2
  cases hk : K.lookup a with
  | some o =>
    have e := KX a o hk
    rw [ha] at e
    cases e
    exact core (fun _ => none) (fun _ => .inl rfl) (.inr ⟨_, vs.toArray, _, hk, rfl, rfl, rfl, by rw [List.size_toArray, hi.length]; exact hl, by simpa using rv⟩) (fun b u z => nomatch z) (fun b z => absurd rfl z) fun z => absurd rfl z
  | none =>
    have hH : ∀ b, (fun b => if b = a then some (HO.frz { cls := .type "list", data := .seq vs.toArray } (.lst (ns.map V.int))) else none : Hp) b = if b = a then some (HO.frz { cls := .type "list", data := .seq vs.toArray } (.lst (ns.map V.int))) else none := fun _ => rfl
    refine core (fun b => if b = a then some (.frz { cls := .type "list", data := .seq vs.toArray } (.lst (ns.map V.int))) else none) (fun b => ?_) (.inl (.inr ⟨{ cls := .type "list", data := .seq vs.toArray }, if_pos rfl⟩)) (fun b u z => ?_) (fun b z => ?_) fun _ => hk
    · by_cases hb : b = a
      · exact .inr ⟨_, _, if_pos hb⟩
      · exact .inl (if_neg hb)
    · by_cases hb : b = a
      · subst hb
        cases (if_pos rfl).symm.trans z
        exact ⟨ha, by rw [List.length_map]; exact hl, vs, _, rv, ha⟩
      · cases (if_neg hb).symm.trans z
    · by_cases hb : b = a
      · exact hb
      · exact absurd (if_neg hb) z
theorem walk_ofG {l : PySem.W.OpenLaw} {n k : Nat} {q : Program} {loose : List Str} {XP : (Str → Option Value) → Heap → Prop} {YP : World → Heap → Prop} {d : DefRec} {K : Params → PySem.W.Frag} {CX : World → CXT} {sp : World → Sp} {x : Str}
    (hn : l.most = some n) (hn2 : n ≤ sizeLine) (hdf : d.params.defaults = []) (hr : Room k callerA)
    (hY : ∀ (w : World) (h : Heap), YP w h → (K w.params).In h)
    (F : ∀ (w : World) (mg : Str → Option Value) (fa : Addr) (h : Heap), (K w.params).In h → h.Ns mainGlobals mg → mg d.name = some (.ref fa) →
      ∃ fd : FuncData, (∀ (s : Shared) (u : Value), BindsTo s fd ⟨[u], []⟩ [(x, u)]) ∧
        ∀ base : Heap, (K w.params).In base → base.Ns mainGlobals mg → FnG l.prog w (K w.params) mg base (CX w) k fa fd [x] (sp w))
    (hsp : ∀ (w : World) (H : Hp) (a : Addr) (ns : List Int), ns.length ≤ n → Only H → SqL (K w.params) H a (ns.map V.int) → sp w [.ref a] H (fun v _ => v = .bl true) fun _ _ _ => False)
    (hCX : ∀ (w : World) (H : Hp) (s : Shared) (e : Value) (s' : Shared), CX w [] H s (fun _ _ _ => False) e s' → False) :
    PySem.W.WalkO q loose XP YP l.row.toRowW d [] (fun f vs => PySem.call f vs) := by
  refine Att.attach_call hn hdf fun w s₀ s₁ mg mb fa o pm cd doc a vs ns G Y ho hd hcd hmg hobj hints hlen hg => ?_
  obtain ⟨fd, hb, hF⟩ := F w mg fa _ (hY w _ Y) G.T.g hmg
  exact law_callG (hY w _ Y) G.T.g G.T.b G.T.builtins G.T.nolimit hg hobj hints (Nat.le_trans hlen hn2) hr hF hb (fun H hO hS => hsp w H a ns hlen hO hS) fun H e s' => hCX w H s₁ e s'
end
end Dl
namespace Dl
open PySem L2 PySem.Spec PyProof.Rows

/-! ### repr of data at any depth -/
mutual
def D.rp : D → Option PyData
  | .non => some .none
  | .bl b => some (.bool b)
  | .int i => some (.int i)
  | .str x => some (.str x)
  | .tup ds => (D.rps ds).map .tuple
  | .ktp ds => (D.rps ds).map .tuple
  | .lst ds => (D.rps ds).map .list
  | .dct t kvs => if t then none else (D.rpk kvs).map .dict
  | .ty _ => none
  | .scr _ => none
  | .cls _ => none
  | .obj _ _ => none
def D.rps : List D → Option (List PyData)
  | [] => some []
  | d :: ds => (D.rp d).bind fun x => (D.rps ds).map (x :: ·)
def D.rpk : List (D × D) → Option (List (PyData × PyData))
  | [] => some []
  | (k, d) :: ds => (D.rp k).bind fun y => (D.rp d).bind fun x => (D.rpk ds).map ((y, x) :: ·)
end
theorem rpk_split : ∀ {kvs : List (D × D)} {ys : List (PyData × PyData)}, D.rpk kvs = some ys → D.rps (kvs.map (·.1)) = some (ys.map (·.1)) ∧ D.rps (kvs.map (·.2)) = some (ys.map (·.2))
  | [], ys, e => by simp [D.rpk] at e; subst e; exact ⟨rfl, rfl⟩
  | (k, d) :: r, ys, e => by
    simp only [D.rpk, Option.bind_eq_some_iff, Option.map_eq_some_iff] at e
    obtain ⟨y, e1, x, e2, zs, e3, rfl⟩ := e
    obtain ⟨h1, h2⟩ := rpk_split e3
    simp [D.rps, e1, e2, h1, h2]
/-- what a heap says of values -/
structure Says (K : PySem.W.Frag) (P : Program) (w : World) (H : Hp) (h : Heap) : Prop where
  ok : HOk P w H h
  kin : K.In h
  nm : H sysModules = none
  nk : ∀ o, K.lookup sysModules = some o → o.cls ≠ .type "list"
section
variable {K : PySem.W.Frag} {ct : Str → Option Addr} {P : Program} {w : World} {H : Hp} {h : Heap}
theorem Says.list (S : Says K P w H h) {a : Addr} {xs : List V} (q : SqL K H a xs) : a ≠ sysModules ∧ ∃ its : List Value, Vals xs its ∧ ∃ o n, h.get? a = some o ∧ o.cls = .type "list" ∧ o.data = .seq its.toArray n := by
  rcases q with q | ⟨o, its, n, hk, hc, hd, hs, hz, r⟩
  · refine ⟨?_, ?_⟩
    · rintro rfl
      rcases q with q | ⟨o, q⟩ <;> rw [S.nm] at q <;> cases q
    · obtain ⟨z, its, n, r, e⟩ := q.ok S.ok
      exact ⟨its, r, _, n, e, rfl, rfl⟩
  · refine ⟨?_, its.toList, r, o, n, S.kin a o hk, hc, by simpa using hs⟩
    rintro rfl
    exact S.nk o hk hc
theorem Says.tuple (S : Says K P w H h) {a : Addr} {xs : List V} (q : Rd H a (.tup xs)) : ∃ its : List Value, Vals xs its ∧ ∃ o n, h.get? a = some o ∧ o.cls = .type "tuple" ∧ o.data = .seq its.toArray n := by
  obtain ⟨z, its, r, o, e, c, n, d⟩ := q.ok S.ok
  exact ⟨its, r, o, n, e, c, d⟩
theorem keyD_rp {k : Key} {v : Value} (e : keyIs k v = true) : ∃ d, (keyD k).rp = some d ∧ Reads h v d [] := by
  rcases keyIs_shape e with ⟨i, t, rfl, rfl⟩ | ⟨x, t, rfl, rfl⟩
  · exact ⟨_, rfl, .int i t⟩
  · exact ⟨_, rfl, .str x t⟩
theorem pairs_keys {es : List DictEntry} {vs : List (Key × Value)} (p : Pairs (mixKind P w) es vs) : ∀ {ys : List PyData}, D.rps (vs.map fun p => keyD p.1) = some ys → ReadsAll h (es.map (·.key)) ys [] := by
  induction p with
  | nil => intro ys e; simp [D.rps] at e; subst e; exact .nil
  | cons hk hv _ ih =>
    intro ys e
    simp only [List.map_cons, D.rps, Option.bind_eq_some_iff, Option.map_eq_some_iff] at e
    obtain ⟨y, e1, zs, e2, rfl⟩ := e
    obtain ⟨d, e3, r⟩ := keyD_rp (h := h) (show keyIs _ _ = true from hk)
    rw [e1] at e3
    cases e3
    exact ReadsAll.cons (as := []) (bs := []) r (ih e2)
theorem pairs_vals {es : List DictEntry} {vs : List (Key × Value)} (p : Pairs (mixKind P w) es vs) : es.map (·.val) = vs.map (·.2) := by
  induction p with
  | nil => rfl
  | cons hk hv _ ih => simp [hv, ih]
theorem kv_keys {kvs : List (Key × V)} {vs : List (Key × Value)} (p : KV kvs vs) : vs.map (·.1) = kvs.map (·.1) := by
  induction p with
  | nil => rfl
  | cons r _ ih => simp [r.1, ih]
theorem kv_vals {kvs : List (Key × V)} {vs : List (Key × Value)} (p : KV kvs vs) : Vals (kvs.map (·.2)) (vs.map (·.2)) := by
  induction p with
  | nil => exact .nil
  | cons r _ ih => exact .cons r.2 ih
/-- the dict at a -/
theorem Says.dict (S : Says K P w H h) {a : Addr} {kvs : List (Key × V)} (q : Rd H a (.dK kvs)) : a ≠ sysModules ∧ ∃ (us : List Value) (o : Obj) (es : Array DictEntry) (n : Nat), Vals (kvs.map (·.2)) us ∧ h.get? a = some o ∧ o.cls = .type "dict" ∧ o.data = .dict es n ∧
    es.toList.map (·.val) = us ∧ ∀ {ys : List PyData}, D.rps (kvs.map fun p => keyD p.1) = some ys → ReadsAll h (es.toList.map (·.key)) ys [] := by
  obtain ⟨z, ns, vs, kv, o, es, ep, e, xd, d, ko, pr, nd⟩ := q.ok S.ok
  refine ⟨by simpa using ns, vs.map (·.2), o, es, ep, kv_vals kv, e, xd.1, d, pairs_vals pr, fun {ys} q => pairs_keys pr ?_⟩
  have e1 : (vs.map fun p => keyD p.1) = kvs.map fun p => keyD p.1 := by
    have := congrArg (List.map keyD) (kv_keys kv)
    simp only [List.map_map] at this
    exact this
  rw [e1]; exact q
theorem dt_reads (S : Says K P w H h) : ∀ {ds : List D} {vs : List V}, Dt K ct H ds vs → ∀ {xs : List PyData}, D.rps ds = some xs → ∀ us, Vals vs us → ∃ as, ReadsAll h us xs as ∧ sysModules ∉ as := by
  intro ds vs q
  induction q with
  | nil => intro xs e us r; simp [D.rps] at e; subst e; cases r; exact ⟨_, .nil, by simp⟩
  | non _ ih =>
    intro xs e us r
    simp only [D.rps, D.rp, Option.bind_some, Option.map_eq_some_iff] at e
    obtain ⟨zs, e2, rfl⟩ := e
    cases r with
    | cons r1 r2 =>
      cases r1
      obtain ⟨as, q2, n⟩ := ih e2 _ r2
      exact ⟨_, .cons .none q2, by simpa using n⟩
  | bl _ ih =>
    intro xs e us r
    simp only [D.rps, D.rp, Option.bind_some, Option.map_eq_some_iff] at e
    obtain ⟨zs, e2, rfl⟩ := e
    cases r with
    | cons r1 r2 =>
      cases r1
      obtain ⟨as, q2, n⟩ := ih e2 _ r2
      exact ⟨_, .cons (.bool _) q2, by simpa using n⟩
  | int _ ih =>
    intro xs e us r
    simp only [D.rps, D.rp, Option.bind_some, Option.map_eq_some_iff] at e
    obtain ⟨zs, e2, rfl⟩ := e
    cases r with
    | cons r1 r2 =>
      obtain ⟨t, rfl⟩ := r1
      obtain ⟨as, q2, n⟩ := ih e2 _ r2
      exact ⟨_, .cons (.int _ t) q2, by simpa using n⟩
  | str _ ih =>
    intro xs e us r
    simp only [D.rps, D.rp, Option.bind_some, Option.map_eq_some_iff] at e
    obtain ⟨zs, e2, rfl⟩ := e
    cases r with
    | cons r1 r2 =>
      obtain ⟨t, rfl⟩ := r1
      obtain ⟨as, q2, n⟩ := ih e2 _ r2
      exact ⟨_, .cons (.str _ t) q2, by simpa using n⟩
  | ty _ _ => intro xs e; simp [D.rps, D.rp] at e
  | cls _ _ _ => intro xs e; simp [D.rps, D.rp] at e
  | scr _ _ _ => intro xs e; simp [D.rps, D.rp] at e
  | dT _ _ _ _ _ _ => intro xs e; simp [D.rps, D.rp] at e
  | obj _ _ _ _ _ _ _ => intro xs e; simp [D.rps, D.rp] at e
  | ktp sq _ _ i1 i2 =>
    intro xs e us r
    simp only [D.rps, D.rp, Option.bind_eq_some_iff, Option.map_eq_some_iff] at e
    obtain ⟨x, ⟨ys, e1, rfl⟩, zs, e2, rfl⟩ := e
    cases r with
    | cons r1 r2 =>
      cases r1
      obtain ⟨its, rv, o, n, ho, hc, hd⟩ := S.tuple sq.1
      obtain ⟨as, q1, n1⟩ := i1 e1 its rv
      obtain ⟨bs, q2, n2⟩ := i2 e2 _ r2
      exact ⟨_, .cons (.tuple ho hc hd q1) q2, by simpa using ⟨n1, n2⟩⟩
  | tup sq _ _ i1 i2 =>
    intro xs e us r
    simp only [D.rps, D.rp, Option.bind_eq_some_iff, Option.map_eq_some_iff] at e
    obtain ⟨x, ⟨ys, e1, rfl⟩, zs, e2, rfl⟩ := e
    cases r with
    | cons r1 r2 =>
      cases r1
      obtain ⟨its, rv, o, n, ho, hc, hd⟩ := S.tuple sq
      obtain ⟨as, q1, n1⟩ := i1 e1 its rv
      obtain ⟨bs, q2, n2⟩ := i2 e2 _ r2
      exact ⟨_, .cons (.tuple ho hc hd q1) q2, by simpa using ⟨n1, n2⟩⟩
  | lst sq _ _ i1 i2 =>
    intro xs e us r
    simp only [D.rps, D.rp, Option.bind_eq_some_iff, Option.map_eq_some_iff] at e
    obtain ⟨x, ⟨ys, e1, rfl⟩, zs, e2, rfl⟩ := e
    cases r with
    | cons r1 r2 =>
      cases r1
      obtain ⟨na, its, rv, o, n, ho, hc, hd⟩ := S.list (.inl (.inl sq))
      obtain ⟨as, q1, n1⟩ := i1 e1 its rv
      obtain ⟨bs, q2, n2⟩ := i2 e2 _ r2
      exact ⟨_, .cons (.list ho hc hd q1) q2, by simp; exact ⟨fun z => na z.symm, n1, n2⟩⟩
  | dK sq ek _ _ i1 i2 =>
    intro xs e us r
    simp only [D.rps, D.rp, Bool.false_eq_true, if_false, Option.bind_eq_some_iff, Option.map_eq_some_iff] at e
    obtain ⟨x, ⟨ys, e1, rfl⟩, zs, e2, rfl⟩ := e
    cases r with
    | cons r1 r2 =>
      cases r1
      obtain ⟨na, us', o, es, n, rv, ho, hc, hd, ev, kr⟩ := S.dict sq
      obtain ⟨s1, s2⟩ := rpk_split e1
      obtain ⟨as, q1, n1⟩ := i1 s2 us' rv
      obtain ⟨bs, q2, n2⟩ := i2 e2 _ r2
      rw [ek] at s1
      exact ⟨_, .cons (.dict ho hc hd (kr s1) (by rw [ev]; exact q1)) q2, by simp; exact ⟨fun z => na z.symm, n1, n2⟩⟩
/-- .. of what slots hold -/
theorem ow_reads {G : Hp} (S : Says K P w H h) (gh : Same G H) : ∀ {ls : List (Option L)} {vs : List (Option V)} {fp : List Addr}, Ow K ct G H ls vs fp → ∀ (ks : List L), ks.map some = ls → ∀ (ws : List V), ws.map some = vs → ∀ {xs : List PyData}, D.rps (ks.map L.toD) = some xs → ∀ us, Vals ws us →
    ∃ as, ReadsAll h us xs as ∧ sysModules ∉ as := by
  intro ls vs fp q
  induction q with
  | nil =>
    intro ks e ws e' xs ex us r
    cases ks with
    | cons _ _ => cases e
    | nil => cases ws with
      | cons _ _ => cases e'
      | nil => cases ex; cases r; exact ⟨_, .nil, by simp⟩
  | no _ ih =>
    intro ks e
    cases ks with
    | nil => cases e
    | cons _ _ => injection e with e _; cases e
  | fz d _ ih =>
    intro ks e ws e' xs ex us r
    cases ks with
    | nil => cases e
    | cons l ks => cases ws with
      | nil => cases e'
      | cons w ws =>
        simp at e e'
        obtain ⟨rfl, rfl⟩ := e
        obtain ⟨rfl, rfl⟩ := e'
        simp only [List.map_cons, D.rps, L.toD, Option.bind_eq_some_iff, Option.map_eq_some_iff] at ex
        obtain ⟨x, e1, zs, e2, rfl⟩ := ex
        cases r with
        | cons r1 r2 =>
          obtain ⟨bs, q2, n2⟩ := ih _ rfl _ rfl e2 _ r2
          obtain ⟨as, q1, n1⟩ := dt_reads S (d.mono gh) (xs := [x]) (by simp [D.rps, e1]) _ (.cons r1 .nil)
          cases q1 with
          | cons a b =>
            cases b
            exact ⟨_, .cons a q2, by simp at n1 ⊢; exact ⟨n1, n2⟩⟩
  | lst a _ _ i1 i2 =>
    intro ks e ws e' xs ex us r
    cases ks with
    | nil => cases e
    | cons l ks => cases ws with
      | nil => cases e'
      | cons w ws =>
        simp at e e'
        obtain ⟨rfl, rfl⟩ := e
        obtain ⟨rfl, rfl⟩ := e'
        simp only [List.map_cons, D.rps, L.toD, D.rp, toDs_map, Option.bind_eq_some_iff, Option.map_eq_some_iff] at ex
        obtain ⟨x, ⟨ys, e1, rfl⟩, zs, e2, rfl⟩ := ex
        cases r with
        | cons r1 r2 =>
          cases r1
          obtain ⟨na, its, rv, o, n, ho, hc, hd⟩ := S.list (.inl (.inl a))
          obtain ⟨as, q1, n1⟩ := i1 _ rfl _ rfl e1 its rv
          obtain ⟨bs, q2, n2⟩ := i2 _ rfl _ rfl e2 _ r2
          exact ⟨_, .cons (.list ho hc hd q1) q2, by simp; exact ⟨fun z => na z.symm, n1, n2⟩⟩
  | dK a ek _ _ i1 i2 =>
    intro ks e ws e' xs ex us r
    cases ks with
    | nil => cases e
    | cons l ks => cases ws with
      | nil => cases e'
      | cons w ws =>
        simp at e e'
        obtain ⟨rfl, rfl⟩ := e
        obtain ⟨rfl, rfl⟩ := e'
        simp only [List.map_cons, D.rps, L.toD, D.rp, toKs_map, Bool.false_eq_true, if_false, Option.bind_eq_some_iff, Option.map_eq_some_iff] at ex
        obtain ⟨x, ⟨ys, e1, rfl⟩, zs, e2, rfl⟩ := ex
        cases r with
        | cons r1 r2 =>
          cases r1
          obtain ⟨na, us', o, es, n, rv, ho, hc, hd, ev, kr⟩ := S.dict (.inl a)
          obtain ⟨s1, s2⟩ := rpk_split e1
          simp only [List.map_map] at s1 s2
          obtain ⟨as, q1, n1⟩ := i1 (List.map (fun p : D × L => p.2) _) (by rw [List.map_map]; rfl) (List.map (fun p : Key × V => p.2) _) (by rw [List.map_map]; rfl) (by rw [List.map_map]; exact s2) us' rv
          obtain ⟨bs, q2, n2⟩ := i2 _ rfl _ rfl e2 _ r2
          exact ⟨_, .cons (.dict ho hc hd (kr (by rw [← ek]; exact s1)) (by rw [ev]; exact q1)) q2, by simp; exact ⟨fun z => na z.symm, n1, n2⟩⟩
  | dT _ _ _ _ _ _ =>
    intro ks e ws e' xs ex
    cases ks with
    | nil => cases e
    | cons l ks =>
      simp at e
      obtain ⟨rfl, rfl⟩ := e
      simp [D.rps, L.toD, D.rp] at ex
  | obj _ _ _ _ _ _ _ =>
    intro ks e ws e' xs ex
    cases ks with
    | nil => cases e
    | cons l ks =>
      simp at e
      obtain ⟨rfl, rfl⟩ := e
      simp [D.rps, L.toD, D.rp] at ex
end
/-- what may be shown -/
def okR (x : PyData) : Bool := x.showable && decide (x.depth ≤ 60) && decide (x.shown.length ≤ sizeLine)
/-- the text of a thing -/
def rpt (l : L) : Option Str := (l.toD.rp).bind fun x => if okR x then some x.shown else none
def oRepr : Fv := p1 fun l => (rpt l).map fun z => .fz (.str z)
section
variable {X : Cx} {s : Cs} {E : XK}
theorem Says.of {pins : List (Addr × Obj)} {σ : L2.St} {H : Hp} {sh : Shared} (I : Inv X pins σ H sh) {o : Obj} (ks : X.K.lookup sysModules = some o) (kc : o.cls ≠ .type "list") : Says X.K X.prog X.w H sh.heap := by
  refine ⟨I.hok, I.kIn, ?_, fun o' e => ?_⟩
  · obtain ⟨e1, n1⟩ := I.ok.bs _ _ (I.ok.mod.kin _ _ ks)
    exact I.base.free _ _ e1 n1 (I.ok.noex _ _ (I.ok.mod.kin _ _ ks))
  · rw [ks] at e; cases e; exact kc
/-- repr(x) -/
def rRepr (K : PySem.W.Frag) : List V → Hp → VK → Prop := fun xs H Q => ∃ (v : V) (x : PyData), xs = [v] ∧ (∀ (P : Program) (w : World) (h : Heap), Says K P w H h → ∀ u, RelV v u → ∃ as, Reads h u x as ∧ sysModules ∉ as) ∧ okR x = true ∧ Q (.str x.shown) H
theorem cr_repr (hg : X.A.guards = some []) (hu : X.A.units + 64 < cLine) (sy : ∃ o : Obj, X.K.lookup sysModules = some o ∧ o.cls ≠ .type "list") : CallR X (.builtin "repr") (rRepr X.K) := by
  obtain ⟨o, ks, kc⟩ := sy
  intro pins s σ H xs us Q I r h
  obtain ⟨v, x, rfl, rd, ok, q⟩ := h
  cases r with
  | cons r1 r2 =>
    cases r2
    rename_i u
    unfold okR at ok
    simp only [Bool.and_eq_true, decide_eq_true_eq] at ok
    obtain ⟨⟨ok1, ok2⟩, ok3⟩ := ok
    obtain ⟨as, rs, nas⟩ := rd _ _ _ (Says.of I ks kc) u r1
    show wpAny (model X.prog X.w) X.A (call (.builtin "repr") [u]) (EP X pins σ Q) X.xe s
    cases rs with
    | none => exact PySem.P.repr_of_none ⟨.str _, H, I.tok _, ⟨_, rfl⟩, q⟩
    | bool b => exact PySem.P.repr_of_bool ⟨.str _, H, I.tok _, ⟨_, rfl⟩, by simpa [PyData.shown] using q⟩
    | int i t => exact PySem.P.repr_of_int (by simpa [PyData.showable] using ok1) ⟨.str _, H, I.tok _, ⟨_, rfl⟩, by simpa [PyData.shown] using q⟩
    | str x t => exact PySem.P.repr_of_str ⟨.str _, H, I.tok _, ⟨_, rfl⟩, by simpa [PyData.shown] using q⟩ (by simpa [PyData.shown] using ok3)
    | list a b c d => exact repr_of_reads' (.list a b c d) ok1 (fun _ => nas) hg (by omega) (fun _ _ e => e) (fun h' u tk hk => ⟨.str _, H, I.kept hk, ⟨_, rfl⟩, q⟩) ok3
    | tuple a b c d => exact repr_of_reads' (.tuple a b c d) ok1 (fun _ => nas) hg (by omega) (fun _ _ e => e) (fun h' u tk hk => ⟨.str _, H, I.kept hk, ⟨_, rfl⟩, q⟩) ok3
    | dict a b c d e => exact repr_of_reads' (.dict a b c d e) ok1 (fun _ => nas) hg (by omega) (fun _ _ e => e) (fun h' u tk hk => ⟨.str _, H, I.kept hk, ⟨_, rfl⟩, q⟩) ok3
theorem dop_repr : Dop s E (rRepr s.K) oRepr := dop_p1 fun c hc G H th rh ta si x v l Q h0 e q => by
  subst hc
  cases e1 : rpt x with
  | none => rw [e1] at e; cases e
  | some z =>
    rw [e1] at e
    cases e
    unfold rpt at e1
    simp only [Option.bind_eq_some_iff, Option.ite_none_right_eq_some, Option.some.injEq] at e1
    obtain ⟨y, e2, ok, rfl⟩ := e1
    refine ⟨v, y, rfl, fun P w h S u r => ?_, ok, q _ G H (h0.push (.str .nil))⟩
    obtain ⟨f, ow⟩ := h0.vw
    obtain ⟨as, rs, n⟩ := ow_reads S h0.gh ow [x] rfl [v] rfl (xs := [y]) (by simp [D.rps, e2]) [u] (.cons r .nil)
    cases rs with
    | cons a b =>
      cases b
      exact ⟨_, a, by simpa using n⟩
end
/-! ### texts of any signs, compared -/
section
variable {s : Cs} {E : XK}
def oEqS : Fv := p2 fun x y => (asS x).bind fun a => (asS y).map fun b => .fz (.bl (decide (a = b)))
def oNeS : Fv := p2 fun x y => (asS x).bind fun a => (asS y).map fun b => .fz (.bl (!decide (a = b)))
theorem dop_eqS : Dop s E (r2 rEq) oEqS := dop_p2 fun c hc G H th rh ta si x y v u l Q h0 e q => by
  cases e1 : asS x with
  | none => rw [e1] at e; cases e
  | some a =>
    cases e2 : asS y with
    | none => rw [e1, e2] at e; cases e
    | some b =>
      rw [e1, e2] at e
      cases e
      obtain rfl := asS_some e1
      obtain rfl := asS_some e2
      obtain rfl := h0.vw.str
      obtain rfl := h0.pop.vw.str
      refine ⟨rfl, ?_⟩
      have : decide (V.str a = V.str b) = decide (a = b) := by simp
      rw [this]
      exact q _ G H (h0.push (.bl .nil))
theorem dop_neS : Dop s E (r2 rNe) oNeS := dop_p2 fun c hc G H th rh ta si x y v u l Q h0 e q => by
  cases e1 : asS x with
  | none => rw [e1] at e; cases e
  | some a =>
    cases e2 : asS y with
    | none => rw [e1, e2] at e; cases e
    | some b =>
      rw [e1, e2] at e
      cases e
      obtain rfl := asS_some e1
      obtain rfl := asS_some e2
      obtain rfl := h0.vw.str
      obtain rfl := h0.pop.vw.str
      refine ⟨rfl, ?_⟩
      have : (!decide (V.str a = V.str b)) = !decide (a = b) := by simp
      rw [this]
      exact q _ G H (h0.push (.bl .nil))
end
end Dl
namespace Dl
open PySem L2

/-! ### d[k] = v -/
def putL (ks : List (D × L)) (k : D) (l : L) : List (D × L) := if ks.any (fun p => decide (p.1 = k)) then ks.map (fun p => if p.1 = k then (p.1, l) else p) else ks ++ [(k, l)]
section
variable {K : PySem.W.Frag} {ct : Str → Option Addr} {G H : Hp}
theorem putL_keys {ks : List (D × L)} {ws : List (Key × V)} {key : Key} {l : L} {v : V} (e : ks.map (·.1) = ws.map (fun p => keyD p.1)) : (putL ks (keyD key) l).map (·.1) = (putK ws key v).map (fun p => keyD p.1) := by
  have e1 : (ks.any fun p => decide (p.1 = keyD key)) = ws.any fun p => decide (p.1 = key) := by
    have : ks.any (fun p => decide (p.1 = keyD key)) = (ks.map (·.1)).any fun d => decide (d = keyD key) := by simp [List.any_map]; rfl
    rw [this, e, List.any_map]
    congr 1
    funext p
    show decide (keyD p.1 = keyD key) = decide (p.1 = key)
    by_cases z : p.1 = key
    · simp [z]
    · simp [z, show keyD p.1 ≠ keyD key from fun q => z (keyD_inj q)]
  unfold putL putK
  rw [e1]
  split
  · rw [List.map_map, List.map_map]
    have a : ((fun p : D × L => p.1) ∘ fun p => if p.1 = keyD key then (p.1, l) else p) = fun p => p.1 := by
      funext p; simp only [Function.comp]; split <;> rfl
    have b : ((fun p : Key × V => keyD p.1) ∘ fun kv => if kv.1 = key then (kv.1, v) else kv) = fun p => keyD p.1 := by
      funext p; simp only [Function.comp]; split <;> rfl
    rw [a, b, e]
  · simp [e]
theorem Ow.putMap {key : Key} {d : D} {v : V} (dt : Dt K ct G [d] [v]) : ∀ {ks : List (D × L)} {ws : List (Key × V)} {f : List Addr}, ks.map (·.1) = ws.map (fun p => keyD p.1) → Ow K ct G H (ks.map fun p => some p.2) (ws.map fun p => some p.2) f →
    ∃ f', Ow K ct G H ((ks.map (fun p => if p.1 = keyD key then (p.1, .fz d) else p)).map fun p => some p.2) ((ws.map (fun kv => if kv.1 = key then (kv.1, v) else kv)).map fun p => some p.2) f' ∧ f'.Sublist f
  | [], [], f, _, o => ⟨f, o, List.Sublist.refl _⟩
  | [], _ :: _, _, e, _ => by simp at e
  | _ :: _, [], _, e, _ => by simp at e
  | (k, l) :: ks, (k', w) :: ws, f, e, o => by
    simp only [List.map_cons, List.cons.injEq] at e
    obtain ⟨e1, e2⟩ := e
    obtain ⟨f1, f2, o1, o2, rfl⟩ := Ow.split (l1 := [some l]) (v1 := [some w]) rfl o
    obtain ⟨f3, o3, s3⟩ := Ow.putMap (key := key) dt e2 o2
    have e1 : k = keyD k' := e1
    subst e1
    by_cases z : k' = key
    · subst z
      refine ⟨f3, ?_, s3.trans (List.sublist_append_right _ _)⟩
      simp only [List.map_cons, if_true]
      exact .fz dt o3
    · refine ⟨f1 ++ f3, ?_, List.Sublist.append (List.Sublist.refl _) s3⟩
      have zz : keyD k' ≠ keyD key := fun q => z (keyD_inj q)
      simp only [List.map_cons, if_neg z, if_neg zz]
      exact Ow.app (l1 := [some l]) (v1 := [some w]) o1 o3
theorem Ow.put {key : Key} {d : D} {v : V} (dt : Dt K ct G [d] [v]) {ks : List (D × L)} {ws : List (Key × V)} {f : List Addr} (e : ks.map (·.1) = ws.map (fun p => keyD p.1)) (o : Ow K ct G H (ks.map fun p => some p.2) (ws.map fun p => some p.2) f) :
    ∃ f', Ow K ct G H ((putL ks (keyD key) (.fz d)).map fun p => some p.2) ((putK ws key v).map fun p => some p.2) f' ∧ f'.Sublist f := by
  have e1 : (ks.any fun p => decide (p.1 = keyD key)) = ws.any fun p => decide (p.1 = key) := by
    have : ks.any (fun p => decide (p.1 = keyD key)) = (ks.map (·.1)).any fun d => decide (d = keyD key) := by simp [List.any_map]; rfl
    rw [this, e, List.any_map]
    congr 1
    funext p
    show decide (keyD p.1 = keyD key) = decide (p.1 = key)
    by_cases z : p.1 = key
    · simp [z]
    · simp [z, show keyD p.1 ≠ keyD key from fun q => z (keyD_inj q)]
  unfold putL putK
  rw [e1]
  split
  · exact Ow.putMap dt e o
  · refine ⟨f ++ [], ?_, by simp⟩
    rw [List.map_append, List.map_append]
    exact Ow.app o (.fz dt .nil)
end
def gDPut (i : Nat) (ix e : Ev) : Sv := fun r => (e r).bind fun (l, r1) => match r1[i]? with
  | some (some _) => (ix r1).bind fun (k, r2) => (match r2[i]?, keyOf k.toD with
    | some (some (.dct false ks)), some key => (if ks.length < sizeLine then .ok (.nx, r2.set i (some (.dct false (putL ks (keyD key) (.fz l.toD))))) else .stuck)
    | _, _ => .stuck)
  | _ => .stuck
section
variable {s : Cs} {W : WX} {X : Cx}
theorem Ds.dput {i : Nat} {te ti : TE} {fe fi : Ev} (h1 : De s W te fe) (h2 : De s W ti fi) : Ds s W (sDPut (tVar i) ti te) (gDPut i fi fe) := fun c hc G H th rh ta si D h q => by
  refine h1 c hc G H th rh ta si _ h ?_
  unfold gDPut at q
  cases e : fe rh with
  | stuck => rw [e] at q; exact q.elim
  | exc x r => rw [e] at q; exact fun cls od G' H' h => q cls od si G' H' h
  | ok lr =>
    obtain ⟨l, r1⟩ := lr
    rw [e] at q
    simp only [Out.bind_ok] at q
    intro v G1 H1 h3
    cases e0 : r1[i]? with
    | none => rw [e0] at q; exact q.elim
    | some o =>
      cases o with
      | none => rw [e0] at q; exact q.elim
      | some l0 =>
        rw [e0] at q
        simp only at q
        obtain ⟨w, ew, _⟩ := h3.take e0
        refine ⟨w, ew, h2 c hc G1 H1 _ r1 _ si _ h3 ?_⟩
        cases e2 : fi r1 with
        | stuck => rw [e2] at q; exact q.elim
        | exc x r => rw [e2] at q; exact fun cls od G' H' h => q cls od si G' H' h.pop
        | ok kr =>
          obtain ⟨k, r2⟩ := kr
          rw [e2] at q
          simp only [Out.bind_ok] at q
          intro kv G2 H2 h4
          cases e5 : r2[i]? with
          | none => rw [e5] at q; exact q.elim
          | some o =>
            cases o with
            | none => rw [e5] at q; exact q.elim
            | some x =>
              cases ek : keyOf k.toD with
              | none => rw [e5, ek] at q; cases x with
                | dct t ks => cases t <;> exact q.elim
                | _ => exact q.elim
              | some key =>
                rw [e5, ek] at q
                cases x with
                | dct t ks =>
                  cases t with
                  | true => exact q.elim
                  | false =>
                    simp only at q
                    by_cases hz : ks.length < sizeLine
                    · rw [if_pos hz] at q
                      have ekk := keyOf_some ek
                      obtain ⟨G3, sg, dt, h5⟩ := S0.freezes (ls := [k, l]) (vs := [kv, v]) h4 rfl
                      have dk := dt.uncons.1
                      have dl := dt.uncons.2
                      simp only [List.map_cons, List.map_nil, ekk] at dk dl
                      have ex : kv = kV key := by
                        have := keys_vals (ks := [key]) (ws := [kv]) (by simpa using dk)
                        simpa using this
                      obtain ⟨w', ew', h6⟩ := h5.take e5
                      rw [ew] at ew'
                      cases ew'
                      obtain ⟨p, ws, rfl, hp, hk, go⟩ := h6.redct
                      have hl : ws.length = ks.length := by
                        have := congrArg List.length hk
                        simpa using this.symm
                      refine ⟨p, upd H2 p (.dK (putK ws key v)), rfl, .inl ⟨ws, key, hp, ex, by omega, rfl⟩, q si G3 _ ?_⟩
                      have h7 := go [] [] (putL ks (keyD key) (.fz l.toD)) (putK ws key v) (putL_keys hk) fun f o => by
                        obtain ⟨f', o', sb⟩ := Ow.put dl hk o
                        exact ⟨[], f', .nil, o', fun z => by simpa using sb.nodup z, fun a m => sb.subset (by simpa using m)⟩
                      have hi : i < r2.length := (List.getElem?_eq_some_iff.mp e5).1
                      have h8 := S0.back (i := i) (by simpa using h7) (by simpa using hi) ew
                      rwa [List.set_set] at h8
                    · rw [if_neg hz] at q; exact q.elim
                | lst _ => exact q.elim
                | fz _ => exact q.elim
                | obj _ _ => exact q.elim
theorem sd_dput {i : Nat} {on ie e : Expr} {spos pos : Pos} {te ti fe fi} (hu : X.A.units + 1 < cLine) (ho : PE X on (tVar i)) (h1 : Ed X s W e te fe) (h2 : Ed X s W ie ti fi) (hs : swapsWith e (some (.Subscript on ie spos)) pos.line X.env = pure false := by rfl) :
    Sd X s W (.Assign [.Subscript on ie spos] e pos) (sDPut (tVar i) ti te) (gDPut i fi fe) := ⟨ps_dput hu ho h2.pe h1.pe hs, Ds.dput h1.de h2.de⟩
end
end Dl
namespace Dl
open PySem L2 PyProof.Rows

/-! ### sorted(d), the keys texts -/
def dkS (l : L) : Option (List Str) := (dctL l).bind fun (t, kvs) => if t then none else strsD (kvs.map (·.1))
noncomputable def oSortD : Fv := p1 fun l => (dkS l).bind fun zs => if zs.length < 64 ∧ zs.Nodup then some (.lst (((srt zs).map D.str).map .fz)) else none
section
variable {X : Cx} {s : Cs} {E : XK}
def rSortD : List V → Hp → VK → Prop := fun xs H Q => ∃ (a : Addr) (kvs : List (Key × V)) (ks : List Str), xs = [.ref a] ∧ Rd H a (.dK kvs) ∧ kvs.map (·.1) = ks.map Sum.inr ∧ ks.length < 64 ∧
    ∀ ys p, ys.Perm ks → sortedS ys = true → H p = none → Q (.ref p) (upd H p (.lst (ys.map V.str)))
theorem cr_sortD (hc : X.calm = true) : CallR X (.builtin "sorted") rSortD := call_sortedD hc
theorem strs_keys : ∀ {ds : List D} {zs : List Str} {ks : List Key}, strsD ds = some zs → ds = ks.map keyD → ks = zs.map Sum.inr := by
  intro ds zs ks e e2
  subst e2
  induction ks generalizing zs with
  | nil => simp [strsD] at e; subst e; rfl
  | cons k ks ih =>
    cases k with
    | inl i => simp [strsD, keyD] at e
    | inr x =>
      simp only [List.map_cons, keyD, strsD, Option.map_eq_some_iff] at e
      obtain ⟨zs', e1, rfl⟩ := e
      simp [ih e1]
theorem dop_sortD : Dop s E rSortD oSortD := dop_p1 fun c hc G H th rh ta si x v l Q h0 e q => by
  subst hc
  simp only [Option.bind_eq_some_iff, Option.ite_none_right_eq_some, Option.some.injEq] at e
  obtain ⟨zs, e1, ⟨few, nd⟩, rfl⟩ := e
  unfold dkS at e1
  simp only [Option.bind_eq_some_iff] at e1
  obtain ⟨⟨t, kvs⟩, e2, e3⟩ := e1
  cases t with
  | true => simp at e3
  | false =>
    simp only [Bool.false_eq_true, if_false] at e3
    obtain ⟨a, rfl, hk, _⟩ := h0.vw.dct h0.gh e2
    obtain ⟨ws, f, rd, ek, _⟩ := hk rfl
    have ek' : ws.map (·.1) = zs.map Sum.inr := strs_keys (ks := ws.map (·.1)) e3 (by rw [ek, List.map_map]; rfl)
    refine ⟨a, ws, zs, rfl, rd, ek', few, fun ys p hp so hn => ?_⟩
    have so' : SortOf zs ys := ⟨fun z => hp.mem_iff, hp.nodup_iff.mpr nd, so⟩
    rw [so'.srt] at q
    exact q _ G _ (h0.newLst (Dt.strsD ys) hn)
end
end Dl
namespace Dl
open PySem L2 PySem.Spec PyProof.Rows

/-! ### raise X() -/
section
variable {X : Cx} {C : Addr} {bmB : List Value} {B newId initId : String} {s : Cs} {W : WX}
theorem pmk_own0 {x : Str} {p pos : Pos} (F : ExcBaseFacts B newId initId bmB) (q : PySem.W.excIn X.K C bmB newId = true) (gC : X.mg x = some (.ref C)) (kC : PySem.W.keepIn X.K (.ref C) = true) (r : Raises X (.ref C)) (hg : Gl X x)
    (hdb : (x == ("__debug__" : Str)) = false := by decide) : PMk X (.Call (.Name x p) [] [] pos) (fun _ H Q => Q (.ref C) none H) := by
  intro pins s σ H Q I h
  refine wpAny_Call_Name_kw (ld_glob I hg gC ?_ hdb)
  refine PySem.W.callWith_K0 I.kIn kC ?_
  show wpAny _ _ (call (.ref C) []) _ _ _
  obtain ⟨bm, N, nm, qn, bs, hdct, sn, sub, ab, col, dd, k0, k1, k2, k3, k5, mN, hC, hN, hni, T⟩ := exc_obj I.kIn q
  refine wpAny_call_exc_subT F T hC hN hni (fun h' e hm => ?_) (by show 0 ≤ sizeLine; omega)
  exact mk_of I hm r h (I.hok.gone hm.new)
def gExc (x : Exn) : Sv := fun r => .exc x r
theorem sd_raise0 {x : Str} {p pos pos2 : Pos} (hk : X.K = s.K) (hc : X.calm = true) (tk : Takes X W) (F : ExcBaseFacts B newId initId bmB) (q : PySem.W.excIn s.K C bmB newId = true) (gC : X.mg x = some (.ref C)) (kC : PySem.W.keepIn s.K (.ref C) = true)
    (r1 : PySem.W.subIn s.K (.ref C) (.type "BaseException") = some true) (r2 : PySem.W.typeIn s.K (.ref C) = some (.type "type")) (hct : s.ct x = some C) (hg : Gl X x) (hdb : (x == ("__debug__" : Str)) = false := by decide) :
    Sd X s W (.Raise (some (.Call (.Name x p) [] [] pos)) none pos2) (fun _ σ H => W (.ref C) none σ H) (gExc ⟨x, []⟩) :=
  ⟨ps_raise hc tk (pmk_own0 F (by rw [hk]; exact q) gC (by rw [hk]; exact kC) (raises_own (by rw [hk]; exact r1) (by rw [hk]; exact r2)) hg hdb),
    fun c hc' G H th rh ta si D h q => q (.ref C) none si G H h ⟨C, hct, rfl, rfl⟩⟩
end

/-! ### a call that may raise -/
section
variable {X : Cx} {s : Cs} {W : WX}
theorem De.opS {ms : List (Option Nat)} {ts : List TE} {a : Av} {F : Fv} {r : L2.St → List V → Hp → VK → Prop} (h2 : Da s W ms (tAll ts) a) (ho : ∀ σ, Dop s (fun cls d H => W cls d σ H) (r σ) F) :
    De s W (fun σ H Q => tAll ts σ H fun vs H1 => r σ vs H1 Q) (eO ms a F) := fun c hc G H th rh ta si Q h q => by
  refine h2 c hc G H th rh ta si _ h ?_
  unfold eO at q
  cases e2 : a rh with
  | stuck => rw [e2] at q; exact q.elim
  | exc x r => rw [e2] at q; exact q
  | ok lr2 =>
    obtain ⟨ls, r2⟩ := lr2
    rw [e2] at q
    simp only [Out.bind_ok] at q
    intro vs G2 H2 h3 e3 p
    refine ho si c hc G2 H2 th r2 ta si ls vs Q h3 e3 ?_
    cases e4 : F ls with
    | stuck => rw [e4] at q; exact q.elim
    | exc x ls' =>
      rw [e4] at q
      intro cls od G' H' h5 xr
      have l1 := h5.lt
      have l2 := h3.lt
      simp only [List.length_append, List.length_map] at l1 l2
      exact q cls od G' H' (S0.backs (t1 := []) (v1 := []) h5 rfl (by omega) p) xr
    | ok ll =>
      obtain ⟨l, ls'⟩ := ll
      rw [e4] at q
      intro v G' H' h5
      have l1 := h5.lt
      have l2 := h3.lt
      simp only [List.length_append, List.length_map, List.length_cons] at l1 l2
      exact q v G' H' (S0.backs (t1 := [some l]) (v1 := [some v]) h5 rfl (by omega) p)
variable {k n : Nat} {g : Addr} {gd : FuncData} {ps : List Str} {F : Fv} {x : Str} {p pos : Pos} {e : Expr} {es : List Expr} {ms : List (Option Nat)} {ts : List TE} {a : Av}
theorem ed_callX (hk : X.K = s.K) (F' : FnOk X.prog X.w X.K X.mg X.base (L2.CX X.prog X.w) k g gd ps (dSp s.K s.ct n F)) (hr : Room k X.A) (hg : Gl X x) (hm : X.mg x = some (.ref g)) (hkp : PySem.W.keepIn X.K (.ref g) = true) (hb : Binds X.K gd ps []) (hF : ∀ ls, ls.length ≠ n → F ls = .stuck) (tk : Takes X W)
    (h : Es X s W ms (e :: es) ts a) (hdb : (x == ("__debug__" : Str)) = false := by decide) (he : starEach (e :: es) X.env = (false, eval e X.env) :: starEach es X.env := by rfl) (hpl : (backTo pos (starEach es X.env)).any (·.1) = false := by rfl) :
    Ed X s W (.Call (.Name x p) (e :: es) [] pos) (tCallS (dSp s.K s.ct n F) (WE W) (tAll ts)) (eO ms a F) :=
  ⟨pe_callS F' hr hg hm hkp hb (fun σ => passAt tk σ) h.pes.pa hdb he hpl, De.opS (r := fun σ vs H Q => dSp s.K s.ct n F vs H Q (WE W σ)) h.da fun σ => dop_call hF⟩
theorem dF_ne {n m : Nat} {pin : List Bool} {body : Sv} (hm : pin.length = m) : ∀ ls : List L, ls.length ≠ m → dF n pin body ls = .stuck := fun ls h => dF_len (by rw [hm]; exact h)
end

/-! ### a slot whose value is known -/
def Cs.knAt (s : Cs) (i : Nat) (v : V) : Cs := ⟨s.K, s.ct, pinSet s.pin i, fun j => if j = i then some v else s.kn j⟩
def Cn.knAt (c : Cn) (i : Nat) (v : V) : Cn := { c with
  pin := pinSet c.pin i
  vs0 := vsSet c.vs0 i v
  kn := fun j => if j = i then some v else c.kn j
  hk := fun j w e => by
    by_cases h : j = i
    · rw [if_pos h] at e; cases e; subst h
      exact ⟨pinSet_at.mpr (.inl rfl), vsSet_at⟩
    · rw [if_neg h] at e
      exact ⟨pinSet_at.mpr (.inr (c.hk j w e).1), vsSet_ne (fun z => h z.symm) (c.hk j w e).2⟩ }
section
variable {c : Cn} {G H : Hp} {th rh : Rho} {ta si : List (Option V)} {i : Nat} {v : V}
theorem S0.knAt (h : S0 c G H th rh ta si) (hp : c.pin[i]? ≠ some true) (e : si[i]? = some (some v)) : S0 (c.knAt i v) G H th rh ta si := by
  obtain ⟨ow, lt, gh, g0, kp, gn, pn⟩ := h
  refine ⟨ow, lt, gh, g0, kp, gn, fun j hj => ?_⟩
  rcases pinSet_at.mp hj with e1 | hj
  · subst e1
    exact ⟨v, vsSet_at, e⟩
  · have e1 : i ≠ j := fun z => hp (z ▸ hj)
    obtain ⟨w, q1, q2⟩ := pn j hj
    exact ⟨w, vsSet_ne e1 q1, q2⟩
theorem S0.unkn (h : S0 (c.knAt i v) G H th rh ta si) (hp : c.pin[i]? ≠ some true) (hv : ∀ j : Nat, c.pin[j]? = some true → ∃ w, c.vs0[j]? = some w) : S0 c G H th rh ta si := by
  obtain ⟨ow, lt, gh, g0, kp, gn, pn⟩ := h
  refine ⟨ow, lt, gh, g0, kp, gn, fun j hj => ?_⟩
  obtain ⟨w, q1, q2⟩ := pn j (pinSet_at.mpr (.inr hj))
  have q1 : (vsSet c.vs0 i v)[j]? = some w := q1
  have e1 : i ≠ j := fun z => hp (z ▸ hj)
  obtain ⟨u, q3⟩ := hv j hj
  rw [vsSet_ne e1 q3] at q1
  cases q1
  exact ⟨w, q3, q2⟩
theorem S0.kn_at {s : Cs} (h : S0 c G H th rh ta si) (hc : c.toCs = s) (e : s.kn i = some v) : si[i]? = some (some v) := by
  subst hc
  obtain ⟨h1, h2⟩ := c.hk i v e
  obtain ⟨w, q1, q2⟩ := h.pn i h1
  rw [h2] at q1
  cases q1
  exact q2
end
/-! ### try: body except C as e: suite -/
def gTry (b : Sv) (f : Exn → Option Bool) (i : Nat) (su : Exn → Sv) : Sv := fun r => match b r with
  | .ok p => .ok p
  | .exc x r1 => (match f x with
    | some true => if i < r1.length then (match su x (r1.set i none) with
      | .ok (fl, r2) => .ok (fl, r2.set i none)
      | _ => .stuck) else .stuck
    | some false => .exc x r1
    | none => .stuck)
  | .stuck => .stuck
theorem PSs.guard {X : Cx} {b : List Stmt} {t : TS} {p : Prop} (h : p → PSs X b t) : PSs X b (fun D σ H => p ∧ t D σ H) := ⟨fun pins s σ H D I q => (h q.1).run pins s σ H D I q.2⟩
section
variable {X : Cx} {s : Cs} {W : WX} {x n : Str} {C : Addr} {i : Nat} {body suite : List Stmt} {b0 : Stmt} {np pos pos' : Pos} {tb : WX → TS} {gb : Sv} {su : Exn → Sv} {f : Exn → Option Bool} {ts : Addr → Value → Option Addr → TS}
/-- an exception's class and dict, as told -/
def Kn (s : Cs) (cls : Value) (d : Option Addr) (y : Exn) : Prop := ∃ D, s.ct y.cls = some D ∧ cls = .ref D ∧ (y.fs = [] → d = none)
theorem sd_try (hk : X.K = s.K) (hs : X.stack = X.env :: X.outer) (hf : X.env.frame = some X.env.locals) (hN : X.N.Nodup) (hi : X.N[i]? = some n) (hln : X.env.kindOf n = some .local) (hc : Names X x (.ref C)) (tk : Takes X W)
    (hpi : s.pin[i]? ≠ some true)
    (hsub : ∀ y D b, s.ct y.cls = some D → f y = some b → PySem.W.exmOne s.K (.ref D) (.ref C) = some b)
    (hb : ∀ (W' : WX) (pn : List (Addr × Obj)) (xe : Value → Shared → Prop), Takes (X.tr pn xe) W' → PassesOwn (model X.prog X.w) X.A X.env xe → Ssd (X.tr pn xe) s W' body (tb W') gb)
    (hsu : ∀ (a : Addr) (oe : Obj) (cls : Value) (d : Option Addr) (pn : List (Addr × Obj)) (y : Exn), Kn s cls d y → f y = some true → Zc cls d oe → (∃ vs, oe.data = .fields vs) →
      Ssd (X.suite a ((a, oe) :: pn)) (s.knAt i (.ref a)) W0 (b0 :: suite) (ts a cls d) (su y)) :
    Sd X s W (.Try body [.ExceptHandler (some (.Name x np)) (some n) (b0 :: suite) pos'] [] [] pos)
      (fun D σ H => tb (wAs X.K (.ref C) i (fun a cls d => fun D σ H => (∃ y, Kn s cls d y ∧ f y = some true) ∧ ts a cls d D σ H) W D) D σ H) (gTry gb f i su) := by
  refine ⟨ps_try_as hs hf hN hi hln hc tk (fun W' pn xe t po => (hb W' pn xe t po).pss) fun a oe cls d pn hz hfd => PSs.guard fun ⟨y, ky, fy⟩ => (hsu a oe cls d pn y ky fy hz hfd).pss, ?_⟩
  intro c hc' G H th rh ta si D h q
  have hv : ∀ j : Nat, c.pin[j]? = some true → ∃ w, c.vs0[j]? = some w := fun j hj => by
    obtain ⟨w, e, _⟩ := h.pn j hj
    exact ⟨w, e⟩
  have hpc : c.pin[i]? ≠ some true := by rw [← hc'] at hpi; exact hpi
  obtain ⟨xe, txe, pxe⟩ : ∃ xe : Value → Shared → Prop, Takes (X.tr [] xe) (wAs X.K (.ref C) i (fun a cls d => fun D σ H => (∃ y, Kn s cls d y ∧ f y = some true) ∧ ts a cls d D σ H) W D) ∧ PassesOwn (model X.prog X.w) X.A X.env xe := by
    refine ⟨fun e s1 => wpAny (model X.prog X.w) X.A (noteFrame e X.env) (fun _ s2 => wpAny (model X.prog X.w) X.A (setFlight e none) (fun _ _ => True) (fun _ _ => True) s2) (fun _ _ => True) s1, ?_, PassesOwn.looking⟩
    rintro u s' ⟨a, B, sI, pins', σ', H', cls, d, rfl, J', nb, up, sky, na, os, ag, w⟩
    have ok : X.Ok := J'.ok.ofTry
    have hfr : X.A.frames = some (X.env :: X.outer) := by rw [ok.frames, hs]
    have sky' : Sky B (X.env :: X.outer) a (Zc cls d) X.env.locals s'.heap := by rw [← hs]; exact sky
    exact Sky.land (Q := fun _ _ => True) (E₁ := fun _ _ => True) Zc.steady hfr hf sky' fun _ _ _ => trivial
  refine (hb _ [] xe txe pxe).ds c hc' G H th rh ta si D h ?_
  unfold gTry at q
  cases e1 : gb rh with
  | stuck => rw [e1] at q; exact q
  | ok p =>
    obtain ⟨fl, r⟩ := p
    rw [e1] at q
    cases fl <;> exact q
  | exc y r1 =>
    rw [e1] at q
    dsimp only at q ⊢
    intro cls od si' G' H' h' xr
    obtain ⟨Cy, hct, rfl, hfs⟩ := xr
    have ky : Kn s (.ref Cy) od y := ⟨Cy, hct, rfl, fun e => by rw [e] at hfs; exact hfs⟩
    cases e2 : f y with
    | none => rw [e2] at q; exact q.elim
    | some b =>
      rw [e2] at q
      have hx : PySem.W.exmOne X.K (.ref Cy) (.ref C) = some b := by rw [hk]; exact hsub y Cy b hct e2
      cases b with
      | false => exact ⟨false, hx, (fun z => by cases z), fun _ => q _ _ si' G' H' h' ⟨Cy, hct, rfl, hfs⟩⟩
      | true =>
        refine ⟨true, hx, fun _ a na => ⟨⟨y, ky, e2⟩, ?_⟩, fun z => by cases z⟩
        have hil : i < si'.length := by
          have l1 := h'.len
          dsimp only at q
          by_cases hl : i < r1.length
          · omega
          · rw [if_neg hl] at q; exact q.elim
        have w1 : S0 c G' H' th (wipeR r1 [i]) ta (si'.set i (some (.ref a))) := h'.wipe (fun j m => by simp at m; subst m; exact hpc) (by simp) fun j m => by
          simp at m
          rw [List.getElem?_set_ne (fun z => m z.symm)]
        have w2 : S0 (c.knAt i (.ref a)) G' H' th (r1.set i none) ta (si'.set i (some (.ref a))) := w1.knAt hpc (by rw [List.getElem?_set_self hil])
        have back : ∀ {th2 : Rho} {ta2 : List (Option V)} {r2 : Rho} {s2 : List (Option V)} {G2 H2 : Hp}, S0 (c.knAt i (.ref a)) G2 H2 th2 r2 ta2 s2 → S0 c G2 H2 th2 (r2.set i none) ta2 (s2.set i none) := fun h2 =>
          (h2.unkn hpc hv).wipe (vs := [i]) (fun j m => by simp at m; subst m; exact hpc) (by simp) fun j m => by
            simp at m
            rw [List.getElem?_set_ne (fun z => m z.symm)]
        refine (hsu a { cls := .ref Cy, dict := od, data := .fields #[] } (.ref Cy) od [] y ky e2 ⟨rfl, rfl⟩ ⟨_, rfl⟩).ds (c.knAt i (.ref a)) (by rw [← hc']; rfl) G' H' th _ ta _ _ w2 ?_
        dsimp only at q
        rw [if_pos (by have l1 := h'.len; omega)] at q
        cases e3 : su y (r1.set i none) with
        | stuck => rw [e3] at q; exact q.elim
        | exc z r2 => rw [e3] at q; exact q.elim
        | ok fr =>
          obtain ⟨fl, r2⟩ := fr
          rw [e3] at q
          cases fl with
          | nx => exact fun s2 G2 H2 h2 => q _ G2 H2 (back h2)
          | brk => exact fun s2 G2 H2 h2 => q _ G2 H2 (back h2)
          | cont => exact fun s2 G2 H2 h2 => q _ G2 H2 (back h2)
          | ret l => exact fun v s2 G2 H2 h2 => q v _ G2 H2 (back h2)
end

/-! ### isinstance of the caught one -/
def isC (sub : Str → Option Bool) : D → Option Bool
  | .cls m => sub m
  | .ty T => if T = "ValueError" then some true else none
  | _ => none
def isCs (sub : Str → Option Bool) : List D → Option Bool
  | [] => some false
  | d :: ds => match isC sub d with
    | some true => some true
    | some false => isCs sub ds
    | none => none
def isX (sub : Str → Option Bool) : D → Option Bool
  | .tup ds => isCs sub ds
  | d => isC sub d
def eIsX (sub : Str → Option Bool) (f : Ev) : Ev := fun r => (f r).bind fun (l, r1) => match isX sub l.toD with
  | some b => .ok (.fz (.bl b), r1)
  | none => .stuck
section
variable {K : PySem.W.Frag} {ct : Str → Option Addr} {D : Addr} {sub : Str → Option Bool} {G : Hp}
theorem isC_ok (h1 : ∀ m M b, ct m = some M → sub m = some b → PySem.W.kitOne K (.ref D) (.ref M) = some b) (h2 : PySem.W.kitOne K (.ref D) (.type "ValueError") = some true) {d : Dl.D} {v : V} {b : Bool} (hd : Dt K ct G [d] [v]) (e : isC sub d = some b) :
    ∃ cv, (∀ u, RelV v u → u = cv) ∧ PySem.W.kitOne K (.ref D) cv = some b := by
  cases hd with
  | cls hc _ =>
    refine ⟨_, fun u r => ?_, h1 _ _ b hc e⟩
    cases r; rfl
  | @ty T _ _ _ =>
    have e' : (if T = "ValueError" then some true else none) = some b := e
    by_cases hT : T = "ValueError"
    · subst hT
      simp only [if_true] at e'
      cases e'
      refine ⟨_, fun u r => ?_, h2⟩
      cases r; rfl
    · rw [if_neg hT] at e'; cases e'
  | _ => cases e
theorem isCs_ok (h1 : ∀ m M b, ct m = some M → sub m = some b → PySem.W.kitOne K (.ref D) (.ref M) = some b) (h2 : PySem.W.kitOne K (.ref D) (.type "ValueError") = some true) : ∀ {ds : List Dl.D} {vs : List V} {b : Bool}, Dt K ct G ds vs → isCs sub ds = some b → ∀ us, Vals vs us → PySem.W.kitAny K (.ref D) us = some b
  | [], [], b, _, e, us, r => by
    cases r
    exact e
  | [], _ :: _, _, h, _, _, _ => by cases h
  | _ :: _, [], _, h, _, _, _ => by cases h
  | d :: ds, v :: vs, b, h, e, us, r => by
    cases r with
    | cons rv rr =>
      obtain ⟨hd, hds⟩ := h.uncons
      unfold isCs at e
      cases e1 : isC sub d with
      | none => rw [e1] at e; cases e
      | some b1 =>
        rw [e1] at e
        obtain ⟨cv, hcv, ek⟩ := isC_ok h1 h2 hd e1
        obtain rfl := hcv _ rv
        unfold PySem.W.kitAny
        rw [ek]
        cases b1 with
        | true => exact e
        | false => exact isCs_ok h1 h2 hds e _ rr
end
def rIsX (K : PySem.W.Frag) (D a : Addr) : List V → Hp → VK → Prop := fun xs H Q => rIsE K D a xs H Q ∨ ∃ (p : Addr) (ws : List V) (b : Bool), xs = [.ref a, .ref p] ∧ SqT K H p ws ∧ (∀ us, Vals ws us → PySem.W.kitAny K (.ref D) us = some b) ∧ Q (.bl b) H
theorem call_isX {X : Cx} {a D : Addr} {oe : Obj} {pn : List (Addr × Obj)} (C : ExcC X.K D) (hz : Zc (.ref D) none oe) (hf : ∃ vs, oe.data = .fields vs) : CallR (X.suite a ((a, oe) :: pn)) (.builtin "isinstance") (rIsX X.K D a) := by
  intro pins s σ H xs us Q I r h
  rcases h with h | ⟨p, ws, b, rfl, sq, e, q⟩
  · exact call_isE C hz hf pins s σ H xs us Q I r h
  cases r with
  | cons rx rr =>
    cases rr with
    | cons rt rr =>
      cases rr
      cases rx
      cases rt
      obtain ⟨hget, _⟩ := I.pin (a, oe) (List.mem_append.mpr (.inl List.mem_cons_self))
      obtain ⟨vs, hv⟩ := hf
      have J : PySem.W.InstAt s.heap a oe D none := by
        obtain ⟨oc, od, oda, osl⟩ := oe
        obtain ⟨h1, h2⟩ := hz
        dsimp only at h1 h2 hv
        subst h1 h2 hv
        exact ⟨hget, rfl, rfl, trivial⟩
      obtain ⟨its, rr, ⟨⟨oc, od, oda, osl⟩, ho, hcl, n, hd⟩, hz2⟩ := I.tuple sq
      dsimp only at hcl hd
      subst hcl hd
      exact PySem.W.kia_tup (PySem.W.handS_kitx_exc C.hg C.hk C.hs C.hd C.ha C.hn C.ht C.hm) I.kIn J ho (e _ rr) (fun z => nomatch z) fun tk => ⟨.bl b, H, I.kept (t' := tk) fun _ _ z => z, rfl, q⟩
section
variable {X : Cx} {s : Cs} {W : WX} {a D : Addr} {oe : Obj} {pn : List (Addr × Obj)} {i : Nat} {err : Str} {p p1 pos : Pos} {ce : Expr} {t : TE} {f : Ev} {sub : Str → Option Bool}
theorem ed_isX (hk : X.K = s.K) (hkn : s.kn i = some (.ref a)) (EC : ExcC s.K D) (hz : Zc (.ref D) none oe) (hf : ∃ vs, oe.data = .fields vs) (hg : Gl (X.suite a ((a, oe) :: pn)) "isinstance") (hm : X.mg "isinstance" = none)
    (h1 : ∀ m M b, s.ct m = some M → sub m = some b → PySem.W.kitOne s.K (.ref D) (.ref M) = some b) (h2 : PySem.W.kitOne s.K (.ref D) (.type "ValueError") = some true)
    (pe : PE (X.suite a ((a, oe) :: pn)) (.Name err p1) (tVar i)) (h : Ed (X.suite a ((a, oe) :: pn)) s W ce t f)
    (he : starEach [.Name err p1, ce] (X.suite a ((a, oe) :: pn)).env = (false, eval (.Name err p1) (X.suite a ((a, oe) :: pn)).env) :: starEach [ce] (X.suite a ((a, oe) :: pn)).env := by rfl)
    (he2 : starEach [ce] (X.suite a ((a, oe) :: pn)).env = (false, eval ce (X.suite a ((a, oe) :: pn)).env) :: starEach [] (X.suite a ((a, oe) :: pn)).env := by rfl)
    (hpl : (backTo pos (starEach [ce] (X.suite a ((a, oe) :: pn)).env)).any (·.1) = false := by rfl) :
    Ed (X.suite a ((a, oe) :: pn)) s W (.Call (.Name "isinstance" p) [.Name err p1, ce] [] pos) (tCB (rIsX s.K D a) (tCons (tVar i) (tCons t tNil))) (eIsX sub f) := by
  refine ⟨pe_callB (by rw [← hk]; rw [← hk] at EC; exact call_isX EC hz hf) hg hm PyProof.Rows.boot_isinstance (pa_cons pe (pa_cons h.pe pa_nil he2) he) (by decide) (by decide) he hpl, ?_⟩
  intro c hc G H th rh ta si Q st q
  refine ⟨.ref a, st.kn_at hc hkn, ?_⟩
  refine h.de c hc G H th rh ta si _ st ?_
  unfold eIsX at q
  cases e : f rh with
  | stuck => rw [e] at q; exact q.elim
  | exc x r => rw [e] at q; exact q
  | ok lr =>
    obtain ⟨l, r1⟩ := lr
    rw [e] at q
    simp only [Out.bind_ok] at q
    intro v G1 H1 h3
    cases e1 : isX sub l.toD with
    | none => rw [e1] at q; exact q.elim
    | some b =>
      rw [e1] at q
      dsimp only at q
      obtain ⟨G2, sg, dt, h4⟩ := h3.freeze
      subst hc
      have fin : Q (.bl b) H1 := q (.bl b) G2 H1 (h4.push (.bl .nil))
      by_cases ht : ∃ ds, l.toD = .tup ds
      · obtain ⟨ds, ed⟩ := ht
        rw [ed] at dt e1
        cases dt with
        | tup hr hd _ => exact .inr ⟨_, _, b, rfl, .inl (h4.gh.rd hr), isCs_ok h1 h2 hd e1, fin⟩
      · have e2 : isC sub l.toD = some b := by
          unfold isX at e1
          split at e1
          · rename_i ds e3; exact absurd ⟨ds, e3⟩ ht
          · exact e1
        obtain ⟨cv, hcv, ek⟩ := isC_ok h1 h2 dt e2
        exact .inl ⟨v, cv, b, rfl, hcv, ek, fin⟩
end
end Dl
namespace Dl
open PySem L2 PySem.Spec PyProof.Rows

/-! ### exceptions by tables of names -/
theorem boot_ValueError : bootBuiltins "ValueError" = some (.type "ValueError") := by decide +kernel
theorem takes0 {X : Cx} : Takes X W0 := fun u s' ⟨a, B, sI, pins, σ, H, cls, d, e, I, nb, up, sky, na, os, ag, w⟩ => w.elim
def xTab (l : List (Str × Bool)) : Exn → Option Bool := fun y => match y.fs with
  | [] => l.lookup y.cls
  | _ => none
def subN (tabs : List (Str × List (Str × Bool))) (n : Str) : Str → Option Bool := fun m => match tabs.lookup n with
  | some l => l.lookup m
  | none => none
section
variable {ct : Str → Option Addr} {P : Str → Addr → Bool → Prop} {n : Str} {D0 : Addr} {b0 : Bool} {l : List (Str × Bool)}
theorem xTab_nil : ∀ (y : Exn) (D : Addr) (b : Bool), ct y.cls = some D → xTab [] y = some b → P y.cls D b := fun y D b _ e => by
  unfold xTab at e
  split at e <;> cases e
theorem xTab_cons (hc : ct n = some D0) (h : P n D0 b0) (r : ∀ (y : Exn) (D : Addr) (b : Bool), ct y.cls = some D → xTab l y = some b → P y.cls D b) : ∀ (y : Exn) (D : Addr) (b : Bool), ct y.cls = some D → xTab ((n, b0) :: l) y = some b → P y.cls D b := fun y D b e1 e2 => by
  have r' := r y D b e1
  unfold xTab at e2 r'
  obtain ⟨c, fs⟩ := y
  dsimp only at e1 e2 r' ⊢
  cases fs with
  | cons _ _ => cases e2
  | nil =>
    dsimp only at e2 r'
    unfold List.lookup at e2
    cases hb : c == n with
    | true =>
      rw [hb] at e2
      cases e2
      obtain rfl := eq_of_beq hb
      rw [hc] at e1
      cases e1
      exact h
    | false => rw [hb] at e2; exact r' e2
theorem xTab_fs {y : Exn} {b : Bool} (e : xTab l y = some b) : y.fs = [] := by
  unfold xTab at e
  split at e
  · assumption
  · cases e
variable {R : Addr → Bool → Prop}
theorem sub_nil : ∀ (m : Str) (M : Addr) (b : Bool), ct m = some M → List.lookup m ([] : List (Str × Bool)) = some b → R M b := fun _ _ _ _ e => by cases e
theorem sub_cons (hc : ct n = some D0) (h : R D0 b0) (r : ∀ (m : Str) (M : Addr) (b : Bool), ct m = some M → List.lookup m l = some b → R M b) : ∀ (m : Str) (M : Addr) (b : Bool), ct m = some M → List.lookup m ((n, b0) :: l) = some b → R M b := fun m M b e1 e2 => by
  have r' := r m M b e1
  unfold List.lookup at e2
  cases hb : m == n with
  | true =>
    rw [hb] at e2
    cases e2
    obtain rfl := eq_of_beq hb
    rw [hc] at e1
    cases e1
    exact h
  | false => rw [hb] at e2; exact r' e2
end
/-- a caught one's class, as isinstance asks -/
structure ErrOk (K : PySem.W.Frag) (ct : Str → Option Addr) (sub : Str → Option Bool) (D : Addr) : Prop where
  ec : ExcC K D
  ve : PySem.W.kitOne K (.ref D) (.type "ValueError") = some true
  sb : ∀ (m : Str) (M : Addr) (b : Bool), ct m = some M → sub m = some b → PySem.W.kitOne K (.ref D) (.ref M) = some b
theorem ErrOk.at {K : PySem.W.Frag} {ct : Str → Option Addr} {tabs : List (Str × List (Str × Bool))} {n : Str} {D : Addr} {l : List (Str × Bool)} (h : tabs.lookup n = some l) (ec : ExcC K D) (ve : PySem.W.kitOne K (.ref D) (.type "ValueError") = some true)
    (sb : ∀ (m : Str) (M : Addr) (b : Bool), ct m = some M → List.lookup m l = some b → PySem.W.kitOne K (.ref D) (.ref M) = some b) : ErrOk K ct (subN tabs n) D :=
  ⟨ec, ve, fun m M b e1 e2 => sb m M b e1 (by unfold subN at e2; rw [h] at e2; exact e2)⟩
def refA : Value → Addr
  | .ref a => a
  | _ => 0
/-- what a suite knows of the caught one -/
structure Sus (X : Cx) (s : Cs) (a : Addr) (oe : Obj) (cls : Value) (d : Option Addr) (pn : List (Addr × Obj)) (i : Nat) (y : Exn) (tb : List (Str × Bool)) : Prop where
  ky : Kn s cls d y
  fy : xTab tb y = some true
  hz : Zc cls d oe
  hf : ∃ vs, oe.data = .fields vs
section
variable {X : Cx} {s : Cs} {W : WX} {x n : Str} {C : Addr} {i : Nat} {body suite : List Stmt} {b0 : Stmt} {np pos pos' : Pos} {tb : WX → TS} {gb : Sv} {su : Exn → Sv} {tab : List (Str × Bool)} {ts : Addr → Value → Option Addr → TS}
theorem sd_tryS (hk : X.K = s.K) (hs : X.stack = X.env :: X.outer) (hf : X.env.frame = some X.env.locals) (hN : X.N.Nodup) (hi : X.N[i]? = some n) (hln : X.env.kindOf n = some .local) (hc : Names X x (.ref C)) (tk : Takes X W)
    (hpi : s.pin[i]? ≠ some true)
    (hsub : ∀ y D b, s.ct y.cls = some D → xTab tab y = some b → PySem.W.exmOne s.K (.ref D) (.ref C) = some b)
    (hb : ∀ (W' : WX) (pn : List (Addr × Obj)) (xe : Value → Shared → Prop), Takes (X.tr pn xe) W' → PassesOwn (model X.prog X.w) X.A X.env xe → Ssd (X.tr pn xe) s W' body (tb W') gb)
    (hsu : ∀ (a : Addr) (oe : Obj) (cls : Value) (d : Option Addr) (pn : List (Addr × Obj)) (y : Exn), Sus X s a oe cls d pn i y tab →
      Ssd (X.suite a ((a, oe) :: pn)) (s.knAt i (.ref a)) W0 (b0 :: suite) (ts a cls d) (su y)) :
    Sd X s W (.Try body [.ExceptHandler (some (.Name x np)) (some n) (b0 :: suite) pos'] [] [] pos)
      (fun D σ H => tb (wAs X.K (.ref C) i (fun a cls d => fun D σ H => (∃ y, Kn s cls d y ∧ xTab tab y = some true) ∧ ts a cls d D σ H) W D) D σ H) (gTry gb (xTab tab) i su) :=
  sd_try hk hs hf hN hi hln hc tk hpi hsub hb fun a oe cls d pn y ky fy hz hf => hsu a oe cls d pn y ⟨ky, fy, hz, hf⟩
end
section
variable {X : Cx} {s : Cs} {W : WX} {a : Addr} {cls : Value} {d : Option Addr} {oe : Obj} {pn : List (Addr × Obj)} {i : Nat} {err : Str} {p p1 pos : Pos} {ce : Expr} {t : TE} {f : Ev} {y : Exn} {tb : List (Str × Bool)} {tabs : List (Str × List (Str × Bool))}
theorem ed_isE (hS : Sus X s a oe cls d pn i y tb) (hk : X.K = s.K)
    (xs : ∀ (y : Exn) (D : Addr) (b : Bool), s.ct y.cls = some D → xTab tb y = some b → ErrOk s.K s.ct (subN tabs y.cls) D)
    (hg : Gl (X.suite a ((a, oe) :: pn)) "isinstance") (hm : X.mg "isinstance" = none)
    (pe : PE (X.suite a ((a, oe) :: pn)) (.Name err p1) (tVar i)) (h : Ed (X.suite a ((a, oe) :: pn)) (s.knAt i (.ref a)) W ce t f)
    (he : starEach [.Name err p1, ce] (X.suite a ((a, oe) :: pn)).env = (false, eval (.Name err p1) (X.suite a ((a, oe) :: pn)).env) :: starEach [ce] (X.suite a ((a, oe) :: pn)).env := by rfl)
    (he2 : starEach [ce] (X.suite a ((a, oe) :: pn)).env = (false, eval ce (X.suite a ((a, oe) :: pn)).env) :: starEach [] (X.suite a ((a, oe) :: pn)).env := by rfl)
    (hpl : (backTo pos (starEach [ce] (X.suite a ((a, oe) :: pn)).env)).any (·.1) = false := by rfl) :
    Ed (X.suite a ((a, oe) :: pn)) (s.knAt i (.ref a)) W (.Call (.Name "isinstance" p) [.Name err p1, ce] [] pos) (tCB (rIsX s.K (refA cls) a) (tCons (tVar i) (tCons t tNil))) (eIsX (subN tabs y.cls) f) := by
  obtain ⟨ky, fy, hz, hf⟩ := hS
  obtain ⟨D, hD, rfl, hd⟩ := ky
  obtain rfl := hd (xTab_fs fy)
  obtain ⟨ec, ve, sb⟩ := xs y D true hD fy
  exact ed_isX (s := s.knAt i (.ref a)) (i := i) (sub := subN tabs y.cls) hk (by show (if i = i then some (V.ref a) else s.kn i) = _; rw [if_pos rfl]) ec hz hf hg hm sb ve pe h he he2 hpl
end
theorem cls_of {K : PySem.W.Frag} {C : Addr} {b : Bool} {t : Value} (h2 : PySem.W.isClsIn K C = true) (h3 : PySem.W.typeIn K (.ref C) = some (.type "type")) (h4 : PySem.W.subIn K t (.ref C) = some b) : PySem.W.kitCls K t (.ref C) = some b := by
  have e2 : ((PySem.W.clsIn K C).isSome && PySem.W.typeIn K (.ref C) == some (.type "type")) = true := by
    have h2' : (PySem.W.clsIn K C).isSome = true := h2
    rw [h2', h3] <;> rfl
  show (if ((PySem.W.clsIn K C).isSome && PySem.W.typeIn K (.ref C) == some (.type "type")) = true then PySem.W.subIn K t (.ref C) else none) = some b
  rw [if_pos e2]
  exact h4
theorem kit_of {K : PySem.W.Frag} {C D : Addr} {b : Bool} (h2 : PySem.W.isClsIn K C = true) (h3 : PySem.W.typeIn K (.ref C) = some (.type "type")) (h4 : PySem.W.subIn K (.ref D) (.ref C) = some b) (h5 : ((Value.ref D == Value.ref C) && !b) = false) : PySem.W.kitOne K (.ref D) (.ref C) = some b := by
  unfold PySem.W.kitOne
  split
  · rename_i e
    rw [e] at h5
    cases b
    · cases h5
    · rfl
  · exact cls_of h2 h3 h4
theorem kitT_of {K : PySem.W.Frag} {D : Addr} (h4 : PySem.W.subIn K (.ref D) (.type "ValueError") = some true) : PySem.W.kitOne K (.ref D) (.type "ValueError") = some true := by
  unfold PySem.W.kitOne
  split
  · rfl
  · unfold PySem.W.kitCls
    dsimp only
    rw [if_pos (by decide +kernel)]
    exact h4
theorem exm_of {K : PySem.W.Frag} {C D : Addr} {b : Bool} (h1 : PySem.W.subIn K (.ref C) (.type "BaseException") = some true) (h2 : PySem.W.isClsIn K C = true) (h3 : PySem.W.typeIn K (.ref C) = some (.type "type")) (h4 : PySem.W.subIn K (.ref D) (.ref C) = some b) : PySem.W.exmOne K (.ref D) (.ref C) = some b := by
  unfold PySem.W.exmOne
  rw [h1, if_pos (by rfl)]
  exact cls_of h2 h3 h4
/-! in a suite: no word of X -/
section
variable {X : Cx} {s : Cs} {W : WX} {o e : Expr} {es : List Expr} {to : TE} {fo : Ev} {ts : List TE} {ms : List (Option Nat)} {a : Av} {F : Fv} {P : L → Bool} {name : Str} {apos cpos : Pos} {T id : String} {r : V → List V → Hp → VK → Prop} {i : Nat}
theorem ed_mPs (hk : X.K = s.K) (pa : PlainAttrs T) (slot : Slot T name id) (hty : typeOf (.builtin id) = pure (.type "method_descriptor")) (hm : MtR X id r) (hC : Chk s (fun v H => tyV s.K T v H) P) (h1 : PE X o (tVar i)) (h2 : Es X s W ms (e :: es) ts a) (ho : ∀ σ, Dop s (fun cls d H => W cls d σ H) (rM r) F)
    (hbase : attributeBase o name X.env (eval o X.env) = eval o X.env := by rfl)
    (hfew : ((backTo cpos (starEach (e :: es) X.env)).all (fun x => !x.1) && (backToKw cpos (keywordEach [] X.env)).all (fun x => x.1.isSome)
      && decide ((e :: es).length + ([] : List Keyword).length + (if ([] : List Keyword).isEmpty then 0 else 1) < 30)) = true := by rfl)
    (hline : (apos.endLine == cpos.line) = true := by rfl) (hs : starEach (e :: es) X.env = (false, eval e X.env) :: starEach es X.env := by rfl) (hplain : (backTo cpos (starEach es X.env)).any (·.1) = false := by rfl) :
    Ed X s W (.Call (.Attribute o name apos) (e :: es) [] cpos) (tBM s.K T r (tVar i) (tAll ts)) (eRP P i ms a F) := hk ▸ ed_mP hk pa slot hty hm hC h1 h2 ho hbase hfew hline hs hplain
end
end Dl
namespace Dl
open PySem L2 PyProof.Rows

/-! ### sorted(xs), a list of distinct texts -/
noncomputable def oSortT : Fv := p1 fun l => (lsq l).bind fun ds => (strsD ds).bind fun zs => if zs.length < 64 ∧ zs.Nodup then some (.lst (((srt zs).map D.str).map .fz)) else none
section
variable {X : Cx} {s : Cs} {E : XK}
theorem dop_sortT : Dop s E (rSortedS s.K) oSortT := dop_p1 fun c hc G H th rh ta si x v l Q h0 e q => by
  subst hc
  simp only [Option.bind_eq_some_iff, Option.ite_none_right_eq_some, Option.some.injEq] at e
  obtain ⟨ds, e1, zs, e2, ⟨few, nd⟩, rfl⟩ := e
  obtain ⟨a, ws, rfl, sq, dt⟩ := h0.vw.lsq h0.gh e1
  rw [Dt.strsV e2 dt] at sq
  refine ⟨a, zs, rfl, sq, few, fun ys p hp so hn => ?_⟩
  have so' : SortOf zs ys := ⟨fun z => hp.mem_iff, hp.nodup_iff.mpr nd, so⟩
  rw [so'.srt] at q
  exact q _ G _ (h0.newLst (Dt.strsD ys) hn)
end
/-! ### xs.clear() -/
section
variable {s : Cs} {E : XK}
theorem dop_clear : Dop s E (rM rClear) mClear := dop_m1 fun c hc G H th rh ta si x v l x' Q h0 e q => by
  cases e1 : ownL x with
  | none => rw [e1] at e; cases e
  | some ks =>
    rw [e1] at e
    obtain rfl := ownL_some e1
    cases e
    obtain ⟨p, ws, rfl, hp, hl, go⟩ := S0.relist (th := th) (ta := ta) h0
    refine ⟨p, ws, rfl, rfl, hp, q .non G _ ?_⟩
    have := go [] [] [] [] fun f o => ⟨[], [], .nil, .nil, fun z => by simpa using List.Pairwise.nil, fun a m => by simp at m⟩
    exact this.push (.non .nil)
end
end Dl
namespace Dl
open PySem L2 PySem.Spec PyProof.Rows PySem.Froz

section
variable {P : Program} {w : World} {A : Around} {E : Value → Shared → Prop} {s : Shared}
set_option maxHeartbeats 3200000 in
theorem call_set_lI {x : Addr} {its : Array Value} (zs : List Int) {Q : Value → Shared → Prop} (hh : A.handled = none) (hl : s.heap.IsList x its) (hit : Vals (zs.map V.int) its.toList) (few : zs.length + 1 < scanBound)
    (h : ∀ (h' : Heap) (tk c : Nat), SetR w h' s.heap.objs.size (fun j => decide (j ∈ zs)) c → c ≤ zs.length → (∀ b o, s.heap.get? b = some o → h'.get? b = some o) → Q (.ref s.heap.objs.size) { s with heap := h', toks := tk }) :
    wpAny (model P w) A (call (.type "set") [.ref x]) Q E s := by
  have hsz : its.size = zs.length := by
    have q : (zs.map V.int).length = its.toList.length := Vals.length hit
    simp at q
    exact q.symm
  obtain ⟨c, tl, hmro⟩ := F.called_set.mro
  have hmade := F.called_set.made
  have hsub := F.called_set.sub
  refine wpAny_call (codeAny_of_tree ?_)
  show wpAny _ _ (callAny (.type "set") _) _ _ _
  refine wpAny_pure ⟨Code.quiet_builtin _ (by decide +kernel), codeAny_builtin F.entry_type_call ?_⟩
  rw [Around.under_plain (weight_type_call_type "set" [.ref x] []) rfl]
  have h1 := F.called_set.notType
  have h2 := F.called_set.canCreate
  have hct := F.typeCall_set_1 (.ref x)
  repeat (any_goals (first | assumption | wp_step))
  refine codeAny_mono (code_set_led1 (.ref x) (E := E) (Q₁ := fun obj s₁ => obj = .ref s.heap.objs.size ∧ s₁ = { s with heap := s.heap.push (setNew w) }) ⟨rfl, rfl⟩) fun r s₁ hr => ?_
  cases r with
  | error e => exact hr
  | ok fl =>
    cases fl with
    | ret obj =>
      obtain ⟨rfl, rfl⟩ := hr
      have hS : (s.heap.push (setNew w)).get? s.heap.objs.size = some (setNew w) := Heap.get?_push_size _ rfl
      have hT : Shared.TypeIs { s with heap := s.heap.push (setNew w) } (.ref s.heap.objs.size) "set" := ⟨_, hS, rfl⟩
      have hli := F.called_set.init.lookup
      have hbi := F.called_set.init.bind (.ref s.heap.objs.size)
      repeat (any_goals (first | assumption | wp_step))
      refine codeAny_mono (codeAny_call_builtin (R := wants (fun r s₂ => r = .none ∧ ∃ h' tk c, s₂ = { s with heap := h', toks := tk } ∧ SetR w h' s.heap.objs.size (fun j => decide (j ∈ zs)) c ∧ c ≤ zs.length ∧
          (∀ b o, s.heap.get? b = some o → h'.get? b = some o)) E) F.called_set.init.plain F.entry_set_init (check_set_init_1 hT ?_)) fun r₂ s₂ hr₂ => ?_
      · obtain ⟨ol, hol, hcl, nl, hdl⟩ := hl
        obtain ⟨ocls, odict, odata, oslots⟩ := ol
        simp only at hcl hdl
        subst hcl; subst hdl
        have hol' : (s.heap.push (setNew w)).get? x = some { cls := .type "list", dict := odict, data := .seq its nl, slots := oslots } := Heap.get?_push_of_some _ hol
        have hsls := F.sub_list_set
        have hslf := F.sub_list_frozenset
        have hne : (Value.type "list" == Value.type "dict") = false := by decide
        have hl1 : (s.heap.push (setNew w)).IsList x its := ⟨_, hol', rfl, nl, rfl⟩
        unfold Builtin.«set.__init__» noKeywords Builtin.Frozenset.updateFrom
        generalize hPI : pyIter = PI
        wp_walk
        subst hPI
        refine wpAny_pyIter_list hl1 ?_
        refine wpAny_bind (wpAny_runValue ?_)
        have hxS : x < s.heap.objs.size := Heap.lt_size hol
        have hh3 : A.in1.in1.in1.handled = none := by simp [hh]
        have hneI : x ≠ (s.heap.push (setNew w)).objs.size := by
          rw [Heap.size_push]; exact Nat.ne_of_lt (Nat.lt_succ_of_lt hxS)
        have hSf : s.heap.objs.size ∉ [(s.heap.push (setNew w)).objs.size, x] := by
          rw [Heap.size_push, List.mem_cons, List.mem_singleton, not_or]
          exact ⟨Nat.ne_of_lt (Nat.lt_succ_self _), Nat.ne_of_gt hxS⟩
        have hval : ∀ (i : Nat) (v : Value), its[i]? = some v → ∃ z u, zs[i]? = some z ∧ v = .int z u := fun i v hv => by
          have q : its.toList[i]? = some v := by rw [Array.getElem?_toList]; exact hv
          have hi : i < zs.length := by
            have := (Array.getElem?_eq_some_iff.mp hv).1
            omega
          obtain ⟨u, eu, ru⟩ := Vals.get hit (i := i) (x := .int zs[i]) (by simp [hi])
          rw [q] at eu
          cases eu
          obtain ⟨tk, rfl⟩ := ru
          exact ⟨zs[i], tk, by simp [hi], rfl⟩
        refine set_update_ints ((Walks.list hh3 _ x hneI its).toS) s.heap.objs.size hSf zs hsz few hval (its.size - 0) 0 _ (by omega) (Nat.zero_le _)
          ⟨⟨_, Heap.get?_push_size _ rfl, rfl, rfl⟩, (hl1.push _)⟩ ?hS0 ?hR
        case hS0 =>
          exact ⟨0, Nat.le_refl 0, setR_new_at (Heap.get?_push_of_some _ hS)⟩
        case hR =>
          intro s' c mv hc hS'
          obtain ⟨h', g2, d', tk', os'⟩ := s'
          have eg : g2 = s.gens := mv.gens
          have ed : d' = s.drawn := mv.drawn
          have eo : os' = s.os := mv.os
          subst eg; subst ed; subst eo
          show wpAny _ _ _ _ _ _
          refine wpAny_pure ?_
          show wpAny _ _ (ret Value.none) _ _ _
          rw [hsz] at hc
          refine wpAny_pure ⟨rfl, h', tk', c, rfl, hS', hc, fun b o e => ?_⟩
          have b0 : b < s.heap.objs.size := Heap.lt_size e
          have b2 : b ≠ (s.heap.push (setNew w)).objs.size := by
            rw [Heap.size_push]; exact Nat.ne_of_lt (Nat.lt_succ_of_lt b0)
          refine mv.heap b o ?_ (Heap.get?_push_of_some _ (Heap.get?_push_of_some _ e))
          rw [List.mem_cons, List.mem_singleton, not_or]
          exact ⟨Nat.ne_of_lt b0, b2⟩
      · cases r₂ with
        | error e => exact hr₂
        | ok fl₂ =>
          cases fl₂ with
          | ret r =>
            obtain ⟨rfl, h', tk, l, rfl, hl', g', hk'⟩ := hr₂
            repeat (any_goals (first | assumption | wp_step))
            exact h _ _ _ hl' g' hk'
          | _ => exact hr₂.elim
    | _ => exact hr.elim
end
end Dl
namespace Dl
open PySem L2 PySem.Spec PyProof.Rows PySem.Froz

section
variable {P : Program} {w : World} {A : Around} {E : Value → Shared → Prop} {s : Shared}
set_option maxHeartbeats 3200000 in
theorem call_set_tI {x : Addr} {its : Array Value} (zs : List Int) {Q : Value → Shared → Prop} (hh : A.handled = none) (hl : s.heap.IsTuple x its) (hit : Vals (zs.map V.int) its.toList) (few : zs.length + 1 < scanBound)
    (h : ∀ (h' : Heap) (tk c : Nat), SetR w h' s.heap.objs.size (fun j => decide (j ∈ zs)) c → c ≤ zs.length → (∀ b o, s.heap.get? b = some o → h'.get? b = some o) → Q (.ref s.heap.objs.size) { s with heap := h', toks := tk }) :
    wpAny (model P w) A (call (.type "set") [.ref x]) Q E s := by
  have hsz : its.size = zs.length := by
    have q : (zs.map V.int).length = its.toList.length := Vals.length hit
    simp at q
    exact q.symm
  obtain ⟨c, tl, hmro⟩ := F.called_set.mro
  have hmade := F.called_set.made
  have hsub := F.called_set.sub
  refine wpAny_call (codeAny_of_tree ?_)
  show wpAny _ _ (callAny (.type "set") _) _ _ _
  refine wpAny_pure ⟨Code.quiet_builtin _ (by decide +kernel), codeAny_builtin F.entry_type_call ?_⟩
  rw [Around.under_plain (weight_type_call_type "set" [.ref x] []) rfl]
  have h1 := F.called_set.notType
  have h2 := F.called_set.canCreate
  have hct := F.typeCall_set_1 (.ref x)
  repeat (any_goals (first | assumption | wp_step))
  refine codeAny_mono (code_set_led1 (.ref x) (E := E) (Q₁ := fun obj s₁ => obj = .ref s.heap.objs.size ∧ s₁ = { s with heap := s.heap.push (setNew w) }) ⟨rfl, rfl⟩) fun r s₁ hr => ?_
  cases r with
  | error e => exact hr
  | ok fl =>
    cases fl with
    | ret obj =>
      obtain ⟨rfl, rfl⟩ := hr
      have hS : (s.heap.push (setNew w)).get? s.heap.objs.size = some (setNew w) := Heap.get?_push_size _ rfl
      have hT : Shared.TypeIs { s with heap := s.heap.push (setNew w) } (.ref s.heap.objs.size) "set" := ⟨_, hS, rfl⟩
      have hli := F.called_set.init.lookup
      have hbi := F.called_set.init.bind (.ref s.heap.objs.size)
      repeat (any_goals (first | assumption | wp_step))
      refine codeAny_mono (codeAny_call_builtin (R := wants (fun r s₂ => r = .none ∧ ∃ h' tk c, s₂ = { s with heap := h', toks := tk } ∧ SetR w h' s.heap.objs.size (fun j => decide (j ∈ zs)) c ∧ c ≤ zs.length ∧
          (∀ b o, s.heap.get? b = some o → h'.get? b = some o)) E) F.called_set.init.plain F.entry_set_init (check_set_init_1 hT ?_)) fun r₂ s₂ hr₂ => ?_
      · obtain ⟨ol, hol, hcl, nl, hdl⟩ := hl
        obtain ⟨ocls, odict, odata, oslots⟩ := ol
        simp only at hcl hdl
        subst hcl; subst hdl
        have hol' : (s.heap.push (setNew w)).get? x = some { cls := .type "tuple", dict := odict, data := .seq its nl, slots := oslots } := Heap.get?_push_of_some _ hol
        have hsls := F.sub_tuple_set
        have hslf := F.sub_tuple_frozenset
        have hne : (Value.type "tuple" == Value.type "dict") = false := by decide
        have hl1 : (s.heap.push (setNew w)).IsTuple x its := ⟨_, hol', rfl, nl, rfl⟩
        unfold Builtin.«set.__init__» noKeywords Builtin.Frozenset.updateFrom
        generalize hPI : pyIter = PI
        wp_walk
        subst hPI
        refine wpAny_pyIter_tuple hl1 ?_
        refine wpAny_bind (wpAny_runValue ?_)
        have hxS : x < s.heap.objs.size := Heap.lt_size hol
        have hh3 : A.in1.in1.in1.handled = none := by simp [hh]
        have hneI : x ≠ (s.heap.push (setNew w)).objs.size := by
          rw [Heap.size_push]; exact Nat.ne_of_lt (Nat.lt_succ_of_lt hxS)
        have hSf : s.heap.objs.size ∉ [(s.heap.push (setNew w)).objs.size, x] := by
          rw [Heap.size_push, List.mem_cons, List.mem_singleton, not_or]
          exact ⟨Nat.ne_of_lt (Nat.lt_succ_self _), Nat.ne_of_gt hxS⟩
        have hval : ∀ (i : Nat) (v : Value), its[i]? = some v → ∃ z u, zs[i]? = some z ∧ v = .int z u := fun i v hv => by
          have q : its.toList[i]? = some v := by rw [Array.getElem?_toList]; exact hv
          have hi : i < zs.length := by
            have := (Array.getElem?_eq_some_iff.mp hv).1
            omega
          obtain ⟨u, eu, ru⟩ := Vals.get hit (i := i) (x := .int zs[i]) (by simp [hi])
          rw [q] at eu
          cases eu
          obtain ⟨tk, rfl⟩ := ru
          exact ⟨zs[i], tk, by simp [hi], rfl⟩
        refine set_update_ints ((Walks.tuple hh3 _ x hneI its).toS) s.heap.objs.size hSf zs hsz few hval (its.size - 0) 0 _ (by omega) (Nat.zero_le _)
          ⟨⟨_, Heap.get?_push_size _ rfl, rfl, rfl⟩, (hl1.push _)⟩ ?hS0 ?hR
        case hS0 =>
          exact ⟨0, Nat.le_refl 0, setR_new_at (Heap.get?_push_of_some _ hS)⟩
        case hR =>
          intro s' c mv hc hS'
          obtain ⟨h', g2, d', tk', os'⟩ := s'
          have eg : g2 = s.gens := mv.gens
          have ed : d' = s.drawn := mv.drawn
          have eo : os' = s.os := mv.os
          subst eg; subst ed; subst eo
          show wpAny _ _ _ _ _ _
          refine wpAny_pure ?_
          show wpAny _ _ (ret Value.none) _ _ _
          rw [hsz] at hc
          refine wpAny_pure ⟨rfl, h', tk', c, rfl, hS', hc, fun b o e => ?_⟩
          have b0 : b < s.heap.objs.size := Heap.lt_size e
          have b2 : b ≠ (s.heap.push (setNew w)).objs.size := by
            rw [Heap.size_push]; exact Nat.ne_of_lt (Nat.lt_succ_of_lt b0)
          refine mv.heap b o ?_ (Heap.get?_push_of_some _ (Heap.get?_push_of_some _ e))
          rw [List.mem_cons, List.mem_singleton, not_or]
          exact ⟨Nat.ne_of_lt b0, b2⟩
      · cases r₂ with
        | error e => exact hr₂
        | ok fl₂ =>
          cases fl₂ with
          | ret r =>
            obtain ⟨rfl, h', tk, l, rfl, hl', g', hk'⟩ := hr₂
            repeat (any_goals (first | assumption | wp_step))
            exact h _ _ _ hl' g' hk'
          | _ => exact hr₂.elim
    | _ => exact hr.elim
end
end Dl
namespace Dl
open PySem L2 PySem.Spec PyProof.Rows PySem.Froz

section
variable {P : Program} {w : World} {A : Around} {E : Value → Shared → Prop} {s : Shared}
set_option maxHeartbeats 3200000 in
theorem call_set_tS {x : Addr} {its : Array Value} (zs : List Str) {Q : Value → Shared → Prop} (hh : A.handled = none) (hl : s.heap.IsTuple x its) (hit : Vals (zs.map V.str) its.toList) (few : zs.length + 1 < scanBound)
    (h : ∀ (h' : Heap) (tk : Nat) l, TxR P w h' s.heap.objs.size l → TxHas zs zs.length l → (∀ b o, s.heap.get? b = some o → h'.get? b = some o) → Q (.ref s.heap.objs.size) { s with heap := h', toks := tk }) :
    wpAny (model P w) A (call (.type "set") [.ref x]) Q E s := by
  have hsz : its.size = zs.length := by
    have q : (zs.map V.str).length = its.toList.length := Vals.length hit
    simp at q
    exact q.symm
  obtain ⟨c, tl, hmro⟩ := F.called_set.mro
  have hmade := F.called_set.made
  have hsub := F.called_set.sub
  refine wpAny_call (codeAny_of_tree ?_)
  show wpAny _ _ (callAny (.type "set") _) _ _ _
  refine wpAny_pure ⟨Code.quiet_builtin _ (by decide +kernel), codeAny_builtin F.entry_type_call ?_⟩
  rw [Around.under_plain (weight_type_call_type "set" [.ref x] []) rfl]
  have h1 := F.called_set.notType
  have h2 := F.called_set.canCreate
  have hct := F.typeCall_set_1 (.ref x)
  repeat (any_goals (first | assumption | wp_step))
  refine codeAny_mono (code_set_led1 (.ref x) (E := E) (Q₁ := fun obj s₁ => obj = .ref s.heap.objs.size ∧ s₁ = { s with heap := s.heap.push (setNew w) }) ⟨rfl, rfl⟩) fun r s₁ hr => ?_
  cases r with
  | error e => exact hr
  | ok fl =>
    cases fl with
    | ret obj =>
      obtain ⟨rfl, rfl⟩ := hr
      have hS : (s.heap.push (setNew w)).get? s.heap.objs.size = some (setNew w) := Heap.get?_push_size _ rfl
      have hT : Shared.TypeIs { s with heap := s.heap.push (setNew w) } (.ref s.heap.objs.size) "set" := ⟨_, hS, rfl⟩
      have hli := F.called_set.init.lookup
      have hbi := F.called_set.init.bind (.ref s.heap.objs.size)
      repeat (any_goals (first | assumption | wp_step))
      refine codeAny_mono (codeAny_call_builtin (R := wants (fun r s₂ => r = .none ∧ ∃ h' tk l, s₂ = { s with heap := h', toks := tk } ∧ TxR P w h' s.heap.objs.size l ∧ TxHas zs zs.length l ∧
          (∀ b o, s.heap.get? b = some o → h'.get? b = some o)) E) F.called_set.init.plain F.entry_set_init (check_set_init_1 hT ?_)) fun r₂ s₂ hr₂ => ?_
      · obtain ⟨ol, hol, hcl, nl, hdl⟩ := hl
        obtain ⟨ocls, odict, odata, oslots⟩ := ol
        simp only at hcl hdl
        subst hcl; subst hdl
        have hol' : (s.heap.push (setNew w)).get? x = some { cls := .type "tuple", dict := odict, data := .seq its nl, slots := oslots } := Heap.get?_push_of_some _ hol
        have hsls := F.sub_tuple_set
        have hslf := F.sub_tuple_frozenset
        have hne : (Value.type "tuple" == Value.type "dict") = false := by decide
        have hl1 : (s.heap.push (setNew w)).IsTuple x its := ⟨_, hol', rfl, nl, rfl⟩
        unfold Builtin.«set.__init__» noKeywords Builtin.Frozenset.updateFrom
        generalize hPI : pyIter = PI
        wp_walk
        subst hPI
        refine wpAny_pyIter_tuple hl1 ?_
        refine wpAny_bind (wpAny_runValue ?_)
        have hxS : x < s.heap.objs.size := Heap.lt_size hol
        have hh3 : A.in1.in1.in1.handled = none := by simp [hh]
        have hneI : x ≠ (s.heap.push (setNew w)).objs.size := by
          rw [Heap.size_push]; exact Nat.ne_of_lt (Nat.lt_succ_of_lt hxS)
        have hSf : s.heap.objs.size ∉ [(s.heap.push (setNew w)).objs.size, x] := by
          rw [Heap.size_push, List.mem_cons, List.mem_singleton, not_or]
          exact ⟨Nat.ne_of_lt (Nat.lt_succ_self _), Nat.ne_of_gt hxS⟩
        have hval : ∀ (i : Nat) (v : Value), its[i]? = some v → ∃ z u, zs[i]? = some z ∧ v = .str z u := fun i v hv => by
          have q : its.toList[i]? = some v := by rw [Array.getElem?_toList]; exact hv
          have hi : i < zs.length := by
            have := (Array.getElem?_eq_some_iff.mp hv).1
            omega
          obtain ⟨u, eu, ru⟩ := Vals.get hit (i := i) (x := .str zs[i]) (by simp [hi])
          rw [q] at eu
          cases eu
          obtain ⟨tk, rfl⟩ := ru
          exact ⟨zs[i], tk, by simp [hi], rfl⟩
        have free : ∀ b, s.heap.objs.size ≤ b → s.heap.get? b = none := fun b hb => by
          cases q : s.heap.get? b with
          | none => rfl
          | some o => exact absurd (Nat.lt_of_lt_of_le (Heap.lt_size q) hb) (Nat.lt_irrefl _)
        refine update_txts ((Walks.tuple hh3 _ x hneI its).toS) s.heap.objs.size hSf zs hsz few hval s.heap (free _ (Nat.le_refl _)) (fun b hb => free b (by
            rw [List.mem_singleton.mp hb, Heap.size_push]
            exact Nat.le_succ _)) (its.size - 0) 0 _ (by omega) (Nat.zero_le _)
          ⟨⟨_, Heap.get?_push_size _ rfl, rfl, rfl⟩, (hl1.push _)⟩ (fun b o e => Heap.get?_push_of_some _ (Heap.get?_push_of_some _ e)) ?hS0 ?hR
        case hS0 =>
          exact ⟨[], txr_fresh (Heap.get?_push_of_some _ hS), ⟨fun z => by simp, Nat.le_refl _⟩⟩
        case hR =>
          intro s' l mv hl' g' kp
          obtain ⟨h', g2, d', tk', os'⟩ := s'
          have eg : g2 = s.gens := mv.gens
          have ed : d' = s.drawn := mv.drawn
          have eo : os' = s.os := mv.os
          subst eg; subst ed; subst eo
          show wpAny _ _ _ _ _ _
          refine wpAny_pure ?_
          show wpAny _ _ (ret Value.none) _ _ _
          rw [hsz] at g'
          exact wpAny_pure ⟨rfl, h', tk', l, rfl, hl', g', kp⟩
      · cases r₂ with
        | error e => exact hr₂
        | ok fl₂ =>
          cases fl₂ with
          | ret r =>
            obtain ⟨rfl, h', tk, l, rfl, hl', g', hk'⟩ := hr₂
            repeat (any_goals (first | assumption | wp_step))
            exact h _ _ _ hl' g' hk'
          | _ => exact hr₂.elim
    | _ => exact hr.elim
end
end Dl
namespace Dl
open PySem L2 PySem.Spec PyProof.Rows PySem.Froz


/-! how many unlike ones -/
def nub : List D → List D
  | [] => []
  | d :: ds => if d ∈ ds then nub ds else d :: nub ds
theorem mem_nub {d : D} : ∀ {ds : List D}, d ∈ nub ds ↔ d ∈ ds
  | [] => Iff.rfl
  | e :: ds => by
    unfold nub
    split
    · rename_i h
      rw [mem_nub, List.mem_cons]
      exact ⟨.inr, fun q => q.elim (fun q => q ▸ h) id⟩
    · rw [List.mem_cons, List.mem_cons, mem_nub]
theorem nub_nd : ∀ {ds : List D}, (nub ds).Nodup
  | [] => List.nodup_nil
  | e :: ds => by
    unfold nub
    split
    · exact nub_nd
    · rename_i h
      exact List.nodup_cons.mpr ⟨fun q => h (mem_nub.mp q), nub_nd⟩
theorem nub_le : ∀ {ds : List D}, (nub ds).length ≤ ds.length
  | [] => Nat.le_refl _
  | e :: ds => by
    unfold nub
    have := nub_le (ds := ds)
    split <;> simp <;> omega
theorem nub_eq : ∀ {ds : List D}, (nub ds).length = ds.length ↔ ds.Nodup
  | [] => by simp [nub]
  | e :: ds => by
    unfold nub
    have := nub_le (ds := ds)
    split
    · rename_i h
      constructor
      · intro q; simp at q; omega
      · intro q; exact absurd h (List.nodup_cons.mp q).1
    · rename_i h
      rw [List.length_cons, List.length_cons, List.nodup_cons, ← nub_eq (ds := ds)]
      constructor
      · intro q; exact ⟨h, by omega⟩
      · intro q; omega
theorem nub_len {l ds : List D} (h : l.Nodup) (hm : ∀ d, d ∈ l ↔ d ∈ ds) : l.length = (nub ds).length :=
  Nat.le_antisymm (List.Nodup.length_le_of_subset h fun d hd => mem_nub.mpr ((hm d).mp hd)) (List.Nodup.length_le_of_subset nub_nd fun d hd => (hm d).mpr (mem_nub.mp hd))
theorem nodup_mapD {α : Type} {f : α → D} (hf : ∀ a b, f a = f b → a = b) : ∀ {l : List α}, l.Nodup → (l.map f).Nodup
  | [], _ => List.nodup_nil
  | x :: l, h => by
    obtain ⟨h1, h2⟩ := List.nodup_cons.mp h
    refine List.nodup_cons.mpr ⟨fun q => ?_, nodup_mapD hf h2⟩
    obtain ⟨y, hy, e⟩ := List.mem_map.mp q
    exact h1 (hf y x e ▸ hy)

/-! len(set(xs)) -/
section
variable {X : Cx}
def tLenSetA (K : PySem.W.Frag) (ta : TE) : TE := fun σ H Q => ta σ H fun x H1 => ∃ (l : Addr), x = V.ref l ∧
  ((∃ ns : List Int, (SqL K H1 l (ns.map V.int) ∨ SqT K H1 l (ns.map V.int)) ∧ ns.length ≤ 1000 ∧ Q (.int (nub (ns.map D.int)).length) H1) ∨
   (∃ zs : List Str, (SqL K H1 l (zs.map V.str) ∨ SqT K H1 l (zs.map V.str)) ∧ zs.length ≤ 1000 ∧ Q (.int (nub (zs.map D.str)).length) H1))
theorem setR_len {w : World} {h : Heap} {a : Addr} {ns : List Int} {c : Nat} (r : SetR w h a (fun j => decide (j ∈ ns)) c) : c = (nub (ns.map D.int)).length := by
  obtain ⟨o, es, ep, t, ho, hex, hd, g, nd, hm, hb, hf, hn, _⟩ := r
  rw [← hn, ← nub_len (l := (es.toList.map L2.keyOf).map D.int) (nodup_mapD (fun a b e => by injection e) nd) fun d => ?_]
  · simp
  · constructor
    · intro q
      obtain ⟨k, hk, rfl⟩ := List.mem_map.mp q
      exact List.mem_map_of_mem (by simpa using (hm k).mpr hk)
    · intro q
      obtain ⟨k, hk, rfl⟩ := List.mem_map.mp q
      exact List.mem_map_of_mem ((hm k).mp (by simpa using hk))
theorem txr_len {P : Program} {w : World} {h : Heap} {a : Addr} {l zs : List Str} (r : TxR P w h a l) (g : TxHas zs zs.length l) : l.length = (nub (zs.map D.str)).length := by
  obtain ⟨_, _, _, nd, _⟩ := r
  rw [← nub_len (l := l.map D.str) (nodup_mapD (fun a b e => by injection e) nd) fun d => ?_]
  · simp
  · have := g.1
    simp only [List.take_length] at this
    constructor
    · intro q
      obtain ⟨k, hk, rfl⟩ := List.mem_map.mp q
      exact List.mem_map_of_mem ((this k).mp hk)
    · intro q
      obtain ⟨k, hk, rfl⟩ := List.mem_map.mp q
      exact List.mem_map_of_mem ((this k).mpr hk)
theorem pe_lenSetA {a : Expr} {ta : TE} {p p2 q pos : Pos} (hc : X.calm = true) (hg : Gl X "len") (hm : X.mg "len" = none) (hg2 : Gl X "set") (hm2 : X.mg "set" = none) (ha : PE X a ta)
    (na : starEach [a] X.env = (false, eval a X.env) :: starEach [] X.env := by rfl) : PE X (.Call (.Name "len" p) [.Call (.Name "set" p2) [a] [] q] [] pos) (tLenSetA X.K ta) := by
  refine ⟨fun pins s σ H Q I h => ?_⟩
  refine Call_ (ld_blt I hg hm PySem.boot_len ?_)
  refine PyProof.Rows.callWith_builtin1 (PyProof.Rows.args_cons ?_ rfl) rfl rfl
  refine Call_ (ld_blt I hg2 hm2 PyProof.Rows.boot_set ?_)
  refine PyProof.Rows.callWith_type1 (PyProof.Rows.args_cons (thn (ha.run pins s σ H _ I h) fun v s1 ⟨x, H1, I1, r1, q1⟩ => PyProof.Rows.args_nil ?_) na) na rfl
  obtain ⟨l, rfl, q1⟩ := q1
  cases r1
  have finI : ∀ (ns : List Int) (h' : Heap) (tk c : Nat), ns.length ≤ 1000 → Q (.int (nub (ns.map D.int)).length) H1 → SetR X.w h' s1.heap.objs.size (fun j => decide (j ∈ ns)) c → c ≤ ns.length → (∀ b o, s1.heap.get? b = some o → h'.get? b = some o) →
      wpAny (model X.prog X.w) X.A (spliced (backTo pos (starEach [] X.env))) (fun vs s2 => wpAny (model X.prog X.w) X.A (call (.builtin "len") (Value.ref s1.heap.objs.size :: vs)) (EP X pins σ Q) X.xe s2) X.xe { s1 with heap := h', toks := tk } := fun ns h' tk c hl hq hS hcl hk => by
    refine PyProof.Rows.args_nil ?_
    have e0 := setR_len hS
    obtain ⟨o, es, ep, t, ho, hex, hd, _, _, _, _, hf, hn, _⟩ := hS
    have I2 : Inv X pins σ H1 { s1 with heap := h', toks := tk } := I1.kept hk
    have e1 : es.size = (nub (ns.map D.int)).length := hn.trans e0
    exact call_len_set ho hex hd hf (by omega) ⟨.int (nub (ns.map D.int)).length, H1, I2.tok _, ⟨_, by rw [e1]⟩, hq⟩
  have finS : ∀ (zs : List Str) (h' : Heap) (tk : Nat) (l : List Str), zs.length ≤ 1000 → Q (.int (nub (zs.map D.str)).length) H1 → TxR X.prog X.w h' s1.heap.objs.size l → TxHas zs zs.length l → (∀ b o, s1.heap.get? b = some o → h'.get? b = some o) →
      wpAny (model X.prog X.w) X.A (spliced (backTo pos (starEach [] X.env))) (fun vs s2 => wpAny (model X.prog X.w) X.A (call (.builtin "len") (Value.ref s1.heap.objs.size :: vs)) (EP X pins σ Q) X.xe s2) X.xe { s1 with heap := h', toks := tk } := fun zs h' tk l hl hq hT hH hk => by
    refine PyProof.Rows.args_nil ?_
    have e0 := txr_len hT hH
    obtain ⟨⟨es, ep, t⟩, ho, F, nd, _⟩ := hT
    have I2 : Inv X pins σ H1 { s1 with heap := h', toks := tk } := I1.kept hk
    have hsz : es.size = l.length := F.sz
    have e1 : es.size = (nub (zs.map D.str)).length := hsz.trans e0
    have := hH.2
    exact call_len_set ho ⟨rfl, rfl, rfl⟩ rfl F.fit (by show (es.size : Int) < 2 ^ 63; omega) ⟨.int (nub (zs.map D.str)).length, H1, I2.tok _, ⟨_, by rw [e1]⟩, hq⟩
  rcases q1 with ⟨ns, hq, hl, q1⟩ | ⟨zs, hq, hl, q1⟩
  · rcases hq with hq | hq
    · obtain ⟨its, r, pl, hz⟩ := I1.list hq
      exact call_set_lI (its := its.toArray) ns (I1.ok.hd hc) pl.isList (by simpa using r) (by unfold scanBound; omega) fun h' tk c hS hcl hk => finI ns h' tk c hl q1 hS hcl hk
    · obtain ⟨its, r, pl, hz⟩ := I1.tuple hq
      exact call_set_tI (its := its.toArray) ns (I1.ok.hd hc) pl (by simpa using r) (by unfold scanBound; omega) fun h' tk c hS hcl hk => finI ns h' tk c hl q1 hS hcl hk
  · rcases hq with hq | hq
    · obtain ⟨its, r, pl, hz⟩ := I1.list hq
      exact call_set_txts (its := its.toArray) zs (I1.ok.hd hc) pl.isList (by simpa using r) (by unfold scanBound; omega) fun h' tk l hT hH hk => finS zs h' tk l hl q1 hT hH hk
    · obtain ⟨its, r, pl, hz⟩ := I1.tuple hq
      exact call_set_tS (its := its.toArray) zs (I1.ok.hd hc) pl (by simpa using r) (by unfold scanBound; omega) fun h' tk l hT hH hk => finS zs h' tk l hl q1 hT hH hk
/-! sorted(set(ints)) -/
def tSortSetI (K : PySem.W.Frag) (ta : TE) : TE := fun σ H Q => ta σ H fun x H1 => ∃ (l : Addr) (ns : List Int), x = .ref l ∧ (SqL K H1 l (ns.map V.int) ∨ SqT K H1 l (ns.map V.int)) ∧ ns.length < 64 ∧
  ∀ (ks : List Int) (p : Addr), ks.Pairwise (· < ·) → (∀ k, k ∈ ks ↔ k ∈ ns) → H1 p = none → Q (.ref p) (upd H1 p (.lst (ks.map V.int)))
theorem run_sortIs {pins : List (Addr × Obj)} {σ : L2.St} {H : Hp} {s : Shared} {a : Addr} {ns : List Int} {c : Nat} {Q : VK} (hc : X.calm = true) (I : Inv X pins σ H s) (hT : SetR X.w s.heap a (fun j => decide (j ∈ ns)) c) (few : c < 64)
    (q : ∀ (ks : List Int) (p : Addr), ks.Pairwise (· < ·) → (∀ k, k ∈ ks ↔ k ∈ ns) → H p = none → Q (.ref p) (upd H p (.lst (ks.map V.int)))) : wpAny (model X.prog X.w) X.A (call (.builtin "sorted") [.ref a]) (EP X pins σ Q) X.xe s := by
  refine sorted_set hT (I.ok.hd hc) few fun s' p out n ks kp g o hp hgt hints hpw hmm hkl => ?_
  have hlen : (ks.map V.int).length ≤ sizeLine := by
    rw [List.length_map, sizeLine_eq, hkl]
    omega
  have hn : H p = none := I.hok.fresh hp
  have J : Inv X pins σ (upd H p (.lst (ks.map V.int))) { s with heap := s'.heap, gens := s'.gens, drawn := s'.drawn, toks := s'.toks } :=
    I.call (ch := []) (Un.laid kp hp hn) (I.hok.laid kp hp ⟨hlen, out.toList, n, vals_of_ints hints, hgt⟩) (by rw [g]; exact I.bare) (fun _ z => nomatch z)
  have e : s' = { s with heap := s'.heap, gens := s'.gens, drawn := s'.drawn, toks := s'.toks } := by
    cases s'
    cases s
    cases o
    rfl
  rw [e]
  exact ⟨.ref p, _, J, rfl, q ks p hpw (fun k => (hmm k).trans decide_eq_true_iff) hn⟩
theorem pe_sortSetI {a : Expr} {ta : TE} {p p2 q pos : Pos} (hc : X.calm = true) (hg : Gl X "sorted") (hm : X.mg "sorted" = none) (hg2 : Gl X "set") (hm2 : X.mg "set" = none) (ha : PE X a ta)
    (na : starEach [a] X.env = (false, eval a X.env) :: starEach [] X.env := by rfl) : PE X (.Call (.Name "sorted" p) [.Call (.Name "set" p2) [a] [] q] [] pos) (tSortSetI X.K ta) := by
  refine ⟨fun pins s σ H Q I h => ?_⟩
  refine Call_ (ld_blt I hg hm PyProof.Rows.boot_sorted ?_)
  refine PyProof.Rows.callWith_builtin1 (PyProof.Rows.args_cons ?_ rfl) rfl rfl
  refine Call_ (ld_blt I hg2 hm2 PyProof.Rows.boot_set ?_)
  refine PyProof.Rows.callWith_type1 (PyProof.Rows.args_cons (thn (ha.run pins s σ H _ I h) fun v s1 ⟨x, H1, I1, r1, q1⟩ => PyProof.Rows.args_nil ?_) na) na rfl
  obtain ⟨l, ns, rfl, hq, few, q1⟩ := q1
  cases r1
  have fin : ∀ (h' : Heap) (tk c : Nat), SetR X.w h' s1.heap.objs.size (fun j => decide (j ∈ ns)) c → c ≤ ns.length → (∀ b o, s1.heap.get? b = some o → h'.get? b = some o) →
      wpAny (model X.prog X.w) X.A (spliced (backTo pos (starEach [] X.env))) (fun vs s2 => wpAny (model X.prog X.w) X.A (call (.builtin "sorted") (Value.ref s1.heap.objs.size :: vs)) (EP X pins σ Q) X.xe s2) X.xe { s1 with heap := h', toks := tk } := fun h' tk c hS hcl hk => by
    refine PyProof.Rows.args_nil ?_
    have I2 : Inv X pins σ H1 { s1 with heap := h', toks := tk } := I1.kept hk
    exact run_sortIs (s := { s1 with heap := h', toks := tk }) hc I2 hS (by omega) q1
  rcases hq with hq | hq
  · obtain ⟨its, r, pl, hz⟩ := I1.list hq
    exact call_set_lI (its := its.toArray) ns (I1.ok.hd hc) pl.isList (by simpa using r) (by unfold scanBound; omega) fin
  · obtain ⟨its, r, pl, hz⟩ := I1.tuple hq
    exact call_set_tI (its := its.toArray) ns (I1.ok.hd hc) pl (by simpa using r) (by unfold scanBound; omega) fin
end
/-- ints, rising, each once -/
def insI (x : Int) : List Int → List Int
  | [] => [x]
  | y :: l => if x < y then x :: y :: l else if x = y then y :: l else y :: insI x l
def srtI : List Int → List Int
  | [] => []
  | x :: l => insI x (srtI l)
theorem mem_insI {x z : Int} : ∀ {l : List Int}, z ∈ insI x l ↔ z = x ∨ z ∈ l
  | [] => by simp [insI]
  | y :: l => by
    unfold insI
    split
    · simp
    · split
      · rename_i e; subst e; simp
      · rw [List.mem_cons, mem_insI (l := l), List.mem_cons]
        constructor
        · rintro (h | h | h)
          · exact .inr (.inl h)
          · exact .inl h
          · exact .inr (.inr h)
        · rintro (h | h | h)
          · exact .inr (.inl h)
          · exact .inl h
          · exact .inr (.inr h)
theorem mem_srtI {z : Int} : ∀ {l : List Int}, z ∈ srtI l ↔ z ∈ l
  | [] => Iff.rfl
  | x :: l => by rw [srtI, mem_insI, mem_srtI, List.mem_cons]
theorem insI_pw {x : Int} : ∀ {l : List Int}, l.Pairwise (· < ·) → (insI x l).Pairwise (· < ·)
  | [], _ => List.pairwise_singleton _ _
  | y :: l, h => by
    obtain ⟨h1, h2⟩ := List.pairwise_cons.mp h
    unfold insI
    split
    · rename_i q
      refine List.pairwise_cons.mpr ⟨fun z hz => ?_, h⟩
      rcases List.mem_cons.mp hz with rfl | hz
      · exact q
      · exact Int.lt_trans q (h1 z hz)
    · split
      · exact h
      · rename_i q1 q2
        refine List.pairwise_cons.mpr ⟨fun z hz => ?_, insI_pw h2⟩
        rcases mem_insI.mp hz with rfl | hz
        · omega
        · exact h1 z hz
theorem srtI_pw : ∀ {l : List Int}, (srtI l).Pairwise (· < ·)
  | [] => List.Pairwise.nil
  | _ :: _ => insI_pw srtI_pw
theorem pwI_uniq : ∀ {a b : List Int}, a.Pairwise (· < ·) → b.Pairwise (· < ·) → (∀ z, z ∈ a ↔ z ∈ b) → a = b
  | [], [], _, _, _ => rfl
  | [], y :: b, _, _, h => absurd ((h y).mpr List.mem_cons_self) List.not_mem_nil
  | x :: a, [], _, _, h => absurd ((h x).mp List.mem_cons_self) List.not_mem_nil
  | x :: a, y :: b, pa, pb, h => by
    obtain ⟨pa1, pa2⟩ := List.pairwise_cons.mp pa
    obtain ⟨pb1, pb2⟩ := List.pairwise_cons.mp pb
    have e : x = y := by
      rcases List.mem_cons.mp ((h x).mp List.mem_cons_self) with e | hx
      · exact e
      rcases List.mem_cons.mp ((h y).mpr List.mem_cons_self) with e | hy
      · exact e.symm
      have := pa1 y hy
      have := pb1 x hx
      omega
    subst e
    rw [pwI_uniq pa2 pb2 fun z => ?_]
    have hz := h z
    rw [List.mem_cons, List.mem_cons] at hz
    constructor
    · intro q
      rcases hz.mp (.inr q) with rfl | q
      · exact absurd (pa1 z ‹_›) (Int.lt_irrefl _)
      · exact q
    · intro q
      rcases hz.mpr (.inr q) with rfl | q
      · exact absurd (pb1 z ‹_›) (Int.lt_irrefl _)
      · exact q
/-- the operations over slots -/
def eLS (f : Ev) : Ev := fun r => (f r).bind fun (l, r1) => match seqD l with
  | some (_, ds) => if ((intsD ds).isSome || (strsD ds).isSome) && decide (ds.length ≤ 1000) then .ok (.fz (.int (nub ds).length), r1) else .stuck
  | none => .stuck
def eSSI (f : Ev) : Ev := fun r => (f r).bind fun (l, r1) => match (seqD l).bind fun p => intsD p.2 with
  | some ns => if ns.length < 64 then .ok (.lst (((srtI ns).map D.int).map .fz), r1) else .stuck
  | none => .stuck
theorem intsD_eq : ∀ {ds : List D} {ns : List Int}, intsD ds = some ns → ds = ns.map D.int
  | [], _, e => by cases e; rfl
  | d :: ds, ns, e => by
    cases d <;> simp only [intsD] at e <;> try cases e
    cases e1 : intsD ds with
    | none => rw [e1] at e; cases e
    | some ms => rw [e1] at e; cases e; rw [intsD_eq e1]; rfl
theorem strsD_eq : ∀ {ds : List D} {ns : List Str}, strsD ds = some ns → ds = ns.map D.str
  | [], _, e => by cases e; rfl
  | d :: ds, ns, e => by
    cases d <;> simp only [strsD] at e <;> try cases e
    cases e1 : strsD ds with
    | none => rw [e1] at e; cases e
    | some ms => rw [e1] at e; cases e; rw [strsD_eq e1]; rfl
theorem seqD_sq {s : Cs} {G H : Hp} {l : L} {v : V} {b : Bool} {ds : List D} (gh : Same G H) (h : Vw s G H l v) (e : seqD l = some (b, ds)) : ∃ a ws, v = .ref a ∧ (SqL s.K H a ws ∨ SqT s.K H a ws) ∧ Dt s.K s.ct G ds ws := by
  cases b with
  | true =>
    obtain ⟨a, ws, e1, e2, e3⟩ := Vw.lsq gh h (ds := ds) (by unfold lsq; rw [e]; rfl)
    exact ⟨a, ws, e1, .inl e2, e3⟩
  | false =>
    obtain ⟨a, ws, e1, e2, e3⟩ := Vw.tsq gh h (ds := ds) (by unfold tsq; rw [e]; rfl)
    exact ⟨a, ws, e1, .inr e2, e3⟩
section
variable {X : Cx} {s : Cs} {W : WX} {a : Expr} {t : TE} {f : Ev}
theorem De.lenSet (h1 : De s W t f) : De s W (tLenSetA s.K t) (eLS f) := fun c hc G H th rh ta si Q h0 q => by
  refine h1 c hc G H th rh ta si _ h0 ?_
  unfold eLS at q
  cases e : f rh with
  | stuck => rw [e] at q; exact q.elim
  | exc x r => rw [e] at q; exact q
  | ok lr =>
    obtain ⟨l, r1⟩ := lr
    rw [e] at q
    simp only [Out.bind_ok] at q
    intro v G1 H1 h3
    cases e1 : seqD l with
    | none => rw [e1] at q; exact q.elim
    | some bd =>
      obtain ⟨b, ds⟩ := bd
      rw [e1] at q
      dsimp only at q
      by_cases few : (((intsD ds).isSome || (strsD ds).isSome) && decide (ds.length ≤ 1000)) = true
      · rw [if_pos few] at q
        obtain ⟨p, ws, rfl, sq, dt⟩ := seqD_sq h3.gh h3.vw e1
        simp only [Bool.and_eq_true, Bool.or_eq_true, decide_eq_true_eq] at few
        subst hc
        refine ⟨p, rfl, ?_⟩
        rcases few.1 with k | k
        · obtain ⟨ns, e2⟩ := Option.isSome_iff_exists.mp k
          obtain rfl := Dt.intsV e2 dt
          obtain rfl := intsD_eq e2
          refine .inl ⟨ns, sq, by simpa using few.2, ?_⟩
          exact q _ G1 _ (h3.pop.push (.int .nil))
        · obtain ⟨ns, e2⟩ := Option.isSome_iff_exists.mp k
          obtain rfl := Dt.strsV e2 dt
          obtain rfl := strsD_eq e2
          refine .inr ⟨ns, sq, by simpa using few.2, ?_⟩
          exact q _ G1 _ (h3.pop.push (.int .nil))
      · rw [if_neg few] at q; exact q.elim
theorem ed_lenSet {p p2 q pos : Pos} (hk : X.K = s.K) (hc : X.calm = true) (hg : Gl X "len") (hm : X.mg "len" = none) (hg2 : Gl X "set") (hm2 : X.mg "set" = none) (h : Ed X s W a t f)
    (na : starEach [a] X.env = (false, eval a X.env) :: starEach [] X.env := by rfl) : Ed X s W (.Call (.Name "len" p) [.Call (.Name "set" p2) [a] [] q] [] pos) (tLenSetA s.K t) (eLS f) :=
  ⟨by rw [← hk]; exact pe_lenSetA hc hg hm hg2 hm2 h.pe na, h.de.lenSet⟩
theorem De.sortSetI (h1 : De s W t f) : De s W (tSortSetI s.K t) (eSSI f) := fun c hc G H th rh ta si Q h0 q => by
  refine h1 c hc G H th rh ta si _ h0 ?_
  unfold eSSI at q
  cases e : f rh with
  | stuck => rw [e] at q; exact q.elim
  | exc x r => rw [e] at q; exact q
  | ok lr =>
    obtain ⟨l, r1⟩ := lr
    rw [e] at q
    simp only [Out.bind_ok] at q
    intro v G1 H1 h3
    cases e1 : seqD l with
    | none => rw [e1] at q; exact q.elim
    | some bd =>
      obtain ⟨b, ds⟩ := bd
      rw [e1] at q
      simp only [Option.bind_some] at q
      cases e2 : intsD ds with
      | none => rw [e2] at q; exact q.elim
      | some ns =>
        rw [e2] at q
        dsimp only at q
        by_cases few : ns.length < 64
        · rw [if_pos few] at q
          obtain ⟨p, ws, rfl, sq, dt⟩ := seqD_sq h3.gh h3.vw e1
          obtain rfl := Dt.intsV e2 dt
          subst hc
          refine ⟨p, ns, rfl, sq, few, fun ks b hp hm nb => ?_⟩
          obtain rfl : ks = srtI ns := pwI_uniq hp srtI_pw fun z => (hm z).trans mem_srtI.symm
          exact q _ G1 _ (h3.pop.newLst (Dt.ints _) nb)
        · rw [if_neg few] at q; exact q.elim
theorem ed_sortSetI {p p2 q pos : Pos} (hk : X.K = s.K) (hc : X.calm = true) (hg : Gl X "sorted") (hm : X.mg "sorted" = none) (hg2 : Gl X "set") (hm2 : X.mg "set" = none) (h : Ed X s W a t f)
    (na : starEach [a] X.env = (false, eval a X.env) :: starEach [] X.env := by rfl) : Ed X s W (.Call (.Name "sorted" p) [.Call (.Name "set" p2) [a] [] q] [] pos) (tSortSetI s.K t) (eSSI f) :=
  ⟨by rw [← hk]; exact pe_sortSetI hc hg hm hg2 hm2 h.pe na, h.de.sortSetI⟩
end
end Dl
/-! for over zip of two lists that stand in slots -/
namespace Dl
open PySem L2
/-- the items of a list -/
def lsO : L → Option (List L)
  | .lst ks => some ks
  | .fz (.lst ds) => some (ds.map .fz)
  | _ => none
def forZP (i j : Nat) (b : Bv) (body : Sv) (n1 n2 : Nat) : Nat → Rho → Out Rho (Fl × Rho)
  | m, r => match r[i]?, r[j]? with
    | some (some x), some (some y) => (match lsO x, lsO y with
      | some ks, some ls => if ks.length = n1 ∧ ls.length = n2 then (match m with
        | 0 => .ok (.nx, r)
        | m + 1 => (match ks[min n1 n2 - (m + 1)]?, ls[min n1 n2 - (m + 1)]? with
          | some (.fz d), some (.fz e) => (match b (.tup [d, e]) r with
            | none => .stuck
            | some r1 => (body r1).bind fun (fl, r2) => match fl with
              | .nx => forZP i j b body n1 n2 m r2
              | .cont => forZP i j b body n1 n2 m r2
              | .brk => .ok (.nx, r2)
              | .ret l => .ok (.ret l, r2))
          | _, _ => .stuck)) else .stuck
      | _, _ => .stuck)
    | _, _ => .stuck
def gForZP (i j : Nat) (b : Bv) (body : Sv) : Sv := fun r => match r[i]?, r[j]? with
  | some (some x), some (some y) => (match lsO x, lsO y with
    | some ks, some ls => forZP i j b body ks.length ls.length (min ks.length ls.length) r
    | _, _ => .stuck)
  | _, _ => .stuck
section
variable {X : Cx} {s : Cs} {W : WX} {i j : Nat}
theorem S0.lsAt {c : Cn} {G H : Hp} {th rh : Rho} {ta si : List (Option V)} {l : L} {ks : List L} (h : S0 c G H th rh ta si) (e : rh[i]? = some (some l)) (el : lsO l = some ks) :
    ∃ p ws, si[i]? = some (some (.ref p)) ∧ SqL c.K H p ws ∧ ws.length = ks.length ∧ ∀ (k : Nat) d, ks[k]? = some (.fz d) → ∃ w, ws[k]? = some w ∧ Dt c.K c.ct G [d] [w] := by
  unfold lsO at el
  split at el
  · rename_i ks
    cases el
    obtain ⟨p, ws, f, es, hp, o⟩ := h.listAt e
    refine ⟨p, ws, es, SqL.of hp, ?_, fun k d ek => o.nthD ek⟩
    have hl := o.length
    simp only [List.length_map] at hl
    omega
  · rename_i ds
    cases el
    obtain ⟨v, ev, h1⟩ := h.take e
    obtain ⟨p, ws, rfl, k1, _, dt⟩ := S0.vw (th := th) (ta := ta) h1 |>.seqD h1.gh (b := true) (ds := ds) (by first | rfl | simp)
    refine ⟨p, ws, ev, k1 rfl, by rw [List.length_map, dt.length], fun k d ek => ?_⟩
    rw [List.getElem?_map, Option.map_eq_some_iff] at ek
    obtain ⟨d', ek, q⟩ := ek
    cases q
    exact dt.nth ek
  · cases el
theorem Ds.forZP {bs : List Nat} {g : TG} {b : Bv} {tb : TS} {body : Sv} (h2 : Dg ((s.pinAt i).pinAt j) bs g b) (h3 : Ds ((s.pinAt i).pinAt j) W tb body) : Ds s W (tFor (RZ.iZipA s.K (tAll [tVar i, tVar j])) g tb) (gForZP i j b body) := fun c hc G H th rh ta si D h q => by
  subst hc
  unfold gForZP at q
  cases ex : rh[i]? with
  | none => rw [ex] at q; exact q.elim
  | some o =>
  cases o with
  | none => rw [ex] at q; exact q.elim
  | some x =>
  cases ey : rh[j]? with
  | none => rw [ex, ey] at q; exact q.elim
  | some o =>
  cases o with
  | none => rw [ex, ey] at q; exact q.elim
  | some y =>
  rw [ex, ey] at q
  simp only at q
  cases ekx : lsO x with
  | none => rw [ekx] at q; exact q.elim
  | some ks =>
  cases eky : lsO y with
  | none => rw [ekx, eky] at q; exact q.elim
  | some ls =>
  rw [ekx, eky] at q
  have q : Ct c.toCs W c th ta D (Dl.forZP i j b body ks.length ls.length (min ks.length ls.length) rh) := q
  obtain ⟨p, ws, es, hp, hlp, _⟩ := h.lsAt ex ekx
  obtain ⟨p', zs, es', hp', hlp', _⟩ := h.lsAt ey eky
  have hpin : c.pin[i]? = some true → c.vs0[i]? = some (V.ref p) := fun hh => by
    obtain ⟨w, q1, q2⟩ := h.pn i hh
    rw [es] at q2
    cases q2
    exact q1
  have hv : ∀ j : Nat, c.pin[j]? = some true → ∃ w, c.vs0[j]? = some w := fun j hj => by
    obtain ⟨w, q1, _⟩ := h.pn j hj
    exact ⟨w, q1⟩
  have h' := h.pinned es
  have hpin' : (c.pinAt i (.ref p)).pin[j]? = some true → (c.pinAt i (.ref p)).vs0[j]? = some (V.ref p') := fun hh => by
    obtain ⟨w, q1, q2⟩ := h'.pn j hh
    rw [es'] at q2
    cases q2
    exact q1
  have hv' : ∀ j' : Nat, (c.pinAt i (.ref p)).pin[j']? = some true → ∃ w, (c.pinAt i (.ref p)).vs0[j']? = some w := fun j' hj => by
    obtain ⟨w, q1, _⟩ := h'.pn j' hj
    exact ⟨w, q1⟩
  have hc' : ((c.pinAt i (.ref p)).pinAt j (.ref p')).toCs = (c.toCs.pinAt i).pinAt j := rfl
  have fin : ∀ {G' H' : Hp} {t1 r : Rho} {v1 si' : List (Option V)}, S0 ((c.pinAt i (.ref p)).pinAt j (.ref p')) G' H' (t1 ++ th) r (v1 ++ ta) si' → S0 c G' H' (t1 ++ th) r (v1 ++ ta) si' := fun h => (((h.unpinned hpin' hv').1).unpinned hpin hv).1
  refine ⟨.ref p, es, .ref p', es', p, p', ws, zs, rfl, .inl ⟨hp, hp', ?_⟩⟩
  refine ⟨fun k m σ H => m = min ks.length ls.length - k ∧ k ≤ min ks.length ls.length ∧ ∃ G r, S0 ((c.pinAt i (.ref p)).pinAt j (.ref p')) G H th r ta σ ∧ Ct c.toCs W c th ta D (Dl.forZP i j b body ks.length ls.length m r), ⟨min ks.length ls.length, by simp, Nat.zero_le _, G, rh, h'.pinned es', q⟩, ?_⟩
  rintro k m σ H2 ⟨rfl, hi, G2, r2, h4, q2⟩
  obtain ⟨h4a, hs2⟩ := h4.unpinned hpin' hv'
  obtain ⟨h4c, hs1⟩ := h4a.unpinned hpin hv
  unfold Dl.forZP at q2
  cases ex2 : r2[i]? with
  | none => rw [ex2] at q2; exact q2.elim
  | some o =>
  cases o with
  | none => rw [ex2] at q2; exact q2.elim
  | some x2 =>
  cases ey2 : r2[j]? with
  | none => rw [ex2, ey2] at q2; exact q2.elim
  | some o =>
  cases o with
  | none => rw [ex2, ey2] at q2; exact q2.elim
  | some y2 =>
  rw [ex2, ey2] at q2
  simp only at q2
  cases ekx2 : lsO x2 with
  | none => rw [ekx2] at q2; exact q2.elim
  | some ks2 =>
  cases eky2 : lsO y2 with
  | none => rw [ekx2, eky2] at q2; exact q2.elim
  | some ls2 =>
  rw [ekx2, eky2] at q2
  simp only at q2
  obtain ⟨p2, ws2, e2, hp2, hl2, nth⟩ := h4.lsAt ex2 ekx2
  obtain ⟨p3, zs2, e3, hp3, hl3, nth'⟩ := h4.lsAt ey2 eky2
  rw [hs1] at e2
  cases e2
  rw [hs2] at e3
  cases e3
  by_cases hn : ks2.length = ks.length ∧ ls2.length = ls.length
  · rw [if_pos hn] at q2
    by_cases hlt : k < min ks.length ls.length
    · right
      obtain ⟨m', em⟩ : ∃ m', min ks.length ls.length - k = m' + 1 := ⟨min ks.length ls.length - k - 1, by omega⟩
      rw [em] at q2
      have ek : min ks.length ls.length - (m' + 1) = k := by omega
      simp only [ek] at q2
      cases e5 : ks2[k]? with
      | none => rw [e5] at q2; exact q2.elim
      | some d0 =>
      cases d0 with
      | lst _ => rw [e5] at q2; exact q2.elim
      | dct _ _ => rw [e5] at q2; exact q2.elim
      | obj _ _ => rw [e5] at q2; exact q2.elim
      | fz d =>
      cases e6 : ls2[k]? with
      | none => rw [e5, e6] at q2; exact q2.elim
      | some d0 =>
      cases d0 with
      | lst _ => rw [e5, e6] at q2; exact q2.elim
      | dct _ _ => rw [e5, e6] at q2; exact q2.elim
      | obj _ _ => rw [e5, e6] at q2; exact q2.elim
      | fz e =>
      rw [e5, e6] at q2
      simp only at q2
      obtain ⟨w, ew, dw⟩ := nth k d e5
      obtain ⟨u, eu, du⟩ := nth' k e e6
      cases e4 : b (.tup [d, e]) r2 with
      | none => rw [e4] at q2; exact q2.elim
      | some r3 =>
      rw [e4] at q2
      refine ⟨⟨ws2, zs2, w, u, hp2, hp3, ew, eu⟩, fun σ' H' => ∃ G' r', S0 ((c.pinAt i (.ref p)).pinAt j (.ref p')) G' H' th r' ta σ' ∧ Ct c.toCs W c th ta D (Dl.forZP i j b body ks.length ls.length m' r'), fun σ' H' hh => ⟨m', by omega, by omega, by omega, hh⟩, fun x H3 y => ?_⟩
      obtain ⟨T, x', y', rfl, nT, rfl, y1, y2⟩ := y
      have h1 := y1 ws2 hp2
      have h2' := y2 zs2 hp3
      rw [ew] at h1
      rw [eu] at h2'
      cases h1
      cases h2'
      obtain ⟨G3, dp, h5⟩ := h4.pair (dw.app du) nT
      refine h2 _ hc' G3 _ _ r2 r3 _ σ _ _ _ h5 dp e4 fun σ4 h6 _ _ => ?_
      refine h3 _ hc' G3 _ _ r3 _ σ4 _ h6 ?_
      simp only at q2
      cases e5 : body r3 with
      | stuck => rw [e5] at q2; exact q2.elim
      | exc x r => rw [e5] at q2; exact fun cls od si' G' H' h' xr => q2 cls od si' G' H' (fin (t1 := []) (v1 := []) h') xr
      | ok fr =>
        obtain ⟨fl, r4⟩ := fr
        rw [e5] at q2
        simp only [Out.bind_ok] at q2
        cases fl with
        | nx => exact fun si' G' H' h' => ⟨G', r4, h', q2⟩
        | cont => exact fun si' G' H' h' => ⟨G', r4, h', q2⟩
        | brk => exact fun si' G' H' h' => q2 si' G' H' (fin (t1 := []) (v1 := []) h')
        | ret l => exact fun v si' G' H' h' => q2 v si' G' H' (fin (t1 := [some l]) (v1 := [some v]) h')
    · left
      have e3 : k = min ks.length ls.length := by omega
      refine ⟨⟨ws2, zs2, hp2, hp3, by omega⟩, ?_⟩
      rw [e3, Nat.sub_self] at q2
      exact q2 σ G2 H2 h4c
  · rw [if_neg hn] at q2; exact q2.elim
theorem sd_forZP {bs : List Nat} {x y : Expr} {elts : List Expr} {kk : Nat} {p pos cpos tpos : Pos} {body : List Stmt} {g tb b f} (hk : X.K = s.K) (hp : PassesOwn (model X.prog X.w) X.A X.env X.xe) (hc : X.calm = true) (hg : Gl X "zip") (hm : X.mg "zip" = none) (hx : PE X x (tVar i)) (hy : PE X y (tVar j))
    (h2 : Tg X ((s.pinAt i).pinAt j) bs (.Tuple elts kk tpos) g b) (h3 : Ssd X ((s.pinAt i).pinAt j) W body tb f)
    (hs2 : starEach [x, y] X.env = (false, eval x X.env) :: starEach [y] X.env := by rfl) (hs1 : starEach [y] X.env = [(false, eval y X.env)] := by rfl) (hpl : (backTo cpos (starEach [y] X.env)).any (·.1) = false := by rfl)
    (hs : ∀ z, foldedSetIterable (.Call (.Name "zip" p) [x, y] [] cpos) X.env z = pure z := by intro _; rfl) : Sd X s W (.For (.Tuple elts kk tpos) (.Call (.Name "zip" p) [x, y] [] cpos) body [] pos) (tFor (RZ.iZipA X.K (tAll [tVar i, tVar j])) g tb) (gForZP i j b f) :=
  ⟨ps_for hp hc (RZ.pi_zipA hg hm (Pes.cons hx (Pes.cons hy .nil hs1) hs2).pa hs2 hpl) h2.pg h3.pss hs, by rw [hk]; exact Ds.forZP h2.dg h3.ds⟩
end
end Dl
/-! x[::-1], a text too -/
namespace Dl
open PySem L2
open PySem.Spec PyProof.Rows
/-- a text turned about -/
def revS (z : Str) : Str := ⟨z.cps.toList.reverse.toArray⟩
theorem revS_len {z : Str} : (revS z).length = z.length := by
  show (z.cps.toList.reverse.toArray).size = z.cps.size
  simp
theorem rev_ix {n : Nat} : Builtin.Str.strSliceIndices none none (-1) n = (List.range n).reverse := by
  show sliceRange ((n : Int) - 1) (-1) (-1) = _
  unfold sliceRange
  rw [if_neg (by decide)]
  have e : (if (n : Int) - 1 > -1 then ((n : Int) - 1 - -1 - -1 - 1) / - -1 else 0).toNat = n := by
    by_cases h : n = 0
    · subst h; rfl
    · rw [if_pos (by omega)]
      have : ((n : Int) - 1 - -1 - -1 - 1) / - -1 = n := by
        rw [show (- -1 : Int) = 1 by rfl, Int.ediv_one]
        omega
      rw [this]
      rfl
  simp only [e]
  refine List.ext_getElem (by simp) fun i h1 h2 => ?_
  simp at h1
  simp
  omega
theorem rev_pick {z : Str} : (⟨((Builtin.Str.strSliceIndices none none (-1) z.length).filterMap (z.cps[·]?)).toArray⟩ : Str) = revS z := by
  rw [rev_ix]
  unfold revS
  congr 2
  rw [List.filterMap_reverse]
  congr 1
  have : z.length = z.cps.toList.length := by simp [Str.length]
  rw [this]
  refine List.ext_getElem? fun i => ?_
  have e : (List.range z.cps.toList.length).filterMap (fun x => z.cps[x]?) = z.cps.toList := by
    have : ∀ (l : List Nat), (List.range l.length).filterMap (fun x => l[x]?) = l := fun l => by
      induction l with
      | nil => rfl
      | cons a l ih =>
        rw [List.length_cons, List.range_succ_eq_map, List.filterMap_cons]
        simp only [List.getElem?_cons_zero, List.filterMap_map]
        congr 1
    have h := this z.cps.toList
    simpa using h
  rw [e]
section
variable {X : Cx} {s : Cs} {W : WX}
def tRevB (K : PySem.W.Frag) (te : TE) : TE := fun σ H Q => te σ H fun x H1 => ((∃ a xs, x = .ref a ∧ SqL K H1 a xs ∧ ∀ p, H1 p = none → Q (.ref p) (upd H1 p (.lst xs.reverse))) ∨ ∃ a xs, x = .ref a ∧ SqT K H1 a xs ∧ ∀ p, H1 p = none → Q (.ref p) (upd H1 p (.tup xs.reverse))) ∨ ∃ z, x = .str z ∧ z.length ≤ sizeLine ∧ Q (.str (revS z)) H1
theorem pe_revB {e : Expr} {te : TE} {k : Nat} {p1 p2 p3 pos : Pos} (he : PE X e te) : PE X (.Subscript e (.Slice none none (some (.UnaryOp .USub (.Constant (.int 1) k p1) p2)) p3) pos) (tRevB X.K te) := by
  refine ⟨fun pins s σ H Q I h => ?_⟩
  refine Subscript_ (thn (he.run pins s σ H _ I h) fun v s1 ⟨x, H1, I1, r1, q1⟩ => ?_)
  have hst : PO X (some (.UnaryOp .USub (.Constant (.int 1) k p1) p2)) (tPart (tUn (rU fun i => .int (-i)) (tC (.int 1)))) := po_some (pe_un un_neg pe_int)
  refine wpAny_Slice (thn (po_none.run pins s1 σ H1 (fun o H2 => o = none ∧ H2 = H1) I1 ⟨rfl, rfl⟩) fun vl s2 ⟨l, H2, I2, pl, el, e2⟩ => ?_)
  subst el e2
  refine thn (po_none.run pins s2 σ H2 (fun o H3 => o = none ∧ H3 = H2) I2 ⟨rfl, rfl⟩) fun vu s3 ⟨u, H3, I3, pu, eu, e3⟩ => ?_
  subst eu e3
  refine thn (hst.run pins s3 σ H3 (fun o H4 => o = some (-1) ∧ H4 = H3) I3 ⟨1, rfl, -1, rfl, rfl, rfl⟩) fun vs s4 ⟨o, H4, I4, ps, eo, e4⟩ => ?_
  subst eo e4
  have I5 : Inv X pins σ H4 { s4 with heap := s4.heap.push { cls := .type "slice", data := .fields #[vl, vu, vs] } } := I4.kept (t' := s4.toks) fun b ob q => Heap.get?_push_of_some _ q
  rcases q1 with (⟨a, xs, ex, hx, q⟩ | ⟨a, xs, ex, hx, q⟩) | ⟨z, ex, hz, q⟩
  · subst ex
    cases r1
    obtain ⟨its, r, ht, hz⟩ := I5.list hx
    have hlen := r.length
    show wpAny (model X.prog X.w) X.A (subscriptTail e (.Slice none none (some (.UnaryOp .USub (.Constant (.int 1) k p1) p2)) p3) (.ref a) (.ref s4.heap.objs.size)) (EP X pins σ Q) X.xe { s4 with heap := s4.heap.push { cls := .type "slice", data := .fields #[vl, vu, vs] } }
    refine tail_any (ops := [.ref a, .ref s4.heap.objs.size]) ht.isList.typeIs (PySem.slot_list_getitem.lookup) ?_ (by with_unfolding_all rfl)
    refine wpAny_getItem_list_slice ht.isList (Heap.IsSliceOf.new _ vl vu vs) pl pu ps (by decide) ?_ (by rw [List.size_toArray]; omega)
    rw [PySem.W.krv_pick]
    refine ⟨.ref _, _, I5.laid (t' := s4.toks) (o := .lst xs.reverse) (fun b ob q => Heap.get?_push_of_some _ q) (Nat.le_refl _) ?_, rfl, q _ (I5.hok.fresh (Nat.le_refl _))⟩
    exact ⟨by rw [List.length_reverse]; exact hz, _, 0, r.reverse, Heap.get?_push_size _ rfl⟩
  · subst ex
    cases r1
    obtain ⟨its, r, ht, hz⟩ := I5.tuple hx
    have hlen := r.length
    show wpAny (model X.prog X.w) X.A (subscriptTail e (.Slice none none (some (.UnaryOp .USub (.Constant (.int 1) k p1) p2)) p3) (.ref a) (.ref s4.heap.objs.size)) (EP X pins σ Q) X.xe { s4 with heap := s4.heap.push { cls := .type "slice", data := .fields #[vl, vu, vs] } }
    refine tail_any (ops := [.ref a, .ref s4.heap.objs.size]) ht.typeIs (PyProof.Rows.slot_tuple_getitem.lookup) ?_ (by with_unfolding_all rfl)
    refine TupRev.getItem_tuple_rev ht (Heap.IsSliceOf.new _ vl vu vs) pl pu ps ?_ (by rw [List.size_toArray]; omega)
    refine ⟨.ref _, _, I5.laid (t' := s4.toks) (o := .tup xs.reverse) (fun b ob q => Heap.get?_push_of_some _ q) (Nat.le_refl _) ?_, rfl, q _ (I5.hok.fresh (Nat.le_refl _))⟩
    exact ⟨by rw [List.length_reverse]; exact hz, _, r.reverse, IsTup.new _ _⟩
  · subst ex
    obtain ⟨t, rfl⟩ := r1
    show wpAny (model X.prog X.w) X.A (subscriptTail e (.Slice none none (some (.UnaryOp .USub (.Constant (.int 1) k p1) p2)) p3) (.str z t) (.ref s4.heap.objs.size)) (EP X pins σ Q) X.xe { s4 with heap := s4.heap.push { cls := .type "slice", data := .fields #[vl, vu, vs] } }
    refine tail_any (ops := [.str z t, .ref s4.heap.objs.size]) (typeIs_str _ z t) (F.slot_str_getitem.lookup) ?_ (by with_unfolding_all rfl)
    obtain ⟨l, rfl, el⟩ := IsPart.raw pl
    obtain ⟨u, rfl, eu⟩ := IsPart.raw pu
    obtain ⟨st, rfl, es⟩ := IsPart.raw ps
    refine wpAny_getItem_str_slice (l := l) (u := u) (st := st) ⟨_, Heap.get?_push_size _ rfl, rfl, rfl⟩ (by rw [es]; rfl) ?_
    unfold sliceMade slicePicked
    rw [el, eu, es]
    show Made.post (if ((-1 : Int) == 1 && (Builtin.Str.strSliceIndices none none (-1) z.length).length == z.length) = true then Made.val (.str z t) else Made.str ⟨((Builtin.Str.strSliceIndices none none (-1) z.length).filterMap (z.cps[·]?)).toArray⟩) (EP X pins σ Q) _
    rw [if_neg (by simp), rev_pick]
    exact ⟨by rw [revS_len]; exact hz, .str _, H4, I5.tok _, ⟨_, rfl⟩, q⟩
def revB (x : L) : Option L := match revA x with
  | some l => some l
  | none => (asS x).bind fun z => if z.length ≤ sizeLine then some (.fz (.str (revS z))) else none
theorem thn_revB : Thn s (fun x H1 Q => ((∃ a xs, x = .ref a ∧ SqL s.K H1 a xs ∧ ∀ p, H1 p = none → Q (.ref p) (upd H1 p (.lst xs.reverse))) ∨ ∃ a xs, x = .ref a ∧ SqT s.K H1 a xs ∧ ∀ p, H1 p = none → Q (.ref p) (upd H1 p (.tup xs.reverse))) ∨ ∃ z, x = .str z ∧ z.length ≤ sizeLine ∧ Q (.str (revS z)) H1) revB := fun c hc G H th rh ta si x v l Q h0 e q => by
  unfold revB at e
  cases e1 : revA x with
  | some l1 =>
    rw [e1] at e
    cases e
    exact .inl (thn_revA c hc G H th rh ta si x v l Q h0 e1 q)
  | none =>
    rw [e1] at e
    simp only at e
    cases e2 : asS x with
    | none => rw [e2] at e; cases e
    | some z =>
      rw [e2] at e
      simp only [Option.bind_some] at e
      split at e
      · rename_i hz
        cases e
        have ex : x = .fz (.str z) := by
          unfold asS at e2
          split at e2 <;> first | (cases e2; rfl) | cases e2
        subst ex
        have : v = .str z := h0.vw.str
        subst this
        refine .inr ⟨z, rfl, hz, ?_⟩
        exact q _ G H (h0.pushD (ds := [.str (revS z)]) (vs := [.str (revS z)]) (.str .nil))
      · cases e
theorem ed_revBS {e : Expr} {t : TE} {f : Ev} {k : Nat} {p1 p2 p3 pos : Pos} (hk : X.K = s.K) (h : Ed X s W e t f) : Ed X s W (.Subscript e (.Slice none none (some (.UnaryOp .USub (.Constant (.int 1) k p1) p2)) p3) pos) (tRevB s.K t) (eThen f revB) :=
  ⟨by rw [← hk]; exact pe_revB h.pe, De.thn thn_revB h.de⟩
end
end Dl
/-! len(set(xs)) of a slot's own list -/
namespace Dl
open PySem L2
def lsF (l : L) : Option L := match seqD l with
  | some (_, ds) => if ((intsD ds).isSome || (strsD ds).isSome) && decide (ds.length ≤ 1000) then some (.fz (.int (nub ds).length)) else none
  | none => none
def eLSP (i : Nat) : Ev := eThenP i lsF
section
variable {X : Cx} {s : Cs} {W : WX} {a : Expr}
theorem thn_lsF : Thn s (fun x H1 Q => ∃ (l : Addr), x = V.ref l ∧
  ((∃ ns : List Int, (SqL s.K H1 l (ns.map V.int) ∨ SqT s.K H1 l (ns.map V.int)) ∧ ns.length ≤ 1000 ∧ Q (.int (nub (ns.map D.int)).length) H1) ∨
   (∃ zs : List Str, (SqL s.K H1 l (zs.map V.str) ∨ SqT s.K H1 l (zs.map V.str)) ∧ zs.length ≤ 1000 ∧ Q (.int (nub (zs.map D.str)).length) H1))) lsF := fun c hc G H th rh ta si x v l Q h0 e q => by
  unfold lsF at e
  cases e1 : seqD x with
  | none => rw [e1] at e; cases e
  | some bd =>
    obtain ⟨b, ds⟩ := bd
    rw [e1] at e
    dsimp only at e
    by_cases few : (((intsD ds).isSome || (strsD ds).isSome) && decide (ds.length ≤ 1000)) = true
    · rw [if_pos few] at e
      cases e
      obtain ⟨p, ws, rfl, sq, dt⟩ := seqD_sq h0.gh h0.vw e1
      simp only [Bool.and_eq_true, Bool.or_eq_true, decide_eq_true_eq] at few
      subst hc
      refine ⟨p, rfl, ?_⟩
      rcases few.1 with k | k
      · obtain ⟨ns, e2⟩ := Option.isSome_iff_exists.mp k
        obtain rfl := Dt.intsV e2 dt
        obtain rfl := intsD_eq e2
        refine .inl ⟨ns, sq, by simpa using few.2, ?_⟩
        exact q _ G _ (h0.push (.int .nil))
      · obtain ⟨ns, e2⟩ := Option.isSome_iff_exists.mp k
        obtain rfl := Dt.strsV e2 dt
        obtain rfl := strsD_eq e2
        refine .inr ⟨ns, sq, by simpa using few.2, ?_⟩
        exact q _ G _ (h0.push (.int .nil))
    · rw [if_neg few] at e; cases e
theorem ed_lenSetP {i : Nat} {p p2 q pos : Pos} (hk : X.K = s.K) (hc : X.calm = true) (hg : Gl X "len") (hm : X.mg "len" = none) (hg2 : Gl X "set") (hm2 : X.mg "set" = none) (h : PE X a (tVar i))
    (na : starEach [a] X.env = (false, eval a X.env) :: starEach [] X.env := by rfl) : Ed X s W (.Call (.Name "len" p) [.Call (.Name "set" p2) [a] [] q] [] pos) (tLenSetA s.K (tVar i)) (eLSP i) :=
  ⟨by rw [← hk]; exact pe_lenSetA hc hg hm hg2 hm2 h na, De.thnP thn_lsF⟩
end
end Dl
/-! for over enumerate of a list that stands in a slot -/
namespace Dl
open PySem L2
def forEP (i : Nat) (b : Bv) (body : Sv) (n : Nat) : Nat → Rho → Out Rho (Fl × Rho)
  | m, r => match r[i]? with
    | some (some x) => (match lsO x with
      | some ks => if ks.length = n then (match m with
        | 0 => .ok (.nx, r)
        | m + 1 => (match ks[n - (m + 1)]? with
          | some (.fz d) => (match b (.tup [.int ((n - (m + 1) : Nat) : Int), d]) r with
            | none => .stuck
            | some r1 => (body r1).bind fun (fl, r2) => match fl with
              | .nx => forEP i b body n m r2
              | .cont => forEP i b body n m r2
              | .brk => .ok (.nx, r2)
              | .ret l => .ok (.ret l, r2))
          | _ => .stuck)) else .stuck
      | _ => .stuck)
    | _ => .stuck
def gForEP (i : Nat) (b : Bv) (body : Sv) : Sv := fun r => match r[i]? with
  | some (some x) => (match lsO x with
    | some ks => forEP i b body ks.length ks.length r
    | _ => .stuck)
  | _ => .stuck
section
variable {X : Cx} {s : Cs} {W : WX} {i : Nat}
theorem Ds.forEP {bs : List Nat} {g : TG} {b : Bv} {tb : TS} {body : Sv} (h2 : Dg (s.pinAt i) bs g b) (h3 : Ds (s.pinAt i) W tb body) : Ds s W (tFor (iEnum s.K (tAll [tVar i])) g tb) (gForEP i b body) := fun c hc G H th rh ta si D h q => by
  subst hc
  unfold gForEP at q
  cases ex : rh[i]? with
  | none => rw [ex] at q; exact q.elim
  | some o =>
  cases o with
  | none => rw [ex] at q; exact q.elim
  | some x =>
  rw [ex] at q
  simp only at q
  cases ekx : lsO x with
  | none => rw [ekx] at q; exact q.elim
  | some ks =>
  rw [ekx] at q
  have q : Ct c.toCs W c th ta D (Dl.forEP i b body ks.length ks.length rh) := q
  obtain ⟨p, ws, es, hp, hlp, _⟩ := h.lsAt ex ekx
  have hpin : c.pin[i]? = some true → c.vs0[i]? = some (V.ref p) := fun hh => by
    obtain ⟨w, q1, q2⟩ := h.pn i hh
    rw [es] at q2
    cases q2
    exact q1
  have hv : ∀ j : Nat, c.pin[j]? = some true → ∃ w, c.vs0[j]? = some w := fun j hj => by
    obtain ⟨w, q1, _⟩ := h.pn j hj
    exact ⟨w, q1⟩
  have hc' : (c.pinAt i (.ref p)).toCs = c.toCs.pinAt i := rfl
  have fin : ∀ {G' H' : Hp} {t1 r : Rho} {v1 si' : List (Option V)}, S0 (c.pinAt i (.ref p)) G' H' (t1 ++ th) r (v1 ++ ta) si' → S0 c G' H' (t1 ++ th) r (v1 ++ ta) si' := fun h => (h.unpinned hpin hv).1
  refine ⟨.ref p, es, p, ws, rfl, hp, ?_⟩
  refine ⟨fun k m σ H => m = ks.length - k ∧ k ≤ ks.length ∧ ∃ G r, S0 (c.pinAt i (.ref p)) G H th r ta σ ∧ Ct c.toCs W c th ta D (Dl.forEP i b body ks.length m r), ⟨ks.length, by simp, Nat.zero_le _, G, rh, h.pinned es, q⟩, ?_⟩
  rintro k m σ H2 ⟨rfl, hi, G2, r2, h4, q2⟩
  obtain ⟨h4c, hs1⟩ := h4.unpinned hpin hv
  unfold Dl.forEP at q2
  cases ex2 : r2[i]? with
  | none => rw [ex2] at q2; exact q2.elim
  | some o =>
  cases o with
  | none => rw [ex2] at q2; exact q2.elim
  | some x2 =>
  rw [ex2] at q2
  simp only at q2
  cases ekx2 : lsO x2 with
  | none => rw [ekx2] at q2; exact q2.elim
  | some ks2 =>
  rw [ekx2] at q2
  simp only at q2
  obtain ⟨p2, ws2, e2, hp2, hl2, nth⟩ := h4.lsAt ex2 ekx2
  rw [hs1] at e2
  cases e2
  by_cases hn : ks2.length = ks.length
  · rw [if_pos hn] at q2
    by_cases hlt : k < ks.length
    · right
      obtain ⟨m', em⟩ : ∃ m', ks.length - k = m' + 1 := ⟨ks.length - k - 1, by omega⟩
      rw [em] at q2
      have ek : ks.length - (m' + 1) = k := by omega
      simp only [ek] at q2
      cases e5 : ks2[k]? with
      | none => rw [e5] at q2; exact q2.elim
      | some d0 =>
      cases d0 with
      | lst _ => rw [e5] at q2; exact q2.elim
      | dct _ _ => rw [e5] at q2; exact q2.elim
      | obj _ _ => rw [e5] at q2; exact q2.elim
      | fz d =>
      rw [e5] at q2
      simp only at q2
      obtain ⟨w, ew, dw⟩ := nth k d e5
      cases e4 : b (.tup [.int ((k : Nat) : Int), d]) r2 with
      | none => rw [e4] at q2; exact q2.elim
      | some r3 =>
      rw [e4] at q2
      refine ⟨⟨ws2, w, hp2, ew⟩, fun σ' H' => ∃ G' r', S0 (c.pinAt i (.ref p)) G' H' th r' ta σ' ∧ Ct c.toCs W c th ta D (Dl.forEP i b body ks.length m' r'), fun σ' H' hh => ⟨m', by omega, by omega, by omega, hh⟩, fun x H3 y => ?_⟩
      obtain ⟨T, x', rfl, nT, rfl, y1⟩ := y
      have h1 := y1 ws2 hp2
      rw [ew] at h1
      cases h1
      obtain ⟨G3, dp, h5⟩ := h4.pair (.int dw) nT
      refine h2 _ hc' G3 _ _ r2 r3 _ σ _ _ _ h5 dp e4 fun σ4 h6 _ _ => ?_
      refine h3 _ hc' G3 _ _ r3 _ σ4 _ h6 ?_
      simp only at q2
      cases e5 : body r3 with
      | stuck => rw [e5] at q2; exact q2.elim
      | exc x r => rw [e5] at q2; exact fun cls od si' G' H' h' xr => q2 cls od si' G' H' (fin (t1 := []) (v1 := []) h') xr
      | ok fr =>
        obtain ⟨fl, r4⟩ := fr
        rw [e5] at q2
        simp only [Out.bind_ok] at q2
        cases fl with
        | nx => exact fun si' G' H' h' => ⟨G', r4, h', q2⟩
        | cont => exact fun si' G' H' h' => ⟨G', r4, h', q2⟩
        | brk => exact fun si' G' H' h' => q2 si' G' H' (fin (t1 := []) (v1 := []) h')
        | ret l => exact fun v si' G' H' h' => q2 v si' G' H' (fin (t1 := [some l]) (v1 := [some v]) h')
    · left
      have e3 : k = ks.length := by omega
      refine ⟨⟨ws2, hp2, by omega⟩, ?_⟩
      rw [e3, Nat.sub_self] at q2
      exact q2 σ G2 H2 h4c
  · rw [if_neg hn] at q2; exact q2.elim
theorem sd_forEP {bs : List Nat} {x : Expr} {elts : List Expr} {kk : Nat} {p pos cpos tpos : Pos} {body : List Stmt} {g tb b f} (hk : X.K = s.K) (hp : PassesOwn (model X.prog X.w) X.A X.env X.xe) (hc : X.calm = true) (hg : Gl X "enumerate") (hm : X.mg "enumerate" = none) (hx : PE X x (tVar i))
    (h2 : Tg X (s.pinAt i) bs (.Tuple elts kk tpos) g b) (h3 : Ssd X (s.pinAt i) W body tb f)
    (hs1 : starEach [x] X.env = [(false, eval x X.env)] := by rfl)
    (hs : ∀ z, foldedSetIterable (.Call (.Name "enumerate" p) [x] [] cpos) X.env z = pure z := by intro _; rfl) : Sd X s W (.For (.Tuple elts kk tpos) (.Call (.Name "enumerate" p) [x] [] cpos) body [] pos) (tFor (iEnum X.K (tAll [tVar i])) g tb) (gForEP i b f) :=
  ⟨ps_for hp hc (pi_enum hg hm (Pes.cons hx .nil hs1).pa hs1) h2.pg h3.pss hs, by rw [hk]; exact Ds.forEP h2.dg h3.ds⟩
end
end Dl
/-! list(zip(xs, ys)) -/
namespace L2
open PySem PySem.Spec PyProof.Rows
namespace LZ
theorem no_len : typeLookup (.type "zip") "__len__" = pure none := by rw [typeLookup_type, builtinLookup_eq_fast]; kernel_rfl
theorem no_hint : typeLookup (.type "zip") "__length_hint__" = pure none := by rw [typeLookup_type, builtinLookup_eq_fast]; kernel_rfl
end LZ
/-- pairs put into new tuples -/
inductive PutT : Hp → List (V × V) → List Addr → Hp → Prop
  | nil {H} : PutT H [] [] H
  | cons {H x y ps T ts H'} : H T = none → PutT (upd H T (.tup [x, y])) ps ts H' → PutT H ((x, y) :: ps) (T :: ts) H'
/-- a zip at work -/
def ZSt (h : Heap) (z TI TO i1 i2 S : Addr) : Prop := IsZip h z TI TO .none ∨ ∃ T f oT, IsZipHeld h z TI TO T f ∧ h.get? T = some oT ∧ T ≠ z ∧ T ≠ TO ∧ T ≠ i1 ∧ T ≠ i2 ∧ T ≠ S
theorem ZSt.live {h : Heap} {z TI TO i1 i2 S : Addr} (d : ZSt h z TI TO i1 i2 S) : ∃ o, h.get? z = some o ∧ o.cls = .type "zip" := by
  rcases d with d | ⟨_, _, _, d, _⟩ <;> exact ⟨_, d, rfl⟩
theorem lz_loop {X : Cx} {pins : List (Addr × Obj)} {σ : L2.St} {z TI TO i1 i2 a b S : Addr} {xs ys : List V} {A : Around} {R : Result → Shared → Prop} {res : Value} (hh : A.handled = none) (D : ZipApart z TI TO i1 i2 a b) (hS : S ∉ [z, TI, TO, i1, i2]) (Sa : S ≠ a) (Sb : S ≠ b) :
    ∀ (ps : List (V × V)) (i : Nat) (s : Shared) (H : Hp) (acc : Array Value) (c : Nat), (xs.drop i).zip (ys.drop i) = ps → Inv X pins σ H s → SqL X.K H a xs → SqL X.K H b ys → ZSt s.heap z TI TO i1 i2 S → IsPair s.heap TI (.ref i1) (.ref i2) → (∃ u v, IsPair s.heap TO u v) →
      s.heap.IsListIter i1 a i → s.heap.IsListIter i2 b i → s.heap.get? S = some { cls := .type "list", dict := none, data := .seq acc c, slots := #[] } → acc.size = i → (∀ q ∈ [z, TI, TO, i1, i2, S], FpOk X pins H q) →
      (∀ ts H2 s' acc' c', PutT H ps ts H2 → Inv X pins σ H2 s' → s'.heap.get? S = some { cls := .type "list", dict := none, data := .seq acc' c', slots := #[] } → acc'.toList = acc.toList ++ ts.map Value.ref → FpOk X pins H2 S → R (.ok (.ret res)) s') →
      codeAny (model X.prog X.w) A (.builtin "list.extend.loop" ⟨[.ref S, .ref z, res], []⟩) R s := by
  have nS : S ≠ z ∧ S ≠ TI ∧ S ≠ TO ∧ S ≠ i1 ∧ S ≠ i2 := by simpa using hS
  intro ps
  induction ps with
  | nil =>
    intro i s H acc c hz I qx qy st tI tO h1 h2 hSl hsz hf hR
    obtain ⟨u0, v0, tO⟩ := tO
    obtain ⟨its, rv, p, _⟩ := I.list qx
    obtain ⟨its2, rv2, p2, _⟩ := I.list qy
    have l1 := rv.length
    have l2 := rv2.length
    have he : its.toArray[i]? = none ∨ its2.toArray[i]? = none := by
      rcases List.zip_eq_nil_iff.mp hz with q | q
      · have := List.drop_eq_nil_iff.mp q
        exact .inl (by simp; omega)
      · have := List.drop_eq_nil_iff.mp q
        exact .inr (by simp; omega)
    refine codeAny_builtin F.entry_extend_loop ?_
    rw [Around.under_plainId F.plain_extend_loop _]
    show wpAny _ A.in1 (pyNext (.ref z) >>= _) _ _ s
    have fin : ∀ h', (∀ c o, c ≠ z → c ≠ TO → c ≠ i1 → c ≠ i2 → s.heap.get? c = some o → h'.get? c = some o) → R (.ok (.ret res)) { s with heap := h' } := fun h' hk =>
      hR [] H { s with heap := h' } acc c .nil (I.turnedL (t' := s.toks) (ch := [z, TI, TO, i1, i2]) (fun c o hb q => hk c o (fun q' => hb (by simp [q'])) (fun q' => hb (by simp [q'])) (fun q' => hb (by simp [q'])) (fun q' => hb (by simp [q'])) q) (fun q hq => hf q (by simp at hq ⊢; rcases hq with h | h | h | h | h <;> simp [h])))
        (hk S _ nS.1 nS.2.2.1 nS.2.2.2.1 nS.2.2.2.2 hSl) (by simp) (hf S (by simp))
    rcases st with st | ⟨T, f, oT, st, hT, _⟩
    · exact wpAny_bind (wpAny_pyNext_zip_end (A := A.in1) hh D st tI tO h1 h2 p.isList p2.isList he fun h' hk => wpAny_pure (fin h' hk))
    · exact wpAny_bind (wpAny_pyNext_zip_end_held (A := A.in1) hh D st hT tI h1 h2 p.isList p2.isList he fun h' hk => wpAny_pure (fin h' fun c o c1 _ c2 c3 e => hk c o c1 c2 c3 e))
  | cons q ps ih =>
    obtain ⟨x, y⟩ := q
    intro i s H acc c hz I qx qy st tI tO h1 h2 hSl hsz hf hR
    obtain ⟨u0, v0, tO⟩ := tO
    obtain ⟨its, rv, p, zl⟩ := I.list qx
    obtain ⟨its2, rv2, p2, _⟩ := I.list qy
    have hx : xs[i]? = some x := by
      have := congrArg List.head? hz
      cases e1 : xs.drop i with
      | nil => rw [e1] at hz; simp at hz
      | cons x' t =>
        cases e2 : ys.drop i with
        | nil => rw [e1, e2] at hz; simp at hz
        | cons y' t' =>
          rw [e1, e2] at hz
          simp at hz
          have h3 := List.getElem?_drop (xs := xs) (i := i) (j := 0)
          rw [e1] at h3
          simp at h3
          rw [← h3, hz.1.1]
    have hy : ys[i]? = some y := by
      cases e1 : xs.drop i with
      | nil => rw [e1] at hz; simp at hz
      | cons x' t =>
        cases e2 : ys.drop i with
        | nil => rw [e1, e2] at hz; simp at hz
        | cons y' t' =>
          rw [e1, e2] at hz
          simp at hz
          have h3 := List.getElem?_drop (xs := ys) (i := i) (j := 0)
          rw [e2] at h3
          simp at h3
          rw [← h3, hz.1.2]
    have hps : (xs.drop (i + 1)).zip (ys.drop (i + 1)) = ps := by
      have e1 : xs.drop i = x :: xs.drop (i + 1) := by
        obtain ⟨h3, h4⟩ := List.getElem?_eq_some_iff.mp hx
        rw [← h4, List.getElem_cons_drop]
      have e2 : ys.drop i = y :: ys.drop (i + 1) := by
        obtain ⟨h3, h4⟩ := List.getElem?_eq_some_iff.mp hy
        rw [← h4, List.getElem_cons_drop]
      rw [e1, e2] at hz
      simpa using hz
    obtain ⟨u, hu, ru⟩ := rv.get hx
    obtain ⟨u2, hu2, ru2⟩ := rv2.get hy
    have hlt : i < xs.length := (List.getElem?_eq_some_iff.mp hx).1
    obtain ⟨oz, hoz, _⟩ := st.live
    have lz : z < s.heap.objs.size := Heap.lt_size hoz
    have lTI : TI < s.heap.objs.size := Heap.lt_size tI
    have lTO : TO < s.heap.objs.size := Heap.lt_size tO
    have li1 : i1 < s.heap.objs.size := by obtain ⟨_, e, _⟩ := id h1; exact Heap.lt_size e
    have li2 : i2 < s.heap.objs.size := by obtain ⟨_, e, _⟩ := id h2; exact Heap.lt_size e
    have lS : S < s.heap.objs.size := Heap.lt_size hSl
    refine codeAny_builtin F.entry_extend_loop ?_
    rw [Around.under_plainId F.plain_extend_loop _]
    show wpAny _ A.in1 (pyNext (.ref z) >>= _) _ _ s
    have step : ∀ h', ZSt h' z TI TO i1 i2 S → (∃ u v, IsPair h' TO u v) → h'.IsListIter i1 a (i + 1) → h'.IsListIter i2 b (i + 1) → IsPair h' s.heap.objs.size u u2 → h'.objs.size = s.heap.objs.size + 1 → (∀ c o, c ≠ z → c ≠ TO → c ≠ i1 → c ≠ i2 → s.heap.get? c = some o → h'.get? c = some o) →
        wpAny (model X.prog X.w) A.in1 (updateSeq S (·.push (.ref s.heap.objs.size)) >>= fun _ => again (.builtin "list.extend.loop" ⟨[.ref S, .ref z, res], []⟩)) (fun fin s' => match fin with | .done f => R (.ok f) s' | .again c' => c'.quiet = true ∧ codeAny (model X.prog X.w) A c' R s') (fun e s' => R (.error e) s') { s with heap := h' } := by
      intro h' st' tO' h1' h2' hT hsz' hk
      have hSl' := hk S _ nS.1 nS.2.2.1 nS.2.2.2.1 nS.2.2.2.2 hSl
      have hn : H s.heap.objs.size = none := I.hok.fresh (Nat.le_refl _)
      have new : ObjOk X.prog X.w (upd H s.heap.objs.size (.tup [x, y])) h' s.heap.objs.size (.tup [x, y]) :=
        ⟨by show 2 ≤ sizeLine; decide, [u, u2], .cons ru (.cons ru2 .nil), ⟨_, hT, rfl, _, rfl⟩⟩
      have I1 : Inv X pins σ (upd H s.heap.objs.size (.tup [x, y])) { s with heap := h' } :=
        I.turnedNew (t' := s.toks) (ch := [z, TO, i1, i2]) (fun c o hb q => hk c o (fun q' => hb (by simp [q'])) (fun q' => hb (by simp [q'])) (fun q' => hb (by simp [q'])) (fun q' => hb (by simp [q'])) q) (fun q hq => hf q (by simp at hq ⊢; rcases hq with h | h | h | h <;> simp [h])) (Nat.le_refl _) new
      have up : ∀ q ∈ [z, TI, TO, i1, i2, S], FpOk X pins (upd H s.heap.objs.size (.tup [x, y])) q := fun q hq => by
        obtain ⟨g0, g⟩ := hf q hq
        have lq : q < s.heap.objs.size := by
          simp at hq
          rcases hq with h | h | h | h | h | h <;> rw [h] <;> assumption
        exact ⟨by rw [upd_ne (Nat.ne_of_lt lq)]; exact g0, g⟩
      have oth : ∀ b o, b ≠ S → h'.get? b = some o → (h'.update S (Obj.mapSeq (·.push (.ref s.heap.objs.size)))).get? b = some o := fun b o hb e => (Heap.get?_update_other _ _ (Ne.symm hb)).trans e
      refine wpAny_bind ?_
      refine wpAny_updateSeq hSl' rfl (wpAny_pure ⟨plainId_quiet F.plain_extend_loop _, ?_⟩) (by show acc.size ≤ sizeLine; omega) (by show (acc.push _).size ≤ sizeLine + 1; rw [Array.size_push]; omega)
      obtain ⟨f0, f1, f2, f3, f4, f5⟩ := up S (by simp)
      have I2 := I1.turned (t' := s.toks) (it := S) (h' := h'.update S (Obj.mapSeq (·.push (.ref s.heap.objs.size)))) (fun b o hb e => oth b o hb e) f0 f1 f3 f4 f5
      have x0 : Ext H (upd H s.heap.objs.size (.tup [x, y])) := Ext.upd hn
      refine ih (i + 1) _ _ (acc.push (.ref s.heap.objs.size)) _ hps I2 (qx.ext x0) (qy.ext x0) ?_ (oth TI _ nS.2.1.symm (hk TI _ D.TIz D.TITO D.TIi1 D.TIi2 tI)) ?_ (h1'.at fun o e => oth i1 o nS.2.2.2.1.symm e) (h2'.at fun o e => oth i2 o nS.2.2.2.2.symm e) (Heap.get?_update_self _ hSl' rfl) (by rw [Array.size_push, hsz]) up fun ts H2 s' acc' c' pt I' e1 e2 f' => ?_
      · rcases st' with q | ⟨T, f, oT, q, hT', ne⟩
        · exact .inl (oth z _ nS.1.symm q)
        · exact .inr ⟨T, f, oT, oth z _ nS.1.symm q, oth T _ ne.2.2.2.2 hT', ne⟩
      · obtain ⟨u, v, q⟩ := tO'
        exact ⟨u, v, oth TO _ nS.2.2.1.symm q⟩
      · exact hR (s.heap.objs.size :: ts) H2 s' acc' c' (.cons hn pt) I' e1 (by rw [e2, Array.toList_push]; simp) f'
    have hu' : its.toArray[i]? = some u := by simpa using hu
    have hu2' : its2.toArray[i]? = some u2 := by simpa using hu2
    have nz : s.heap.objs.size ≠ z ∧ s.heap.objs.size ≠ TO ∧ s.heap.objs.size ≠ i1 ∧ s.heap.objs.size ≠ i2 ∧ s.heap.objs.size ≠ S := ⟨Nat.ne_of_gt lz, Nat.ne_of_gt lTO, Nat.ne_of_gt li1, Nat.ne_of_gt li2, Nat.ne_of_gt lS⟩
    rcases st with st | ⟨T, f, oT, st, hT, ne⟩
    · refine wpAny_bind (wpAny_pyNext_zip_item (A := A.in1) D st tI tO h1 h2 p.isList p2.isList hu' hu2' fun h' hz' hTO' h1' h2' hT hsz' hk => ?_)
      exact step h' (.inr ⟨_, false, _, hz', hT, nz⟩) ⟨_, _, hTO'⟩ h1' h2' hT hsz' hk
    · refine wpAny_bind (wpAny_pyNext_zip_item_held (A := A.in1) D st hT tI h1 h2 p.isList p2.isList hu' hu2' fun h' hz' h1' h2' hT' hsz' hk => ?_)
      exact step h' (.inr ⟨T, true, oT, hz', hk T _ ne.1 ne.2.2.1 ne.2.2.2.1 hT, ne⟩) ⟨_, _, hk TO _ D.TOz D.TOi1 D.TOi2 tO⟩ h1' h2' hT' hsz' fun c o c1 _ c3 c4 e => hk c o c1 c3 c4 e
theorem lz_extend {X : Cx} {pins : List (Addr × Obj)} {σ : L2.St} {z TI TO i1 i2 a b S : Addr} {xs ys : List V} {A : Around} {R : Result → Shared → Prop} {res : Value} {s : Shared} {H : Hp} {c0 : Nat} (hh : A.handled = none) (D : ZipApart z TI TO i1 i2 a b) (hS : S ∉ [z, TI, TO, i1, i2]) (Sa : S ≠ a) (Sb : S ≠ b)
    (I : Inv X pins σ H s) (qx : SqL X.K H a xs) (qy : SqL X.K H b ys) (st : IsZip s.heap z TI TO .none) (tI : IsPair s.heap TI (.ref i1) (.ref i2)) (tO : ∃ u v, IsPair s.heap TO u v)
    (h1 : s.heap.IsListIter i1 a 0) (h2 : s.heap.IsListIter i2 b 0) (hSl : s.heap.get? S = some { cls := .type "list", dict := none, data := .seq #[] c0, slots := #[] }) (hf : ∀ q ∈ [z, TI, TO, i1, i2, S], FpOk X pins H q)
    (hR : ∀ ts H2 s' acc' c', PutT H (xs.zip ys) ts H2 → Inv X pins σ H2 s' → s'.heap.get? S = some { cls := .type "list", dict := none, data := .seq acc' c', slots := #[] } → acc'.toList = ts.map Value.ref → FpOk X pins H2 S → R (.ok (.ret res)) s') :
    wpAny (model X.prog X.w) A.in1 (Builtin.List.listExtendWith (.ref S) (.ref z) res)
      (fun fin s' => match fin with | .done f => R (.ok f) s' | .again c' => c'.quiet = true ∧ codeAny (model X.prog X.w) A c' R s') (fun e s' => R (.error e) s') s := by
  have nS : S ≠ z ∧ S ≠ TI ∧ S ≠ TO ∧ S ≠ i1 ∧ S ≠ i2 := by simpa using hS
  have hT : s.TypeIs (.ref z) "zip" := ⟨_, st, rfl⟩
  unfold Builtin.List.listExtendWith
  refine wpAny_bind (wpAny_typeOf hT ?_)
  have g1 : Builtin.List.listSameRef (.ref S) (.ref z) = false := by simp [Builtin.List.listSameRef, nS.1]
  have g2 : (Value.type "zip" == Value.type "list") = false := by decide
  have g3 : (Value.type "zip" == Value.type "tuple") = false := by decide
  simp only [g1, g2, g3, Bool.or_false, Bool.false_eq_true, if_false]
  refine wpAny_bind (wpAny_pyIter_zip st ?_)
  refine wpAny_bind (wpAny_holding ?_)
  unfold Builtin.List.listLengthHint
  refine wpAny_bind (wpAny_specialOf hT LZ.no_len ?_)
  show wpAny _ A.in1 (specialOf (Value.ref z) (Str.ofString "__length_hint__") >>= _) _ _ _
  refine wpAny_bind (wpAny_specialOf hT LZ.no_hint ?_)
  refine wpAny_pure ?_
  show wpAny _ A.in1 (rule "list.extend.makes-room" >>= fun _ => Builtin.List.listTouch (.ref S) >>= fun _ =>
    again (.builtin "list.extend.loop" ⟨[.ref S, .ref z, res], []⟩)) _ _ _
  refine wpAny_bind (wpAny_rule ?_)
  refine wpAny_bind ?_
  show wpAny _ A.in1 (updateSeq S (·.push .none) >>= fun _ => updateSeq S (·.pop)) _ _ _
  refine wpAny_bind (wpAny_updateSeq hSl rfl ?_)
  have hS2 := Heap.get?_update_self (Obj.mapSeq (·.push Value.none)) hSl rfl
  refine wpAny_updateSeq (hz := by seq_fits) hS2 rfl ?_
  have hS3 := Heap.get?_update_self (Obj.mapSeq (·.pop)) hS2 rfl
  have oth : ∀ b o, b ≠ S → s.heap.get? b = some o → ((s.heap.update S (Obj.mapSeq (·.push Value.none))).update S (Obj.mapSeq (·.pop))).get? b = some o :=
    fun b o hb e => (Heap.get?_update_other _ _ (Ne.symm hb)).trans ((Heap.get?_update_other _ _ (Ne.symm hb)).trans e)
  obtain ⟨f0, f1, f2, f3, f4, f5⟩ := hf S (by simp)
  have I2 := I.turned (t' := s.toks) (it := S) (h' := ((s.heap.update S (Obj.mapSeq (·.push Value.none))).update S (Obj.mapSeq (·.pop)))) (fun b o hb e => oth b o hb e) f0 f1 f3 f4 f5
  obtain ⟨u, v, tO⟩ := tO
  refine wpAny_pure ⟨plainId_quiet F.plain_extend_loop _, lz_loop hh D hS Sa Sb (xs.zip ys) 0 _ H #[] _ (by simp) I2 qx qy (.inl (oth z _ nS.1.symm st)) (oth TI _ nS.2.1.symm tI) ⟨u, v, oth TO _ nS.2.2.1.symm tO⟩ (h1.at fun o e => oth i1 o nS.2.2.2.1.symm e) (h2.at fun o e => oth i2 o nS.2.2.2.2.symm e) hS3 rfl hf fun ts H2 s' acc' c' pt I' e1 e2 f' => ?_⟩
  exact hR ts H2 s' acc' c' pt I' e1 (by simpa using e2) f'
theorem lz_init {X : Cx} {pins : List (Addr × Obj)} {σ : L2.St} {z TI TO i1 i2 a b S : Addr} {xs ys : List V} {A : Around} {R : Result → Shared → Prop} {s : Shared} {H : Hp} (hh : A.handled = none) (D : ZipApart z TI TO i1 i2 a b) (hS : S ∉ [z, TI, TO, i1, i2]) (Sa : S ≠ a) (Sb : S ≠ b)
    (I : Inv X pins σ H s) (qx : SqL X.K H a xs) (qy : SqL X.K H b ys) (st : IsZip s.heap z TI TO .none) (tI : IsPair s.heap TI (.ref i1) (.ref i2)) (tO : ∃ u v, IsPair s.heap TO u v)
    (h1 : s.heap.IsListIter i1 a 0) (h2 : s.heap.IsListIter i2 b 0) (hSl : s.heap.get? S = some { cls := .type "list", data := .seq #[] }) (hf : ∀ q ∈ [z, TI, TO, i1, i2, S], FpOk X pins H q)
    (hR : ∀ ts H2 s' acc' c', PutT H (xs.zip ys) ts H2 → Inv X pins σ H2 s' → s'.heap.get? S = some { cls := .type "list", dict := none, data := .seq acc' c', slots := #[] } → acc'.toList = ts.map Value.ref → FpOk X pins H2 S → R (.ok (.ret .none)) s') :
    wpAny (model X.prog X.w) A.in1 (Builtin.«list.__init__» ⟨[.ref S, .ref z], []⟩)
      (fun fin s' => match fin with | .done f => R (.ok f) s' | .again c' => c'.quiet = true ∧ codeAny (model X.prog X.w) A c' R s') (fun e s' => R (.error e) s') s := by
  have nS : S ≠ z ∧ S ≠ TI ∧ S ≠ TO ∧ S ≠ i1 ∧ S ≠ i2 := by simpa using hS
  show wpAny _ _ (do let old ← Builtin.List.listItems (.ref S); Builtin.List.listUpdate (.ref S) (fun _ => #[]); letGo old.toList.reverse; Builtin.List.listExtendWith (.ref S) (.ref z) .none) _ _ s
  refine wpAny_bind ?_
  unfold Builtin.List.listItems
  refine wpAny_bind (wpAny_seqItems hSl rfl (wpAny_pure ?_))
  show wpAny _ _ (updateSeq S (fun _ => #[]) >>= fun _ => letGo (#[] : Array Value).toList.reverse >>= fun _ => Builtin.List.listExtendWith (.ref S) (.ref z) .none) _ _ s
  refine wpAny_bind (wpAny_updateSeq hSl rfl ?_)
  have hS2 := Heap.get?_update_self (Obj.mapSeq (fun _ => (#[] : Array Value))) hSl rfl
  have oth : ∀ b o, b ≠ S → s.heap.get? b = some o → (s.heap.update S (Obj.mapSeq (fun _ => (#[] : Array Value)))).get? b = some o :=
    fun b o hb e => (Heap.get?_update_other _ _ (Ne.symm hb)).trans e
  refine wpAny_bind (wpAny_letGo ?_)
  obtain ⟨f0, f1, f2, f3, f4, f5⟩ := hf S (by simp)
  have I2 := I.turned (t' := s.toks) (it := S) (h' := s.heap.update S (Obj.mapSeq (fun _ => (#[] : Array Value)))) (fun b o hb e => oth b o hb e) f0 f1 f3 f4 f5
  obtain ⟨u, v, tO⟩ := tO
  exact lz_extend hh D hS Sa Sb I2 qx qy (oth z _ nS.1.symm st) (oth TI _ nS.2.1.symm tI) ⟨u, v, oth TO _ nS.2.2.1.symm tO⟩ (h1.at fun o e => oth i1 o nS.2.2.2.1.symm e) (h2.at fun o e => oth i2 o nS.2.2.2.2.symm e) hS2 hf hR
def tLstZip (K : PySem.W.Frag) (ta : TA) : TE := fun σ H Q => ta σ H fun vs H1 => ∃ a b xs ys, vs = [.ref a, .ref b] ∧ SqL K H1 a xs ∧ SqL K H1 b ys ∧ ∀ ts H2 q, PutT H1 (xs.zip ys) ts H2 → H2 q = none → Q (.ref q) (upd H2 q (.lst (ts.map .ref)))
theorem putT_len {H H' : Hp} {ps : List (V × V)} {ts : List Addr} (h : PutT H ps ts H') : ts.length = ps.length := by
  induction h with
  | nil => rfl
  | cons _ _ ih => simp [ih]
theorem pe_lstZip {X : Cx} {e e2 : Expr} {ta : TA} {p p2 pos pos2 : Pos} (hc : X.calm = true) (hg : Gl X "list") (hm : X.mg "list" = none) (hg2 : Gl X "zip") (hm2 : X.mg "zip" = none) (ha : PA X [e, e2] ta)
    (hs : starEach [e, e2] X.env = (false, eval e X.env) :: starEach [e2] X.env := by rfl) (hpl : (backTo pos2 (starEach [e2] X.env)).any (·.1) = false := by rfl)
    (hs2 : starEach [.Call (.Name "zip" p2) [e, e2] [] pos2] X.env = (false, eval (.Call (.Name "zip" p2) [e, e2] [] pos2) X.env) :: starEach [] X.env := by rfl) :
    PE X (.Call (.Name "list" p) [.Call (.Name "zip" p2) [e, e2] [] pos2] [] pos) (tLstZip X.K ta) := by
  refine ⟨fun pins s σ H Q I h => ?_⟩
  refine Call_ (ld_blt I hg hm boot_list (PyProof.Rows.callWith_type1 (args_cons (Call_ (ld_blt I hg2 hm2 PyProof.Rows.boot_zip (PyProof.Rows.callWith_type1 (thn (ha.run pos2 pins s σ H _ I h) fun us s1 ⟨vs, H1, I1, r1, q1⟩ => ?_) hs hpl))) hs2) hs2 rfl))
  obtain ⟨a, b, xs, ys, ex, qx, qy, q⟩ := q1
  subst ex
  cases r1 with
  | cons r rr =>
    cases rr with
    | cons r' rr =>
      cases rr
      cases r
      cases r'
      obtain ⟨its, rv, p1, zl⟩ := I1.list qx
      obtain ⟨its2, rv2, p2', _⟩ := I1.list qy
      have la : a < s1.heap.objs.size := p1.lt
      have lb : b < s1.heap.objs.size := p2'.lt
      refine call_zip_2 p1.isList p2'.isList fun h' hz hTI hTO h1 h2 hsz hk => args_nil ?_
      have I2 : Inv X pins σ H1 { s1 with heap := h' } := I1.kept (t' := s1.toks) hk
      have kp : ∀ b o, h'.get? b = some o → (h'.push { cls := .type "list", data := .seq #[] }).get? b = some o := fun b o e => Heap.get?_push_of_some _ e
      have I3 : Inv X pins σ H1 { s1 with heap := h'.push { cls := .type "list", data := .seq #[] } } := I2.kept (t' := s1.toks) kp
      have hS : (h'.push { cls := .type "list", data := .seq #[] }).get? h'.objs.size = some { cls := .type "list", data := .seq #[] } := Heap.get?_push_size _ rfl
      have fr : ∀ c, s1.heap.objs.size ≤ c → FpOk X pins H1 c := fun c hle => I1.fpOk hle (I1.hok.fresh hle)
      refine callType_codes (Q₁ := fun obj s₁ => obj = .ref h'.objs.size ∧ s₁ = { s1 with heap := h'.push { cls := .type "list", data := .seq #[] } }) F.called_list (F.typeCall_list_1 _) F.entry_list_init
        (code_list_new _ ⟨rfl, rfl⟩) fun obj s₁ h₁ => ?_
      obtain ⟨rfl, rfl⟩ := h₁
      rw [hsz] at hS ⊢
      refine ⟨⟨_, hS, rfl⟩, F.args_list_init_2 _ _, lz_init (A := X.A.in1) (I1.ok.hd hc) (PySem.W.ktu_apart s1.heap.objs.size a b la lb) ?_ (Nat.ne_of_gt (Nat.lt_of_lt_of_le la (Nat.le_add_right _ _))) (Nat.ne_of_gt (Nat.lt_of_lt_of_le lb (Nat.le_add_right _ _))) I3 qx qy (kp _ _ hz) (kp _ _ hTI) ⟨_, _, kp _ _ hTO⟩ (h1.at fun o e => kp _ _ e) (h2.at fun o e => kp _ _ e) hS (fun c hcm => fr c ?_) fun ts H2 s' acc' c' pt I' e1 e2 f' => ?_⟩
      · simp
      · simp at hcm
        rcases hcm with z | z | z | z | z | z <;> rw [z] <;> first | exact Nat.le_add_right _ _ | exact Nat.le_refl _
      · have I4 := I'.take (h' := s'.heap) (t' := s'.toks) (o := .lst (ts.map V.ref)) (fun _ _ _ e => e) f' ⟨by rw [List.length_map, putT_len pt, List.length_zip]; omega, acc'.toList, c', by rw [e2]; exact vals_refs ts, by rw [Array.toArray_toList]; exact e1⟩
        exact ⟨rfl, .ref _, _, I4, rfl, q ts H2 _ pt f'.1⟩
end L2
namespace Dl
open PySem L2
section
variable {X : Cx} {s : Cs} {W : WX} {ts : List TE} {a : Av}
theorem S0.putT {c : Cn} {th rh : Rho} {ta si : List (Option V)} : ∀ {ds es : List D} {ws zs : List V} {G H H2 : Hp} {qs : List Addr}, S0 c G H th rh ta si → Dt c.K c.ct G ds ws → Dt c.K c.ct G es zs → PutT H (ws.zip zs) qs H2 → ∃ G2, Same G G2 ∧ S0 c G2 H2 th rh ta si ∧ Dt c.K c.ct G2 (zipD ds es) (qs.map V.ref)
  | [], es, ws, zs, G, H, H2, qs, h, d1, d2, p => by
    cases d1
    cases p
    exact ⟨G, fun _ _ q => q, h, .nil⟩
  | d :: ds, [], ws, zs, G, H, H2, qs, h, d1, d2, p => by
    cases d2
    rw [List.zip_nil_right] at p
    cases p
    exact ⟨G, fun _ _ q => q, h, .nil⟩
  | d :: ds, e :: es, ws, zs, G, H, H2, qs, h, d1, d2, p => by
    obtain ⟨w, ws, rfl⟩ : ∃ w t, ws = w :: t := by
      cases ws with
      | nil => exact absurd d1.length (by simp)
      | cons w t => exact ⟨w, t, rfl⟩
    obtain ⟨z, zs, rfl⟩ : ∃ w t, zs = w :: t := by
      cases zs with
      | nil => exact absurd d2.length (by simp)
      | cons w t => exact ⟨w, t, rfl⟩
    obtain ⟨d1a, d1b⟩ := d1.uncons
    obtain ⟨d2a, d2b⟩ := d2.uncons
    rw [List.zip_cons_cons] at p
    cases p with
    | cons np p =>
      obtain ⟨h1, s1⟩ := h.newD (u := .tup [w, z]) np
      obtain ⟨G2, s2, h2, d3⟩ := S0.putT h1 (d1b.mono s1) (d2b.mono s1) p
      have dp : Dt c.K c.ct (upd G _ (.tup [w, z])) [.tup [d, e]] [.ref _] := .tup (.of upd_same) ((d1a.app d2a).mono s1) .nil
      exact ⟨G2, fun _ _ q => s2 _ _ (s1 _ _ q), h2, (dp.mono s2).cons d3⟩
def eLZ (a : Av) : Ev := fun r => (a r).bind fun (ls, r1) => match ls with
  | [x, y] => (match sqD x.toD, sqD y.toD with
    | some (true, ds), some (true, es) => .ok (.lst ((zipD ds es).map .fz), r1)
    | _, _ => .stuck)
  | _ => .stuck
theorem De.lstZip (h2 : Da s W [none, none] (tAll ts) a) : De s W (tLstZip s.K (tAll ts)) (eLZ a) := fun c hc G H th rh ta si Q h0 q => by
  subst hc
  refine h2 c rfl G H th rh ta si _ h0 ?_
  unfold eLZ at q
  cases e2 : a rh with
  | stuck => rw [e2] at q; exact q.elim
  | exc x r => rw [e2] at q; exact q
  | ok lr =>
    obtain ⟨ls, r1⟩ := lr
    rw [e2] at q
    simp only [Out.bind_ok] at q
    intro vs G1 H1 h3 el p
    match ls, vs, el with
    | [x, y], [v, u], _ =>
      simp only at q
      cases ex : sqD x.toD with
      | none => rw [ex] at q; exact q.elim
      | some bd =>
        obtain ⟨b, ds⟩ := bd
        cases ey : sqD y.toD with
        | none => rw [ex, ey] at q; cases b <;> exact q.elim
        | some be =>
          obtain ⟨b', es⟩ := be
          rw [ex, ey] at q
          cases b with
          | false => exact q.elim
          | true =>
          cases b' with
          | false => exact q.elim
          | true =>
          obtain ⟨G2, sg, dt, h4⟩ := S0.freezes (ls := [x, y]) (vs := [v, u]) h3 rfl
          have h5 : S0 c G2 H1 ([some (.fz x.toD), some (.fz y.toD)] ++ th) r1 ([some v, some u] ++ ta) si := h4.pushD dt
          obtain ⟨av, ws, rfl, k1, k2, d1⟩ := S0.vw (th := some (.fz y.toD) :: th) (ta := some u :: ta) h5 |>.seqD h5.gh ex
          obtain ⟨bv, zs, rfl, k3, k4, d2⟩ := S0.vw (S0.pop (th := some (.fz y.toD) :: th) (ta := some u :: ta) h5) |>.seqD h5.gh ey
          refine ⟨av, bv, ws, zs, rfl, k1 rfl, k3 rfl, fun qs H2 qa pt np => ?_⟩
          obtain ⟨G3, _, h6, d3⟩ := S0.putT h4 d1 d2 pt
          exact q _ G3 _ (h6.newLst d3 np)
    | [], _, _ => exact q.elim
    | [_], _, _ => exact q.elim
    | _ :: _ :: _ :: _, _, _ => exact q.elim
theorem ed_lstZip {x y : Expr} {p p2 pos pos2 : Pos} (hk : X.K = s.K) (hc : X.calm = true) (hg : Gl X "list") (hm : X.mg "list" = none) (hg2 : Gl X "zip") (hm2 : X.mg "zip" = none) (h : Es X s W [none, none] [x, y] ts a)
    (hs : starEach [x, y] X.env = (false, eval x X.env) :: starEach [y] X.env := by rfl) (hpl : (backTo pos2 (starEach [y] X.env)).any (·.1) = false := by rfl)
    (hs2 : starEach [.Call (.Name "zip" p2) [x, y] [] pos2] X.env = (false, eval (.Call (.Name "zip" p2) [x, y] [] pos2) X.env) :: starEach [] X.env := by rfl) :
    Ed X s W (.Call (.Name "list" p) [.Call (.Name "zip" p2) [x, y] [] pos2] [] pos) (tLstZip X.K (tAll ts)) (eLZ a) := ⟨pe_lstZip hc hg hm hg2 hm2 h.pes.pa hs hpl hs2, by rw [hk]; exact De.lstZip h.da⟩
end
end Dl
namespace Dl
open PySem L2

/-! ### what a run comes to, by what is asked of it -/
abbrev xI (n : Int) : L := .fz (.int n)
abbrev xB (b : Bool) : L := .fz (.bl b)
abbrev xS (z : Str) : L := .fz (.str z)
abbrev xN : L := .fz .non
abbrev xT (ds : List D) : L := .fz (.tup ds)
abbrev xF (ds : List D) : L := .fz (.lst ds)
abbrev xO (ds : List D) : L := .lst (fzs ds)

def WP {ε α β : Type} (o : Out ε (α × β)) (Q : α → β → Prop) (E : Exn → ε → Prop) : Prop := match o with
  | .ok p => Q p.1 p.2
  | .exc x e => E x e
  | .stuck => False
structure W {ε α β : Type} (o : Out ε (α × β)) (Q : α → β → Prop) (E : Exn → ε → Prop) : Prop where
  run : WP o Q E
def nE {ε : Type} : Exn → ε → Prop := fun _ _ => False
section
variable {ε α β γ δ : Type} {o : Out ε (α × β)} {Q Q' : α → β → Prop} {E E' : Exn → ε → Prop}
theorem W.mono (h : W o Q E) (k : ∀ a b, Q a b → Q' a b) (ke : ∀ x e, E x e → E' x e) : W o Q' E' := by
  cases o with
  | ok p => exact ⟨k _ _ h.run⟩
  | exc x e => exact ⟨ke _ _ h.run⟩
  | stuck => exact h.run.elim
theorem W.call (h : W o Q nE) (k : ∀ a b, Q a b → Q' a b) : W o Q' E := h.mono k fun _ _ z => z.elim
theorem W.got (h : W o Q nE) : ∃ a b, o = .ok (a, b) ∧ Q a b := by
  cases o with
  | ok p => exact ⟨_, _, rfl, h.run⟩
  | exc x e => exact h.run.elim
  | stuck => exact h.run.elim
theorem W.of_eq {a : α} {b : β} (h : o = .ok (a, b)) (k : Q a b) : W o Q E := by rw [h]; exact ⟨k⟩
theorem W.of_ok {a : α} {b : β} (k : Q a b) : W (.ok (a, b) : Out ε (α × β)) Q E := ⟨k⟩
theorem W.bind {f : α × β → Out ε (γ × δ)} {Q : γ → δ → Prop} (h : W o (fun a b => W (f (a, b)) Q E) E) : W (o.bind f) Q E := by
  cases o with
  | ok p => exact h.run
  | exc x e => exact ⟨h.run⟩
  | stuck => exact h.run.elim
end

theorem W.bind0 {ε α β γ δ : Type} {o : Out ε (α × β)} {E : Exn → ε → Prop} {f : α × β → Out ε (γ × δ)} {Q : γ → δ → Prop} (h : W o (fun a b => WP (f (a, b)) Q E) E) : W (o.bind f) Q E := W.bind (h.mono (fun _ _ q => ⟨q⟩) fun _ _ z => z)
/-! slots -/
def SetR (r : Rho) (i : Nat) (o : Option L) (r' : Rho) : Prop := i < r.length ∧ r.set i o = r'
theorem gR.z {l : L} {r : Rho} : (some l :: r)[0]? = some (some l) := rfl
theorem gR.s {l : L} {o : Option L} {r : Rho} {i : Nat} (h : r[i]? = some (some l)) : (o :: r)[i + 1]? = some (some l) := by simpa using h
theorem SetR.z {x o : Option L} {r : Rho} : SetR (x :: r) 0 o (o :: r) := ⟨by simp, rfl⟩
theorem SetR.s {x o : Option L} {r r' : Rho} {i : Nat} (h : SetR r i o r') : SetR (x :: r) (i + 1) o (x :: r') := ⟨by have := h.1; simp; omega, by rw [List.set_cons_succ, h.2]⟩

section
variable {r r1 r2 : Rho} {e e1 e2 e3 f g : Ev} {a : Av} {i j n : Nat} {F : Fv} {ms : List (Option Nat)} {l l' l0 x y z : L} {ls ls' : List L} {c c1 c2 : Tv} {b : Bv} {bs : Bvs} {s1 s2 : Sv} {fi : Iv} {fl : Fl}
  {Q : Fl → Rho → Prop} {R : L → Rho → Prop} {A : List L → Rho → Prop} {T : Bool → Rho → Prop} {J : List D → Rho → Prop} {E : Exn → Rho → Prop} {M : L → List L → Prop} {K : Rho → Prop} {d : D} {ds es : List D} {p q : Prop} {t : Bool} {ks : List L}

/-! statements -/
def kSeq (s : Sv) (Q : Fl → Rho → Prop) (E : Exn → Rho → Prop) : Fl → Rho → Prop := fun f r => match f with
  | .nx => W (s r) Q E
  | f => Q f r
theorem W_seq (h : W (s1 r) (kSeq s2 Q E) E) : W (gSeq s1 s2 r) Q E := W.bind (h.mono (fun f r h => by cases f <;> first | exact h | exact ⟨h⟩) fun _ _ z => z)
theorem kSeq_nx (h : W (s2 r) Q E) : kSeq s2 Q E .nx r := h
theorem kSeq_ret (h : Q (.ret l) r) : kSeq s2 Q E (.ret l) r := h
theorem kSeq_brk (h : Q .brk r) : kSeq s2 Q E .brk r := h
theorem kSeq_cont (h : Q .cont r) : kSeq s2 Q E .cont r := h
theorem W_nx (h : Q .nx r) : W (gNx r) Q E := ⟨h⟩
theorem W_fl (h : Q fl r) : W (gFl fl r) Q E := ⟨h⟩
def kDrop (Q : Fl → Rho → Prop) : L → Rho → Prop := fun _ r => Q .nx r
theorem W_drop (h : W (e r) (kDrop Q) E) : W (gDrop e r) Q E := W.bind0 h
theorem kDrop_i (h : Q .nx r) : kDrop Q l r := h
def kRet (Q : Fl → Rho → Prop) : L → Rho → Prop := fun l r => Q (.ret l) r
theorem W_ret (h : W (e r) (kRet Q) E) : W (gRet e r) Q E := W.bind0 h
theorem kRet_i (h : Q (.ret l) r) : kRet Q l r := h
theorem W_retP (e : r[i]? = some (some l)) (s : SetR r i none r1) (h : Q (.ret l) r1) : W (gRetP i r) Q E := by
  unfold gRetP
  rw [e, s.2]
  exact ⟨h⟩
def kIf (s1 s2 : Sv) (Q : Fl → Rho → Prop) (E : Exn → Rho → Prop) : Bool → Rho → Prop := fun b r => W (if b then s1 r else s2 r) Q E
theorem W_if (h : W (c r) (kIf s1 s2 Q E) E) : W (gIf c s1 s2 r) Q E := W.bind h
def kSet (i : Nat) (Q : Fl → Rho → Prop) : L → Rho → Prop := fun l r => ∃ r', SetR r i (some l) r' ∧ Q .nx r'
theorem W_set (h : W (e r) (kSet i Q) E) : W (gSet i e r) Q E := W.bind (h.mono (fun l r ⟨r', s, q⟩ => by dsimp only; rw [if_pos s.1, s.2]; exact ⟨q⟩) fun _ _ z => z)
theorem kSet_i (s : SetR r i (some l) r1) (h : Q .nx r1) : kSet i Q l r := ⟨r1, s, h⟩
/-- binding -/
def WB (o : Option Rho) (K : Rho → Prop) : Prop := ∃ r, o = some r ∧ K r
theorem WB_name (s : SetR r i (some (.fz d)) r1) (h : K r1) : WB (bName i d r) K := ⟨r1, by unfold bName; rw [if_pos s.1, s.2], h⟩
theorem WB_tup (hn : ds.length = n) (h : WB (bs ds r) K) : WB (bTup bs n (.tup ds) r) K := by
  obtain ⟨r1, e, k⟩ := h
  exact ⟨r1, by unfold bTup; dsimp only; rw [if_pos hn, e], k⟩
def kBs (bs : Bvs) (ds : List D) (K : Rho → Prop) : Rho → Prop := fun r => WB (bs ds r) K
theorem WB_cons (h : WB (b d r) (kBs bs ds K)) : WB (bCons b bs (d :: ds) r) K := by
  obtain ⟨r1, e, r2, e2, k⟩ := h
  exact ⟨r2, by unfold bCons; dsimp only; rw [e]; exact e2, k⟩
theorem kBs_i (h : WB (bs ds r) K) : kBs bs ds K r := h
theorem WB_nil (h : K r) : WB (bNil [] r) K := ⟨r, rfl, h⟩
def kNx (Q : Fl → Rho → Prop) : Rho → Prop := fun r => Q .nx r
theorem kNx_i (h : Q .nx r) : kNx Q r := h
def kAsg (b : Bv) (Q : Fl → Rho → Prop) : L → Rho → Prop := fun l r => WB (b l.toD r) (kNx Q)
theorem W_asg (h : W (e r) (kAsg b Q) E) : W (gAsg b e r) Q E := W.bind (h.mono (fun l r ⟨r', s, q⟩ => by dsimp only; rw [s]; exact ⟨q⟩) fun _ _ z => z)
theorem kAsg_i (h : WB (b d r) (kNx Q)) : kAsg b Q (.fz d) r := h
theorem kAsg_o (h : WB (b (.lst ds) r) (kNx Q)) : kAsg b Q (.lst (fzs ds)) r := by
  unfold kAsg
  rw [toD_lst, fzs_toD]
  exact h
def kFor (b : Bv) (s : Sv) (Q : Fl → Rho → Prop) (E : Exn → Rho → Prop) : List D → Rho → Prop := fun ds r => W (forL b s ds r) Q E
theorem W_for (h : W (fi r) (kFor b s1 Q E) E) : W (gFor fi b s1 r) Q E := W.bind h
theorem kFor_i (h : W (forL b s1 ds r) Q E) : kFor b s1 Q E ds r := h
/-- name[i] = e -/
def kSt1 (i : Nat) (f : Ev) (Q : Fl → Rho → Prop) (E : Exn → Rho → Prop) : L → Rho → Prop := fun l r1 => (∃ l0, r1[i]? = some (some l0)) ∧ W (f r1) (fun k r2 => ∃ ks n j r3, r2[i]? = some (some (.lst ks)) ∧ k = .fz (.int n) ∧ ixN ks.length n = some j ∧ SetR r2 i (some (.lst (ks.set j (.fz l.toD)))) r3 ∧ Q .nx r3) E
theorem W_store (h : W (e r) (kSt1 i f Q E) E) : W (gStore i f e r) Q E := W.bind (h.mono (fun l r1 ⟨⟨l0, e0⟩, h1⟩ => by
  dsimp only
  rw [e0]
  dsimp only
  refine W.bind (h1.mono (fun k r2 ⟨ks, n, j, r3, e1, e2, e3, e4, q⟩ => ?_) fun _ _ z => z)
  subst e2
  dsimp only
  rw [e1]
  simp only [asI_int, e3]
  rw [e4.2]
  exact ⟨q⟩) fun _ _ z => z)
def kSt2 (i : Nat) (d : D) (Q : Fl → Rho → Prop) : L → Rho → Prop := fun k r2 => ∃ ks n j r3, r2[i]? = some (some (.lst ks)) ∧ k = .fz (.int n) ∧ ixN ks.length n = some j ∧ SetR r2 i (some (.lst (ks.set j (.fz d)))) r3 ∧ Q .nx r3
theorem kSt1_i (e : r[i]? = some (some l0)) (h : W (f r) (kSt2 i d Q) E) : kSt1 i f Q E (.fz d) r := ⟨⟨_, e⟩, h⟩
theorem kSt1_o (e : r[i]? = some (some l0)) (h : W (f r) (kSt2 i (.lst ds) Q) E) : kSt1 i f Q E (.lst (fzs ds)) r := ⟨⟨_, e⟩, by
  have : (L.lst (fzs ds)).toD = .lst ds := by rw [toD_lst, fzs_toD]
  rw [this]; exact h⟩
theorem kSt2_i {ds : List D} {m : Int} (e : r[i]? = some (some (.lst (fzs ds)))) (h : ∃ j, ixN ds.length m = some j ∧ ∃ r3, SetR r i (some (.lst (fzs (ds.set j d)))) r3 ∧ Q .nx r3) : kSt2 i d Q (.fz (.int m)) r := by
  obtain ⟨j, ej, r3, s, q⟩ := h
  exact ⟨_, m, j, r3, e, rfl, by rw [fzs_length]; exact ej, by rw [fzs_set]; exact s, q⟩
theorem ixN_pos {n : Nat} {m : Int} (h0 : 0 ≤ m) (h : m < n) : ixN n m = some m.toNat := by
  unfold ixN
  rw [if_pos h0, if_pos (by omega)]
/-- .. within bounds -/
theorem kSt2_p {ds : List D} {m : Int} (e : r[i]? = some (some (.lst (fzs ds)))) (s : SetR r i (some (.lst (fzs (ds.set m.toNat d)))) r1) (h : (0 ≤ m ∧ m < ds.length) ∧ Q .nx r1) : kSt2 i d Q (.fz (.int m)) r :=
  kSt2_i e ⟨_, ixN_pos h.1.1 h.1.2, r1, s, h.2⟩

theorem kSt2_L0 {x0  : D} (e : r[i]? = some (some (.lst (fzs (x0 :: es))))) (s : SetR r i (some (.lst (fzs (d :: es)))) r1) (h : Q .nx r1) : kSt2 i d Q (.fz (.int 0)) r := by
  refine ⟨_, 0, 0, r1, e, rfl, ?_, ?_, h⟩
  · rw [fzs_length]
    unfold ixN
    rw [if_pos (by omega), if_pos (by simp only [List.length_cons]; omega)]
    rfl
  · rw [fzs_set]; exact s
theorem kSt2_L1 {x0 c0 : D} (e : r[i]? = some (some (.lst (fzs (c0 :: x0 :: es))))) (s : SetR r i (some (.lst (fzs (c0 :: d :: es)))) r1) (h : Q .nx r1) : kSt2 i d Q (.fz (.int 1)) r := by
  refine ⟨_, 1, 1, r1, e, rfl, ?_, ?_, h⟩
  · rw [fzs_length]
    unfold ixN
    rw [if_pos (by omega), if_pos (by simp only [List.length_cons]; omega)]
    rfl
  · rw [fzs_set]; exact s
theorem kSt2_L2 {x0 c0 c1 : D} (e : r[i]? = some (some (.lst (fzs (c0 :: c1 :: x0 :: es))))) (s : SetR r i (some (.lst (fzs (c0 :: c1 :: d :: es)))) r1) (h : Q .nx r1) : kSt2 i d Q (.fz (.int 2)) r := by
  refine ⟨_, 2, 2, r1, e, rfl, ?_, ?_, h⟩
  · rw [fzs_length]
    unfold ixN
    rw [if_pos (by omega), if_pos (by simp only [List.length_cons]; omega)]
    rfl
  · rw [fzs_set]; exact s
theorem kSt2_L3 {x0 c0 c1 c2 : D} (e : r[i]? = some (some (.lst (fzs (c0 :: c1 :: c2 :: x0 :: es))))) (s : SetR r i (some (.lst (fzs (c0 :: c1 :: c2 :: d :: es)))) r1) (h : Q .nx r1) : kSt2 i d Q (.fz (.int 3)) r := by
  refine ⟨_, 3, 3, r1, e, rfl, ?_, ?_, h⟩
  · rw [fzs_length]
    unfold ixN
    rw [if_pos (by omega), if_pos (by simp only [List.length_cons]; omega)]
    rfl
  · rw [fzs_set]; exact s
theorem kSt2_L4 {x0 c0 c1 c2 c3 : D} (e : r[i]? = some (some (.lst (fzs (c0 :: c1 :: c2 :: c3 :: x0 :: es))))) (s : SetR r i (some (.lst (fzs (c0 :: c1 :: c2 :: c3 :: d :: es)))) r1) (h : Q .nx r1) : kSt2 i d Q (.fz (.int 4)) r := by
  refine ⟨_, 4, 4, r1, e, rfl, ?_, ?_, h⟩
  · rw [fzs_length]
    unfold ixN
    rw [if_pos (by omega), if_pos (by simp only [List.length_cons]; omega)]
    rfl
  · rw [fzs_set]; exact s
/-! tests -/
def kcB (T : Bool → Rho → Prop) : L → Rho → Prop := fun l r => ∃ b, asB l = some b ∧ T b r
theorem W_cB (h : W (e r) (kcB T) E) : W (cB e r) T E := W.bind (h.mono (fun l r ⟨t, e, q⟩ => by dsimp only; rw [e]; exact ⟨q⟩) fun _ _ z => z)
theorem kcB_i (h : T t r) : kcB T (.fz (.bl t)) r := ⟨t, rfl, h⟩
def kNot (T : Bool → Rho → Prop) : Bool → Rho → Prop := fun b r => T (!b) r
theorem W_cNot (h : W (c r) (kNot T) E) : W (cNot c r) T E := W.bind0 h
theorem kNot_t (h : T false r) : kNot T true r := h
theorem kNot_f (h : T true r) : kNot T false r := h
theorem kNot_i (h : T (!t) r) : kNot T t r := h
def kAnd (c : Tv) (T : Bool → Rho → Prop) (E : Exn → Rho → Prop) : Bool → Rho → Prop := fun b r => W (if b then c r else .ok (false, r)) T E
theorem W_cAnd (h : W (c1 r) (kAnd c2 T E) E) : W (cAnd c1 c2 r) T E := W.bind h
def kOr (c : Tv) (T : Bool → Rho → Prop) (E : Exn → Rho → Prop) : Bool → Rho → Prop := fun b r => W (if b then .ok (true, r) else c r) T E
theorem W_cOr (h : W (c1 r) (kOr c2 T E) E) : W (cOr c1 c2 r) T E := W.bind h
theorem W_cYes (h : T true r) : W (cYes r) T E := ⟨h⟩
/-- a truth as a proposition -/
def Bd (b : Bool) (p : Prop) : Prop := b = true ↔ p
theorem Bd.id {_ : Decidable p} : Bd (decide p) p := decide_eq_true_iff
theorem Bd.it : Bd true True := by simp [Bd]
theorem Bd.if : Bd false False := by simp [Bd]
theorem Bd.ind {_ : Decidable p} : Bd (!decide p) (¬p) := by simp [Bd]
theorem Bd.ng (h : Bd t p) : Bd (!t) (¬p) := by unfold Bd at *; rw [← h]; simp
theorem Bd.ia {t' : Bool} (h : Bd t p) (h' : Bd t' q) : Bd (t && t') (p ∧ q) := by unfold Bd at *; rw [← h, ← h']; simp
theorem Bd.io {t' : Bool} (h : Bd t p) (h' : Bd t' q) : Bd (t || t') (p ∨ q) := by unfold Bd at *; rw [← h, ← h']; simp
theorem Bd.ib : Bd t (t = true) := Iff.rfl
theorem kIf_t (h : W (s1 r) Q E) : kIf s1 s2 Q E true r := h
theorem kIf_f (h : W (s2 r) Q E) : kIf s1 s2 Q E false r := h
theorem kIf_n (h : kIf s2 s1 Q E t r) : kIf s1 s2 Q E (!t) r := by cases t <;> exact h
theorem kIf_b (hb : Bd t p) (h1 : p → W (s1 r) Q E) (h2 : ¬p → W (s2 r) Q E) : kIf s1 s2 Q E t r := by
  cases t with
  | true => exact h1 (hb.mp rfl)
  | false => exact h2 fun z => by have := hb.mpr z; cases this
theorem kAnd_t (h : W (c r) T E) : kAnd c T E true r := h
theorem kAnd_f (h : T false r) : kAnd c T E false r := ⟨h⟩
theorem kAnd_b (hb : Bd t p) (h1 : p → W (c r) T E) (h2 : ¬p → T false r) : kAnd c T E t r := by
  cases t with
  | true => exact h1 (hb.mp rfl)
  | false => exact ⟨h2 fun z => by have := hb.mpr z; cases this⟩
theorem kOr_t (h : T true r) : kOr c T E true r := ⟨h⟩
theorem kOr_f (h : W (c r) T E) : kOr c T E false r := h
theorem kOr_b (hb : Bd t p) (h1 : p → T true r) (h2 : ¬p → W (c r) T E) : kOr c T E t r := by
  cases t with
  | true => exact ⟨h1 (hb.mp rfl)⟩
  | false => exact h2 fun z => by have := hb.mpr z; cases this
def kEAnd (g : Ev) (R : L → Rho → Prop) (E : Exn → Rho → Prop) : L → Rho → Prop := fun l r => ∃ b, asB l = some b ∧ W (if b then g r else .ok (.fz (.bl false), r)) R E
theorem W_eAnd (h : W (f r) (kEAnd g R E) E) : W (eAnd f g r) R E := W.bind (h.mono (fun l r ⟨t, e, q⟩ => by dsimp only; rw [e]; cases t <;> exact q) fun _ _ z => z)
theorem kEAnd_t (h : W (g r) R E) : kEAnd g R E (.fz (.bl true)) r := ⟨_, rfl, h⟩
theorem kEAnd_f (h : R (.fz (.bl false)) r) : kEAnd g R E (.fz (.bl false)) r := ⟨_, rfl, ⟨h⟩⟩
theorem kEAnd_b (hb : Bd t p) (h1 : p → W (g r) R E) (h2 : ¬p → R (.fz (.bl false)) r) : kEAnd g R E (.fz (.bl t)) r := ⟨_, rfl, by
  cases t with
  | true => exact h1 (hb.mp rfl)
  | false => exact ⟨h2 fun z => by have := hb.mpr z; cases this⟩⟩
def kEOr (g : Ev) (R : L → Rho → Prop) (E : Exn → Rho → Prop) : L → Rho → Prop := fun l r => ∃ b, asB l = some b ∧ W (if b then .ok (.fz (.bl true), r) else g r) R E
theorem W_eOr (h : W (f r) (kEOr g R E) E) : W (eOr f g r) R E := W.bind (h.mono (fun l r ⟨t, e, q⟩ => by dsimp only; rw [e]; cases t <;> exact q) fun _ _ z => z)
theorem kEOr_t (h : R (.fz (.bl true)) r) : kEOr g R E (.fz (.bl true)) r := ⟨_, rfl, ⟨h⟩⟩
theorem kEOr_f (h : W (g r) R E) : kEOr g R E (.fz (.bl false)) r := ⟨_, rfl, h⟩
theorem kEOr_b (hb : Bd t p) (h1 : p → R (.fz (.bl true)) r) (h2 : ¬p → W (g r) R E) : kEOr g R E (.fz (.bl t)) r := ⟨_, rfl, by
  cases t with
  | true => exact ⟨h1 (hb.mp rfl)⟩
  | false => exact h2 fun z => by have := hb.mpr z; cases this⟩
def kENot (R : L → Rho → Prop) : L → Rho → Prop := fun l r => ∃ b, asB l = some b ∧ R (.fz (.bl (!b))) r
theorem W_eNot (h : W (f r) (kENot R) E) : W (eNot f r) R E := W.bind (h.mono (fun l r ⟨t, e, q⟩ => by dsimp only; rw [e]; exact ⟨q⟩) fun _ _ z => z)
theorem kENot_i (h : R (.fz (.bl (!t))) r) : kENot R (.fz (.bl t)) r := ⟨_, rfl, h⟩
def kEIf (f g : Ev) (R : L → Rho → Prop) (E : Exn → Rho → Prop) : Bool → Rho → Prop := fun b r => W (if b then f r else g r) R E
theorem W_eIf (h : W (c r) (kEIf f g R E) E) : W (eIf c f g r) R E := W.bind h
theorem kEIf_t (h : W (f r) R E) : kEIf f g R E true r := h
theorem kEIf_f (h : W (g r) R E) : kEIf f g R E false r := h
theorem kEIf_b (hb : Bd t p) (h1 : p → W (f r) R E) (h2 : ¬p → W (g r) R E) : kEIf f g R E t r := by
  cases t with
  | true => exact h1 (hb.mp rfl)
  | false => exact h2 fun z => by have := hb.mpr z; cases this

/-! expressions -/
theorem W_eC (h : R (.fz d) r) : W (eC d r) R E := ⟨h⟩
theorem W_eV (e : r[i]? = some (some (.fz d))) (h : R (.fz d) r) : W (eV i r) R E := by
  unfold eV
  rw [e]
  exact ⟨h⟩
theorem W_eVo (e : r[i]? = some (some (.lst (fzs ds)))) (s : SetR r i (some (.fz (.lst ds))) r1) (h : R (.fz (.lst ds)) r1) : W (eV i r) R E := by
  have e2 : (L.lst (fzs ds)).toD = .lst ds := by rw [toD_lst, fzs_toD]
  unfold eV
  rw [e]
  dsimp only
  rw [e2, s.2]
  exact ⟨h⟩
def kZ (R : L → Rho → Prop) : L → Rho → Prop := fun l r => R (.fz l.toD) r
theorem W_eZ (h : W (e r) (kZ R) E) : W (eZ e r) R E := W.bind0 h
theorem kZ_i (h : R (.fz d) r) : kZ R (.fz d) r := h
theorem kZ_o (h : R (.fz (.lst ds)) r) : kZ R (.lst (fzs ds)) r := by
  unfold kZ
  rw [toD_lst, fzs_toD]
  exact h
/-- operands -/
theorem W_aNil (h : A [] r) : W (aNil r) A E := ⟨h⟩
def kA2 (l : L) (A : List L → Rho → Prop) : List L → Rho → Prop := fun ls r => A (l :: ls) r
def kA1 (a : Av) (A : List L → Rho → Prop) (E : Exn → Rho → Prop) : L → Rho → Prop := fun l r => W (a r) (kA2 l A) E
theorem W_aV (h : W (e r) (kA1 a A E) E) : W (aV e a r) A E := W.bind (h.mono (fun l r h => W.bind0 (W.mono h (fun _ _ z => z) fun _ _ z => z)) fun _ _ z => z)
theorem kA1_i (h : W (a r) (kA2 l A) E) : kA1 a A E l r := h
theorem kA2_i (h : A (l :: ls) r) : kA2 l A ls r := h
def kP (i : Nat) (A : List L → Rho → Prop) : List L → Rho → Prop := fun ls r => ∃ l r', r[i]? = some (some l) ∧ SetR r i none r' ∧ A (l :: ls) r'
theorem W_aP (e : r[i]? = some (some l)) (h : W (a r) (kP i A) E) : W (aP i a r) A E := by
  unfold aP
  rw [e]
  refine W.bind (h.mono (fun ls r ⟨l, r', e, s, q⟩ => ?_) fun _ _ z => z)
  dsimp only
  rw [e]
  dsimp only
  rw [s.2]
  exact ⟨q⟩
theorem kP_i (e : r[i]? = some (some l)) (s : SetR r i none r1) (h : A (l :: ls) r1) : kP i A ls r := ⟨l, r1, e, s, h⟩
/-- an operation, and the places laid back -/
def kOE (ms : List (Option Nat)) (r : Rho) (E : Exn → Rho → Prop) : Exn → List L → Prop := fun x ls => E x (backs ms ls r)
def kOb (ms : List (Option Nat)) (r : Rho) (R : L → Rho → Prop) : L → List L → Prop := fun l ls => R l (backs ms ls r)
def kO (ms : List (Option Nat)) (F : Fv) (R : L → Rho → Prop) (E : Exn → Rho → Prop) : List L → Rho → Prop := fun ls r => W (F ls) (kOb ms r R) (kOE ms r E)
theorem W_eO (h : W (a r) (kO ms F R E) E) : W (eO ms a F r) R E := W.bind (h.mono (fun ls r h => by
  dsimp only
  have h' := W.run h
  unfold WP kOb kOE at h'
  refine ⟨?_⟩
  unfold WP
  cases e : F ls with
  | ok p => rw [e] at h'; exact h'
  | exc x e' => rw [e] at h'; exact h'
  | stuck => rw [e] at h'; exact h') fun _ _ z => z)
theorem kO_i (h : W (F ls) (kOb ms r R) (kOE ms r E)) : kO ms F R E ls r := h
theorem kOb_0 (h : R l r) : kOb [] r R l ls := by
  unfold kOb
  rw [backs_0]
  exact h
theorem kOb_1 (h : R l r) : kOb [none] r R l [x] := h
theorem kOb_2 (h : R l r) : kOb [none, none] r R l [x, y] := h
theorem kOb_3 (h : R l r) : kOb [none, none, none] r R l [x, y, z] := h
theorem kOb_n (h : kOb ms r R l ls) : kOb (none :: ms) r R l (x :: ls) := h
theorem kOb_s (s : SetR r i (some x) r1) (h : kOb ms r1 R l ls) : kOb (some i :: ms) r R l (x :: ls) := by
  unfold kOb at *
  rw [backs_s, s.2]
  exact h
/-- one and two operands at once -/
def kO1 (F : Fv) (R : L → Rho → Prop) (E : Exn → Rho → Prop) : L → Rho → Prop := fun x r => W (F [x]) (kOb [none] r R) (kOE [none] r E)
theorem W_o1 (h : W (e r) (kO1 F R E) E) : W (eO [none] (aV e aNil) F r) R E := W_eO (W_aV (h.mono (fun x r h => ⟨h⟩) fun _ _ z => z))
theorem kO1_i (h : W (F [x]) (kOb [none] r R) (kOE [none] r E)) : kO1 F R E x r := h
def kO2b (x : L) (F : Fv) (R : L → Rho → Prop) (E : Exn → Rho → Prop) : L → Rho → Prop := fun y r => W (F [x, y]) (kOb [none, none] r R) (kOE [none, none] r E)
def kO2 (e : Ev) (F : Fv) (R : L → Rho → Prop) (E : Exn → Rho → Prop) : L → Rho → Prop := fun x r => W (e r) (kO2b x F R E) E
theorem W_o2 (h : W (e1 r) (kO2 e2 F R E) E) : W (eO [none, none] (aV e1 (aV e2 aNil)) F r) R E := W_eO (W_aV (h.mono (fun x r h => W_aV (W.mono h (fun y r h => ⟨h⟩) fun _ _ z => z)) fun _ _ z => z))
theorem kO2_i (h : W (e r) (kO2b x F R E) E) : kO2 e F R E x r := h
theorem kO2b_i (h : W (F [x, y]) (kOb [none, none] r R) (kOE [none, none] r E)) : kO2b x F R E y r := h
/-- methods -/
def kRV (P : L → Bool) (ms : List (Option Nat)) (a : Av) (F : Fv) (R : L → Rho → Prop) (E : Exn → Rho → Prop) : L → Rho → Prop := fun l r => P l = true ∧ W (a r) (kA2 l (kO (none :: ms) F R E)) E
theorem W_eRV {P : L → Bool} (h : W (e r) (kRV P ms a F R E) E) : W (eRV P e ms a F r) R E := W.bind (h.mono (fun l r ⟨hp, h⟩ => by
  dsimp only
  rw [if_pos hp]
  exact W_eO (W.bind0 (W.mono h (fun _ _ z => z) fun _ _ z => z))) fun _ _ z => z)
theorem kRV_i {P : L → Bool} (hp : P l = true) (h : W (a r) (kA2 l (kO (none :: ms) F R E)) E) : kRV P ms a F R E l r := ⟨hp, h⟩
theorem W_eRP {P : L → Bool} (e : r[i]? = some (some l)) (hp : P l = true) (h : W (a r) (kP i (kO (some i :: ms) F R E)) E) : W (eRP P i ms a F r) R E := by
  unfold eRP
  rw [e]
  dsimp only
  rw [if_pos hp]
  exact W_eO (W_aP e h)
def kThn (k : L → Option L) (R : L → Rho → Prop) : L → Rho → Prop := fun l r => ∃ l', k l = some l' ∧ R l' r
theorem W_eThen {k : L → Option L} (h : W (f r) (kThn k R) E) : W (eThen f k r) R E := W.bind (h.mono (fun l r ⟨l', e, q⟩ => by dsimp only; rw [e]; exact ⟨q⟩) fun _ _ z => z)
theorem W_eThenP {k : L → Option L} (e : r[i]? = some (some l)) (h : kThn k R l r) : W (eThenP i k r) R E := by
  obtain ⟨l', e2, q⟩ := h
  unfold eThenP
  rw [e]
  dsimp only
  rw [e2]
  exact ⟨q⟩
/-- what has items: an own list, a still one, a tuple, the script -/
def SeqL (l : L) (b : Bool) (ds : List D) : Prop := seqD l = some (b, ds)
theorem SeqL.o : SeqL (.lst (fzs ds)) true ds := seqD_fzs
theorem SeqL.fs : SeqL (.fz (.lst ds)) true ds := seqD_lst
theorem SeqL.tp : SeqL (.fz (.tup ds)) false ds := by simp [SeqL, seqD, L.seq, allD_fz]
theorem SeqL.sc {ns : List Int} : SeqL (.fz (.scr ns)) true (ns.map D.int) := by
  have := allD_fz (ns.map D.int)
  simp only [SeqL, seqD, L.seq, Option.bind_some, this, Option.map_some]
theorem kThn_rev (h : SeqL l true ds) (q : R (.lst (fzs ds.reverse)) r) : kThn revL R l r := ⟨_, by
  have : lsq l = some ds := by unfold lsq; rw [h]; rfl
  unfold revL; rw [this]; rfl, q⟩
theorem kThn_revT (h : SeqL l true ds) (q : R (.fz (.tup ds.reverse)) r) : kThn revT R l r := ⟨_, by
  have : lsq l = some ds := by unfold lsq; rw [h]; rfl
  unfold revT; rw [this]; rfl, q⟩
/-- slices -/
abbrev Bo := Rho → Out Rho (Option Int × Rho)
variable {lo hi : Bo} {B : Option Int → Rho → Prop} {o1 o2 : Option Int}
theorem W_oNo (h : B none r) : W (oNo r) B E := ⟨h⟩
def kSo (B : Option Int → Rho → Prop) : L → Rho → Prop := fun l r => ∃ i, asI l = some i ∧ B (some i) r
theorem W_oSo (h : W (f r) (kSo B) E) : W (oSo f r) B E := W.bind (h.mono (fun l r ⟨t, e, q⟩ => by dsimp only; rw [e]; exact ⟨q⟩) fun _ _ z => z)
theorem kSo_i {m : Int} (h : B (some m) r) : kSo B (.fz (.int m)) r := ⟨m, rfl, h⟩
def kSl3 (x : L) (a : Option Int) (R : L → Rho → Prop) : Option Int → Rho → Prop := fun b r => ∃ l, oSl x a b = some l ∧ R l r
def kSl2 (x : L) (hi : Bo) (R : L → Rho → Prop) (E : Exn → Rho → Prop) : Option Int → Rho → Prop := fun a r => W (hi r) (kSl3 x a R) E
def kSl1 (lo hi : Bo) (R : L → Rho → Prop) (E : Exn → Rho → Prop) : L → Rho → Prop := fun x r => W (lo r) (kSl2 x hi R E) E
theorem W_eSlV (h : W (e r) (kSl1 lo hi R E) E) : W (eSlV e lo hi r) R E := W.bind (h.mono (fun x r h => W.bind (h.mono (fun a r h => W.bind (h.mono (fun b r ⟨l, e, q⟩ => by dsimp only; rw [e]; exact ⟨q⟩) fun _ _ z => z)) fun _ _ z => z)) fun _ _ z => z)
theorem kSl1_i (h : W (lo r) (kSl2 x hi R E) E) : kSl1 lo hi R E x r := h
theorem kSl2_i (h : W (hi r) (kSl3 x o1 R) E) : kSl2 x hi R E o1 r := h
theorem kSl3_l (hs : SeqL x true ds) (h : R (.lst (fzs (cutD ds o1 o2))) r) : kSl3 x o1 R o2 r := ⟨_, by
  unfold oSl; rw [hs]; rfl, h⟩
theorem kSl3_t (h : R (.fz (.tup (cutD ds o1 o2))) r) : kSl3 (.fz (.tup ds)) o1 R o2 r := ⟨_, by
  have := SeqL.tp (ds := ds)
  unfold SeqL at this
  unfold oSl; rw [this]; rfl, h⟩
theorem kSl3_s {z : Str} {m : Nat} (hz : Wd m z) (hm : m ≤ 16777216) (h : Wd m (cutS z o1 o2) → R (.fz (.str (cutS z o1 o2))) r) : kSl3 (.fz (.str z)) o1 R o2 r := ⟨_, oSl_str (by have := hz.le; omega), h hz.cut⟩
def kSlP3 (i : Nat) (a : Option Int) (R : L → Rho → Prop) : Option Int → Rho → Prop := fun b r => ∃ x l, r[i]? = some (some x) ∧ oSl x a b = some l ∧ R l r
def kSlP2 (i : Nat) (hi : Bo) (R : L → Rho → Prop) (E : Exn → Rho → Prop) : Option Int → Rho → Prop := fun a r => W (hi r) (kSlP3 i a R) E
theorem W_eSlP (e : r[i]? = some (some l)) (h : W (lo r) (kSlP2 i hi R E) E) : W (eSlP i lo hi r) R E := by
  unfold eSlP
  rw [e]
  exact W.bind (h.mono (fun a r h => W.bind (h.mono (fun b r ⟨x, l, e, e2, q⟩ => by dsimp only; rw [e]; dsimp only; rw [e2]; exact ⟨q⟩) fun _ _ z => z)) fun _ _ z => z)
theorem kSlP2_i (h : W (hi r) (kSlP3 i o1 R) E) : kSlP2 i hi R E o1 r := h
theorem kSlP3_i (e : r[i]? = some (some x)) (h : kSl3 x o1 R o2 r) : kSlP3 i o1 R o2 r := by
  obtain ⟨l, e2, q⟩ := h
  exact ⟨x, l, e, e2, q⟩
/-! a < b < c -/
variable {F' : Fv} {k : Bool}
def kCh3 (y : L) (F' : Fv) (R : L → Rho → Prop) : L → Rho → Prop := fun z r => ∃ k, F' [y, z] = .ok (.fz (.bl k), [y, z]) ∧ R (.fz (.bl k)) r
def kCh2 (c : Ev) (x : L) (F F' : Fv) (R : L → Rho → Prop) (E : Exn → Rho → Prop) : L → Rho → Prop := fun y r => ∃ k, F [x, y] = .ok (.fz (.bl k), [x, y]) ∧ (k = true → W (c r) (kCh3 y F' R) E) ∧ (k = false → R (.fz (.bl false)) r)
def kCh1 (b c : Ev) (F F' : Fv) (R : L → Rho → Prop) (E : Exn → Rho → Prop) : L → Rho → Prop := fun x r => W (b r) (kCh2 c x F F' R E) E
theorem W_eCh (h : W (e1 r) (kCh1 e2 e3 F F' R E) E) : W (eCh e1 e2 e3 F F' r) R E := W.bind (h.mono (fun x r1 h => W.bind (h.mono (fun y r2 ⟨k, e, h1, h2⟩ => by
  dsimp only
  rw [e]
  cases k with
  | true =>
    refine W.bind ((h1 rfl).mono (fun z r3 ⟨k', e', q⟩ => ?_) fun _ _ z => z)
    dsimp only
    rw [e']
    exact ⟨q⟩
  | false => exact ⟨h2 rfl⟩) fun _ _ z => z)) fun _ _ z => z)
theorem kCh1_i (h : W (e2 r) (kCh2 e3 x F F' R E) E) : kCh1 e2 e3 F F' R E x r := h
theorem kCh2_b (e : F [x, y] = .ok (.fz (.bl k), [x, y])) (hb : Bd k p) (h1 : p → W (e3 r) (kCh3 y F' R) E) (h2 : ¬p → R (.fz (.bl false)) r) : kCh2 e3 x F F' R E y r :=
  ⟨k, e, fun z => h1 (hb.mp z), fun z => h2 fun w => by have := hb.mpr w; rw [z] at this; cases this⟩
theorem kCh3_i (e : F' [y, z] = .ok (.fz (.bl k), [y, z])) (h : R (.fz (.bl k)) r) : kCh3 y F' R z r := ⟨k, e, h⟩
/-! a < b < c < d -/
def kCd2 (c d : Ev) (x : L) (F F' F'' : Fv) (R : L → Rho → Prop) (E : Exn → Rho → Prop) : L → Rho → Prop := fun y r => ∃ k, F [x, y] = .ok (.fz (.bl k), [x, y]) ∧ (k = true → W (c r) (kCh2 d y F' F'' R E) E) ∧ (k = false → R (.fz (.bl false)) r)
def kCd1 (b c d : Ev) (F F' F'' : Fv) (R : L → Rho → Prop) (E : Exn → Rho → Prop) : L → Rho → Prop := fun x r => W (b r) (kCd2 c d x F F' F'' R E) E
theorem W_eCh4 {e4 : Ev} {F'' : Fv} (h : W (e1 r) (kCd1 e2 e3 e4 F F' F'' R E) E) : W (eCh4 e1 e2 e3 e4 F F' F'' r) R E := W.bind (h.mono (fun x r1 h => W.bind (h.mono (fun y r2 ⟨k, e, h1, h2⟩ => by
  dsimp only
  rw [e]
  cases k with
  | true =>
    refine W.bind ((h1 rfl).mono (fun z r3 ⟨k', e', h3, h4⟩ => ?_) fun _ _ z => z)
    dsimp only
    rw [e']
    cases k' with
    | true =>
      refine W.bind ((h3 rfl).mono (fun u r4 ⟨k2, e2, q⟩ => ?_) fun _ _ z => z)
      dsimp only
      rw [e2]
      exact ⟨q⟩
    | false => exact ⟨h4 rfl⟩
  | false => exact ⟨h2 rfl⟩) fun _ _ z => z)) fun _ _ z => z)
theorem kCd1_i {e4 : Ev} {F'' : Fv} (h : W (e2 r) (kCd2 e3 e4 x F F' F'' R E) E) : kCd1 e2 e3 e4 F F' F'' R E x r := h
theorem kCd2_b {e4 : Ev} {F'' : Fv} (e : F [x, y] = .ok (.fz (.bl k), [x, y])) (hb : Bd k p) (h1 : p → W (e3 r) (kCh2 e4 y F' F'' R E) E) (h2 : ¬p → R (.fz (.bl false)) r) : kCd2 e3 e4 x F F' F'' R E y r :=
  ⟨k, e, fun z => h1 (hb.mp z), fun z => h2 fun w => by have := hb.mpr w; rw [z] at this; cases this⟩
end
end Dl
namespace Dl
open PySem L2

section
variable {r r0 r1 r2 : Rho} {e e1 e2 e3 f g : Ev} {a : Av} {i j n : Nat} {F : Fv} {ms : List (Option Nat)} {l l' l0 x y z : L} {ls ls' : List L} {c c1 c2 : Tv} {b : Bv} {bs : Bvs} {s s1 s2 : Sv} {fi : Iv} {fl : Fl} {ct : Tv} {fe : Ev} {vs : List Nat}
  {Q : Fl → Rho → Prop} {R : L → Rho → Prop} {A : List L → Rho → Prop} {T : Bool → Rho → Prop} {J : List D → Rho → Prop} {E : Exn → Rho → Prop} {M : L → List L → Prop} {K N : Rho → Prop} {d : D} {ds es : List D} {p q : Prop} {t : Bool} {ks : List L} {pin : List Bool}

/-! loops -/
def kLp (N : Rho → Prop) (Q : Fl → Rho → Prop) : Fl → Rho → Prop := fun f r => match f with
  | .nx => N r
  | .cont => N r
  | .brk => Q .nx r
  | .ret l => Q (.ret l) r
theorem kLp_nx (h : N r) : kLp N Q .nx r := h
theorem kLp_cont (h : N r) : kLp N Q .cont r := h
theorem kLp_brk (h : Q .nx r) : kLp N Q .brk r := h
theorem kLp_ret (h : Q (.ret l) r) : kLp N Q (.ret l) r := h
def kBd (s : Sv) (N : Rho → Prop) (Q : Fl → Rho → Prop) (E : Exn → Rho → Prop) : Rho → Prop := fun r => W (s r) (kLp N Q) E
theorem kBd_i (h : W (s r) (kLp N Q) E) : kBd s N Q E r := h
theorem W_forL (P : Nat → Rho → Prop) (h0 : P 0 r) (hs : ∀ k r d, ds[k]? = some d → P k r → WB (b d r) (kBd s (P (k + 1)) Q E)) (hE : ∀ r, P ds.length r → Q .nx r) : W (forL b s ds r) Q E := by
  induction ds generalizing r P with
  | nil => exact ⟨hE _ h0⟩
  | cons d ds ih =>
    obtain ⟨r1, e1, h1⟩ := hs 0 r d rfl h0
    rw [forL, e1]
    refine W.bind (W.mono h1 (fun fl r2 h => ?_) fun _ _ z => z)
    have go : P 1 r2 → W (forL b s ds r2) Q E := fun h2 => ih (r := r2) (fun k r => P (k + 1) r) h2 (fun k r d' e h => hs (k + 1) r d' (by simpa using e) h) (fun r h => hE r (by simpa using h))
    cases fl with
    | nx => exact go h
    | cont => exact go h
    | brk => exact ⟨h⟩
    | ret l => exact ⟨h⟩
/-- over things that stand for others -/
theorem W_forM {α : Type} {xs : List α} {emb : α → D} (P : Nat → Rho → Prop) (h0 : P 0 r) (hs : ∀ k r x, xs[k]? = some x → P k r → WB (b (emb x) r) (kBd s (P (k + 1)) Q E)) (hE : ∀ r, P xs.length r → Q .nx r) : W (forL b s (xs.map emb) r) Q E :=
  W_forL P h0 (fun k r d e h => by
    rw [List.getElem?_map, Option.map_eq_some_iff] at e
    obtain ⟨x, e, rfl⟩ := e
    exact hs k r x e h) fun r h => hE r (by simpa using h)
/-- .. by what is gone through -/
theorem W_forP {α : Type} {xs : List α} {emb : α → D} (P : List α → Rho → Prop) (h0 : P [] r) (hs : ∀ pre x post r, xs = pre ++ x :: post → P pre r → WB (b (emb x) r) (kBd s (P (pre ++ [x])) Q E)) (hE : ∀ r, P xs r → Q .nx r) : W (forL b s (xs.map emb) r) Q E :=
  W_forM (fun k r => P (xs.take k) r) (by simpa using h0) (fun k r x e h => by
    obtain ⟨hk, rfl⟩ := List.getElem?_eq_some_iff.mp e
    have := hs (xs.take k) xs[k] (xs.drop (k + 1)) r (by rw [List.getElem_cons_drop, List.take_append_drop]) h
    rw [List.take_succ_eq_append_getElem hk]
    exact this) fun r h => hE r (by simpa using h)
theorem W_forR (P : Nat → Rho → Prop) (h0 : P 0 r) (hs : ∀ (k : Nat) r, k < n → P k r → WB (b (.int (k : Int)) r) (kBd s (P (k + 1)) Q E)) (hE : ∀ r, P n r → Q .nx r) : W (forL b s (rngD 0 n) r) Q E :=
  W_forL P h0 (fun k r d e h => by
    obtain ⟨rfl, hk⟩ := rngD_at e
    rw [Int.zero_add]
    exact hs k r hk h) fun r h => hE r (by simpa using h)
theorem W_forR2 {lo : Int} (P : Nat → Rho → Prop) (h0 : P 0 r) (hs : ∀ (k : Nat) r, k < n → P k r → WB (b (.int (lo + (k : Int))) r) (kBd s (P (k + 1)) Q E)) (hE : ∀ r, P n r → Q .nx r) : W (forL b s (rngD lo n) r) Q E :=
  W_forL P h0 (fun k r d e h => by
    obtain ⟨rfl, hk⟩ := rngD_at e
    exact hs k r hk h) fun r h => hE r (by simpa using h)
theorem enumD_at2 : ∀ {ds : List D} {m k : Nat} {d : D}, (enumD m ds)[k]? = some d → ∃ d', ds[k]? = some d' ∧ d = .tup [.int ((m + k : Nat)), d']
  | [], _, _, _, h => by simp [enumD] at h
  | d :: ds, m, 0, _, h => by simp [enumD] at h; subst h; exact ⟨d, rfl, rfl⟩
  | d :: ds, m, k + 1, _, h => by
    obtain ⟨d', e, rfl⟩ := enumD_at2 (ds := ds) (m := m + 1) (k := k) (by simpa [enumD] using h)
    exact ⟨d', by simpa using e, by rw [show m + 1 + k = m + (k + 1) by omega]⟩
theorem enumD_len2 : ∀ {ds : List D} {m : Nat}, (enumD m ds).length = ds.length
  | [], _ => rfl
  | _ :: ds, m => by simp [enumD, enumD_len2 (ds := ds)]
theorem W_forE {α : Type} {xs : List α} {emb : α → D} (P : Nat → Rho → Prop) (h0 : P 0 r) (hs : ∀ k r x, xs[k]? = some x → P k r → WB (b (.tup [.int (k : Nat), emb x]) r) (kBd s (P (k + 1)) Q E)) (hE : ∀ r, P xs.length r → Q .nx r) : W (forL b s (enumD 0 (xs.map emb)) r) Q E :=
  W_forL P h0 (fun k r d e h => by
    obtain ⟨d', e2, rfl⟩ := enumD_at2 e
    rw [List.getElem?_map, Option.map_eq_some_iff] at e2
    obtain ⟨x, e, rfl⟩ := e2
    rw [Nat.zero_add]
    exact hs k r x (by assumption) h) fun r h => hE r (by rw [enumD_len2, List.length_map] at h; exact h)
theorem zipD_at2 : ∀ {ds es : List D} {k : Nat} {d : D}, (zipD ds es)[k]? = some d → ∃ d1 d2, ds[k]? = some d1 ∧ es[k]? = some d2 ∧ d = .tup [d1, d2]
  | [], _, _, _, h => by simp [zipD] at h
  | _ :: _, [], _, _, h => by simp [zipD] at h
  | d1 :: ds, d2 :: es, 0, _, h => by simp [zipD] at h; subst h; exact ⟨d1, d2, rfl, rfl, rfl⟩
  | d1 :: ds, d2 :: es, k + 1, _, h => by
    obtain ⟨a, b, e1, e2, rfl⟩ := zipD_at2 (ds := ds) (es := es) (k := k) (by simpa [zipD] using h)
    exact ⟨a, b, by simpa using e1, by simpa using e2, rfl⟩
theorem zipD_len2 : ∀ {ds es : List D}, (zipD ds es).length = min ds.length es.length
  | [], _ => by simp [zipD]
  | _ :: _, [] => by simp [zipD]
  | _ :: ds, _ :: es => by simp only [zipD, List.length_cons, zipD_len2 (ds := ds)]; omega
theorem W_forZ {α β : Type} {xs : List α} {ys : List β} {ea : α → D} {eb : β → D} (P : Nat → Rho → Prop) (h0 : P 0 r) (hs : ∀ k r x y, xs[k]? = some x → ys[k]? = some y → P k r → WB (b (.tup [ea x, eb y]) r) (kBd s (P (k + 1)) Q E)) (hE : ∀ r, P (min xs.length ys.length) r → Q .nx r) : W (forL b s (zipD (xs.map ea) (ys.map eb)) r) Q E :=
  W_forL P h0 (fun k r d e h => by
    obtain ⟨d1, d2, e1, e2, rfl⟩ := zipD_at2 e
    rw [List.getElem?_map, Option.map_eq_some_iff] at e1 e2
    obtain ⟨x, e1, rfl⟩ := e1
    obtain ⟨y, e2, rfl⟩ := e2
    exact hs k r x y e1 e2 h) fun r h => hE r (by rw [zipD_len2, List.length_map, List.length_map] at h; exact h)
/-- over a slot's own list, which stays -/
theorem W_forPl (P : Nat → Rho → Prop) (e0 : r[i]? = some (some (.lst (fzs ds)))) (h0 : P 0 r) (hs : ∀ k r d, ds[k]? = some d → P k r → WB (b d r) (kBd s (P (k + 1)) Q E)) (hl : ∀ k r, k ≤ ds.length → P k r → r[i]? = some (some (.lst (fzs ds)))) (hE : ∀ r, P ds.length r → Q .nx r) : W (gForP i b s r) Q E := by
  unfold gForP
  rw [e0]
  dsimp only
  have go : ∀ m r, m ≤ ds.length → P (ds.length - m) r → W (forP i b s (fzs ds).length m r) Q E := fun m => by
    induction m with
    | zero =>
      intro r _ h
      rw [forP, hl _ _ (by omega) h]
      simp only [if_true]
      exact ⟨hE r h⟩
    | succ m ih =>
      intro r hm h
      have hk : ds.length - (m + 1) < ds.length := by omega
      obtain ⟨r1, e1, h1⟩ := hs (ds.length - (m + 1)) r ds[ds.length - (m + 1)] (by simp [hk]) h
      have eg : (fzs ds)[(fzs ds).length - (m + 1)]? = some (.fz ds[ds.length - (m + 1)]) := by
        rw [fzs_at, fzs_length, List.getElem?_eq_getElem hk]; rfl
      rw [forP, hl _ _ (by omega) h]
      simp only [if_true, eg, e1]
      refine W.bind (W.mono h1 (fun fl r2 h => ?_) fun _ _ z => z)
      have es : ds.length - (m + 1) + 1 = ds.length - m := by omega
      rw [es] at h
      cases fl with
      | nx => exact ih r2 (by omega) h
      | cont => exact ih r2 (by omega) h
      | brk => exact ⟨h⟩
      | ret l => exact ⟨h⟩
  have := go ds.length r (Nat.le_refl _) (by rw [Nat.sub_self]; exact h0)
  rw [fzs_length] at this ⊢
  exact this
theorem W_forPM {α : Type} {xs : List α} {emb : α → D} (P : Nat → Rho → Prop) (e0 : r[i]? = some (some (.lst (fzs (xs.map emb))))) (h0 : P 0 r) (hs : ∀ k r x, xs[k]? = some x → P k r → WB (b (emb x) r) (kBd s (P (k + 1)) Q E)) (hl : ∀ k r, k ≤ xs.length → P k r → r[i]? = some (some (.lst (fzs (xs.map emb))))) (hE : ∀ r, P xs.length r → Q .nx r) : W (gForP i b s r) Q E :=
  W_forPl P e0 h0 (fun k r d e h => by
    rw [List.getElem?_map, Option.map_eq_some_iff] at e
    obtain ⟨x, e, rfl⟩ := e
    exact hs k r x e h) (fun k r hk h => hl k r (by simpa using hk) h) fun r h => hE r (by rw [List.length_map] at h; exact h)
theorem W_forPf (e0 : r[i]? = some (some (.fz d))) (h : W (gFor (iItem (eV i)) b s r) Q E) : W (gForP i b s r) Q E := by
  unfold gForP
  rw [e0]
  exact h
/-- while -/
def kWh (s : Sv) (N : Rho → Prop) (Q : Fl → Rho → Prop) (E : Exn → Rho → Prop) : Bool → Rho → Prop := fun t r => if t then W (s r) (kLp N Q) E else Q .nx r
theorem kWh_b (hb : Bd t p) (h1 : p → W (s r) (kLp N Q) E) (h2 : ¬p → Q .nx r) : kWh s N Q E t r := by
  cases t with
  | true => exact h1 (hb.mp rfl)
  | false => exact h2 fun z => by have := hb.mpr z; cases this
theorem kWh_t (h1 : W (s r) (kLp N Q) E) : kWh s N Q E true r := h1
theorem kWh_f (h1 : Q .nx r) : kWh s N Q E false r := h1
theorem W_while (P : Nat → Rho → Prop) (n : Nat) (h0 : P n r) (hs : ∀ n r, P n r → W (c r) (kWh s (fun r => ∃ m, m < n ∧ P m r) Q E) E) : W (gWhile c s r) Q E := by
  induction n using Nat.strongRecOn generalizing r with
  | ind n ih =>
    rw [gWhile_eq]
    refine W.bind (W.mono (hs n r h0) (fun t r1 h => ?_) fun _ _ z => z)
    cases t with
    | false => exact ⟨h⟩
    | true =>
      refine W.bind (W.mono h (fun fl r2 h => ?_) fun _ _ z => z)
      cases fl with
      | nx => obtain ⟨m, hm, h⟩ := h; exact ih m hm h
      | cont => obtain ⟨m, hm, h⟩ := h; exact ih m hm h
      | brk => exact ⟨h⟩
      | ret l => exact ⟨h⟩

/-! comprehensions -/
def WpR (r : Rho) (vs : List Nat) (r' : Rho) : Prop := wipeR r vs = r'
theorem WpR.nil : WpR r [] r := rfl
theorem WpR.cons {v : Nat} (h : WpR r vs r1) (s : SetR r1 v none r2) : WpR r (v :: vs) r2 := by
  unfold WpR at *
  rw [wipeR_cons, h, s.2]
def kLc (vs : List Nat) (b : Bv) (ct : Tv) (fe : Ev) (R : L → Rho → Prop) (E : Exn → Rho → Prop) : List D → Rho → Prop := fun ds r => ds.length ≤ sizeLine ∧ W (lcL b ct fe vs ds (wipeR r vs)) (fun es r' => R (.lst (fzs es)) (wipeR r' vs)) E
theorem W_lc (h : W (fi r) (kLc vs b ct fe R E) E) : W (eLc vs fi b ct fe r) R E := W.bind (W.mono h (fun ds r ⟨hl, h⟩ => by
  dsimp only
  rw [if_pos hl]
  exact W.bind0 h) fun _ _ z => z)
def itL : L → Option (List D) := itO
def kBk (i : Nat) (l : L) (R : L → Rho → Prop) : L → Rho → Prop := fun l' r => ∃ r', SetR r i (some l) r' ∧ R l' r'
theorem kBk_i (s : SetR r i (some l) r1) (h : R l' r1) : kBk i l R l' r := ⟨r1, s, h⟩
theorem W_lcP {i : Nat} (e : r[i]? = some (some l)) (ei : itO l = some ds) (s : SetR r i none r1) (h : kLc vs b ct fe (kBk i l R) E ds r1) : W (eLcP vs i (iOwn i) b ct fe r) R E := by
  unfold eLcP iOwn
  rw [e]
  dsimp only
  rw [ei]
  simp only [Out.bind_ok]
  rw [if_pos h.1, s.2]
  refine W.bind (W.mono h.2 (fun es r' ⟨r2, s2, q⟩ => ?_) fun _ _ z => z)
  dsimp only
  rw [s2.2]
  exact ⟨q⟩
/-- one item's end -/
def kLcE (N : List D → Rho → Prop) (vs : List Nat) (acc : List D) : L → Rho → Prop := fun l r => N (acc ++ [l.toD]) (wipeR r vs)
theorem kLcE_i {N : List D → Rho → Prop} {acc : List D} (w : WpR r vs r1) (h : N (acc ++ [d]) r1) : kLcE N vs acc (.fz d) r := by
  unfold kLcE
  rw [w]
  exact h
theorem kLcE_o {N : List D → Rho → Prop} {acc : List D} (w : WpR r vs r1) (h : N (acc ++ [.lst ds]) r1) : kLcE N vs acc (.lst (fzs ds)) r := by
  unfold kLcE
  rw [w, toD_lst, fzs_toD]
  exact h
def kLcT (fe : Ev) (vs : List Nat) (N : List D → Rho → Prop) (acc : List D) : Bool → Rho → Prop := fun t r => if t then W (fe r) (kLcE N vs acc) nE else N acc (wipeR r vs)
theorem kLcT_t {N : List D → Rho → Prop} {acc : List D} (h : W (fe r) (kLcE N vs acc) nE) : kLcT fe vs N acc true r := h
theorem kLcT_f {N : List D → Rho → Prop} {acc : List D} (w : WpR r vs r1) (h : N acc r1) : kLcT fe vs N acc false r := by
  have : N acc (wipeR r vs) := by rw [w]; exact h
  exact this
theorem kLcT_b {N : List D → Rho → Prop} {acc : List D} (hb : Bd t p) (w : WpR r vs r1) (h1 : p → W (fe r) (kLcE N vs acc) nE) (h2 : ¬p → N acc r1) : kLcT fe vs N acc t r := by
  cases t with
  | true => exact h1 (hb.mp rfl)
  | false => exact kLcT_f w (h2 fun z => by have := hb.mpr z; cases this)
def kLcB (ct : Tv) (fe : Ev) (vs : List Nat) (N : List D → Rho → Prop) (acc : List D) : Rho → Prop := fun r => W (ct r) (kLcT fe vs N acc) nE
theorem kLcB_i {N : List D → Rho → Prop} {acc : List D} (h : W (ct r) (kLcT fe vs N acc) nE) : kLcB ct fe vs N acc r := h
def kWp (vs : List Nat) (R : L → Rho → Prop) : L → Rho → Prop := fun l r => R l (wipeR r vs)
theorem kWp_i (w : WpR r vs r1) (h : R l r1) : kWp vs R l r := by
  unfold kWp
  rw [w]
  exact h
theorem kLc_L (P : Nat → List D → Rho → Prop) (hl : ds.length ≤ 16777216) (w : WpR r vs r0) (h0 : P 0 [] r0) (hs : ∀ k acc r d, ds[k]? = some d → P k acc r → WB (b d r) (kLcB ct fe vs (P (k + 1)) acc)) (hE : ∀ es r, P ds.length es r → kWp vs R (.lst (fzs es)) r) : kLc vs b ct fe R E ds r := by
  refine ⟨by rw [sizeLine_eq]; exact hl, ?_⟩
  rw [w]
  obtain ⟨es, r', e, h⟩ := lcL_inv (b := b) (ct := ct) (fe := fe) (vs := vs) (ds := ds) (r := r0) P (fun k acc r d e h => by
    obtain ⟨r1, e1, h1⟩ := hs k acc r d e h
    obtain ⟨t, r2, e2, h2⟩ := W.got h1
    refine ⟨r1, t, r2, e1, e2, fun ht => ?_, fun hf => ?_⟩
    · subst ht
      obtain ⟨l, r3, e3, h3⟩ := W.got (show W (fe r2) (kLcE (P (k + 1)) vs acc) nE from h2)
      exact ⟨l, r3, e3, h3⟩
    · subst hf; exact h2) h0
  exact W.of_eq e (hE es r' h)
theorem kLc_M {α : Type} {xs : List α} {emb : α → D} (P : Nat → List D → Rho → Prop) (hl : xs.length ≤ 16777216) (w : WpR r vs r0) (h0 : P 0 [] r0) (hs : ∀ k acc r x, xs[k]? = some x → P k acc r → WB (b (emb x) r) (kLcB ct fe vs (P (k + 1)) acc)) (hE : ∀ es r, P xs.length es r → kWp vs R (.lst (fzs es)) r) : kLc vs b ct fe R E (xs.map emb) r :=
  kLc_L P (by simpa using hl) w h0 (fun k acc r d e h => by
    rw [List.getElem?_map, Option.map_eq_some_iff] at e
    obtain ⟨x, e, rfl⟩ := e
    exact hs k acc r x e h) fun es r h => hE es r (by simpa using h)
theorem kLc_R (P : Nat → List D → Rho → Prop) (hl : n ≤ 16777216) (w : WpR r vs r0) (h0 : P 0 [] r0) (hs : ∀ (k : Nat) acc r, k < n → P k acc r → WB (b (.int (k : Int)) r) (kLcB ct fe vs (P (k + 1)) acc)) (hE : ∀ es r, P n es r → kWp vs R (.lst (fzs es)) r) : kLc vs b ct fe R E (rngD 0 n) r :=
  kLc_L P (by simpa using hl) w h0 (fun k acc r d e h => by
    obtain ⟨rfl, hk⟩ := rngD_at e
    rw [Int.zero_add]
    exact hs k acc r hk h) fun es r h => hE es r (by simpa using h)
/-- each item by itself, the slots as they were -/
def kXE (v : D) (vs : List Nat) (r0 : Rho) : L → Rho → Prop := fun l r => l.toD = v ∧ WpR r vs r0
theorem kXE_i (w : WpR r vs r0) (e : d = d') : kXE d' vs r0 (.fz d) r := ⟨e, w⟩
theorem kXE_o (w : WpR r vs r0) (e : .lst ds = d') : kXE d' vs r0 (.lst (fzs ds)) r := ⟨by rw [toD_lst, fzs_toD]; exact e, w⟩
def kXT (fe : Ev) (p : Prop) (v : D) (vs : List Nat) (r0 : Rho) : Bool → Rho → Prop := fun t r => Bd t p ∧ (p → W (fe r) (kXE v vs r0) nE) ∧ WpR r vs r0
theorem kXT_b (hb : Bd t p) (w : WpR r vs r0) (h : p → W (fe r) (kXE d vs r0) nE) : kXT fe p d vs r0 t r := ⟨hb, h, w⟩
theorem kXT_t (w : WpR r vs r0) (h : p) (k : W (fe r) (kXE d vs r0) nE) : kXT fe p d vs r0 true r := ⟨by simp [Bd, h], fun _ => k, w⟩
theorem kXT_f (w : WpR r vs r0) (h : ¬p) : kXT fe p d vs r0 false r := ⟨by simp [Bd, h], fun z => (h z).elim, w⟩
def kXB (ct : Tv) (fe : Ev) (p : Prop) (v : D) (vs : List Nat) (r0 : Rho) : Rho → Prop := fun r => W (ct r) (kXT fe p v vs r0) nE
theorem kXB_i (h : W (ct r) (kXT fe p d vs r0) nE) : kXB ct fe p d vs r0 r := h
theorem kLc_X {α : Type} {xs : List α} {emb : α → D} (p : α → Prop) [DecidablePred p] (g : α → D) (hl : xs.length ≤ 16777216) (w : WpR r vs r0) (w2 : WpR r0 vs r0) (hs : ∀ x ∈ xs, WB (b (emb x) r0) (kXB ct fe (p x) (g x) vs r0)) (hE : R (.lst (fzs ((xs.filter fun x => decide (p x)).map g))) r0) : kLc vs b ct fe R E (xs.map emb) r := by
  refine kLc_M (fun k acc r => acc = ((xs.take k).filter fun x => decide (p x)).map g ∧ r = r0) hl w (by simp) (fun k acc r x e h => ?_) fun es r h => ?_
  · obtain ⟨rfl, rfl⟩ := h
    obtain ⟨hk, rfl⟩ := List.getElem?_eq_some_iff.mp e
    obtain ⟨r1, e1, h1⟩ := hs xs[k] (List.mem_of_getElem? e)
    refine ⟨r1, e1, W.mono h1 (fun t r2 h2 => ?_) fun _ _ z => z⟩
    obtain ⟨hb, h2, w3⟩ := h2
    refine kLcT_b hb w3 (fun hp => W.mono (h2 hp) (fun l r3 h3 => ?_) fun _ _ z => z) fun hp => ?_
    · unfold kLcE
      rw [h3.2, h3.1]
      refine ⟨?_, rfl⟩
      rw [List.take_succ_eq_append_getElem hk, List.filter_append, List.map_append]
      congr 1
      simp only [List.filter_cons, decide_eq_true hp, if_true, List.filter_nil, List.map_cons, List.map_nil]
    · refine ⟨?_, rfl⟩
      rw [List.take_succ_eq_append_getElem hk, List.filter_append, List.map_append]
      simp only [List.filter_cons, decide_eq_false hp, Bool.false_eq_true, if_false, List.filter_nil, List.map_nil, List.append_nil]
  · obtain ⟨rfl, rfl⟩ := h
    unfold kWp
    rw [List.take_length, w2]
    exact hE
theorem kLc_XR (p : Nat → Prop) [DecidablePred p] (g : Nat → D) (hl : n ≤ 16777216) (w : WpR r vs r0) (w2 : WpR r0 vs r0) (hs : ∀ k, k < n → WB (b (.int (k : Int)) r0) (kXB ct fe (p k) (g k) vs r0)) (hE : R (.lst (fzs (((List.range n).filter fun x => decide (p x)).map g))) r0) : kLc vs b ct fe R E (rngD 0 n) r := by
  have e : rngD 0 n = (List.range n).map fun (k : Nat) => D.int (k : Int) := by unfold rngD; simp
  rw [e]
  exact kLc_X p g (by simpa using hl) w w2 (fun k hk => hs k (by simpa using hk)) hE

theorem WB_lst (hn : ds.length = n) (h : WB (bs ds r) K) : WB (bLst bs n (.lst ds) r) K := by
  obtain ⟨r1, e, k⟩ := h
  exact ⟨r1, by unfold bLst; dsimp only; rw [if_pos hn, e], k⟩
/-! what stands behind in -/
def kIt (J : List D → Rho → Prop) : L → Rho → Prop := fun l r => ∃ ds, itD l.toD = some ds ∧ J ds r
theorem W_iItem (h : W (f r) (kIt J) E) : W (iItem f r) J E := W.bind (W.mono h (fun l r ⟨ds, e, q⟩ => by dsimp only; rw [e]; exact ⟨q⟩) fun _ _ z => z)
theorem kIt_l (h : J ds r) : kIt J (.fz (.lst ds)) r := ⟨ds, rfl, h⟩
theorem kIt_t (h : J ds r) : kIt J (.fz (.tup ds)) r := ⟨ds, rfl, h⟩
theorem kIt_k (h : J ds r) : kIt J (.fz (.ktp ds)) r := ⟨ds, rfl, h⟩
theorem kIt_s {ns : List Int} (h : J (ns.map D.int) r) : kIt J (.fz (.scr ns)) r := ⟨_, rfl, h⟩
theorem kIt_z {z : Str} (h : J (z.cps.toList.map fun c => .str ⟨#[c]⟩) r) : kIt J (.fz (.str z)) r := ⟨_, rfl, h⟩
theorem kIt_o (h : J ds r) : kIt J (.lst (fzs ds)) r := ⟨ds, by rw [toD_lst, fzs_toD]; rfl, h⟩
abbrev Lim (i : Int) : Prop := -(2 ^ 62) ≤ i ∧ i < 2 ^ 62
theorem Lim.lim {i : Int} (h : Lim i) : lim i = true := by
  unfold Dl.lim
  rw [decide_eq_true h.1, decide_eq_true h.2]
  rfl
def kR1 (J : List D → Rho → Prop) : L → Rho → Prop := fun l r => ∃ j, l = .fz (.int j) ∧ lim j = true ∧ J (rngD 0 j.toNat) r
theorem W_iR1 (h : W (e r) (kR1 J) E) : W (iR1 (aV e aNil) r) J E := W.bind (W_aV (W.mono h (fun l r ⟨j, e, hl, q⟩ => by
  subst e
  refine W_aNil ?_
  show W (if lim j = true then _ else _) J E
  rw [if_pos hl]
  exact ⟨q⟩) fun _ _ z => z))
theorem kR1_i {m : Int} (h : (-4611686018427387904 ≤ m ∧ m < 4611686018427387904) ∧ J (rngD 0 m.toNat) r) : kR1 J (.fz (.int m)) r := ⟨m, rfl, (Lim.lim ⟨by have := h.1; omega, by have := h.1; omega⟩), h.2⟩
theorem kR1_n {m : Nat} (h : (-4611686018427387904 ≤ (m : Int) ∧ (m : Int) < 4611686018427387904) ∧ J (rngD 0 m) r) : kR1 J (.fz (.int (m : Int))) r := ⟨m, rfl, (Lim.lim ⟨by have := h.1; omega, by have := h.1; omega⟩), by rw [Int.toNat_natCast]; exact h.2⟩
def kR2b (x : L) (J : List D → Rho → Prop) : L → Rho → Prop := fun l r => ∃ i j, x = .fz (.int i) ∧ l = .fz (.int j) ∧ lim i = true ∧ lim j = true ∧ J (rngD i (j - i).toNat) r
def kR2 (e : Ev) (J : List D → Rho → Prop) (E : Exn → Rho → Prop) : L → Rho → Prop := fun x r => W (e r) (kR2b x J) E
theorem W_iR2 (h : W (e1 r) (kR2 e2 J E) E) : W (iR2 (aV e1 (aV e2 aNil)) r) J E := W.bind (W_aV (W.mono h (fun x r h => W_aV (W.mono h (fun l r ⟨i, j, e, e', hi, hj, q⟩ => by
  subst e; subst e'
  refine W_aNil ?_
  show W (if (lim i && lim j) = true then _ else _) J E
  rw [hi, hj]
  exact ⟨q⟩) fun _ _ z => z)) fun _ _ z => z))
theorem kR2_i (h : W (e r) (kR2b x J) E) : kR2 e J E x r := h
theorem kR2b_i {m k : Int} (h : ((-4611686018427387904 ≤ m ∧ m < 4611686018427387904) ∧ (-4611686018427387904 ≤ k ∧ k < 4611686018427387904)) ∧ J (rngD m (k - m).toNat) r) : kR2b (.fz (.int m)) J (.fz (.int k)) r := ⟨m, k, rfl, rfl, (Lim.lim ⟨by have := h.1.1; omega, by have := h.1.1; omega⟩), (Lim.lim ⟨by have := h.1.2; omega, by have := h.1.2; omega⟩), h.2⟩
def kEn (J : List D → Rho → Prop) : L → Rho → Prop := fun l r => ∃ b ds, sqD l.toD = some (b, ds) ∧ J (enumD 0 ds) r
theorem W_iEnum (h : W (f r) (kEn J) E) : W (iEnA f r) J E := W.bind (W.mono h (fun l r ⟨b, ds, e, q⟩ => by dsimp only; rw [e]; exact ⟨q⟩) fun _ _ z => z)
theorem kEn_l (h : J (enumD 0 ds) r) : kEn J (.fz (.lst ds)) r := ⟨true, ds, by simp, h⟩
theorem kEn_t (h : J (enumD 0 ds) r) : kEn J (.fz (.tup ds)) r := ⟨false, ds, by simp, h⟩
theorem kEn_o (h : J (enumD 0 ds) r) : kEn J (.lst (fzs ds)) r := ⟨true, ds, by rw [toD_lst, fzs_toD]; simp, h⟩
def kRvI (J : List D → Rho → Prop) : L → Rho → Prop := fun l r => ∃ b ds, sqD l.toD = some (b, ds) ∧ J ds.reverse r
theorem W_iRevD (h : W (f r) (kRvI J) E) : W (iRevD f r) J E := W.bind (W.mono h (fun l r ⟨b, ds, e, q⟩ => by dsimp only; rw [e]; exact ⟨q⟩) fun _ _ z => z)
theorem kRvI_l (h : J ds.reverse r) : kRvI J (.fz (.lst ds)) r := ⟨true, ds, by simp, h⟩
theorem kRvI_t (h : J ds.reverse r) : kRvI J (.fz (.tup ds)) r := ⟨false, ds, by simp, h⟩
theorem kRvI_o (h : J ds.reverse r) : kRvI J (.lst (fzs ds)) r := ⟨true, ds, by rw [toD_lst, fzs_toD]; simp, h⟩
def ZipR (x y : L) (ds : List D) : Prop := ∃ b a c, sqD x.toD = some (b, a) ∧ sqD y.toD = some (b, c) ∧ ds = zipD a c
def kZ2 (x : L) (J : List D → Rho → Prop) : L → Rho → Prop := fun y r => ∃ ds, ZipR x y ds ∧ J ds r
def kZ1 (e : Ev) (J : List D → Rho → Prop) (E : Exn → Rho → Prop) : L → Rho → Prop := fun x r => W (e r) (kZ2 x J) E
theorem W_iZip (h : W (e1 r) (kZ1 e2 J E) E) : W (iZipD (aV e1 (aV e2 aNil)) r) J E := W.bind (W_aV (W.mono h (fun x r h => W_aV (W.mono h (fun l r ⟨ds, ⟨b, a, c, e, e', ed⟩, q⟩ => by
  subst ed
  refine W_aNil ?_
  dsimp only [kA2]
  rw [e, e']
  dsimp only
  rw [if_pos rfl]
  exact ⟨q⟩) fun _ _ z => z)) fun _ _ z => z))
theorem kZ1_i (h : W (e r) (kZ2 x J) E) : kZ1 e J E x r := h
theorem kZ2_ll (h : J (zipD ds es) r) : kZ2 (.fz (.lst ds)) J (.fz (.lst es)) r := ⟨_, ⟨true, ds, es, by simp, by simp, rfl⟩, h⟩
theorem kZ2_tt (h : J (zipD ds es) r) : kZ2 (.fz (.tup ds)) J (.fz (.tup es)) r := ⟨_, ⟨false, ds, es, by simp, by simp, rfl⟩, h⟩
theorem kZ2_lo (h : J (zipD ds es) r) : kZ2 (.fz (.lst ds)) J (.lst (fzs es)) r := ⟨_, ⟨true, ds, es, by simp, by rw [toD_lst, fzs_toD]; simp, rfl⟩, h⟩
theorem kZ2_ol (h : J (zipD ds es) r) : kZ2 (.lst (fzs ds)) J (.fz (.lst es)) r := ⟨_, ⟨true, ds, es, by rw [toD_lst, fzs_toD]; simp, by simp, rfl⟩, h⟩
theorem kZ2_oo (h : J (zipD ds es) r) : kZ2 (.lst (fzs ds)) J (.lst (fzs es)) r := ⟨_, ⟨true, ds, es, by rw [toD_lst, fzs_toD]; simp, by rw [toD_lst, fzs_toD]; simp, rfl⟩, h⟩
/-- list(range(n)), tuple(range(n)) -/
def kRg (lst : Bool) (R : L → Rho → Prop) : L → Rho → Prop := fun l r => ∃ j : Int, l = .fz (.int j) ∧ rgOk1 j = true ∧ R (if lst then .lst (fzs (rngD 0 j.toNat)) else .fz (.tup (rngD 0 j.toNat))) r
theorem W_eRg1 {lst : Bool} (h : W (f r) (kRg lst R) E) : W (eRg1 lst f r) R E := W.bind (W.mono h (fun l r ⟨j, e, hj, q⟩ => by
  subst e
  simp only [asI_int]
  rw [if_pos hj]
  exact ⟨q⟩) fun _ _ z => z)
theorem kRg_l {m : Nat} (h : m ≤ 16777216 ∧ R (.lst (fzs (rngD 0 m))) r) : kRg true R (.fz (.int (m : Int))) r := ⟨m, rfl, by
  have := h.1
  unfold rgOk1
  rw [decide_eq_true (by omega), decide_eq_true (by omega), decide_eq_true (by rw [Int.toNat_natCast]; exact h.1)]
  rfl, by rw [Int.toNat_natCast]; exact h.2⟩
theorem kRg_t {m : Nat} (h : m ≤ 16777216 ∧ R (.fz (.tup (rngD 0 m))) r) : kRg false R (.fz (.int (m : Int))) r := ⟨m, rfl, by
  have := h.1
  unfold rgOk1
  rw [decide_eq_true (by omega), decide_eq_true (by omega), decide_eq_true (by rw [Int.toNat_natCast]; exact h.1)]
  rfl, by rw [Int.toNat_natCast]; exact h.2⟩

/-! a def's entry and end -/
def OutR (pin : List Bool) (ls : List L) (r : Rho) (ls' : List L) : Prop := outs pin ls r = some ls'
theorem OutR.nil : OutR [] [] r [] := outs_0
theorem OutR.tt (h : OutR pin ls r ls') : OutR (true :: pin) (x :: ls) (some l :: r) (l :: ls') := by
  unfold OutR at *
  rw [outs_t, h]; rfl
theorem OutR.ff {o : Option L} (h : OutR pin ls r ls') : OutR (false :: pin) (.fz d :: ls) (o :: r) (.fz d :: ls') := by
  unfold OutR at *
  rw [outs_f, h]; rfl
def kFin (pin : List Bool) (ls : List L) (M : L → List L → Prop) : Fl → Rho → Prop := fun f r => match f with
  | .ret l => ∃ ls', OutR pin ls r ls' ∧ M l ls'
  | .nx => ∃ ls', OutR pin ls r ls' ∧ M (.fz .non) ls'
  | _ => False
theorem kFin_ret (o : OutR pin ls r ls') (h : M l ls') : kFin pin ls M (.ret l) r := ⟨_, o, h⟩
theorem kFin_nx (o : OutR pin ls r ls') (h : M (.fz .non) ls') : kFin pin ls M .nx r := ⟨_, o, h⟩
theorem W_dF0 {body : Sv} {E : Exn → List L → Prop} (h : (decide (ls.length = pin.length) && decide (pin.length ≤ n)) = true) (e : ls.map some ++ List.replicate (n - ls.length) none = r) (k : W (body r) (kFin pin ls M) nE) : W (dF0 n pin body ls) M E := by
  rw [dF0_run h, e]
  obtain ⟨fl, r', e1, h1⟩ := W.got k
  rw [e1]
  cases fl with
  | nx => obtain ⟨ls', o, m⟩ := h1; exact W.of_eq (by rw [fin0_nx, o]) m
  | ret l => obtain ⟨ls', o, m⟩ := h1; exact W.of_eq (by rw [fin0_ret, o]) m
  | brk => exact h1.elim
  | cont => exact h1.elim
end

/-! ### operations -/
section
variable {i j m : Int} {x y z : Str} {p q b : Bool} {ks : List L} {ds es : List D} {d d' : D} {l : L} {M : L → List L → Prop} {E : Exn → List L → Prop} {n k : Nat}
theorem W_addI (h : M (.fz (.int (i + j))) [.fz (.int i), .fz (.int j)]) : W (oAdd [.fz (.int i), .fz (.int j)]) M E := ⟨h⟩
theorem W_subI (h : M (.fz (.int (i - j))) [.fz (.int i), .fz (.int j)]) : W (oSub [.fz (.int i), .fz (.int j)]) M E := ⟨h⟩
theorem W_mulI (h : ((-(2 ^ 64) < i ∧ i < 2 ^ 64) ∨ (-(2 ^ 64) < j ∧ j < 2 ^ 64)) ∧ M (.fz (.int (i * j))) [.fz (.int i), .fz (.int j)]) : W (oMulA [.fz (.int i), .fz (.int j)]) M E := by
  rcases h.1 with g | g
  · exact W.of_eq (oMulA_l g.1 g.2) h.2
  · exact W.of_eq (oMulA_r g.1 g.2) h.2
/-- by a literal: decided -/
theorem W_mulIr {n : Nat} (hj : Nat.blt n 18446744073709551616 = true) (h : M (.fz (.int (i * (@OfNat.ofNat Int n _)))) [.fz (.int i), .fz (.int (@OfNat.ofNat Int n _))]) : W (oMulA [.fz (.int i), .fz (.int (@OfNat.ofNat Int n _))]) M E := by
  have hn : n < 18446744073709551616 := by simpa [Nat.blt_eq] using hj
  have e : (@OfNat.ofNat Int n _) = (n : Int) := rfl
  exact W.of_eq (oMulA_r (by rw [e]; omega) (by rw [e]; omega)) h
theorem W_modI (h : 0 < j ∧ (0 ≤ i % j → i % j < j → M (.fz (.int (i % j))) [.fz (.int i), .fz (.int j)])) : W (oMod [.fz (.int i), .fz (.int j)]) M E :=
  W.of_eq (oMod_ok h.1) (h.2 (Int.emod_nonneg _ (by have := h.1; omega)) (Int.emod_lt_of_pos _ h.1))
theorem W_modIl {n : Nat} (hj : Nat.blt 0 n = true) (h : M (.fz (.int (i % (@OfNat.ofNat Int n _)))) [.fz (.int i), .fz (.int (@OfNat.ofNat Int n _))]) : W (oMod [.fz (.int i), .fz (.int (@OfNat.ofNat Int n _))]) M E := by
  have hn : 0 < n := by simpa [Nat.blt_eq] using hj
  have e : (@OfNat.ofNat Int n _) = (n : Int) := rfl
  exact W.of_eq (oMod_ok (by rw [e]; omega)) h
theorem W_divI (h : (0 < j ∧ j < 2 ^ 200) ∧ M (.fz (.int (i / j))) [.fz (.int i), .fz (.int j)]) : W (oDiv [.fz (.int i), .fz (.int j)]) M E := W.of_eq (oDiv_ok h.1.1 h.1.2) h.2
theorem W_divIl {n : Nat} (hj : (Nat.blt 0 n && Nat.blt n 18446744073709551616) = true) (h : M (.fz (.int (i / (@OfNat.ofNat Int n _)))) [.fz (.int i), .fz (.int (@OfNat.ofNat Int n _))]) : W (oDiv [.fz (.int i), .fz (.int (@OfNat.ofNat Int n _))]) M E := by
  simp only [Bool.and_eq_true, Nat.blt_eq] at hj
  have e : (@OfNat.ofNat Int n _) = (n : Int) := rfl
  exact W.of_eq (oDiv_ok (by rw [e]; omega) (by rw [e]; omega)) h
theorem W_pow (e : oPow [.fz (.int i), .fz (.int j)] = .ok (.fz (.int m), [.fz (.int i), .fz (.int j)])) (h : M (.fz (.int m)) [.fz (.int i), .fz (.int j)]) : W (oPow [.fz (.int i), .fz (.int j)]) M E := W.of_eq e h
theorem oPow_10_9 : oPow [.fz (.int 10), .fz (.int 9)] = .ok (.fz (.int 1000000000), [.fz (.int 10), .fz (.int 9)]) := id rfl
theorem W_and (h : M (.fz (.int (Builtin.bitAnd i j))) [.fz (.int i), .fz (.int j)]) : W (oAnd [.fz (.int i), .fz (.int j)]) M E := ⟨h⟩
theorem W_neg (h : M (.fz (.int (-i))) [.fz (.int i)]) : W (oNeg [.fz (.int i)]) M E := ⟨h⟩
theorem W_lt (h : M (.fz (.bl (decide (i < j)))) [.fz (.int i), .fz (.int j)]) : W (oLtI [.fz (.int i), .fz (.int j)]) M E := ⟨h⟩
theorem W_le (h : M (.fz (.bl (decide (i ≤ j)))) [.fz (.int i), .fz (.int j)]) : W (oLeI [.fz (.int i), .fz (.int j)]) M E := ⟨h⟩
theorem W_gt (h : M (.fz (.bl (decide (j < i)))) [.fz (.int i), .fz (.int j)]) : W (oGtI [.fz (.int i), .fz (.int j)]) M E := ⟨h⟩
theorem W_ge (h : M (.fz (.bl (decide (j ≤ i)))) [.fz (.int i), .fz (.int j)]) : W (oGeI [.fz (.int i), .fz (.int j)]) M E := ⟨h⟩
theorem W_max2 (h : M (.fz (.int (if j > i then j else i))) [.fz (.int i), .fz (.int j)]) : W (oMax2 [.fz (.int i), .fz (.int j)]) M E := ⟨h⟩
theorem W_min2 (h : M (.fz (.int (if j < i then j else i))) [.fz (.int i), .fz (.int j)]) : W (oMin2 [.fz (.int i), .fz (.int j)]) M E := ⟨h⟩
theorem W_abs (h : M (.fz (.int (if i < 0 then -i else i))) [.fz (.int i)]) : W (oAbs [.fz (.int i)]) M E := ⟨h⟩
theorem W_int (h : M (.fz (.int i)) [.fz (.int i)]) : W (oInt [.fz (.int i)]) M E := ⟨h⟩
theorem W_intB (h : M (.fz (.int (if p then 1 else 0))) [.fz (.bl p)]) : W (oInt [.fz (.bl p)]) M E := ⟨h⟩
theorem W_isN (h : M (.fz (.bl (isN l))) [l, .fz .non]) : W (oIsN [l, .fz .non]) M E := ⟨h⟩
theorem W_notN (h : M (.fz (.bl (!isN l))) [l, .fz .non]) : W (oNotN [l, .fz .non]) M E := ⟨h⟩
/-- is None, of a thing that may be None -/
theorem W_isN_n (h : M (.fz (.bl true)) [.fz .non, .fz .non]) : W (oIsN [.fz .non, .fz .non]) M E := ⟨h⟩
theorem W_isN_s (h : M (.fz (.bl false)) [.fz (.str x), .fz .non]) : W (oIsN [.fz (.str x), .fz .non]) M E := ⟨h⟩
theorem W_isN_i (h : M (.fz (.bl false)) [.fz (.int i), .fz .non]) : W (oIsN [.fz (.int i), .fz .non]) M E := ⟨h⟩
theorem W_notN_n (h : M (.fz (.bl false)) [.fz .non, .fz .non]) : W (oNotN [.fz .non, .fz .non]) M E := ⟨h⟩
theorem W_notN_s (h : M (.fz (.bl true)) [.fz (.str x), .fz .non]) : W (oNotN [.fz (.str x), .fz .non]) M E := ⟨h⟩
theorem W_notN_i (h : M (.fz (.bl true)) [.fz (.int i), .fz .non]) : W (oNotN [.fz (.int i), .fz .non]) M E := ⟨h⟩
theorem isN_iff {d : D} : Bd (isN (.fz d)) (d = .non) := by cases d <;> simp [isN, Bd]
/-- texts -/
theorem W_addS (h1 : Wd n x) (h2 : Wd k y) (h : n + k ≤ 16777216 ∧ (Wd (n + k) (x ++ y) → M (.fz (.str (x ++ y))) [.fz (.str x), .fz (.str y)])) : W (oAdd [.fz (.str x), .fz (.str y)]) M E := W.of_eq (h1.add h2 h.1) (h.2 (h1.app h2))
theorem W_lenS (h1 : Wd n x) (h : n ≤ 16777216 ∧ (x.length ≤ n → M (.fz (.int (x.length : Nat))) [.fz (.str x)])) : W (oLen [.fz (.str x)]) M E := W.of_eq (oLen_str (by rw [sizeLine_eq]; have := h1.le; omega)) (h.2 h1.le)
theorem W_abc (h : (0 ≤ i ∧ i < 26) ∧ ∀ z, oIx [.fz (.str "abcdefghijklmnopqrstuvwxyz"), .fz (.int i)] = .ok (.fz (.str z), [.fz (.str "abcdefghijklmnopqrstuvwxyz"), .fz (.int i)]) → Wd 1 z → M (.fz (.str z)) [.fz (.str "abcdefghijklmnopqrstuvwxyz"), .fz (.int i)]) : W (oIx [.fz (.str "abcdefghijklmnopqrstuvwxyz"), .fz (.int i)]) M E := by
  obtain ⟨z, e, w⟩ := abc_ix h.1.1 h.1.2
  exact W.of_eq e (h.2 z e w)
theorem W_eqI (h : M (.fz (.bl (decide (i = j)))) [.fz (.int i), .fz (.int j)]) : W (oEq [.fz (.int i), .fz (.int j)]) M E := W.of_eq oEq_int (by
  have : (i == j) = decide (i = j) := by by_cases e : i = j <;> simp [e]
  rw [this]; exact h)
theorem W_neI (h : M (.fz (.bl (!decide (i = j)))) [.fz (.int i), .fz (.int j)]) : W (oNe [.fz (.int i), .fz (.int j)]) M E := W.of_eq oNe_int (by
  have : (i == j) = decide (i = j) := by by_cases e : i = j <;> simp [e]
  rw [this]; exact h)
theorem W_eqB (h : M (.fz (.bl (decide (p = q)))) [.fz (.bl p), .fz (.bl q)]) : W (oEq [.fz (.bl p), .fz (.bl q)]) M E := W.of_eq oEq_bl (by
  have : (p == q) = decide (p = q) := by cases p <;> cases q <;> rfl
  rw [this]; exact h)
theorem W_neB (h : M (.fz (.bl (!decide (p = q)))) [.fz (.bl p), .fz (.bl q)]) : W (oNe [.fz (.bl p), .fz (.bl q)]) M E := W.of_eq oNe_bl (by
  have : (p == q) = decide (p = q) := by cases p <;> cases q <;> rfl
  rw [this]; exact h)

/-! == over plain data without truths -/
mutual
def D.nb : Nat → D → Bool
  | _, .non => true
  | _, .int _ => true
  | _, .str x => PyData.strOk x
  | n + 1, .lst ds => D.nbs n ds
  | n + 1, .tup ds => D.nbs n ds
  | _, _ => false
def D.nbs : Nat → List D → Bool
  | _, [] => true
  | n, d :: ds => D.nb n d && D.nbs n ds
end
theorem nbs_all {n : Nat} {ds : List D} : D.nbs n ds = ds.all (D.nb n) := by
  induction ds with
  | nil => rfl
  | cons d ds ih => rw [D.nbs, ih]; rfl
theorem nb_pl : ∀ {n : Nat} {d : D}, D.nb n d = true → D.pl n d = true
  | n, .non, _ => by cases n <;> rfl
  | n, .int _, _ => by cases n <;> rfl
  | n, .str _, h => by cases n <;> simpa [D.nb, D.pl] using h
  | 0, .lst _, h => by simp [D.nb] at h
  | 0, .tup _, h => by simp [D.nb] at h
  | n + 1, .lst ds, h => by
    simp only [D.nb, nbs_all, List.all_eq_true] at h
    simp only [D.pl, List.all_eq_true]
    exact fun d m => nb_pl (h d m)
  | n + 1, .tup ds, h => by
    simp only [D.nb, nbs_all, List.all_eq_true] at h
    simp only [D.pl, List.all_eq_true]
    exact fun d m => nb_pl (h d m)
  | n, .bl _, h => by cases n <;> simp [D.nb] at h
  | n, .ty _, h => by cases n <;> simp [D.nb] at h
  | n, .cls _, h => by cases n <;> simp [D.nb] at h
  | n, .scr _, h => by cases n <;> simp [D.nb] at h
  | n, .ktp _, h => by cases n <;> simp [D.nb] at h
  | n, .dct _ _, h => by cases n <;> simp [D.nb] at h
  | n, .obj _ _, h => by cases n <;> simp [D.nb] at h
mutual
theorem nb_eqv : ∀ {n m : Nat} {a b : D}, D.nb n a = true → D.nb m b = true → (D.eqv a b = true ↔ a = b)
  | n, m, .non, b, _, h => by cases b <;> simp [D.eqv]
  | n, m, .int _, b, _, h => by
    cases b with
    | bl _ => cases m <;> simp [D.nb] at h
    | _ => simp [D.eqv]
  | n, m, .str _, b, _, h => by cases b <;> simp [D.eqv]
  | 0, m, .lst _, b, h, _ => by simp [D.nb] at h
  | 0, m, .tup _, b, h, _ => by simp [D.nb] at h
  | n + 1, m, .lst ds, b, h, h' => by
    cases b with
    | lst es =>
      cases m with
      | zero => simp [D.nb] at h'
      | succ m =>
        simp only [D.nb] at h h'
        simp only [D.eqv, nbs_eqv h h', D.lst.injEq]
    | _ => simp [D.eqv]
  | n + 1, m, .tup ds, b, h, h' => by
    cases b with
    | tup es =>
      cases m with
      | zero => simp [D.nb] at h'
      | succ m =>
        simp only [D.nb] at h h'
        simp only [D.eqv, nbs_eqv h h', D.tup.injEq]
    | _ => simp [D.eqv]
  | n, m, .bl _, _, h, _ => by cases n <;> simp [D.nb] at h
  | n, m, .ty _, _, h, _ => by cases n <;> simp [D.nb] at h
  | n, m, .cls _, _, h, _ => by cases n <;> simp [D.nb] at h
  | n, m, .scr _, _, h, _ => by cases n <;> simp [D.nb] at h
  | n, m, .ktp _, _, h, _ => by cases n <;> simp [D.nb] at h
  | n, m, .dct _ _, _, h, _ => by cases n <;> simp [D.nb] at h
  | n, m, .obj _ _, _, h, _ => by cases n <;> simp [D.nb] at h
theorem nbs_eqv : ∀ {n m : Nat} {a b : List D}, D.nbs n a = true → D.nbs m b = true → (D.eqvs a b = true ↔ a = b)
  | _, _, [], b, _, _ => by cases b <;> simp [D.eqvs]
  | _, _, _ :: _, [], _, _ => by simp [D.eqvs]
  | n, m, a :: as, b :: bs, h, h' => by
    simp only [D.nbs, Bool.and_eq_true] at h h'
    simp only [D.eqvs, Bool.and_eq_true, nb_eqv h.1 h'.1, nbs_eqv h.2 h'.2, List.cons.injEq]
end
/-- plain, without truths, at most so deep -/
def Pd (d : D) : Prop := D.nb 64 d = true
theorem nb_up : ∀ {n m : Nat} {d : D}, D.nb n d = true → n ≤ m → D.nb m d = true
  | n, m, .non, _, _ => by cases m <;> rfl
  | n, m, .int _, _, _ => by cases m <;> rfl
  | n, m, .str _, h, _ => by cases n <;> cases m <;> simpa [D.nb] using h
  | 0, m, .lst _, h, _ => by simp [D.nb] at h
  | 0, m, .tup _, h, _ => by simp [D.nb] at h
  | n + 1, 0, .lst _, _, h => by omega
  | n + 1, 0, .tup _, _, h => by omega
  | n + 1, m + 1, .lst ds, h, g => by
    simp only [D.nb, nbs_all, List.all_eq_true] at h ⊢
    exact fun d hd => nb_up (h d hd) (by omega)
  | n + 1, m + 1, .tup ds, h, g => by
    simp only [D.nb, nbs_all, List.all_eq_true] at h ⊢
    exact fun d hd => nb_up (h d hd) (by omega)
  | n, m, .bl _, h, _ => by cases n <;> simp [D.nb] at h
  | n, m, .ty _, h, _ => by cases n <;> simp [D.nb] at h
  | n, m, .cls _, h, _ => by cases n <;> simp [D.nb] at h
  | n, m, .scr _, h, _ => by cases n <;> simp [D.nb] at h
  | n, m, .ktp _, h, _ => by cases n <;> simp [D.nb] at h
  | n, m, .dct _ _, h, _ => by cases n <;> simp [D.nb] at h
  | n, m, .obj _ _, h, _ => by cases n <;> simp [D.nb] at h
theorem oEq_pd {x y : L} (h1 : Pd x.toD) (h2 : Pd y.toD) : oEq [x, y] = .ok (.fz (.bl (decide (x.toD = y.toD))), [x, y]) := by
  rw [oEq_ok (nb_pl h1) (nb_pl h2)]
  have := nb_eqv h1 h2
  have e : D.eqv x.toD y.toD = decide (x.toD = y.toD) := by
    by_cases z : x.toD = y.toD
    · rw [this.mpr z, decide_eq_true z]
    · rw [decide_eq_false z]
      cases q : D.eqv x.toD y.toD with
      | false => rfl
      | true => exact absurd (this.mp q) z
  rw [e]
theorem oNe_pd {x y : L} (h1 : Pd x.toD) (h2 : Pd y.toD) : oNe [x, y] = .ok (.fz (.bl (!decide (x.toD = y.toD))), [x, y]) := by
  rw [oNe_ok (nb_pl h1) (nb_pl h2)]
  have := nb_eqv h1 h2
  have e : D.eqv x.toD y.toD = decide (x.toD = y.toD) := by
    by_cases z : x.toD = y.toD
    · rw [this.mpr z, decide_eq_true z]
    · rw [decide_eq_false z]
      cases q : D.eqv x.toD y.toD with
      | false => rfl
      | true => exact absurd (this.mp q) z
  rw [e]
theorem W_eqD (h1 : Pd d) (h2 : Pd d') (h : M (.fz (.bl (decide (d = d')))) [.fz d, .fz d']) : W (oEq [.fz d, .fz d']) M E := W.of_eq (oEq_pd (x := .fz d) (y := .fz d') h1 h2) h
theorem W_neD (h1 : Pd d) (h2 : Pd d') (h : M (.fz (.bl (!decide (d = d')))) [.fz d, .fz d']) : W (oNe [.fz d, .fz d']) M E := W.of_eq (oNe_pd (x := .fz d) (y := .fz d') h1 h2) h
theorem own_toD : (L.lst (fzs ds)).toD = .lst ds := by rw [toD_lst, fzs_toD]
theorem W_eqO (h1 : Pd (.lst ds)) (h2 : Pd d') (h : M (.fz (.bl (decide (.lst ds = d')))) [.lst (fzs ds), .fz d']) : W (oEq [.lst (fzs ds), .fz d']) M E := W.of_eq (oEq_pd (x := .lst (fzs ds)) (y := .fz d') (by rw [own_toD]; exact h1) h2) (by simp only [own_toD]; exact h)
theorem W_neO (h1 : Pd (.lst ds)) (h2 : Pd d') (h : M (.fz (.bl (!decide (.lst ds = d')))) [.lst (fzs ds), .fz d']) : W (oNe [.lst (fzs ds), .fz d']) M E := W.of_eq (oNe_pd (x := .lst (fzs ds)) (y := .fz d') (by rw [own_toD]; exact h1) h2) (by simp only [own_toD]; exact h)
theorem W_eqOO (h1 : Pd (.lst ds)) (h2 : Pd (.lst es)) (h : M (.fz (.bl (decide (ds = es)))) [.lst (fzs ds), .lst (fzs es)]) : W (oEq [.lst (fzs ds), .lst (fzs es)]) M E := W.of_eq (oEq_pd (x := .lst (fzs ds)) (y := .lst (fzs es)) (by rw [own_toD]; exact h1) (by rw [own_toD]; exact h2)) (by simp only [own_toD, D.lst.injEq]; exact h)
theorem W_neOO (h1 : Pd (.lst ds)) (h2 : Pd (.lst es)) (h : M (.fz (.bl (!decide (ds = es)))) [.lst (fzs ds), .lst (fzs es)]) : W (oNe [.lst (fzs ds), .lst (fzs es)]) M E := W.of_eq (oNe_pd (x := .lst (fzs ds)) (y := .lst (fzs es)) (by rw [own_toD]; exact h1) (by rw [own_toD]; exact h2)) (by simp only [own_toD, D.lst.injEq]; exact h)
/-- sequences -/
theorem W_lenQ {b : Bool} (hs : SeqL l b ds) (h : M (.fz (.int (ds.length : Nat))) [l]) : W (oLen [l]) M E := W.of_eq (by
  unfold SeqL seqD at hs
  obtain ⟨⟨b', ks⟩, e1, e2⟩ := Option.bind_eq_some_iff.mp hs
  simp only [Option.map_eq_some_iff, Prod.mk.injEq] at e2
  obtain ⟨ds', e2, rfl, rfl⟩ := e2
  have hl : ks.length = ds'.length := by
    clear e1 hs h
    induction ks generalizing ds' with
    | nil => simp [allD] at e2; subst e2; rfl
    | cons k ks ih =>
      cases k with
      | fz d =>
        simp only [allD, Option.map_eq_some_iff] at e2
        obtain ⟨es, e, rfl⟩ := e2
        simp [ih es e]
      | _ => simp [allD] at e2
  have el : lenN l = some ds'.length := by
    unfold lenN
    rw [e1]
    dsimp only
    rw [hl]
  unfold oLen p1
  dsimp only
  rw [el]
  rfl) h
theorem W_lenM {α : Type} {xs : List α} {f : α → D} {b : Bool} (hs : SeqL l b (xs.map f)) (h : M (.fz (.int (xs.length : Nat))) [l]) : W (oLen [l]) M E := W_lenQ hs (by rw [List.length_map]; exact h)
def AtI (ds : List D) (i : Int) (d : D) : Prop := atI ds i = some d
theorem AtI.pos (h0 : 0 ≤ i) (h : ds[i.toNat]? = some d) : AtI ds i d := atI_pos h0 h
theorem AtI.nat (h : ds[k]? = some d) : AtI ds (k : Int) d := atI_nat h
theorem AtI.last (h : ds.getLast? = some d) : AtI ds (-1) d := atI_last h
theorem AtI.snoc : AtI (ds ++ [d]) (-1) d := atI_last (by simp)
theorem AtI.i0 : AtI (d :: ds) 0 d := atI_nat (k := 0) rfl
theorem AtI.i1 {a : D} : AtI (a :: d :: ds) 1 d := atI_nat (k := 1) rfl
theorem AtI.i2 {a c : D} : AtI (a :: c :: d :: ds) 2 d := atI_nat (k := 2) rfl
theorem AtI.i3 {a b c : D} : AtI (a :: b :: c :: d :: ds) 3 d := atI_nat (k := 3) rfl
theorem AtI.i4 {a b c e : D} : AtI (a :: b :: c :: e :: d :: ds) 4 d := atI_nat (k := 4) rfl
theorem AtI.i5 {a b c e f : D} : AtI (a :: b :: c :: e :: f :: d :: ds) 5 d := atI_nat (k := 5) rfl
theorem AtI.map {α : Type} {xs : List α} {emb : α → D} {x : α} (h0 : 0 ≤ i) (h : xs[i.toNat]? = some x) : AtI (xs.map emb) i (emb x) := atI_pos h0 (by simp [h])
theorem AtI.mapn {α : Type} {xs : List α} {emb : α → D} {x : α} (h : xs[k]? = some x) : AtI (xs.map emb) (k : Int) (emb x) := atI_nat (by simp [h])
theorem W_ixQ {b : Bool} (hs : SeqL l b ds) (h : ∃ d, AtI ds i d ∧ M (.fz d) [l, .fz (.int i)]) : W (oIx [l, .fz (.int i)]) M E := by
  obtain ⟨d, e, h⟩ := h
  exact W.of_eq (oIx_seq hs e) h
theorem AtI.snocM {α : Type} {xs : List α} {f : α → D} {x : α} : AtI ((xs ++ [x]).map f) (-1) (f x) := atI_last (by simp)
theorem W_oLst {ls : List L} (hl : decide (ls.length ≤ 1000) = true) (h : M (.lst (fzs (ls.map L.toD))) (ls.map fun l => .fz l.toD)) : W (oLst ls) M E := W.of_eq (oLst_ok (of_decide_eq_true hl)) (by
  have e : fzs (ls.map L.toD) = ls.map fun l => .fz l.toD := by simp [fzs, Function.comp_def]
  rw [← e]
  rw [← e] at h
  exact h)
theorem W_lst0 (h : M (.lst (fzs [])) []) : W (oLst []) M E := ⟨h⟩
theorem W_lstO5 {a b c e : D} (h : M (.lst (fzs [.lst ds, a, b, c, e])) [.fz (.lst ds), .fz a, .fz b, .fz c, .fz e]) : W (oLst [.lst (fzs ds), .fz a, .fz b, .fz c, .fz e]) M E := W.of_eq (oLst_ok (by simp)) (by
  simp only [List.map_cons, List.map_nil, own_toD, toD_fz]
  exact h)
theorem W_lst1 (h : M (.lst (fzs [d])) [.fz d]) : W (oLst [.fz d]) M E := W.of_eq oLst_1 h
theorem W_tup0 (h : M (.fz (.tup [])) []) : W (oTup []) M E := W.of_eq oTup_0 h
theorem W_tup1 (h : M (.fz (.tup [d])) [.fz d]) : W (oTup [.fz d]) M E := W.of_eq oTup_1 h
theorem W_tup2 (h : M (.fz (.tup [d, d'])) [.fz d, .fz d']) : W (oTup [.fz d, .fz d']) M E := W.of_eq oTup_2 h
theorem W_oTup {ls : List L} (hl : decide (ls.length ≤ 1000) = true) (h : M (.fz (.tup (ls.map L.toD))) (ls.map fun l => .fz l.toD)) : W (oTup ls) M E := W.of_eq (oTup_ok (of_decide_eq_true hl)) h
theorem W_listQ {b : Bool} (hs : SeqL l b ds) (h : M (.lst (fzs ds)) [l]) : W (oList [l]) M E := W.of_eq (oList_ok hs) h
theorem W_tupQ (hs : SeqL l true ds) (h : M (.fz (.tup ds)) [l]) : W (oTuple [l]) M E := W.of_eq (oTuple_lst (by unfold lsq; rw [hs]; rfl)) h
theorem W_tupT (h : M (.fz (.tup ds)) [.fz (.tup ds)]) : W (oTuple [.fz (.tup ds)]) M E := ⟨h⟩
/-- own or still list -/
def LstL (l : L) (ds : List D) : Prop := lstD l = some ds
theorem LstL.o : LstL (.lst (fzs ds)) ds := lstD_fzs
theorem LstL.f : LstL (.fz (.lst ds)) ds := rfl
theorem W_addL {l l' : L} (h1 : LstL l ds) (h2 : LstL l' es) (h : ds.length + es.length ≤ 16777216 ∧ M (.lst (fzs (ds ++ es))) [l, l']) : W (oAdd [l, l']) M E := W.of_eq (by
  have hs : sizeLine = 16777216 := sizeLine_eq
  have hl := h.1
  unfold LstL at h1 h2
  have e1 : oAddI [l, l'] = .stuck := by cases l with
    | fz d => cases d <;> first | rfl | (simp [lstD] at h1)
    | _ => rfl
  have e2 : oAddS [l, l'] = .stuck := by cases l with
    | fz d => cases d <;> first | rfl | (simp [lstD] at h1)
    | _ => rfl
  have e3 : oAddL [l, l'] = .ok (.lst (fzs (ds ++ es)), [l, l']) := by
    unfold oAddL p2
    simp only [h1, h2, Option.bind_some]
    rw [if_pos (by omega)]
    rfl
  simp only [oAdd, alt, e1, e2, e3]) h.2
theorem W_addT (h : ds.length + es.length ≤ 16777216 ∧ M (.fz (.tup (ds ++ es))) [.fz (.tup ds), .fz (.tup es)]) : W (oAdd [.fz (.tup ds), .fz (.tup es)]) M E := W.of_eq (by
  have hs : sizeLine = 16777216 := sizeLine_eq
  have hl := h.1
  have e1 : oAddI [.fz (.tup ds), .fz (.tup es)] = .stuck := rfl
  have e2 : oAddS [.fz (.tup ds), .fz (.tup es)] = .stuck := rfl
  have e3 : oAddL [.fz (.tup ds), .fz (.tup es)] = .stuck := rfl
  have e4 : oAddT [.fz (.tup ds), .fz (.tup es)] = .ok (.fz (.tup (ds ++ es)), [.fz (.tup ds), .fz (.tup es)]) := by
    unfold oAddT p2
    simp only [tupD, Option.bind_some]
    rw [if_pos (by omega)]
  simp only [oAdd, alt, e1, e2, e3, e4]) h.2
theorem W_mulL (hs : LstL l ds) (h : (0 ≤ i ∧ i < 2 ^ 62 ∧ ds.length * i.toNat ≤ 16777216) ∧ M (.lst (fzs (repL i.toNat ds))) [l, .fz (.int i)]) : W (oMulA [l, .fz (.int i)]) M E := W.of_eq (by
  have hz : sizeLine = 16777216 := sizeLine_eq
  obtain ⟨h0, h1, h2⟩ := h.1
  unfold LstL at hs
  have e1 : oMulI [l, .fz (.int i)] = .stuck := by cases l with
    | fz d => cases d <;> first | rfl | (simp [lstD] at hs)
    | _ => rfl
  have e2 : oMulL [l, .fz (.int i)] = .ok (.lst (fzs (repL i.toNat ds)), [l, .fz (.int i)]) := by
    unfold oMulL p2
    have : (decide (-(2 ^ 63) ≤ i) && decide (i < 2 ^ 63) && decide (ds.length * i.toNat ≤ sizeLine)) = true := by
      rw [decide_eq_true (by omega), decide_eq_true (by omega), decide_eq_true (by omega)]
      rfl
    simp only [hs, asI_int, Option.bind_some, if_pos this]
    rfl
  simp only [oMulA, oMul, alt, e1, e2]) h.2
/-- methods -/
theorem W_append (h : ds.length < 16777216 ∧ M (.fz .non) [.lst (fzs (ds ++ [d])), .fz d]) : W (mAppend [.lst (fzs ds), .fz d]) M E := W.of_eq (mAppend_ok (by rw [sizeLine_eq, fzs_length]; exact h.1)) (by
  rw [← fzs_snoc] at h
  exact h.2)
theorem W_appendO (h : ds.length < 16777216 ∧ M (.fz .non) [.lst (fzs (ds ++ [.lst es])), .fz (.lst es)]) : W (mAppend [.lst (fzs ds), .lst (fzs es)]) M E := W.of_eq (mAppend_ok (by rw [sizeLine_eq, fzs_length]; exact h.1)) (by
  rw [own_toD, fzs_snoc]
  exact h.2)
theorem W_pop (h : M (.fz d) [.lst (fzs ds)]) : W (mPop [.lst (fzs (ds ++ [d]))]) M E := W.of_eq (mPop_ok (l := .fz d) (by simp)) (by simpa using h)
theorem W_reverse (h : M (.fz .non) [.lst (fzs ds.reverse)]) : W (mReverse [.lst (fzs ds)]) M E := W.of_eq mReverse_ok (by simpa using h)
/-- in -/
theorem W_inI {neg b : Bool} {ns : List Int} (hs : SeqL l b (ns.map D.int)) (h : M (.fz (.bl (if neg then !decide (i ∈ ns) else decide (i ∈ ns)))) [.fz (.int i), l]) : W (oIn neg [.fz (.int i), l]) M E := W.of_eq (by
  have e : inS neg [.fz (.int i), l] = .ok (.fz (.bl (if neg then !decide (i ∈ ns) else decide (i ∈ ns))), [.fz (.int i), l]) := by
    unfold inS p2
    have e1 : (ns.map D.int).all flatD = true := by rw [List.all_map]; exact List.all_eq_true.mpr fun _ _ => rfl
    have e2 : ((ns.map D.int).any fun z => eqF z (.int i)) = decide (i ∈ ns) := by
      rw [List.any_map]
      have : (fun z => eqF z (.int i)) ∘ D.int = fun z => z == i := rfl
      rw [this, List.any_beq', List.contains_eq_mem]
    unfold SeqL at hs
    simp only [hs, asD, Option.bind_some, e1, e2, flatD, Bool.and_self, if_true]
  show alt _ _ _ = _
  simp only [alt, e]) h
theorem W_inI0 {b : Bool} {ns : List Int} (hs : SeqL l b (ns.map D.int)) (h : M (.fz (.bl (decide (i ∈ ns)))) [.fz (.int i), l]) : W (oIn false [.fz (.int i), l]) M E := W_inI hs h
theorem W_inI1 {b : Bool} {ns : List Int} (hs : SeqL l b (ns.map D.int)) (h : M (.fz (.bl (!decide (i ∈ ns)))) [.fz (.int i), l]) : W (oIn true [.fz (.int i), l]) M E := W_inI hs h
end
end Dl
namespace Dl
open PySem L2
theorem pd_int {i : Int} : Pd (.int i) := rfl
theorem pd_non : Pd .non := rfl
theorem pd_str {n : Nat} {z : Str} (h : Wd n z) : Pd (.str z) := h.ok
theorem pd_lst0 : Pd (.lst []) := rfl
theorem pd_tup0 : Pd (.tup []) := rfl
/-- a text or None -/
def oS : Option Str → D
  | none => .non
  | some z => .str z
theorem isN_oS {o : Option Str} : Bd (isN (.fz (oS o))) (o = none) := by cases o <;> simp [isN, Bd, oS]
theorem oS_inj {a b : Option Str} : oS a = oS b ↔ a = b := by cases a <;> cases b <;> simp [oS]
end Dl
namespace Dl
open PySem L2
/-! ### the same, kept as what it stands for -/
section
variable {α : Type} {xs ys : List α} {f : α → D} {x : α} {l l' : L} {M : L → List L → Prop} {E : Exn → List L → Prop} {r r1 : Rho} {R : L → Rho → Prop} {Q : Fl → Rho → Prop} {i : Nat} {m : Int} {o1 o2 : Option Int}
def cutX (xs : List α) (lo hi : Option Int) : List α := (xs.drop (HT.sIx xs.length 0 lo)).take (HT.sIx xs.length xs.length hi - HT.sIx xs.length 0 lo)
theorem cutD_map : cutD (xs.map f) o1 o2 = (cutX xs o1 o2).map f := by simp [cutD, cutX, List.map_take, List.map_drop]
theorem W_appendM (h : xs.length < 16777216 ∧ M (.fz .non) [.lst (fzs ((xs ++ [x]).map f)), .fz (f x)]) : W (mAppend [.lst (fzs (xs.map f)), .fz (f x)]) M E := W_append (by
  rw [List.map_append] at h
  exact ⟨by simpa using h.1, h.2⟩)
theorem W_append0 (f : α → D) (h : M (.fz .non) [.lst (fzs ([x].map f)), .fz (f x)]) : W (mAppend [.lst (fzs []), .fz (f x)]) M E := W_append ⟨by simp, h⟩
theorem kSt2_M (e : r[i]? = some (some (.lst (fzs (xs.map f))))) (s : SetR r i (some (.lst (fzs ((xs.set m.toNat x).map f)))) r1) (h : (0 ≤ m ∧ m < xs.length) ∧ Q .nx r1) : kSt2 i (f x) Q (.fz (.int m)) r :=
  kSt2_p e (by rw [List.map_set] at s; exact s) ⟨by simpa using h.1, h.2⟩
theorem W_popM (h : M (.fz (f x)) [.lst (fzs (xs.map f))]) : W (mPop [.lst (fzs ((xs ++ [x]).map f))]) M E := by
  rw [List.map_append]
  exact W_pop h
theorem kThn_revM {b : Bool} (h : SeqL l b (xs.map f)) (hb : b = true) (q : R (.lst (fzs (xs.reverse.map f))) r) : kThn revL R l r := by
  subst hb
  exact kThn_rev h (by rw [List.map_reverse] at q; exact q)
theorem kSl3_lM {b : Bool} (hs : SeqL l b (xs.map f)) (hb : b = true) (h : R (.lst (fzs ((cutX xs o1 o2).map f))) r) : kSl3 l o1 R o2 r := by
  subst hb
  exact kSl3_l hs (by rw [cutD_map]; exact h)
theorem kSl3_tM (h : R (.fz (.tup ((cutX xs o1 o2).map f))) r) : kSl3 (.fz (.tup (xs.map f))) o1 R o2 r := kSl3_t (by rw [cutD_map]; exact h)
theorem W_addLM (h1 : LstL l (xs.map f)) (h2 : LstL l' (ys.map f)) (h : xs.length + ys.length ≤ 16777216 ∧ M (.lst (fzs ((xs ++ ys).map f))) [l, l']) : W (oAdd [l, l']) M E := W_addL h1 h2 (by
  rw [List.map_append] at h
  exact ⟨by simpa using h.1, h.2⟩)
theorem W_addTM (h : xs.length + ys.length ≤ 16777216 ∧ M (.fz (.tup ((xs ++ ys).map f))) [.fz (.tup (xs.map f)), .fz (.tup (ys.map f))]) : W (oAdd [.fz (.tup (xs.map f)), .fz (.tup (ys.map f))]) M E := W_addT (by
  rw [List.map_append] at h
  exact ⟨by simpa using h.1, h.2⟩)
end
end Dl
namespace Dl
open PySem L2
section
variable {M : L → List L → Prop} {E : Exn → List L → Prop} {a0 a1 a2 a3 a4 a5 a6 a7 a8 a9 a10 a11 a12 a13 a14 a15 a16 a17 a18 a19 : D}
theorem W_lst2 (h : M (.lst (fzs [a0, a1])) [.fz a0, .fz a1]) : W (oLst [.fz a0, .fz a1]) M E := W.of_eq (oLst_ok (ls := [.fz a0, .fz a1]) (by simp)) h
theorem W_lst3 (h : M (.lst (fzs [a0, a1, a2])) [.fz a0, .fz a1, .fz a2]) : W (oLst [.fz a0, .fz a1, .fz a2]) M E := W.of_eq (oLst_ok (ls := [.fz a0, .fz a1, .fz a2]) (by simp)) h
theorem W_lst4 (h : M (.lst (fzs [a0, a1, a2, a3])) [.fz a0, .fz a1, .fz a2, .fz a3]) : W (oLst [.fz a0, .fz a1, .fz a2, .fz a3]) M E := W.of_eq (oLst_ok (ls := [.fz a0, .fz a1, .fz a2, .fz a3]) (by simp)) h
theorem W_lst5 (h : M (.lst (fzs [a0, a1, a2, a3, a4])) [.fz a0, .fz a1, .fz a2, .fz a3, .fz a4]) : W (oLst [.fz a0, .fz a1, .fz a2, .fz a3, .fz a4]) M E := W.of_eq (oLst_ok (ls := [.fz a0, .fz a1, .fz a2, .fz a3, .fz a4]) (by simp)) h
theorem W_lst6 (h : M (.lst (fzs [a0, a1, a2, a3, a4, a5])) [.fz a0, .fz a1, .fz a2, .fz a3, .fz a4, .fz a5]) : W (oLst [.fz a0, .fz a1, .fz a2, .fz a3, .fz a4, .fz a5]) M E := W.of_eq (oLst_ok (ls := [.fz a0, .fz a1, .fz a2, .fz a3, .fz a4, .fz a5]) (by simp)) h
theorem W_lst7 (h : M (.lst (fzs [a0, a1, a2, a3, a4, a5, a6])) [.fz a0, .fz a1, .fz a2, .fz a3, .fz a4, .fz a5, .fz a6]) : W (oLst [.fz a0, .fz a1, .fz a2, .fz a3, .fz a4, .fz a5, .fz a6]) M E := W.of_eq (oLst_ok (ls := [.fz a0, .fz a1, .fz a2, .fz a3, .fz a4, .fz a5, .fz a6]) (by simp)) h
theorem W_lst8 (h : M (.lst (fzs [a0, a1, a2, a3, a4, a5, a6, a7])) [.fz a0, .fz a1, .fz a2, .fz a3, .fz a4, .fz a5, .fz a6, .fz a7]) : W (oLst [.fz a0, .fz a1, .fz a2, .fz a3, .fz a4, .fz a5, .fz a6, .fz a7]) M E := W.of_eq (oLst_ok (ls := [.fz a0, .fz a1, .fz a2, .fz a3, .fz a4, .fz a5, .fz a6, .fz a7]) (by simp)) h
theorem W_lst9 (h : M (.lst (fzs [a0, a1, a2, a3, a4, a5, a6, a7, a8])) [.fz a0, .fz a1, .fz a2, .fz a3, .fz a4, .fz a5, .fz a6, .fz a7, .fz a8]) : W (oLst [.fz a0, .fz a1, .fz a2, .fz a3, .fz a4, .fz a5, .fz a6, .fz a7, .fz a8]) M E := W.of_eq (oLst_ok (ls := [.fz a0, .fz a1, .fz a2, .fz a3, .fz a4, .fz a5, .fz a6, .fz a7, .fz a8]) (by simp)) h
theorem W_lst10 (h : M (.lst (fzs [a0, a1, a2, a3, a4, a5, a6, a7, a8, a9])) [.fz a0, .fz a1, .fz a2, .fz a3, .fz a4, .fz a5, .fz a6, .fz a7, .fz a8, .fz a9]) : W (oLst [.fz a0, .fz a1, .fz a2, .fz a3, .fz a4, .fz a5, .fz a6, .fz a7, .fz a8, .fz a9]) M E := W.of_eq (oLst_ok (ls := [.fz a0, .fz a1, .fz a2, .fz a3, .fz a4, .fz a5, .fz a6, .fz a7, .fz a8, .fz a9]) (by simp)) h
theorem W_lst11 (h : M (.lst (fzs [a0, a1, a2, a3, a4, a5, a6, a7, a8, a9, a10])) [.fz a0, .fz a1, .fz a2, .fz a3, .fz a4, .fz a5, .fz a6, .fz a7, .fz a8, .fz a9, .fz a10]) : W (oLst [.fz a0, .fz a1, .fz a2, .fz a3, .fz a4, .fz a5, .fz a6, .fz a7, .fz a8, .fz a9, .fz a10]) M E := W.of_eq (oLst_ok (ls := [.fz a0, .fz a1, .fz a2, .fz a3, .fz a4, .fz a5, .fz a6, .fz a7, .fz a8, .fz a9, .fz a10]) (by simp)) h
theorem W_lst12 (h : M (.lst (fzs [a0, a1, a2, a3, a4, a5, a6, a7, a8, a9, a10, a11])) [.fz a0, .fz a1, .fz a2, .fz a3, .fz a4, .fz a5, .fz a6, .fz a7, .fz a8, .fz a9, .fz a10, .fz a11]) : W (oLst [.fz a0, .fz a1, .fz a2, .fz a3, .fz a4, .fz a5, .fz a6, .fz a7, .fz a8, .fz a9, .fz a10, .fz a11]) M E := W.of_eq (oLst_ok (ls := [.fz a0, .fz a1, .fz a2, .fz a3, .fz a4, .fz a5, .fz a6, .fz a7, .fz a8, .fz a9, .fz a10, .fz a11]) (by simp)) h
theorem W_lst13 (h : M (.lst (fzs [a0, a1, a2, a3, a4, a5, a6, a7, a8, a9, a10, a11, a12])) [.fz a0, .fz a1, .fz a2, .fz a3, .fz a4, .fz a5, .fz a6, .fz a7, .fz a8, .fz a9, .fz a10, .fz a11, .fz a12]) : W (oLst [.fz a0, .fz a1, .fz a2, .fz a3, .fz a4, .fz a5, .fz a6, .fz a7, .fz a8, .fz a9, .fz a10, .fz a11, .fz a12]) M E := W.of_eq (oLst_ok (ls := [.fz a0, .fz a1, .fz a2, .fz a3, .fz a4, .fz a5, .fz a6, .fz a7, .fz a8, .fz a9, .fz a10, .fz a11, .fz a12]) (by simp)) h
theorem W_lst14 (h : M (.lst (fzs [a0, a1, a2, a3, a4, a5, a6, a7, a8, a9, a10, a11, a12, a13])) [.fz a0, .fz a1, .fz a2, .fz a3, .fz a4, .fz a5, .fz a6, .fz a7, .fz a8, .fz a9, .fz a10, .fz a11, .fz a12, .fz a13]) : W (oLst [.fz a0, .fz a1, .fz a2, .fz a3, .fz a4, .fz a5, .fz a6, .fz a7, .fz a8, .fz a9, .fz a10, .fz a11, .fz a12, .fz a13]) M E := W.of_eq (oLst_ok (ls := [.fz a0, .fz a1, .fz a2, .fz a3, .fz a4, .fz a5, .fz a6, .fz a7, .fz a8, .fz a9, .fz a10, .fz a11, .fz a12, .fz a13]) (by simp)) h
theorem W_lst15 (h : M (.lst (fzs [a0, a1, a2, a3, a4, a5, a6, a7, a8, a9, a10, a11, a12, a13, a14])) [.fz a0, .fz a1, .fz a2, .fz a3, .fz a4, .fz a5, .fz a6, .fz a7, .fz a8, .fz a9, .fz a10, .fz a11, .fz a12, .fz a13, .fz a14]) : W (oLst [.fz a0, .fz a1, .fz a2, .fz a3, .fz a4, .fz a5, .fz a6, .fz a7, .fz a8, .fz a9, .fz a10, .fz a11, .fz a12, .fz a13, .fz a14]) M E := W.of_eq (oLst_ok (ls := [.fz a0, .fz a1, .fz a2, .fz a3, .fz a4, .fz a5, .fz a6, .fz a7, .fz a8, .fz a9, .fz a10, .fz a11, .fz a12, .fz a13, .fz a14]) (by simp)) h
theorem W_lst16 (h : M (.lst (fzs [a0, a1, a2, a3, a4, a5, a6, a7, a8, a9, a10, a11, a12, a13, a14, a15])) [.fz a0, .fz a1, .fz a2, .fz a3, .fz a4, .fz a5, .fz a6, .fz a7, .fz a8, .fz a9, .fz a10, .fz a11, .fz a12, .fz a13, .fz a14, .fz a15]) : W (oLst [.fz a0, .fz a1, .fz a2, .fz a3, .fz a4, .fz a5, .fz a6, .fz a7, .fz a8, .fz a9, .fz a10, .fz a11, .fz a12, .fz a13, .fz a14, .fz a15]) M E := W.of_eq (oLst_ok (ls := [.fz a0, .fz a1, .fz a2, .fz a3, .fz a4, .fz a5, .fz a6, .fz a7, .fz a8, .fz a9, .fz a10, .fz a11, .fz a12, .fz a13, .fz a14, .fz a15]) (by simp)) h
theorem W_lst17 (h : M (.lst (fzs [a0, a1, a2, a3, a4, a5, a6, a7, a8, a9, a10, a11, a12, a13, a14, a15, a16])) [.fz a0, .fz a1, .fz a2, .fz a3, .fz a4, .fz a5, .fz a6, .fz a7, .fz a8, .fz a9, .fz a10, .fz a11, .fz a12, .fz a13, .fz a14, .fz a15, .fz a16]) : W (oLst [.fz a0, .fz a1, .fz a2, .fz a3, .fz a4, .fz a5, .fz a6, .fz a7, .fz a8, .fz a9, .fz a10, .fz a11, .fz a12, .fz a13, .fz a14, .fz a15, .fz a16]) M E := W.of_eq (oLst_ok (ls := [.fz a0, .fz a1, .fz a2, .fz a3, .fz a4, .fz a5, .fz a6, .fz a7, .fz a8, .fz a9, .fz a10, .fz a11, .fz a12, .fz a13, .fz a14, .fz a15, .fz a16]) (by simp)) h
theorem W_lst18 (h : M (.lst (fzs [a0, a1, a2, a3, a4, a5, a6, a7, a8, a9, a10, a11, a12, a13, a14, a15, a16, a17])) [.fz a0, .fz a1, .fz a2, .fz a3, .fz a4, .fz a5, .fz a6, .fz a7, .fz a8, .fz a9, .fz a10, .fz a11, .fz a12, .fz a13, .fz a14, .fz a15, .fz a16, .fz a17]) : W (oLst [.fz a0, .fz a1, .fz a2, .fz a3, .fz a4, .fz a5, .fz a6, .fz a7, .fz a8, .fz a9, .fz a10, .fz a11, .fz a12, .fz a13, .fz a14, .fz a15, .fz a16, .fz a17]) M E := W.of_eq (oLst_ok (ls := [.fz a0, .fz a1, .fz a2, .fz a3, .fz a4, .fz a5, .fz a6, .fz a7, .fz a8, .fz a9, .fz a10, .fz a11, .fz a12, .fz a13, .fz a14, .fz a15, .fz a16, .fz a17]) (by simp)) h
theorem W_lst19 (h : M (.lst (fzs [a0, a1, a2, a3, a4, a5, a6, a7, a8, a9, a10, a11, a12, a13, a14, a15, a16, a17, a18])) [.fz a0, .fz a1, .fz a2, .fz a3, .fz a4, .fz a5, .fz a6, .fz a7, .fz a8, .fz a9, .fz a10, .fz a11, .fz a12, .fz a13, .fz a14, .fz a15, .fz a16, .fz a17, .fz a18]) : W (oLst [.fz a0, .fz a1, .fz a2, .fz a3, .fz a4, .fz a5, .fz a6, .fz a7, .fz a8, .fz a9, .fz a10, .fz a11, .fz a12, .fz a13, .fz a14, .fz a15, .fz a16, .fz a17, .fz a18]) M E := W.of_eq (oLst_ok (ls := [.fz a0, .fz a1, .fz a2, .fz a3, .fz a4, .fz a5, .fz a6, .fz a7, .fz a8, .fz a9, .fz a10, .fz a11, .fz a12, .fz a13, .fz a14, .fz a15, .fz a16, .fz a17, .fz a18]) (by simp)) h
theorem W_lst20 (h : M (.lst (fzs [a0, a1, a2, a3, a4, a5, a6, a7, a8, a9, a10, a11, a12, a13, a14, a15, a16, a17, a18, a19])) [.fz a0, .fz a1, .fz a2, .fz a3, .fz a4, .fz a5, .fz a6, .fz a7, .fz a8, .fz a9, .fz a10, .fz a11, .fz a12, .fz a13, .fz a14, .fz a15, .fz a16, .fz a17, .fz a18, .fz a19]) : W (oLst [.fz a0, .fz a1, .fz a2, .fz a3, .fz a4, .fz a5, .fz a6, .fz a7, .fz a8, .fz a9, .fz a10, .fz a11, .fz a12, .fz a13, .fz a14, .fz a15, .fz a16, .fz a17, .fz a18, .fz a19]) M E := W.of_eq (oLst_ok (ls := [.fz a0, .fz a1, .fz a2, .fz a3, .fz a4, .fz a5, .fz a6, .fz a7, .fz a8, .fz a9, .fz a10, .fz a11, .fz a12, .fz a13, .fz a14, .fz a15, .fz a16, .fz a17, .fz a18, .fz a19]) (by simp)) h
theorem W_tup3 (h : M (.fz (.tup [a0, a1, a2])) [.fz a0, .fz a1, .fz a2]) : W (oTup [.fz a0, .fz a1, .fz a2]) M E := W.of_eq (oTup_ok (ls := [.fz a0, .fz a1, .fz a2]) (by simp)) h
theorem W_tup4 (h : M (.fz (.tup [a0, a1, a2, a3])) [.fz a0, .fz a1, .fz a2, .fz a3]) : W (oTup [.fz a0, .fz a1, .fz a2, .fz a3]) M E := W.of_eq (oTup_ok (ls := [.fz a0, .fz a1, .fz a2, .fz a3]) (by simp)) h
theorem W_tup5 (h : M (.fz (.tup [a0, a1, a2, a3, a4])) [.fz a0, .fz a1, .fz a2, .fz a3, .fz a4]) : W (oTup [.fz a0, .fz a1, .fz a2, .fz a3, .fz a4]) M E := W.of_eq (oTup_ok (ls := [.fz a0, .fz a1, .fz a2, .fz a3, .fz a4]) (by simp)) h
theorem W_tup6 (h : M (.fz (.tup [a0, a1, a2, a3, a4, a5])) [.fz a0, .fz a1, .fz a2, .fz a3, .fz a4, .fz a5]) : W (oTup [.fz a0, .fz a1, .fz a2, .fz a3, .fz a4, .fz a5]) M E := W.of_eq (oTup_ok (ls := [.fz a0, .fz a1, .fz a2, .fz a3, .fz a4, .fz a5]) (by simp)) h
theorem W_tup7 (h : M (.fz (.tup [a0, a1, a2, a3, a4, a5, a6])) [.fz a0, .fz a1, .fz a2, .fz a3, .fz a4, .fz a5, .fz a6]) : W (oTup [.fz a0, .fz a1, .fz a2, .fz a3, .fz a4, .fz a5, .fz a6]) M E := W.of_eq (oTup_ok (ls := [.fz a0, .fz a1, .fz a2, .fz a3, .fz a4, .fz a5, .fz a6]) (by simp)) h
theorem W_tup8 (h : M (.fz (.tup [a0, a1, a2, a3, a4, a5, a6, a7])) [.fz a0, .fz a1, .fz a2, .fz a3, .fz a4, .fz a5, .fz a6, .fz a7]) : W (oTup [.fz a0, .fz a1, .fz a2, .fz a3, .fz a4, .fz a5, .fz a6, .fz a7]) M E := W.of_eq (oTup_ok (ls := [.fz a0, .fz a1, .fz a2, .fz a3, .fz a4, .fz a5, .fz a6, .fz a7]) (by simp)) h
end
end Dl
namespace Dl
open PySem L2
/-- isinstance, decided -/
def IsiR (x y : L) (b : Bool) : Prop := oIsi [x, y] = .ok (.fz (.bl b), [x, y])
theorem isT_of {a b : String} {r : Bool} (h : isT a b = some r) {x : L} (hx : tyN x = some a) : IsiR x (.fz (.ty b)) r := by
  unfold IsiR oIsi p2
  simp only [hx, Option.bind_some, h, Option.map_some]
theorem W_isi {x y : L} {b : Bool} {M : L → List L → Prop} {E : Exn → List L → Prop} (h : IsiR x y b) (k : M (.fz (.bl b)) [x, y]) : W (oIsi [x, y]) M E := W.of_eq h k
theorem isi_non_str : IsiR (.fz .non) (.fz (.ty "str")) false := isT_of (a := "NoneType") (by decide +kernel) rfl
theorem isi_non_list : IsiR (.fz .non) (.fz (.ty "list")) false := isT_of (a := "NoneType") (by decide +kernel) rfl
theorem isi_non_tuple : IsiR (.fz .non) (.fz (.ty "tuple")) false := isT_of (a := "NoneType") (by decide +kernel) rfl
theorem isi_non_int : IsiR (.fz .non) (.fz (.ty "int")) false := isT_of (a := "NoneType") (by decide +kernel) rfl
theorem isi_non_bool : IsiR (.fz .non) (.fz (.ty "bool")) false := isT_of (a := "NoneType") (by decide +kernel) rfl
theorem isi_non_dict : IsiR (.fz .non) (.fz (.ty "dict")) false := isT_of (a := "NoneType") (by decide +kernel) rfl
theorem isi_bl_str {p : Bool} : IsiR (.fz (.bl p)) (.fz (.ty "str")) false := isT_of (a := "bool") (by decide +kernel) rfl
theorem isi_bl_list {p : Bool} : IsiR (.fz (.bl p)) (.fz (.ty "list")) false := isT_of (a := "bool") (by decide +kernel) rfl
theorem isi_bl_tuple {p : Bool} : IsiR (.fz (.bl p)) (.fz (.ty "tuple")) false := isT_of (a := "bool") (by decide +kernel) rfl
theorem isi_bl_int {p : Bool} : IsiR (.fz (.bl p)) (.fz (.ty "int")) true := isT_of (a := "bool") (by decide +kernel) rfl
theorem isi_bl_bool {p : Bool} : IsiR (.fz (.bl p)) (.fz (.ty "bool")) true := isT_of (a := "bool") (by decide +kernel) rfl
theorem isi_bl_dict {p : Bool} : IsiR (.fz (.bl p)) (.fz (.ty "dict")) false := isT_of (a := "bool") (by decide +kernel) rfl
theorem isi_int_str {i : Int} : IsiR (.fz (.int i)) (.fz (.ty "str")) false := isT_of (a := "int") (by decide +kernel) rfl
theorem isi_int_list {i : Int} : IsiR (.fz (.int i)) (.fz (.ty "list")) false := isT_of (a := "int") (by decide +kernel) rfl
theorem isi_int_tuple {i : Int} : IsiR (.fz (.int i)) (.fz (.ty "tuple")) false := isT_of (a := "int") (by decide +kernel) rfl
theorem isi_int_int {i : Int} : IsiR (.fz (.int i)) (.fz (.ty "int")) true := isT_of (a := "int") (by decide +kernel) rfl
theorem isi_int_bool {i : Int} : IsiR (.fz (.int i)) (.fz (.ty "bool")) false := isT_of (a := "int") (by decide +kernel) rfl
theorem isi_int_dict {i : Int} : IsiR (.fz (.int i)) (.fz (.ty "dict")) false := isT_of (a := "int") (by decide +kernel) rfl
theorem isi_str_str {x : Str} : IsiR (.fz (.str x)) (.fz (.ty "str")) true := isT_of (a := "str") (by decide +kernel) rfl
theorem isi_str_list {x : Str} : IsiR (.fz (.str x)) (.fz (.ty "list")) false := isT_of (a := "str") (by decide +kernel) rfl
theorem isi_str_tuple {x : Str} : IsiR (.fz (.str x)) (.fz (.ty "tuple")) false := isT_of (a := "str") (by decide +kernel) rfl
theorem isi_str_int {x : Str} : IsiR (.fz (.str x)) (.fz (.ty "int")) false := isT_of (a := "str") (by decide +kernel) rfl
theorem isi_str_bool {x : Str} : IsiR (.fz (.str x)) (.fz (.ty "bool")) false := isT_of (a := "str") (by decide +kernel) rfl
theorem isi_str_dict {x : Str} : IsiR (.fz (.str x)) (.fz (.ty "dict")) false := isT_of (a := "str") (by decide +kernel) rfl
theorem isi_tup_str {ds : List D} : IsiR (.fz (.tup ds)) (.fz (.ty "str")) false := isT_of (a := "tuple") (by decide +kernel) rfl
theorem isi_tup_list {ds : List D} : IsiR (.fz (.tup ds)) (.fz (.ty "list")) false := isT_of (a := "tuple") (by decide +kernel) rfl
theorem isi_tup_tuple {ds : List D} : IsiR (.fz (.tup ds)) (.fz (.ty "tuple")) true := isT_of (a := "tuple") (by decide +kernel) rfl
theorem isi_tup_int {ds : List D} : IsiR (.fz (.tup ds)) (.fz (.ty "int")) false := isT_of (a := "tuple") (by decide +kernel) rfl
theorem isi_tup_bool {ds : List D} : IsiR (.fz (.tup ds)) (.fz (.ty "bool")) false := isT_of (a := "tuple") (by decide +kernel) rfl
theorem isi_tup_dict {ds : List D} : IsiR (.fz (.tup ds)) (.fz (.ty "dict")) false := isT_of (a := "tuple") (by decide +kernel) rfl
theorem isi_lst_str {ds : List D} : IsiR (.fz (.lst ds)) (.fz (.ty "str")) false := isT_of (a := "list") (by decide +kernel) rfl
theorem isi_lst_list {ds : List D} : IsiR (.fz (.lst ds)) (.fz (.ty "list")) true := isT_of (a := "list") (by decide +kernel) rfl
theorem isi_lst_tuple {ds : List D} : IsiR (.fz (.lst ds)) (.fz (.ty "tuple")) false := isT_of (a := "list") (by decide +kernel) rfl
theorem isi_lst_int {ds : List D} : IsiR (.fz (.lst ds)) (.fz (.ty "int")) false := isT_of (a := "list") (by decide +kernel) rfl
theorem isi_lst_bool {ds : List D} : IsiR (.fz (.lst ds)) (.fz (.ty "bool")) false := isT_of (a := "list") (by decide +kernel) rfl
theorem isi_lst_dict {ds : List D} : IsiR (.fz (.lst ds)) (.fz (.ty "dict")) false := isT_of (a := "list") (by decide +kernel) rfl
theorem isi_own_str {ks : List L} : IsiR (.lst ks) (.fz (.ty "str")) false := isT_of (a := "list") (by decide +kernel) rfl
theorem isi_own_list {ks : List L} : IsiR (.lst ks) (.fz (.ty "list")) true := isT_of (a := "list") (by decide +kernel) rfl
theorem isi_own_tuple {ks : List L} : IsiR (.lst ks) (.fz (.ty "tuple")) false := isT_of (a := "list") (by decide +kernel) rfl
theorem isi_own_int {ks : List L} : IsiR (.lst ks) (.fz (.ty "int")) false := isT_of (a := "list") (by decide +kernel) rfl
theorem isi_own_bool {ks : List L} : IsiR (.lst ks) (.fz (.ty "bool")) false := isT_of (a := "list") (by decide +kernel) rfl
theorem isi_own_dict {ks : List L} : IsiR (.lst ks) (.fz (.ty "dict")) false := isT_of (a := "list") (by decide +kernel) rfl
theorem isi_dct_str {kvs : List (D × D)} : IsiR (.fz (.dct false kvs)) (.fz (.ty "str")) false := isT_of (a := "dict") (by decide +kernel) rfl
theorem isi_dct_list {kvs : List (D × D)} : IsiR (.fz (.dct false kvs)) (.fz (.ty "list")) false := isT_of (a := "dict") (by decide +kernel) rfl
theorem isi_dct_tuple {kvs : List (D × D)} : IsiR (.fz (.dct false kvs)) (.fz (.ty "tuple")) false := isT_of (a := "dict") (by decide +kernel) rfl
theorem isi_dct_int {kvs : List (D × D)} : IsiR (.fz (.dct false kvs)) (.fz (.ty "int")) false := isT_of (a := "dict") (by decide +kernel) rfl
theorem isi_dct_bool {kvs : List (D × D)} : IsiR (.fz (.dct false kvs)) (.fz (.ty "bool")) false := isT_of (a := "dict") (by decide +kernel) rfl
theorem isi_dct_dict {kvs : List (D × D)} : IsiR (.fz (.dct false kvs)) (.fz (.ty "dict")) true := isT_of (a := "dict") (by decide +kernel) rfl

theorem W_and1 {i : Int} {M : L → List L → Prop} {E : Exn → List L → Prop} (h : M (.fz (.int (i % 2))) [.fz (.int i), .fz (.int 1)]) : W (oAnd [.fz (.int i), .fz (.int 1)]) M E := W_and (by rw [PyProof.Rows.bitAnd_m1]; exact h)
theorem wd_1000 {z : Str} (h : (PyData.strOk z && decide (z.length ≤ 1000)) = true) : Wd 1000 z := by
  simp only [Bool.and_eq_true, decide_eq_true_eq] at h
  exact ⟨h.1, h.2⟩
/-- what is never reached -/
abbrev gStk : Sv := fun _ => .stuck
/-! picks -/
theorem pickD {ds : List D} {i : Int} (P : D → Prop) (h0 : 0 ≤ i) (h1 : i < ds.length) (h : ∀ d, d ∈ ds → P d) : ∃ d, AtI ds i d ∧ P d :=
  ⟨ds[i.toNat]'(by omega), AtI.pos h0 (by simp), h _ (List.getElem_mem _)⟩
theorem pickM {α : Type} {xs : List α} {f : α → D} {i : Int} (h0 : 0 ≤ i) (h1 : i < xs.length) : ∃ x, xs[i.toNat]? = some x ∧ AtI (xs.map f) i (f x) :=
  ⟨xs[i.toNat]'(by omega), by simp, AtI.map h0 (by simp)⟩
theorem pd_strs {n : Nat} {zs : List Str} (h : ∀ z, z ∈ zs → Wd n z) : Pd (.lst (zs.map D.str)) := by
  unfold Pd
  simp only [D.nb, nbs_all, List.all_map, List.all_eq_true]
  exact fun z m => (h z m).ok
theorem pd_lst {ds : List D} (h : ∀ d, d ∈ ds → D.nb 63 d = true) : Pd (.lst ds) := by
  unfold Pd
  simp only [D.nb, nbs_all, List.all_eq_true]
  exact h
theorem pd_tup {ds : List D} (h : ∀ d, d ∈ ds → D.nb 63 d = true) : Pd (.tup ds) := by
  unfold Pd
  simp only [D.nb, nbs_all, List.all_eq_true]
  exact h
theorem nb_int {n : Nat} {i : Int} : D.nb n (.int i) = true := by cases n <;> rfl
theorem nb_non {n : Nat} : D.nb n .non = true := by cases n <;> rfl
theorem nb_str {n m : Nat} {z : Str} (h : Wd m z) : D.nb n (.str z) = true := by cases n <;> exact h.ok
theorem nb_oS {n m : Nat} {o : Option Str} (h : ∀ z, o = some z → Wd m z) : D.nb n (oS o) = true := by
  cases o with
  | none => exact nb_non
  | some z => exact nb_str (h z rfl)
theorem nb_tup {n : Nat} {ds : List D} (h : ∀ d, d ∈ ds → D.nb n d = true) : D.nb (n + 1) (.tup ds) = true := by
  simp only [D.nb, nbs_all, List.all_eq_true]
  exact h
theorem nb_lst {n : Nat} {ds : List D} (h : ∀ d, d ∈ ds → D.nb n d = true) : D.nb (n + 1) (.lst ds) = true := by
  simp only [D.nb, nbs_all, List.all_eq_true]
  exact h
end Dl
namespace Dl
open PySem L2

section
variable {r : Rho} {b : Bv} {s : Sv} {Q : Fl → Rho → Prop} {E : Exn → Rho → Prop}
/-- a walk by what is still ahead -/
theorem W_forS {α : Type} {xs : List α} {emb : α → D} (P : List α → Rho → Prop) (h0 : P xs r) (hs : ∀ x post r, x ∈ xs → P (x :: post) r → WB (b (emb x) r) (kBd s (P post) Q E)) (hE : ∀ r, P [] r → Q .nx r) : W (forL b s (xs.map emb) r) Q E :=
  W_forM (fun k r => P (xs.drop k) r) (by simpa using h0) (fun k r x e h => by
    obtain ⟨hk, rfl⟩ := List.getElem?_eq_some_iff.mp e
    have := hs xs[k] (xs.drop (k + 1)) r (List.getElem_mem _) (by rw [List.getElem_cons_drop]; exact h)
    exact this) fun r h => hE r (by simpa using h)
end
section
variable {l : L} {M : L → List L → Prop} {E : Exn → List L → Prop} {ds : List D} {i : Int} {z : Str} {n : Nat}
theorem SeqL.lsq (h : SeqL l true ds) : lsq l = some ds := by unfold Dl.lsq; rw [h]; rfl
theorem W_all {bs : List Bool} (hs : SeqL l true (bs.map D.bl)) (h : M (.fz (.bl (bs.all id))) [l]) : W (oAll [l]) M E := W.of_eq (by
  unfold oAll p1
  simp only [hs.lsq, Option.bind_some, blsD_map, Option.map_some]) h
theorem W_sum {ns : List Int} (hs : SeqL l true (ns.map D.int)) (h : M (.fz (.int ns.sum)) [l]) : W (oSum [l]) M E := W.of_eq (by
  unfold oSum p1
  simp only [hs.lsq, Option.bind_some, intsD_map, Option.map_some]) h
theorem W_maxL {ns : List Int} (hs : SeqL l true (ns.map D.int)) (h : ∃ m, ns.max? = some m ∧ M (.fz (.int m)) [l]) : W (oMaxL [l]) M E := by
  obtain ⟨m, e, h⟩ := h
  exact W.of_eq (by
    unfold oMaxL p1
    simp only [hs.lsq, Option.bind_some, intsD_map, e, Option.map_some]) h
theorem W_minL {ns : List Int} (hs : SeqL l true (ns.map D.int)) (h : ∃ m, ns.min? = some m ∧ M (.fz (.int m)) [l]) : W (oMinL [l]) M E := by
  obtain ⟨m, e, h⟩ := h
  exact W.of_eq (by
    unfold oMinL p1
    simp only [hs.lsq, Option.bind_some, intsD_map, e, Option.map_some]) h
theorem W_indexI {ns : List Int} (hs : SeqL l true (ns.map D.int)) (h : ∃ j, ns.findIdx? (· == i) = some j ∧ M (.fz (.int (j : Nat))) [l, .fz (.int i)]) : W (mIndex [l, .fz (.int i)]) M E := by
  obtain ⟨j, e, h⟩ := h
  refine W.of_eq ?_ h
  have e1 : (ns.map D.int).all flatD = true := by rw [List.all_map]; exact List.all_eq_true.mpr fun _ _ => rfl
  have e2 : ((ns.map D.int).findIdx? fun z => eqF z (.int i)) = some j := by
    rw [List.findIdx?_map]
    exact e
  unfold mIndex m2
  dsimp only
  simp only [hs.lsq, asD, Option.bind_some, e1, flatD, and_self, if_true, e2, Option.map_some]
theorem join_len : ∀ {zs : List Str} {y : Str}, (∀ z, z ∈ zs → Wd n z) → ∀ {m}, Wd m y → Wd (zs.length * (n + m)) (Str.join y zs)
  | [], y, _, m, _ => by
    have : Str.join y [] = "" := rfl
    rw [this]
    exact wd_nil.mono (by simp)
  | [x], y, h, m, hy => by
    have : Str.join y [x] = x := rfl
    rw [this]
    exact (h x (by simp)).mono (by simp)
  | x :: w :: t, y, h, m, hy => by
    have e : Str.join y (x :: w :: t) = x ++ y ++ Str.join y (w :: t) := rfl
    rw [e]
    have h1 := join_len (zs := w :: t) (fun z m => h z (by simp at m ⊢; exact .inr m)) hy
    refine (((h x (by simp)).app hy).app h1).mono ?_
    simp only [List.length_cons, Nat.add_mul]
    omega
theorem sum_len : ∀ {zs : List Str}, (∀ z, z ∈ zs → Wd n z) → (zs.map (·.length)).sum ≤ zs.length * n
  | [], _ => by simp
  | x :: t, h => by
    have h1 := sum_len (zs := t) (fun z m => h z (by simp [m]))
    have := (h x (by simp)).le
    simp only [List.map_cons, List.sum_cons, List.length_cons, Nat.add_mul, Nat.one_mul]
    omega
/-- join of texts of n signs at most, by a text of m -/
theorem W_join {b : Bool} {m : Nat} {zs : List Str} (hs : SeqL l b (zs.map D.str)) (hz : Wd m z) (h : ∃ n, (∀ x, x ∈ zs → Wd n x) ∧ zs.length * (n + m) ≤ 16777216 ∧ (Wd (zs.length * (n + m)) (Str.join z zs) → M (.fz (.str (Str.join z zs))) [.fz (.str z), l])) : W (mJoin [.fz (.str z), l]) M E := by
  obtain ⟨n, h1, h2, h3⟩ := h
  have e0 : Txt.join z zs = Str.join z zs := TL.join_eq z zs
  refine W.of_eq ?_ (h3 (join_len h1 hz))
  unfold mJoin m2
  dsimp only
  have hle : (zs.map (·.length)).sum + zs.length * z.length ≤ 16777216 := by
    have a := sum_len h1
    have b := Nat.mul_le_mul_left zs.length hz.le
    rw [Nat.mul_add] at h2
    omega
  unfold SeqL at hs
  simp only [asS_str, hs, Option.bind_some, strsD_map, if_pos hle, e0]
/-- an item at a place within, whichever it is -/
theorem W_ixM {α : Type} {xs : List α} {f : α → D} {b : Bool} (hs : SeqL l b (xs.map f)) (h : (0 ≤ i ∧ i < xs.length) ∧ ∀ x, xs[i.toNat]? = some x → M (.fz (f x)) [l, .fz (.int i)]) : W (oIx [l, .fz (.int i)]) M E := by
  obtain ⟨x, e, a⟩ := pickM (f := f) h.1.1 h.1.2
  exact W_ixQ hs ⟨_, a, h.2 x e⟩
end
section
variable {r r0 : Rho} {b : Bv} {ct : Tv} {fe : Ev} {vs : List Nat} {R : L → Rho → Prop} {E : Exn → Rho → Prop} {n : Nat} {T : Str → Prop} {z : Str}
/-- a comprehension of texts, each of which is as told -/
def kSE (T : Str → Prop) (vs : List Nat) (r0 : Rho) : L → Rho → Prop := fun l r => ∃ z, l = .fz (.str z) ∧ T z ∧ WpR r vs r0
theorem kSE_i (w : WpR r vs r0) (h : T z) : kSE T vs r0 (.fz (.str z)) r := ⟨z, rfl, h, w⟩
def kST (fe : Ev) (T : Str → Prop) (vs : List Nat) (r0 : Rho) : Bool → Rho → Prop := fun t r => t = true ∧ W (fe r) (kSE T vs r0) nE
theorem kST_i (h : W (fe r) (kSE T vs r0) nE) : kST fe T vs r0 true r := ⟨rfl, h⟩
def kSB (ct : Tv) (fe : Ev) (T : Str → Prop) (vs : List Nat) (r0 : Rho) : Rho → Prop := fun r => W (ct r) (kST fe T vs r0) nE
theorem kSB_i (h : W (ct r) (kST fe T vs r0) nE) : kSB ct fe T vs r0 r := h
theorem kLc_RZ (T : Str → Prop) (hl : n ≤ 16777216) (w : WpR r vs r0) (w2 : WpR r0 vs r0) (hs : ∀ k : Nat, k < n → WB (b (.int (k : Int)) r0) (kSB ct fe T vs r0)) (hE : ∀ zs : List Str, zs.length = n → (∀ z, z ∈ zs → T z) → R (.lst (fzs (zs.map D.str))) r0) : kLc vs b ct fe R E (rngD 0 n) r :=
  kLc_R (fun k acc r => ∃ zs : List Str, acc = zs.map D.str ∧ zs.length = k ∧ (∀ z, z ∈ zs → T z) ∧ r = r0) hl w ⟨[], rfl, rfl, by simp, rfl⟩ (fun k acc r hk ⟨zs, ea, hz, ht, er⟩ => by
    subst ea; subst er
    obtain ⟨r1, e1, h1⟩ := hs k hk
    refine ⟨r1, e1, W.mono h1 (fun t r2 ⟨ht', h2⟩ => ?_) fun _ _ z => z⟩
    subst ht'
    refine kLcT_t (W.mono h2 (fun l r3 ⟨z, el, hT, w3⟩ => ?_) fun _ _ z => z)
    subst el
    refine kLcE_i w3 ⟨zs ++ [z], by simp, by simp [hz], fun y m => ?_, rfl⟩
    rcases List.mem_append.mp m with m | m
    · exact ht y m
    · simp at m; subst m; exact hT) fun es r ⟨zs, ea, hz, ht, er⟩ => by
    subst ea; subst er
    exact kWp_i w2 (hE zs hz ht)
end
section
variable {r r1 : Rho} {i : Nat} {m : Int} {xs : List (Option Str)} {z : Str} {Q : Fl → Rho → Prop} {M : L → List L → Prop} {E : Exn → List L → Prop}
theorem kSt2_Z (e : r[i]? = some (some (.lst (fzs (xs.map oS))))) (s : SetR r i (some (.lst (fzs ((xs.set m.toNat (some z)).map oS)))) r1) (h : (0 ≤ m ∧ m < xs.length) ∧ Q .nx r1) : kSt2 i (.str z) Q (.fz (.int m)) r := kSt2_M (f := oS) (x := some z) e s h
theorem kSt2_N (e : r[i]? = some (some (.lst (fzs (xs.map oS))))) (s : SetR r i (some (.lst (fzs ((xs.set m.toNat none).map oS)))) r1) (h : (0 ≤ m ∧ m < xs.length) ∧ Q .nx r1) : kSt2 i .non Q (.fz (.int m)) r := kSt2_M (f := oS) (x := none) e s h
theorem W_appendZ (h : xs.length < 16777216 ∧ M (.fz .non) [.lst (fzs ((xs ++ [some z]).map oS)), .fz (.str z)]) : W (mAppend [.lst (fzs (xs.map oS)), .fz (.str z)]) M E := W_appendM (f := oS) (x := some z) h
theorem W_appendN (h : xs.length < 16777216 ∧ M (.fz .non) [.lst (fzs ((xs ++ [none]).map oS)), .fz .non]) : W (mAppend [.lst (fzs (xs.map oS)), .fz .non]) M E := W_appendM (f := oS) (x := none) h
end
section
variable {M : L → List L → Prop} {E : Exn → List L → Prop} {d : D} {ds es : List D}
theorem W_eqFO (h1 : Pd (.lst ds)) (h2 : Pd (.lst es)) (h : M (.fz (.bl (decide (ds = es)))) [.fz (.lst ds), .lst (fzs es)]) : W (oEq [.fz (.lst ds), .lst (fzs es)]) M E := W.of_eq (oEq_pd (x := .fz (.lst ds)) (y := .lst (fzs es)) h1 (by rw [own_toD]; exact h2)) (by simp only [own_toD, toD_fz, D.lst.injEq]; exact h)
theorem W_neFO (h1 : Pd (.lst ds)) (h2 : Pd (.lst es)) (h : M (.fz (.bl (!decide (ds = es)))) [.fz (.lst ds), .lst (fzs es)]) : W (oNe [.fz (.lst ds), .lst (fzs es)]) M E := W.of_eq (oNe_pd (x := .fz (.lst ds)) (y := .lst (fzs es)) h1 (by rw [own_toD]; exact h2)) (by simp only [own_toD, toD_fz, D.lst.injEq]; exact h)
theorem pd_oS {n : Nat} {o : Option Str} (h : ∀ z, o = some z → Wd n z) : Pd (oS o) := nb_oS h
theorem pd_ints {ns : List Int} : Pd (.lst (ns.map D.int)) := pd_lst fun d m => by
  obtain ⟨i, _, rfl⟩ := List.mem_map.mp m
  exact nb_int
end
section
variable {r r0 : Rho} {b : Bv} {ct : Tv} {fe : Ev} {vs : List Nat} {R : L → Rho → Prop} {E : Exn → Rho → Prop}
theorem kLc_E {α : Type} {xs : List α} {emb : α → D} (P : Nat → List D → Rho → Prop) (hl : xs.length ≤ 16777216) (w : WpR r vs r0) (h0 : P 0 [] r0) (hs : ∀ k acc r x, xs[k]? = some x → P k acc r → WB (b (.tup [.int (k : Nat), emb x]) r) (kLcB ct fe vs (P (k + 1)) acc)) (hE : ∀ es r, P xs.length es r → kWp vs R (.lst (fzs es)) r) : kLc vs b ct fe R E (enumD 0 (xs.map emb)) r :=
  kLc_L P (by rw [enumD_len2, List.length_map]; exact hl) w h0 (fun k acc r d e h => by
    obtain ⟨d', e2, rfl⟩ := enumD_at2 e
    rw [List.getElem?_map, Option.map_eq_some_iff] at e2
    obtain ⟨x, e3, rfl⟩ := e2
    rw [Nat.zero_add]
    exact hs k acc r x e3 h) fun es r h => hE es r (by rw [enumD_len2, List.length_map] at h; exact h)
end
end Dl
namespace Dl
open PySem L2
/-! ### the alphabet's letters by number; texts as lists of signs -/
def abcZ (i : Nat) : Str := ⟨#[97 + i]⟩
def tz (z : Str) : List Nat := z.cps.toList
theorem tz_abc {i : Nat} : tz (abcZ i) = [97 + i] := rfl
theorem tz_app {x y : Str} : tz (x ++ y) = tz x ++ tz y := by
  show (x.cps ++ y.cps).toList = _
  simp [tz]
theorem tz_inj {x y : Str} (h : tz x = tz y) : x = y := by
  cases x with
  | mk a => cases y with
    | mk b =>
      have : a = b := by simpa [tz] using h
      rw [this]
theorem tz_len {x : Str} : (tz x).length = x.length := by simp [tz, Str.length]
theorem abcZ_inj {i j : Nat} (h : abcZ i = abcZ j) : i = j := by
  have := congrArg tz h
  simp [tz_abc] at this
  exact this
theorem abc_nth : ∀ n : Fin 26, ("abcdefghijklmnopqrstuvwxyz" : Str).cps.toList[n.val]? = some (97 + n.val) := by decide +kernel
theorem abcZ_wd {i : Nat} (h : i < 26) : Wd 1 (abcZ i) := wd_sign (by omega)
section
variable {i : Int} {M : L → List L → Prop} {E : Exn → List L → Prop} {z : Str} {n : Nat}
theorem W_abcZ (h : (0 ≤ i ∧ i < 26) ∧ (Wd 1 (abcZ i.toNat) → M (.fz (.str (abcZ i.toNat))) [.fz (.str "abcdefghijklmnopqrstuvwxyz"), .fz (.int i)])) : W (oIx [.fz (.str "abcdefghijklmnopqrstuvwxyz"), .fz (.int i)]) M E := by
  have hs : sizeLine = 16777216 := sizeLine_eq
  have e := abc_nth ⟨i.toNat, by omega⟩
  exact W.of_eq (oIx_str (by rw [abc_len, hs]; omega) e h.1.1) (h.2 (abcZ_wd (by omega)))
theorem repS_0 : repS z 0 = "" := rfl
theorem repS_1 : repS z 1 = z := by
  show (⟨[z.cps].foldl (· ++ ·) #[]⟩ : Str) = z
  simp
/-- a text, once or not at all -/
theorem W_mulS {b : Bool} (hz : Wd n z) (h : n ≤ 16777216 ∧ (Wd n (if b then z else "") → M (.fz (.str (if b then z else ""))) [.fz (.str z), .fz (.int (if b then 1 else 0))])) : W (oMulA [.fz (.str z), .fz (.int (if b = true then 1 else 0))]) M E := by
  have hs : sizeLine = 16777216 := sizeLine_eq
  have hl := hz.le
  refine W.of_eq ?_ (h.2 (by cases b; exact wd_nil.mono (Nat.zero_le _); exact hz))
  have hl2 := h.1
  cases b with
  | true =>
    have e3 : oMulS [.fz (.str z), .fz (.int 1)] = .ok (.fz (.str z), [.fz (.str z), .fz (.int 1)]) := by
      unfold oMulS p2
      simp only [asS_str, asI_int, Option.bind_some]
      rw [if_pos ⟨by omega, by omega, by simp; omega⟩, repS_1]
    show oMulA [.fz (.str z), .fz (.int 1)] = _
    have e1 : oMul [.fz (.str z), .fz (.int 1)] = .stuck := rfl
    simp only [oMulA, alt, e1, e3, if_true]
  | false =>
    have e3 : oMulS [.fz (.str z), .fz (.int 0)] = .ok (.fz (.str ""), [.fz (.str z), .fz (.int 0)]) := by
      unfold oMulS p2
      simp only [asS_str, asI_int, Option.bind_some]
      rw [if_pos ⟨by omega, by omega, by simp⟩, repS_0]
    show oMulA [.fz (.str z), .fz (.int 0)] = _
    have e1 : oMul [.fz (.str z), .fz (.int 0)] = .stuck := rfl
    simp only [oMulA, alt, e1, e3]
    rfl
end
end Dl
namespace Dl
open PySem L2

/-! ### guards: what kind of run a goal is about -/
section
variable {ε α β : Type}
theorem gW0 {o : Out ε (α × β)} {Q : α → β → Prop} {E : Exn → ε → Prop} (h : W o Q E) : W o Q E := h
theorem gOp {o : Out (List L) (L × List L)} {Q : L → List L → Prop} {E : Exn → List L → Prop} (h : W o Q E) : W o Q E := h
theorem gEx {o : Out Rho (L × Rho)} {Q : L → Rho → Prop} {E : Exn → Rho → Prop} (h : W o Q E) : W o Q E := h
theorem gSt {o : Out Rho (Fl × Rho)} {Q : Fl → Rho → Prop} {E : Exn → Rho → Prop} (h : W o Q E) : W o Q E := h
theorem gTs {o : Out Rho (Bool × Rho)} {Q : Bool → Rho → Prop} {E : Exn → Rho → Prop} (h : W o Q E) : W o Q E := h
end
/-! ### is True, is False -/
def oIsB : Fv := p2 fun x y => match x, y with
  | .fz (.bl a), .fz (.bl b) => some (.fz (.bl (decide (a = b))))
  | _, _ => none
theorem dop_isB {s : Cs} {E : XK} : Dop s E (r2 fun x y H Q => ∃ a b, x = .bl a ∧ y = .bl b ∧ Q (.bl (decide (a = b))) H) oIsB := dop_p2 fun c hc G H th rh ta si x y v u l Q h0 e q => by
  cases x with
  | fz d =>
    cases y with
    | fz d' =>
      cases d <;> cases d' <;> first | cases e | skip
      exact ⟨_, _, h0.vw.bl, h0.pop.vw.bl, q _ G H (h0.push (.bl .nil))⟩
    | _ => cases d <;> cases e
  | _ => cases e
theorem W_isBT {M : L → List L → Prop} {E : Exn → List L → Prop} {b : Bool} (h : M (.fz (.bl b)) [.fz (.bl b), .fz (.bl true)]) : W (oIsB [.fz (.bl b), .fz (.bl true)]) M E := by
  refine W.of_eq (a := .fz (.bl b)) (b := [.fz (.bl b), .fz (.bl true)]) ?_ h
  cases b <;> rfl
/-! ### things of any kind -/
section
variable {M : L → List L → Prop} {E : Exn → List L → Prop} {i j : Int} {k : Bool} {ls : List L} {ds : List D} {r : Rho} {R : L → Rho → Prop} {E' : Exn → Rho → Prop} {s1 s2 : Sv} {Q : Fl → Rho → Prop} {N : Rho → Prop} {x y : L}
theorem backs_all : ∀ {ms : List (Option Nat)} {ls : List L} {r : Rho}, ms.all Option.isNone = true → backs ms ls r = r
  | [], [], _, _ => by simp [backs]
  | [], _ :: _, _, _ => by simp [backs]
  | none :: ms, [], _, _ => by simp [backs]
  | none :: ms, _ :: ls, r, h => by
    have := backs_all (ms := ms) (ls := ls) (r := r) (by simpa using h)
    simpa [backs] using this
  | some _ :: _, _, _, h => by simp at h
theorem kOb_all {ms : List (Option Nat)} {l : L} (hm : ms.all Option.isNone = true) (h : R l r) : kOb ms r R l ls := by
  unfold kOb
  rw [backs_all hm]
  exact h
theorem W_alt {F F' : Fv} (h : W (F ls) M E) : W (alt F F' ls) M E := by
  unfold alt
  cases e : F ls with
  | ok p => rw [e] at h; exact h
  | exc x e' => rw [e] at h; exact h
  | stuck => rw [e] at h; exact h.run.elim
theorem W_addX (h : W (oAdd ls) M E) : W (oAddX ls) M E := W_alt h
theorem W_subX (h : W (oSub ls) M E) : W (oSubX ls) M E := W_alt h
theorem W_strX (h : W (oStr ls) M E) : W (oStrX ls) M E := W_alt h
theorem W_addBI (h : M (.fz (.int (bI k + j))) [.fz (.bl k), .fz (.int j)]) : W (oAddX [.fz (.bl k), .fz (.int j)]) M E := ⟨h⟩
theorem W_subBI (h : M (.fz (.int (bI k - j))) [.fz (.bl k), .fz (.int j)]) : W (oSubX [.fz (.bl k), .fz (.int j)]) M E := ⟨h⟩
theorem W_subIB (h : M (.fz (.int (i - bI k))) [.fz (.int i), .fz (.bl k)]) : W (oSubX [.fz (.int i), .fz (.bl k)]) M E := ⟨h⟩
theorem bI_le : 0 ≤ bI k ∧ bI k ≤ 1 := by cases k <;> simp [bI]
theorem W_strB (h : M (.fz (.str (if k then "True" else "False"))) [.fz (.bl k)]) : W (oStrX [.fz (.bl k)]) M E := ⟨h⟩
theorem W_eq0 (h : M (.fz (.bl (decide (ds = [])))) [.fz (.tup ds), .fz (.tup [])]) : W (oEqE [.fz (.tup ds), .fz (.tup [])]) M E := by
  have e : ds.isEmpty = decide (ds = []) := by cases ds <;> simp
  refine W.of_eq (a := .fz (.bl (decide (ds = [])))) (b := [.fz (.tup ds), .fz (.tup [])]) ?_ h
  rw [← e]
  rfl
theorem W_eDN (h : R (.dct false []) r) : W (eDN r) R E' := ⟨h⟩
def kD1 (R : L → Rho → Prop) : List L → Rho → Prop := fun ls r => ∃ k v, ls = [k, v] ∧ (keyOf k.toD).isSome = true ∧ R (.dct false [(k.toD, .fz v.toD)]) r
theorem W_eD1 {a : Av} (h : W (a r) (kD1 R) E') : W (eD1 a r) R E' := W.bind (h.mono (fun ls r ⟨k, v, e, hk, q⟩ => by
  subst e
  dsimp only
  obtain ⟨z, hz⟩ := Option.isSome_iff_exists.mp hk
  rw [hz]
  exact ⟨q⟩) fun _ _ z => z)
theorem kD1_i (hk : (keyOf x.toD).isSome = true) (h : R (.dct false [(x.toD, .fz y.toD)]) r) : kD1 R [x, y] r := ⟨x, y, rfl, hk, h⟩
theorem kThn_revAt (h : R (.fz (.tup ds.reverse)) r) : kThn revA R (.fz (.tup ds)) r := ⟨_, by
  have := SeqL.tp (ds := ds)
  unfold SeqL at this
  unfold revA; rw [this], h⟩
theorem W_eqEI (h : W (oEq [.fz (.int i), .fz (.int j)]) M E) : W (oEqE [.fz (.int i), .fz (.int j)]) M E := by
  have e : oEqE [.fz (.int i), .fz (.int j)] = oEq [.fz (.int i), .fz (.int j)] := by
    unfold oEqE alt
    rfl
  rw [e]; exact h
/-- a statement, what stands behind it, then the rest -/
theorem W_seqI (N : Rho → Prop) (h1 : W (s1 r) (fun f r' => f = .nx ∧ N r') E') (h2 : ∀ r', N r' → W (s2 r') Q E') : W (gSeq s1 s2 r) Q E' :=
  W_seq (h1.mono (fun f r' ⟨e, n⟩ => by subst e; exact h2 r' n) fun _ _ z => z)

theorem oPow_10_40 : oPow [.fz (.int 10), .fz (.int 40)] = .ok (.fz (.int 10000000000000000000000000000000000000000), [.fz (.int 10), .fz (.int 40)]) := id rfl
theorem strOk_of (s : String) : PyData.strOk (Str.ofString s) = true := by
  rw [Str.ofString_eq_toList]
  unfold PyData.strOk
  rw [Array.all_eq_true']
  intro x hx
  simp only [List.mem_toArray, List.mem_map] at hx
  obtain ⟨c, _, rfl⟩ := hx
  have := c.valid
  unfold Nat.isValidChar UInt32.isValidChar at *
  have h2 : c.toNat = c.val.toNat := rfl
  simp only [decide_eq_true_eq]
  rcases this with h | ⟨_, h⟩ <;> (rw [h2]; first | omega | (simp at h; omega))
theorem wd_int {i : Int} (h : i.natAbs.log2 < 1920) : Wd 16777216 (toString i : String) := by
  refine ⟨strOk_of _, ?_⟩
  have := int_text_fits h
  rw [sizeLine_eq] at this
  exact this
theorem log2_lt {n k : Nat} (h : n < 2 ^ k) (hk : 0 < k) : n.log2 < k := by
  by_cases e : n = 0
  · subst e; simpa using hk
  · exact (Nat.log2_lt e).mpr h
theorem W_strI (h : i.natAbs < 10 ^ 41 ∧ ∀ z : Str, Wd 16777216 z → M (.fz (.str z)) [.fz (.int i)]) : W (oStr [.fz (.int i)]) M E := by
  have hl : i.natAbs.log2 < 1920 := log2_lt (Nat.lt_of_lt_of_le h.1 (by decide +kernel)) (by decide)
  refine W.of_eq (a := .fz (.str (toString i : String))) (b := [.fz (.int i)]) ?_ (h.2 _ (wd_int hl))
  simp only [oStr, p1, if_pos hl]
end
mutual
def D.od : Nat → Nat → D → Bool
  | _, _, .non => true
  | _, _, .bl _ => true
  | _, m, .int i => decide (i.natAbs ≤ 10 ^ 40 + m)
  | _, _, .str x => PyData.strOk x && decide (x.length ≤ 16777216)
  | n + 1, m, .lst ds => decide (ds.length ≤ 1000 + m) && D.ods n m ds
  | n + 1, m, .tup ds => decide (ds.length ≤ 1000 + m) && D.ods n m ds
  | _ + 1, _, .dct false _ => true
  | _, _, _ => false
def D.ods : Nat → Nat → List D → Bool
  | _, _, [] => true
  | n, m, d :: ds => D.od n m d && D.ods n m ds
end
/-- a thing of any kind, at most so deep, not too large -/
def Od (n m : Nat) (d : D) : Prop := D.od n m d = true
def Ods (n m : Nat) (ds : List D) : Prop := ds.length ≤ 1000 + m ∧ ∀ d, d ∈ ds → Od n m d
theorem ods_all {n m : Nat} {ds : List D} : D.ods n m ds = true ↔ ∀ d, d ∈ ds → Od n m d := by
  induction ds with
  | nil => simp [D.ods]
  | cons d ds ih => simp [D.ods, ih, Od]
theorem od_tup {n m : Nat} {ds : List D} : Od (n + 1) m (.tup ds) ↔ Ods n m ds := by
  simp [Od, D.od, Ods, ods_all]
theorem od_lst {n m : Nat} {ds : List D} : Od (n + 1) m (.lst ds) ↔ Ods n m ds := by
  simp [Od, D.od, Ods, ods_all]
theorem od_non {n m : Nat} : Od n m .non := by cases n <;> rfl
theorem od_bl {n m : Nat} {b : Bool} : Od n m (.bl b) := by cases n <;> rfl
theorem od_int {n m : Nat} {i : Int} : Od n m (.int i) ↔ i.natAbs ≤ 10 ^ 40 + m := by cases n <;> simp [Od, D.od]
theorem od_str {n m : Nat} {z : Str} (h : Wd 16777216 z) : Od n m (.str z) := by
  cases n <;> simp [Od, D.od, h.ok, h.le]
theorem od_str_wd {n m : Nat} {z : Str} (h : Od n m (.str z)) : Wd 16777216 z := by
  have : (PyData.strOk z && decide (z.length ≤ 16777216)) = true := by cases n <;> exact h
  simp only [Bool.and_eq_true, decide_eq_true_eq] at this
  exact ⟨this.1, this.2⟩
theorem od_dct {n m : Nat} {t : Bool} {kvs : List (D × D)} (h : Od n m (.dct t kvs)) : t = false ∧ 0 < n := by
  cases n <;> cases t <;> simp [Od, D.od] at h ⊢
theorem od_up {n n' m m' : Nat} {d : D} (h : Od n m d) (hn : n ≤ n') (hm : m ≤ m') : Od n' m' d := by
  induction n generalizing n' d with
  | zero => cases d with
    | non => exact od_non
    | bl => exact od_bl
    | int i => rw [od_int] at *; omega
    | str z => exact od_str (od_str_wd h)
    | dct t kvs => exact absurd (od_dct h).2 (by omega)
    | _ => cases h
  | succ n ih => cases d with
    | non => exact od_non
    | bl => exact od_bl
    | int i => rw [od_int] at *; omega
    | str z => exact od_str (od_str_wd h)
    | dct t kvs =>
      obtain ⟨k, rfl⟩ : ∃ k, n' = k + 1 := ⟨n' - 1, by omega⟩
      obtain ⟨rfl, _⟩ := od_dct h
      rfl
    | lst ds =>
      obtain ⟨k, rfl⟩ : ∃ k, n' = k + 1 := ⟨n' - 1, by omega⟩
      exact od_lst.mpr ⟨Nat.le_trans (od_lst.mp h).1 (by omega), fun d hd => ih ((od_lst.mp h).2 d hd) (by omega)⟩
    | tup ds =>
      obtain ⟨k, rfl⟩ : ∃ k, n' = k + 1 := ⟨n' - 1, by omega⟩
      exact od_tup.mpr ⟨Nat.le_trans (od_tup.mp h).1 (by omega), fun d hd => ih ((od_tup.mp h).2 d hd) (by omega)⟩
    | _ => cases h
theorem Ods.up {n n' m m' : Nat} {ds : List D} (h : Ods n m ds) (hn : n ≤ n') (hm : m ≤ m') : Ods n' m' ds := ⟨Nat.le_trans h.1 (by omega), fun d hd => od_up (h.2 d hd) hn hm⟩
/-- what a thing of any kind is -/
theorem Od.cases {n m : Nat} {d : D} (h : Od n m d) : d = .non ∨ (∃ b, d = .bl b) ∨ (∃ i, d = .int i ∧ i.natAbs ≤ 10 ^ 40 + m) ∨ (∃ z, d = .str z ∧ Wd 16777216 z) ∨ (∃ ds k, n = k + 1 ∧ d = .lst ds ∧ Ods k m ds) ∨ (∃ ds k, n = k + 1 ∧ d = .tup ds ∧ Ods k m ds) ∨ (∃ kvs, d = .dct false kvs) := by
  cases d with
  | non => exact .inl rfl
  | bl b => exact .inr (.inl ⟨b, rfl⟩)
  | int i => exact .inr (.inr (.inl ⟨i, rfl, od_int.mp h⟩))
  | str z => exact .inr (.inr (.inr (.inl ⟨z, rfl, od_str_wd h⟩)))
  | lst ds =>
    cases n with
    | zero => cases h
    | succ k => exact .inr (.inr (.inr (.inr (.inl ⟨ds, k, rfl, rfl, od_lst.mp h⟩))))
  | tup ds =>
    cases n with
    | zero => cases h
    | succ k => exact .inr (.inr (.inr (.inr (.inr (.inl ⟨ds, k, rfl, rfl, od_tup.mp h⟩)))))
  | dct t kvs =>
    obtain ⟨rfl, _⟩ := od_dct h
    exact .inr (.inr (.inr (.inr (.inr (.inr ⟨kvs, rfl⟩)))))
  | _ => cases n <;> cases h
theorem cutD_le {ds : List D} {a b : Option Int} : (cutD ds a b).length ≤ ds.length := by
  unfold cutD
  rw [List.length_take, List.length_drop]
  omega
theorem Ods.cut {n m : Nat} {ds : List D} {a b : Option Int} (h : Ods n m ds) : Ods n m (cutD ds a b) :=
  ⟨Nat.le_trans cutD_le h.1, fun d hd => h.2 d (List.mem_of_mem_drop (List.mem_of_mem_take hd))⟩
theorem Ods.rev {n m : Nat} {ds : List D} (h : Ods n m ds) : Ods n m ds.reverse := ⟨by simpa using h.1, fun d hd => h.2 d (by simpa using hd)⟩
theorem Ods.app {n m m' : Nat} {ds es : List D} (h : Ods n m ds) (g : Ods n m' es) (hm : m ≤ m') (hl : ds.length + es.length ≤ 1000 + m') : Ods n m' (ds ++ es) := ⟨by simpa using hl, fun d hd => by
  rcases List.mem_append.mp hd with hd | hd
  · exact od_up (h.2 d hd) (Nat.le_refl _) hm
  · exact g.2 d hd⟩
theorem ods_nil {n m : Nat} : Ods n m [] := ⟨by simp, by simp⟩
theorem ods_one {n m : Nat} {d : D} (h : Od n m d) : Ods n m [d] := ⟨by simp; omega, by simpa using h⟩
/-- a closed display -/
theorem Ods.dec {n m k j : Nat} {ds : List D} (h : D.ods k j ds = true) (hl : ds.length ≤ 1000) (hn : k ≤ n) (hm : j ≤ m) : Ods n m ds := ⟨by omega, fun d hd => od_up (ods_all.mp h d hd) hn hm⟩
def OdL (n m : Nat) (ds : List D) : Prop := ∀ d, d ∈ ds → Od n m d
theorem odl_nil {n m : Nat} : OdL n m [] := by simp [OdL]
theorem odl_cons {n m : Nat} {d : D} {ds : List D} (h : Od n m d) (t : OdL n m ds) : OdL n m (d :: ds) := fun x hx => by
  rcases List.mem_cons.mp hx with rfl | hx
  · exact h
  · exact t x hx
theorem Ods.of {n m : Nat} {ds : List D} (hl : ds.length ≤ 1000 + m) (h : OdL n m ds) : Ods n m ds := ⟨hl, h⟩
theorem od_tupN {n m : Nat} {ds : List D} (hn : 0 < n) (h : Ods (n - 1) m ds) : Od n m (.tup ds) := by
  obtain ⟨k, rfl⟩ : ∃ k, n = k + 1 := ⟨n - 1, by omega⟩
  exact od_tup.mpr h
theorem od_lstN {n m : Nat} {ds : List D} (hn : 0 < n) (h : Ods (n - 1) m ds) : Od n m (.lst ds) := by
  obtain ⟨k, rfl⟩ : ∃ k, n = k + 1 := ⟨n - 1, by omega⟩
  exact od_lst.mpr h
theorem cut01 {ds : List D} : (cutD ds none (some 1)).length ≤ 1 := by
  unfold cutD HT.sIx
  rw [List.length_take, List.length_drop]
  simp
  omega
theorem cutD_len {ds : List D} {a b : Option Int} : (cutD ds a b).length = min (HT.sIx ds.length ds.length b - HT.sIx ds.length 0 a) (ds.length - HT.sIx ds.length 0 a) := by
  unfold cutD
  rw [List.length_take, List.length_drop]
theorem sIx_pos {n d : Nat} {i : Int} (h : 0 ≤ i) : HT.sIx n d (some i) = min i.toNat n := by
  unfold HT.sIx
  simp
  omega
theorem sIx_none {n d : Nat} : HT.sIx n d none = d := rfl
theorem cutlo {ds : List D} {i : Int} (h0 : 0 ≤ i) (h1 : i ≤ ds.length) : (cutD ds none (some i)).length = i.toNat := by
  rw [cutD_len, sIx_pos h0, sIx_none]; omega
theorem cuthi {ds : List D} {i : Int} (h0 : 0 ≤ i) : (cutD ds (some i) none).length = ds.length - i.toNat := by
  rw [cutD_len, sIx_pos h0, sIx_none]; omega
theorem cutmid {ds : List D} {i j : Int} (h0 : 0 ≤ i) (h1 : 0 ≤ j) : (cutD ds (some i) (some j)).length ≤ j.toNat - i.toNat := by
  rw [cutD_len, sIx_pos h0, sIx_pos h1]; omega
section
variable {r : Rho} {b : Bv} {s : Sv} {Q : Fl → Rho → Prop} {E : Exn → Rho → Prop} {ds : List D}
theorem W_forD (P : List D → Rho → Prop) (h0 : P ds r) (hs : ∀ x post r, x ∈ ds → P (x :: post) r → WB (b x r) (kBd s (P post) Q E)) (hE : ∀ r, P [] r → Q .nx r) : W (forL b s ds r) Q E := by
  have := W_forS (b := b) (s := s) (Q := Q) (E := E) (r := r) (xs := ds) (emb := fun d => d) P h0 hs hE
  rwa [List.map_id'] at this
end
theorem Bd.no {p : Prop} (h : ¬p) : Bd false p := by simp [Bd, h]
theorem Bd.yes {p : Prop} (h : p) : Bd true p := by simp [Bd, h]
theorem Bd.of {t : Bool} {p q : Prop} (h : Bd t p) (e : p ↔ q) : Bd t q := by unfold Bd at *; rw [h, e]
section
variable {r r0 : Rho} {b : Bv} {ct : Tv} {fe : Ev} {vs : List Nat} {R : L → Rho → Prop} {E : Exn → Rho → Prop} {ds : List D}
theorem kLc_XD (p : D → Prop) [DecidablePred p] (g : D → D) (hl : ds.length ≤ 16777216) (w : WpR r vs r0) (w2 : WpR r0 vs r0) (hs : ∀ x ∈ ds, WB (b x r0) (kXB ct fe (p x) (g x) vs r0)) (hE : R (.lst (fzs ((ds.filter fun x => decide (p x)).map g))) r0) : kLc vs b ct fe R E ds r := by
  have := kLc_X (xs := ds) (emb := fun d => d) (b := b) (ct := ct) (fe := fe) (vs := vs) (R := R) (E := E) (r := r) p g hl w w2 hs hE
  rwa [List.map_id'] at this
end
def isI : D → Bool
  | .int _ => true
  | _ => false
theorem isI_iff {d : D} : isI d = true ↔ ∃ i, d = .int i := by cases d <;> simp [isI]
theorem isI_all {ds : List D} : (ds.map isI).all id = true ↔ ∃ ns : List Int, ds = ns.map D.int := by
  induction ds with
  | nil => exact ⟨fun _ => ⟨[], rfl⟩, fun _ => rfl⟩
  | cons d ds ih =>
    simp only [List.map_cons, List.all_cons, Bool.and_eq_true, ih, id, isI_iff]
    constructor
    · rintro ⟨⟨i, rfl⟩, ns, rfl⟩
      exact ⟨i :: ns, rfl⟩
    · rintro ⟨ns, e⟩
      cases ns with
      | nil => cases e
      | cons n ns => simp at e; exact ⟨⟨n, e.1⟩, ns, e.2⟩
end Dl
namespace Dl
open PySem L2 PySem.Spec PyProof.Rows

/-! ### a tuple so often -/
theorem tuple_mul1 (l : Addr) (items : Array Value) (n : Nat) (dd : Option Addr) (sl : Array (Option Value)) (u : Tok) :
    Meets (Builtin.«tuple.__mul__» ⟨[.ref l, .int 1 u], []⟩) (fun _ R s => s.heap.get? l = some { cls := .type "tuple", dict := dd, data := .seq items n, slots := sl } ∧ R (.ok (.ret (Value.ref l))) s) :=
  .of_wp fun prog w A R s h => by
    obtain ⟨hp, g, d, tk, os⟩ := s
    obtain ⟨hl, h⟩ := h
    have f1 := AutoSeq1.idx_int
    wp_walk using wpAny_loadPart' hl
    repeat (first
      | (refine wpAny_ite_false (by decide) ?_; wp_walk using wpAny_loadPart' hl)
      | (refine wpAny_ite_true (by simp) ?_; wp_walk using wpAny_loadPart' hl))
    exact ⟨_, rfl, h⟩
section
variable {X : Cx} {s : Cs} {E : XK}
def rRep1 (K : PySem.W.Frag) : R2 := fun x y H Q => ∃ l xs, x = .ref l ∧ y = .int 1 ∧ SqT K H l xs ∧ Q (.ref l) H
theorem op_rep1 : OpR X (binaryOp .Mult) (rRep1 X.K) := by
  intro pins s σ H x y v u Q I rx ry h
  obtain ⟨l, xs, rfl, rfl, hT, q⟩ := h
  cases rx
  obtain ⟨t, rfl⟩ := ry
  obtain ⟨its, r, ⟨⟨cls, dd, data, sl⟩, ho, hc, n, hd⟩, hs⟩ := I.tuple hT
  simp only at hc hd
  subst hc hd
  exact wpAny_binaryOp_repeat_ref (T := "tuple") (U := "int") (by decide) ⟨_, ho, rfl⟩ (fun s' => typeIs_int s' 1 t) noFill_tuple_mul F.fills_int_mul F.slot_int_rmul repeat_tuple F.slot_int_index.lookup
    (call_meets F.slot_int_rmul (typeIs_int s 1 t) F.entry_int_rmul (F.args_int_rmul_2 _ _) (int_rmul_tuple 1 t l its.toArray n dd sl)
      ⟨ho, rfl, ⟨_, ho, rfl⟩, call_meets F.slot_tuple_mul ⟨_, ho, rfl⟩ F.entry_tuple_mul (F.args_tuple_mul_2 _ _) (tuple_mul1 l its.toArray n dd sl t) ⟨ho, .ref l, H, I, rfl, q⟩⟩)
def rMulT (K : PySem.W.Frag) : R2 := fun x y H Q => rRepT K x y H Q ∨ rRep1 K x y H Q
theorem op_mulT : OpR X (binaryOp .Mult) (rMulT X.K) := op_repT.or op_rep1
def oMulT : Fv := p2 fun x y => (tupD x).bind fun ds => (asI y).bind fun k => if ds ≠ [] ∧ 1 ≤ k ∧ k ≤ 1000 ∧ ds.length ≤ 1000 then some (.fz (.tup (repL k.toNat ds))) else none
theorem dop_mulT : Dop s E (r2 (rMulT s.K)) oMulT := dop_p2 fun c hc G H th rh ta si x y v u l Q h0 e q => by
  subst hc
  cases e1 : tupD x with
  | none => rw [e1] at e; cases e
  | some ds =>
    cases e2 : asI y with
    | none => rw [e1, e2] at e; cases e
    | some k =>
      rw [e1, e2] at e
      simp only [Option.bind_some] at e
      by_cases hz : ds ≠ [] ∧ 1 ≤ k ∧ k ≤ 1000 ∧ ds.length ≤ 1000
      · rw [if_pos hz] at e
        cases e
        obtain rfl := asI_some e2
        obtain ⟨p, ws, rfl, sq, gp, dt⟩ := h0.vw.tupD h0.gh e1
        have hy := h0.pop.vw.int
        subst hy
        have hl := dt.length
        by_cases h1 : k = 1
        · subst h1
          refine .inr ⟨p, ws, rfl, rfl, sq, ?_⟩
          have e3 : repL (1 : Int).toNat ds = ds := by simp [repL]
          rw [e3] at q
          exact q (.ref p) G H (h0.push (.tup gp dt .nil))
        · refine .inl ⟨p, k, ws, rfl, rfl, sq, fun z => hz.1 (by subst z; exact List.eq_nil_of_length_eq_zero (by simpa using hl)), by omega, hz.2.2.1, by omega, fun a na => ?_⟩
          obtain ⟨G', h2⟩ := h0.newTup (dt.rep k.toNat) na
          exact q _ G' _ h2
      · rw [if_neg hz] at e; cases e
end
section
variable {M : L → List L → Prop} {E : Exn → List L → Prop} {i : Int} {b : Bool} {ds : List D}
theorem W_mulT (h : (ds ≠ [] ∧ 1 ≤ i ∧ i ≤ 1000 ∧ ds.length ≤ 1000) ∧ M (.fz (.tup (repL i.toNat ds))) [.fz (.tup ds), .fz (.int i)]) : W (oMulT [.fz (.tup ds), .fz (.int i)]) M E := W.of_eq (by
  unfold oMulT p2
  simp only [tupD, asI, Option.bind_some, if_pos h.1]) h.2
/-- a number, once or not at all -/
theorem W_mulBI (h : M (.fz (.int (if b then i else 0))) [.fz (.int i), .fz (.int (if b then 1 else 0))]) : W (oMulA [.fz (.int i), .fz (.int (if b then 1 else 0))]) M E := by
  cases b with
  | true => exact W.of_eq (oMulA_r (by decide) (by decide)) (by simpa using h)
  | false => exact W.of_eq (oMulA_r (by decide) (by decide)) (by simpa using h)
end
theorem enumD_map {α : Type} {emb : α → D} : ∀ {xs : List α} {k : Nat}, enumD k (xs.map emb) = (xs.zipIdx k).map fun p => .tup [.int (p.2 : Nat), emb p.1]
  | [], _ => rfl
  | x :: xs, k => by simp [enumD, List.zipIdx, enumD_map (xs := xs)]
/-! ### a list of anything, compared with [] -/
section
variable {X : Cx} {s : Cs} {E : XK}
def rEqL0 (K : PySem.W.Frag) (neg : Bool) : R2 := fun x y H Q => ∃ a b xs, x = .ref a ∧ y = .ref b ∧ SqL K H a xs ∧ SqL K H b [] ∧ Q (.bl (if neg then !xs.isEmpty else xs.isEmpty)) H
theorem op_eqL0 (hu : X.A.units + 64 < cLine) : OpR X (compareOp .Eq) (rEqL0 X.K false) := by
  intro pins s σ H x y v u Q I rx ry h
  obtain ⟨a, b, xs, rfl, rfl, ha, hb, q⟩ := h
  cases (show v = Value.ref a from rx)
  cases (show u = Value.ref b from ry)
  obtain ⟨us, r1, p1, _⟩ := I.list ha
  obtain ⟨ws, r2, p2, _⟩ := I.list hb
  cases r2
  have e1 := r1.length
  cases xs with
  | nil =>
    cases us with
    | nil => exact SeqAt.RcAt.lists (e := fun _ => true) p1.isList p2.isList rfl (by omega) (fun j h1 h2 => absurd h2 (Nat.not_lt_zero j)) _ _ _ _ ⟨.bl _, H, I, rfl, q⟩
    | cons _ _ => simp at e1
  | cons _ _ =>
    cases us with
    | nil => simp at e1
    | cons _ _ => exact SeqAt.RcAt.lists_lengths p1.isList p2.isList rfl (by omega) _ _ _ _ ⟨.bl _, H, I, rfl, q⟩
theorem op_neL0 (hu : X.A.units + 64 < cLine) : OpR X (compareOp .NotEq) (rEqL0 X.K true) := by
  intro pins s σ H x y v u Q I rx ry h
  obtain ⟨a, b, xs, rfl, rfl, ha, hb, q⟩ := h
  cases (show v = Value.ref a from rx)
  cases (show u = Value.ref b from ry)
  obtain ⟨us, r1, p1, _⟩ := I.list ha
  obtain ⟨ws, r2, p2, _⟩ := I.list hb
  cases r2
  have e1 := r1.length
  cases xs with
  | nil =>
    cases us with
    | nil => exact SeqAt.RcNeAt.lists (e := fun _ => true) p1.isList p2.isList rfl (by omega) (fun j h1 h2 => absurd h2 (Nat.not_lt_zero j)) _ _ _ _ ⟨.bl _, H, I, rfl, q⟩
    | cons _ _ => simp at e1
  | cons _ _ =>
    cases us with
    | nil => simp at e1
    | cons _ _ => exact SeqAt.RcNeAt.lists_lengths p1.isList p2.isList rfl (by omega) _ _ _ _ ⟨.bl _, H, I, rfl, q⟩
def oEqL0 (neg : Bool) : Fv := p2 fun x y => (lsq x).bind fun ds => (lsq y).bind fun es => if es = [] then some (.fz (.bl (if neg then !ds.isEmpty else ds.isEmpty))) else none
theorem dop_eqL0 {neg : Bool} : Dop s E (r2 (rEqL0 s.K neg)) (oEqL0 neg) := dop_p2 fun c hc G H th rh ta si x y v u l Q h0 e q => by
  subst hc
  cases e1 : lsq x with
  | none => rw [e1] at e; cases e
  | some ds =>
    cases e2 : lsq y with
    | none => rw [e1, e2] at e; cases e
    | some es =>
      rw [e1, e2] at e
      simp only [Option.bind_some] at e
      by_cases hz : es = []
      · rw [if_pos hz] at e
        cases e
        subst hz
        obtain ⟨p, ws, rfl, sq, dt⟩ := h0.vw.lsq h0.gh e1
        obtain ⟨p2, ws2, rfl, sq2, dt2⟩ := h0.pop.vw.lsq h0.gh e2
        cases dt2
        have hl := dt.length
        have : ws.isEmpty = ds.isEmpty := by cases ws <;> cases ds <;> simp_all
        refine ⟨p, p2, ws, rfl, rfl, sq, sq2, ?_⟩
        rw [this]
        exact q _ G H (h0.push (.bl .nil))
      · rw [if_neg hz] at e; cases e
def rNeL (K : PySem.W.Frag) : R2 := fun x y H Q => rEqL0 K true x y H Q ∨ rNeD K x y H Q
theorem op_neL (hu : X.A.units + 64 < cLine) : OpR X (compareOp .NotEq) (rNeL X.K) := (op_neL0 hu).or (op_neD hu)
def oNeL : Fv := alt (oEqL0 true) oNe
theorem dop_neL : Dop s E (r2 (rNeL s.K)) oNeL := Dop.alt dop_eqL0 dop_ne (fun vs H Q h => r2_inl h) (fun vs H Q h => r2_inr h)
def rEqL (K : PySem.W.Frag) : R2 := fun x y H Q => rEqL0 K false x y H Q ∨ rEqD K x y H Q
theorem op_eqL (hu : X.A.units + 64 < cLine) : OpR X (compareOp .Eq) (rEqL X.K) := (op_eqL0 hu).or (op_eqD hu)
def oEqL : Fv := alt (oEqL0 false) oEq
theorem dop_eqL : Dop s E (r2 (rEqL s.K)) oEqL := Dop.alt dop_eqL0 dop_eq (fun vs H Q h => r2_inl h) (fun vs H Q h => r2_inr h)
end
section
variable {M : L → List L → Prop} {E : Exn → List L → Prop} {ds : List D} {x : L}
theorem emp_dec {ds : List D} : ds.isEmpty = decide (ds = []) := by cases ds <;> simp
theorem W_neL0 (hs : SeqL x true ds) (h : M (.fz (.bl (!decide (ds = [])))) [x, .lst (fzs [])]) : W (oNeL [x, .lst (fzs [])]) M E := by
  refine W.of_eq (a := .fz (.bl (!decide (ds = [])))) (b := [x, .lst (fzs [])]) ?_ h
  have e2 : lsq (.lst (fzs [])) = some [] := rfl
  have e : oEqL0 true [x, .lst (fzs [])] = .ok (.fz (.bl (!decide (ds = []))), [x, .lst (fzs [])]) := by
    unfold oEqL0 p2
    simp only [hs.lsq, e2, Option.bind_some, if_true, emp_dec]
  unfold oNeL alt
  rw [e]
theorem W_eqL0 (hs : SeqL x true ds) (h : M (.fz (.bl (decide (ds = [])))) [x, .lst (fzs [])]) : W (oEqL [x, .lst (fzs [])]) M E := by
  refine W.of_eq (a := .fz (.bl (decide (ds = [])))) (b := [x, .lst (fzs [])]) ?_ h
  have e2 : lsq (.lst (fzs [])) = some [] := rfl
  have e : oEqL0 false [x, .lst (fzs [])] = .ok (.fz (.bl (decide (ds = []))), [x, .lst (fzs [])]) := by
    unfold oEqL0 p2
    simp only [hs.lsq, e2, Option.bind_some, if_true, emp_dec]
    rfl
  unfold oEqL alt
  rw [e]
end
end Dl
namespace Dl
open PySem L2

/-! ### tuples whose object is known -/
section
variable {M : L → List L → Prop} {E : Exn → List L → Prop} {l x : L} {ds : List D}
theorem SeqL.kt : SeqL (.fz (.ktp ds)) false ds := seqD_ktp
theorem kEn_k {J : List D → Rho → Prop} {r : Rho} (h : J (enumD 0 ds) r) : kEn J (.fz (.ktp ds)) r := ⟨false, ds, by show sqD (.ktp ds) = _; unfold sqD; exact seqD_ktp, h⟩
theorem W_tupN (hs : SeqL l true ds) (h : M (.fz (.ktp ds)) [l]) : W (oTupleN [l]) M E := W.of_eq (by
  unfold oTupleN p1
  simp only [hs.lsq, Option.map_some]) h
theorem W_minX {b : Bool} {ns : List Int} (hs : SeqL l b (ns.map D.int)) (h : ∃ m, ns.min? = some m ∧ M (.fz (.int m)) [l]) : W (oMinX [l]) M E := by
  obtain ⟨m, e, h⟩ := h
  unfold SeqL at hs
  exact W.of_eq (by
    unfold oMinX p1
    simp only [hs, Option.bind_some, intsD_map, e, Option.map_some]) h
theorem W_indexT {ns : List Int} {i : Int} (h : ∃ j, ns.findIdx? (· == i) = some j ∧ M (.fz (.int (j : Nat))) [.fz (.ktp (ns.map D.int)), .fz (.int i)]) : W (mIndexT [.fz (.ktp (ns.map D.int)), .fz (.int i)]) M E := by
  obtain ⟨j, e, h⟩ := h
  refine W.of_eq ?_ h
  have e1 : (ns.map D.int).all flatD = true := by rw [List.all_map]; exact List.all_eq_true.mpr fun _ _ => rfl
  have e2 : ((ns.map D.int).findIdx? fun z => eqF z (.int i)) = some j := by
    rw [List.findIdx?_map]
    exact e
  unfold mIndexT m2
  dsimp only
  simp only [asD, Option.bind_some, e1, flatD, and_self, if_true, e2, Option.map_some]
theorem isi_ktp_str {ds : List D} : IsiR (.fz (.ktp ds)) (.fz (.ty "str")) false := isT_of (a := "tuple") (by decide +kernel) rfl
theorem isi_ktp_list {ds : List D} : IsiR (.fz (.ktp ds)) (.fz (.ty "list")) false := isT_of (a := "tuple") (by decide +kernel) rfl
theorem isi_ktp_tuple {ds : List D} : IsiR (.fz (.ktp ds)) (.fz (.ty "tuple")) true := isT_of (a := "tuple") (by decide +kernel) rfl
theorem isi_ktp_int {ds : List D} : IsiR (.fz (.ktp ds)) (.fz (.ty "int")) false := isT_of (a := "tuple") (by decide +kernel) rfl
theorem isi_ktp_bool {ds : List D} : IsiR (.fz (.ktp ds)) (.fz (.ty "bool")) false := isT_of (a := "tuple") (by decide +kernel) rfl
theorem isi_ktp_dict {ds : List D} : IsiR (.fz (.ktp ds)) (.fz (.ty "dict")) false := isT_of (a := "tuple") (by decide +kernel) rfl
/-- a thing compared with its like: d' reads as the same data -/
theorem W_neSame {d d' : D} (e : d'.py = d.py) (hp : Pd d') (h : M (.fz (.bl false)) [.fz d, .fz d]) : W (oNe [.fz d, .fz d]) M E := by
  obtain ⟨a, s1, s2⟩ := shp_pl (l := .fz d') (nb_pl hp)
  have s3 : shp (.fz d) = some a := by
    unfold shp at s1 ⊢
    show (d.py).bind _ = _
    rw [← e]
    exact s1
  have sh : SeqAt.shaped a = true := by
    unfold shp at s3
    cases q : (L.fz d).toD.py with
    | none => rw [q] at s3; cases s3
    | some b =>
      rw [q] at s3
      simp only [Option.bind_some] at s3
      by_cases z : SeqAt.shaped b = true
      · rw [if_pos z] at s3; cases s3; exact z
      · rw [if_neg z] at s3; cases s3
  exact W.of_eq (by
    unfold oNe p2
    simp only [s3, Option.bind_some, Option.map_some, PySem.SeqAt.eqv_refl a (SeqAt.canLay_of_shaped sh), Bool.not_true]) h
end
/-! pop at a place, insert -/
section
variable {α : Type} {f : α → D} {xs : List α} {i : Int} {x : α}
theorem W_popAtM (h : (0 ≤ i ∧ i < xs.length ∧ i < 1000000) ∧ ∃ x, xs[i.toNat]? = some x ∧ M (.fz (f x)) [.lst (fzs ((xs.eraseIdx i.toNat).map f)), .fz (.int i)]) : W (mPopAt [.lst (fzs (xs.map f)), .fz (.int i)]) M E := by
  obtain ⟨⟨h0, h1, h2⟩, x, ex, h⟩ := h
  refine W.of_eq ?_ h
  have e1 : seqIndex? i (fzs (xs.map f)).length = some i.toNat := by
    unfold fzs
    have n0 : ¬ i < 0 := by omega
    simp [seqIndex?, n0, h0, h1]
  have e2 : (fzs (xs.map f))[i.toNat]? = some (.fz (f x)) := by
    unfold fzs
    simp [ex]
  have e3 : (fzs (xs.map f)).eraseIdx i.toNat = fzs ((xs.eraseIdx i.toNat).map f) := by
    unfold fzs
    simp [List.eraseIdx_eq_take_drop_succ, List.map_take, List.map_drop]
  unfold mPopAt m2
  simp only [ownL, asI, Option.bind_some]
  rw [if_pos (by omega), e1]
  simp only [Option.bind_some, e2, Option.map_some, e3]
theorem W_insertM (h : (xs.length < 1000000 ∧ 0 ≤ i ∧ i < 1000000) ∧ M (.fz .non) [.lst (fzs ((xs.take i.toNat ++ [x] ++ xs.drop i.toNat).map f)), .fz (.int i), .fz (f x)]) : W (mInsert [.lst (fzs (xs.map f)), .fz (.int i), .fz (f x)]) M E := by
  obtain ⟨⟨h0, h1, h2⟩, h⟩ := h
  refine W.of_eq ?_ h
  have e3 : (fzs (xs.map f)).take i.toNat ++ [L.fz (f x)] ++ (fzs (xs.map f)).drop i.toNat = fzs ((xs.take i.toNat ++ [x] ++ xs.drop i.toNat).map f) := by
    unfold fzs
    simp [List.map_take, List.map_drop]
  have e4 : (fzs (xs.map f)).length = xs.length := by unfold fzs; simp
  unfold mInsert m3
  simp only [ownL, asI, Option.bind_some]
  rw [if_pos (by rw [e4]; unfold sizeLine; omega)]
  simp only [L.toD, e3]
end
section
variable {α : Type} {xs : List α} {a : Int}
theorem cutX_lo (h : 0 ≤ a) : cutX xs none (some a) = xs.take a.toNat := by
  unfold cutX
  rw [sIx_none, sIx_pos h, List.drop_zero, Nat.sub_zero]
  rcases Nat.le_total a.toNat xs.length with g | g
  · rw [Nat.min_eq_left g]
  · rw [Nat.min_eq_right g, List.take_of_length_le (Nat.le_refl _), List.take_of_length_le g]
theorem cutX_hi (h : 0 ≤ a) : cutX xs (some a) none = xs.drop a.toNat := by
  unfold cutX
  rw [sIx_none, sIx_pos h]
  rcases Nat.le_total a.toNat xs.length with g | g
  · rw [Nat.min_eq_left g, List.take_of_length_le (by rw [List.length_drop]; omega)]
  · rw [Nat.min_eq_right g, List.drop_of_length_le (Nat.le_refl _), List.drop_of_length_le g, List.take_nil]
end
theorem erase_mem {α : Type} {xs : List α} {i : Nat} (h : i < xs.length) {m : α} : m = xs[i] ∨ m ∈ xs.eraseIdx i ↔ m ∈ xs := by
  have e : xs = xs.take i ++ xs[i] :: xs.drop (i + 1) := by rw [← List.drop_eq_getElem_cons h, List.take_append_drop]
  rw [List.eraseIdx_eq_take_drop_succ, List.mem_append]
  constructor
  · rintro (rfl | q | q)
    · exact List.getElem_mem h
    · exact List.mem_of_mem_take q
    · exact List.mem_of_mem_drop q
  · intro q
    rw [e, List.mem_append, List.mem_cons] at q
    rcases q with q | q | q
    · exact .inr (.inl q)
    · exact .inl q
    · exact .inr (.inr q)
section
variable {e : Ev} {r : Rho} {R : L → Rho → Prop} {E : Exn → Rho → Prop} {d : D}
def kWk (R : L → Rho → Prop) : L → Rho → Prop := fun l r => R (.fz l.toD.wk) r
theorem W_eWk (h : W (e r) (kWk R) E) : W (eWk e r) R E := W.bind0 h
theorem kWk_of {d' : D} (e : d.wk = d') (h : R (.fz d') r) : kWk R (.fz d) r := by
  unfold kWk
  rw [toD_fz, e]
  exact h
end
/-! is not True -/
def oNsB : Fv := p2 fun x y => match x, y with
  | .fz (.bl a), .fz (.bl b) => some (.fz (.bl (!decide (a = b))))
  | _, _ => none
theorem dop_nsB {s : Cs} {E : XK} : Dop s E (r2 fun x y H Q => ∃ a b, x = .bl a ∧ y = .bl b ∧ Q (.bl (!decide (a = b))) H) oNsB := dop_p2 fun c hc G H th rh ta si x y v u l Q h0 e q => by
  cases x with
  | fz d =>
    cases y with
    | fz d' =>
      cases d <;> cases d' <;> first | cases e | skip
      exact ⟨_, _, h0.vw.bl, h0.pop.vw.bl, q _ G H (h0.push (.bl .nil))⟩
    | _ => cases d <;> cases e
  | _ => cases e
theorem W_nsBT {M : L → List L → Prop} {E : Exn → List L → Prop} {b : Bool} (h : M (.fz (.bl (!b))) [.fz (.bl b), .fz (.bl true)]) : W (oNsB [.fz (.bl b), .fz (.bl true)]) M E := by
  refine W.of_eq (a := .fz (.bl (!b))) (b := [.fz (.bl b), .fz (.bl true)]) ?_ h
  cases b <;> rfl
end Dl
namespace Dl
open PySem L2

/-! ### sorted(set(xs)) -/
section
variable {e : Ev} {l : L} {r : Rho} {R : L → Rho → Prop} {E : Exn → Rho → Prop} {zs : List Str} {b : Bool}
def kSS (R : L → Rho → Prop) : L → Rho → Prop := fun l r => ∃ zs, (lsq l).bind strsD = some zs ∧ zs.length < 64 ∧ R (.lst (fzs ((srt zs).map D.str))) r
theorem W_eSS (h : W (e r) (kSS R) E) : W (eSS e r) R E := by
  refine W.bind0 (h.mono (fun l r1 hk => ?_) fun _ _ z => z)
  obtain ⟨zs, e1, e2, h2⟩ := hk
  dsimp only
  rw [e1]
  dsimp only
  rw [if_pos e2]
  exact h2
theorem kSS_m (hs : SeqL l b (zs.map D.str)) (hb : b = true) (h : zs.length < 64 ∧ ∀ ys, SortOf zs ys → R (.lst (fzs (ys.map D.str))) r) : kSS R l r := by
  subst hb
  exact ⟨zs, by rw [hs.lsq]; simp, h.1, h.2 _ (srt_ok zs)⟩
end
end Dl
namespace Dl
open PySem L2

/-! ### the text of a thing -/
/-- shown, in k depths and n signs -/
def Sh (k n : Nat) (d : D) : Prop := ∃ x, d.rp = some x ∧ x.leavesShort 100 = true ∧ x.showable = true ∧ x.depth ≤ k ∧ x.bulk ≤ n
def txt (d : D) : Str := (d.rp.map PyData.shown).getD ""
theorem Sh.up {k n k' n' : Nat} {d : D} (h : Sh k n d) (h1 : k ≤ k') (h2 : n ≤ n') : Sh k' n' d := by
  obtain ⟨x, a, b, c, e, f⟩ := h
  exact ⟨x, a, b, c, Nat.le_trans e h1, Nat.le_trans f h2⟩
theorem Sh.ok {k n : Nat} {d : D} (h : Sh k n d) (h1 : k ≤ 60) (h2 : n ≤ 100000) : rpt (.fz d) = some (txt d) := by
  obtain ⟨x, a, b, c, e, f⟩ := h
  have := PyData.shown_le_bulk 100 (by decide) x b
  have l : x.shown.length ≤ sizeLine := by rw [sizeLine_eq]; omega
  show (d.rp).bind _ = _
  unfold txt
  rw [a]
  show (if okR x then some x.shown else none) = some x.shown
  rw [if_pos]
  unfold okR
  simp only [c, Bool.true_and, Bool.and_eq_true, decide_eq_true_eq]
  exact ⟨by omega, l⟩
section
variable {M : L → List L → Prop} {E : Exn → List L → Prop}
theorem W_repr {d : D} (h : Sh 60 100000 d ∧ M (.fz (.str (txt d))) [.fz d]) : W (oRepr [.fz d]) M E := by
  refine W.of_eq ?_ h.2
  simp only [oRepr, p1, h.1.ok (Nat.le_refl _) (Nat.le_refl _)]
  rfl
end
def shB (k n : Nat) (d : D) : Bool := match d.rp with
  | some x => x.leavesShort 100 && (x.showable && (decide (x.depth ≤ k) && decide (x.bulk ≤ n)))
  | none => false
theorem sh_of {k n : Nat} {d : D} (h : shB k n d = true) : Sh k n d := by
  unfold shB at h
  cases e : d.rp with
  | none => rw [e] at h; cases h
  | some x =>
    rw [e] at h
    simp only [Bool.and_eq_true, decide_eq_true_eq] at h
    exact ⟨x, e, h.1, h.2.1, h.2.2.1, h.2.2.2⟩
theorem sh_str {n k : Nat} {z : Str} (h : Wd n z) : Sh k n (.str z) := by
  refine ⟨_, rfl, ?_, rfl, by simp [PyData.depth], h.le⟩
  have := h.ok
  unfold PyData.strOk at this
  simp only [PyData.leavesShort, List.all_eq_true, decide_eq_true_eq]
  intro c hc
  have := (Array.all_eq_true_iff_forall_mem.mp this) c (by simpa using hc)
  simp at this
  omega
theorem sh_all {k n : Nat} : ∀ {ds : List D}, (∀ d ∈ ds, Sh k n d) → ∃ xs, D.rps ds = some xs ∧ PyData.leavesShortAll 100 xs = true ∧ PyData.showableAll xs = true ∧ PyData.depthAll xs ≤ k ∧ PyData.bulkAll xs ≤ ds.length * (n + 1)
  | [], _ => ⟨[], rfl, rfl, rfl, by simp [PyData.depthAll], by simp [PyData.bulkAll]⟩
  | d :: ds, h => by
    obtain ⟨x, a, b, c, e, f⟩ := h d (List.mem_cons_self ..)
    obtain ⟨xs, a', b', c', e', f'⟩ := sh_all (ds := ds) fun y hy => h y (List.mem_cons_of_mem _ hy)
    refine ⟨x :: xs, by simp [D.rps, a, a'], by simp [PyData.leavesShortAll, b, b'], by simp [PyData.showableAll, c, c'], ?_, ?_⟩
    · simp only [PyData.depthAll]; omega
    · simp only [PyData.bulkAll, List.length_cons, Nat.add_mul]; omega
theorem sh_tup {k n m : Nat} {ds : List D} (h : ∀ d ∈ ds, Sh k n d) (hm : ds.length * (n + 1) ≤ m) : Sh (k + 1) m (.tup ds) := by
  obtain ⟨xs, a, b, c, e, f⟩ := sh_all h
  exact ⟨.tuple xs, by simp [D.rp, a], by simpa [PyData.leavesShort] using b, by simpa [PyData.showable] using c, by simp only [PyData.depth]; omega, by simp only [PyData.bulk]; omega⟩
theorem sh_lst {k n m : Nat} {ds : List D} (h : ∀ d ∈ ds, Sh k n d) (hm : ds.length * (n + 1) ≤ m) : Sh (k + 1) m (.lst ds) := by
  obtain ⟨xs, a, b, c, e, f⟩ := sh_all h
  exact ⟨.list xs, by simp [D.rp, a], by simpa [PyData.leavesShort] using b, by simpa [PyData.showable] using c, by simp only [PyData.depth]; omega, by simp only [PyData.bulk]; omega⟩
theorem sh_d1 {k n m : Nat} {y d : D} (h1 : Sh k n y) (h2 : Sh k n d) (hm : 2 * n + 2 ≤ m) : Sh (k + 1) m (.dct false [(y, d)]) := by
  obtain ⟨x, a, b, c, e, f⟩ := h1
  obtain ⟨x', a', b', c', e', f'⟩ := h2
  refine ⟨.dict [(x, x')], by simp [D.rp, D.rpk, a, a'], by simp [PyData.leavesShort, PyData.leavesShortKv, b, b'], by simp [PyData.showable, PyData.showableKv, c, c'], ?_, ?_⟩
  · simp only [PyData.depth, PyData.depthKv]; omega
  · simp only [PyData.bulk, PyData.bulkKv]; omega
/-! ### the signs of a text -/
abbrev sgD (c : Nat) : D := .str ⟨#[c]⟩
theorem wd_one {z : Str} {n c : Nat} (h : Wd n z) (hc : c ∈ z.cps.toList) : Wd 1 ⟨#[c]⟩ := by
  have a := h.ok
  unfold PyData.strOk at a
  have := (Array.all_eq_true_iff_forall_mem.mp a) c (by simpa using hc)
  refine ⟨?_, Nat.le_refl 1⟩
  unfold PyData.strOk
  simpa using this
section
variable {M : L → List L → Prop} {E : Exn → List L → Prop}
theorem W_eqS {x y : Str} (h : M (.fz (.bl (decide (x = y)))) [.fz (.str x), .fz (.str y)]) : W (oEqS [.fz (.str x), .fz (.str y)]) M E := ⟨h⟩
theorem W_neS {x y : Str} (h : M (.fz (.bl (!decide (x = y)))) [.fz (.str x), .fz (.str y)]) : W (oNeS [.fz (.str x), .fz (.str y)]) M E := ⟨h⟩
theorem W_inSg {neg : Bool} {c : Nat} {z : Str} (h : M (.fz (.bl (if neg then !decide (c ∈ z.cps.toList) else decide (c ∈ z.cps.toList)))) [.fz (sgD c), .fz (.str z)]) : W (oIn neg [.fz (sgD c), .fz (.str z)]) M E := by
  refine W.of_eq ?_ h
  have e1 : inS neg [.fz (sgD c), .fz (.str z)] = .stuck := rfl
  have e2 : inD neg [.fz (sgD c), .fz (.str z)] = .stuck := rfl
  have e3 : inG neg [.fz (sgD c), .fz (.str z)] = .ok (.fz (.bl (if neg then !decide (c ∈ z.cps.toList) else decide (c ∈ z.cps.toList))), [.fz (sgD c), .fz (.str z)]) := rfl
  simp only [oIn, alt, e1, e2, e3]
theorem W_inSg0 {c : Nat} {z : Str} (h : M (.fz (.bl (decide (c ∈ z.cps.toList)))) [.fz (sgD c), .fz (.str z)]) : W (oIn false [.fz (sgD c), .fz (.str z)]) M E := W_inSg h
theorem W_inSg1 {c : Nat} {z : Str} (h : M (.fz (.bl (!decide (c ∈ z.cps.toList)))) [.fz (sgD c), .fz (.str z)]) : W (oIn true [.fz (sgD c), .fz (.str z)]) M E := W_inSg h
theorem kIt_x {J : List D → Rho → Prop} {z : Str} {r : Rho} (h : J (z.cps.toList.map sgD) r) : kIt J (.fz (.str z)) r := ⟨_, rfl, h⟩
theorem W_ixS {z : Str} {n : Nat} {i : Int} (hz : Wd n z) (h : (0 ≤ i ∧ i < (z.length : Nat) ∧ n ≤ 16777216) ∧ ∀ c, c ∈ z.cps.toList → Wd 1 ⟨#[c]⟩ → M (.fz (sgD c)) [.fz (.str z), .fz (.int i)]) : W (oIx [.fz (.str z), .fz (.int i)]) M E := by
  have hs : sizeLine = 16777216 := sizeLine_eq
  have hl : i.toNat < z.cps.toList.length := by
    have : z.length = z.cps.toList.length := by simp [Str.length]
    omega
  have hle := hz.le
  refine W.of_eq (oIx_str (k := z.cps.toList[i.toNat]) (by omega) (List.getElem?_eq_getElem hl) h.1.1) (h.2 _ (List.getElem_mem hl) (wd_one hz (List.getElem_mem hl)))
end
theorem sh_non : Sh 0 0 .non := ⟨_, rfl, by simp [PyData.leavesShort], rfl, by simp [PyData.depth], by simp [PyData.bulk]⟩
theorem sh_bl {b : Bool} : Sh 0 0 (.bl b) := ⟨_, rfl, by simp [PyData.leavesShort], rfl, by simp [PyData.depth], by simp [PyData.bulk]⟩
end Dl
namespace Dl
open PySem L2

/-! ### a dict stored into, a dict sorted -/
section
variable {i : Nat} {e f : Ev} {l l0 : L} {d : D} {r : Rho} {Q : Fl → Rho → Prop} {E : Exn → Rho → Prop} {zs : List Str} {z : Str}
def kDp2 (i : Nat) (d : D) (Q : Fl → Rho → Prop) : L → Rho → Prop := fun k r2 => ∃ ks key r3, r2[i]? = some (some (.dct false ks)) ∧ keyOf k.toD = some key ∧ ks.length < sizeLine ∧ SetR r2 i (some (.dct false (putL ks (keyD key) (.fz d)))) r3 ∧ Q .nx r3
def kDp1 (i : Nat) (f : Ev) (Q : Fl → Rho → Prop) (E : Exn → Rho → Prop) : L → Rho → Prop := fun l r1 => (∃ l0, r1[i]? = some (some l0)) ∧ W (f r1) (kDp2 i l.toD Q) E
theorem W_dput (h : W (e r) (kDp1 i f Q E) E) : W (gDPut i f e r) Q E := W.bind (h.mono (fun l r1 ⟨⟨l0, e0⟩, h1⟩ => by
  dsimp only
  rw [e0]
  dsimp only
  refine W.bind (h1.mono (fun k r2 ⟨ks, key, r3, e1, e2, e3, e4, q⟩ => ?_) fun _ _ z => z)
  dsimp only
  rw [e1, e2]
  dsimp only
  rw [if_pos e3, e4.2]
  exact ⟨q⟩) fun _ _ z => z)
theorem kDp1_i (e : r[i]? = some (some l0)) (h : W (f r) (kDp2 i d Q) E) : kDp1 i f Q E (.fz d) r := ⟨⟨_, e⟩, h⟩
/-- the keys of a dict that is used as a set -/
abbrev xDs (zs : List Str) : L := .dct false (zs.map fun z => (D.str z, L.fz (.bl true)))
def addS (zs : List Str) (z : Str) : List Str := if z ∈ zs then zs else zs ++ [z]
theorem mem_addS {y : Str} : y ∈ addS zs z ↔ y ∈ zs ∨ y = z := by
  unfold addS
  split
  · rename_i h
    exact ⟨.inl, fun q => q.elim id fun e => e ▸ h⟩
  · simp
theorem nodup_addS (h : zs.Nodup) : (addS zs z).Nodup := by
  unfold addS
  split
  · exact h
  · rename_i g
    exact List.nodup_append.mpr ⟨h, by simp, fun a ha b hb => by simp at hb; subst hb; exact fun e => g (e ▸ ha)⟩
theorem len_addS : (addS zs z).length ≤ zs.length + 1 := by
  unfold addS
  split <;> simp
theorem kDp2_s (e : r[i]? = some (some (xDs zs))) (h : zs.length < 16777216 ∧ ∃ r3, SetR r i (some (xDs (addS zs z))) r3 ∧ Q .nx r3) : kDp2 i (.bl true) Q (.fz (.str z)) r := by
  obtain ⟨hl, r3, s, q⟩ := h
  refine ⟨_, .inr z, r3, e, rfl, by rw [List.length_map, sizeLine_eq]; exact hl, ?_, q⟩
  have : putL (zs.map fun z => (D.str z, L.fz (.bl true))) (keyD (.inr z)) (.fz (.bl true)) = (addS zs z).map fun z => (D.str z, L.fz (.bl true)) := by
    unfold putL addS keyD
    rw [List.any_map]
    by_cases hz : z ∈ zs
    · rw [if_pos hz, if_pos (by simpa using hz), List.map_map]
      refine List.map_congr_left fun y hy => ?_
      simp only [Function.comp]
      split
      · rename_i q; simp [q]
      · rfl
    · rw [if_neg hz, if_neg (by
        simp only [List.any_eq_true, Function.comp, decide_eq_true_eq, not_exists, not_and]
        intro y hy q
        injection q with q
        exact hz (q ▸ hy)), List.map_append]
      rfl
  rw [this]
  exact s
theorem W_sortD {M : L → List L → Prop} {E : Exn → List L → Prop} (h : (zs.length < 64 ∧ zs.Nodup) ∧ ∀ ys, SortOf zs ys → M (.lst (fzs (ys.map D.str))) [xDs zs]) : W (oSortD [xDs zs]) M E := by
  have e1 : strsD ((zs.map fun z => (D.str z, L.fz (.bl true))).map (·.1)) = some zs := by
    rw [List.map_map]
    clear h
    induction zs with
    | nil => rfl
    | cons z zs ih => simp only [List.map_cons, Function.comp, strsD] at ih ⊢; rw [ih]; rfl
  have e2 : dkS (xDs zs) = some zs := by
    unfold dkS dctL
    simpa using e1
  refine W.of_eq ?_ (h.2 _ (srt_ok zs))
  unfold oSortD p1
  dsimp only
  rw [e2]
  simp only [Option.bind_some, if_pos h.1]
  rfl
end
end Dl
namespace Dl
open PySem L2

/-! ### exceptions -/
section
variable {x : Exn} {r r1 r2 r' : Rho} {Q : Fl → Rho → Prop} {E : Exn → Rho → Prop} {b : Sv} {f : Exn → Option Bool} {i : Nat} {su : Exn → Sv} {fl : Fl} {sub : Str → Option Bool} {g : Ev} {R : L → Rho → Prop} {l : L} {t : Bool}
theorem W_exc (h : E x r) : W (gExc x r) Q E := ⟨h⟩
def kClr (i : Nat) (Q : Fl → Rho → Prop) : Fl → Rho → Prop := fun fl r => Q fl (r.set i none)
theorem kClr_i (s : SetR r i none r') (h : Q fl r') : kClr i Q fl r := by
  show Q fl (r.set i none)
  rw [s.2]; exact h
def kTry (f : Exn → Option Bool) (i : Nat) (su : Exn → Sv) (Q : Fl → Rho → Prop) (E : Exn → Rho → Prop) : Exn → Rho → Prop := fun x r1 => (f x = some true ∧ ∃ r2, SetR r1 i none r2 ∧ W (su x r2) (kClr i Q) nE) ∨ (f x = some false ∧ E x r1)
theorem W_try (h : W (b r) Q (kTry f i su Q E)) : W (gTry b f i su r) Q E := by
  unfold gTry
  cases e : b r with
  | ok p =>
    rw [e] at h
    exact ⟨h.run⟩
  | stuck => rw [e] at h; exact h.run.elim
  | exc x r1 =>
    rw [e] at h
    dsimp only
    rcases h.run with ⟨e1, r2, s, w⟩ | ⟨e1, w⟩
    · rw [e1]
      dsimp only
      rw [if_pos s.1, s.2]
      obtain ⟨fl, r3, e3, q⟩ := w.got
      rw [e3]
      exact ⟨q⟩
    · rw [e1]
      exact ⟨w⟩
theorem kTry_t (e : f x = some true) (s : SetR r1 i none r2) (h : W (su x r2) (kClr i Q) nE) : kTry f i su Q E x r1 := .inl ⟨e, r2, s, h⟩
theorem kTry_f (e : f x = some false) (h : E x r1) : kTry f i su Q E x r1 := .inr ⟨e, h⟩
def kIsX (sub : Str → Option Bool) (R : L → Rho → Prop) : L → Rho → Prop := fun l r => ∃ b, isX sub l.toD = some b ∧ R (xB b) r
theorem kIsX_i (e : isX sub l.toD = some t) (h : R (xB t) r) : kIsX sub R l r := ⟨t, e, h⟩
theorem W_eIsX (h : W (g r) (kIsX sub R) E) : W (eIsX sub g r) R E := W.bind (h.mono (fun l r ⟨b, e, q⟩ => by dsimp only; rw [e]; exact ⟨q⟩) fun _ _ z => z)
variable {pin : List Bool} {ls ls' : List L} {M : L → List L → Prop} {EL : Exn → List L → Prop} {n : Nat}
def kFinE (pin : List Bool) (ls : List L) (EL : Exn → List L → Prop) : Exn → Rho → Prop := fun x r => ∃ ls', OutR pin ls r ls' ∧ EL x ls'
theorem kFinE_i (o : OutR pin ls r ls') (h : EL x ls') : kFinE pin ls EL x r := ⟨_, o, h⟩
theorem W_dF {body : Sv} (h : (decide (ls.length = pin.length) && decide (pin.length ≤ n)) = true) (e : ls.map some ++ List.replicate (n - ls.length) none = r) (k : W (body r) (kFin pin ls M) (kFinE pin ls EL)) : W (dF n pin body ls) M EL := by
  rw [Bool.and_eq_true] at h
  unfold dF
  rw [if_pos ⟨of_decide_eq_true h.1, of_decide_eq_true h.2⟩, e]
  cases e1 : body r with
  | stuck => rw [e1] at k; exact k.run.elim
  | exc x r1 =>
    rw [e1] at k
    obtain ⟨ls', o, m⟩ := k.run
    dsimp only
    rw [show outs pin ls r1 = some ls' from o]
    exact ⟨m⟩
  | ok p =>
    obtain ⟨fl, r1⟩ := p
    rw [e1] at k
    have h1 := k.run
    cases fl with
    | nx =>
      obtain ⟨ls', o, m⟩ := h1
      dsimp only
      rw [show outs pin ls r1 = some ls' from o]
      exact ⟨m⟩
    | ret l =>
      obtain ⟨ls', o, m⟩ := h1
      dsimp only
      rw [show outs pin ls r1 = some ls' from o]
      exact ⟨m⟩
    | brk => exact (show False from h1).elim
    | cont => exact (show False from h1).elim
end
theorem W_sortT {zs : List Str} {l : L} {M : L → List L → Prop} {E : Exn → List L → Prop} (hs : SeqL l true (zs.map D.str)) (h : (zs.length < 64 ∧ zs.Nodup) ∧ ∀ ys, SortOf zs ys → M (.lst (fzs (ys.map D.str))) [l]) : W (oSortT [l]) M E := by
  refine W.of_eq ?_ (h.2 _ (srt_ok zs))
  unfold oSortT p1
  dsimp only
  rw [hs.lsq]
  simp only [Option.bind_some, strsD_map, if_pos h.1]
  rfl
theorem W_clear {ds : List D} {M : L → List L → Prop} {E : Exn → List L → Prop} (h : M (.fz .non) [.lst (fzs [])]) : W (mClear [.lst (fzs ds)]) M E := W.of_eq (by rfl) h
theorem getL_ds {z : Str} : ∀ {zs : List Str}, (getL (zs.map fun z => (D.str z, L.fz (.bl true))) (.str z)).isSome = decide (z ∈ zs) := by
  intro zs
  unfold getL
  rw [Option.isSome_map, Bool.eq_iff_iff, List.find?_isSome]
  simp only [List.mem_map, decide_eq_true_eq]
  exact ⟨fun ⟨_, ⟨y, hy, rfl⟩, e⟩ => by injection e with e; exact e ▸ hy, fun h => ⟨_, ⟨z, h, rfl⟩, rfl⟩⟩
theorem W_inDs {M : L → List L → Prop} {E : Exn → List L → Prop} {z : Str} {zs : List Str} (h : M (.fz (.bl (decide (z ∈ zs)))) [.fz (.str z), xDs zs]) : W (oIn false [.fz (.str z), xDs zs]) M E := by
  have e2 : dctL (xDs zs) = some (false, zs.map fun z => (D.str z, L.fz (.bl true))) := rfl
  refine W.of_eq ?_ h
  have e3 : inD false [.fz (.str z), xDs zs] = .ok (.fz (.bl (decide (z ∈ zs))), [.fz (.str z), xDs zs]) := by
    unfold inD p2
    dsimp only
    rw [e2]
    have ea : asD (.fz (.str z)) = some (.str z) := rfl
    rw [ea]
    simp only [Option.bind_some]
    rw [if_pos (by rfl)]
    simp only [Bool.false_eq_true, if_false, getL_ds]
  have e4 : inS false [.fz (.str z), xDs zs] = .stuck := rfl
  unfold oIn alt
  rw [e4]
  dsimp only
  rw [e3]
end Dl
namespace Dl
open PySem L2

/-! ### len(set(xs)), sorted(set(ints)) -/
section
variable {e : Ev} {l : L} {r : Rho} {R : L → Rho → Prop} {E : Exn → Rho → Prop} {b : Bool} {ds : List D} {ns : List Int} {zs : List Str}
def kLS (R : L → Rho → Prop) : L → Rho → Prop := fun l r => ∃ b ds, seqD l = some (b, ds) ∧ ((intsD ds).isSome || (strsD ds).isSome) = true ∧ ds.length ≤ 1000 ∧ R (.fz (.int (nub ds).length)) r
theorem W_eLS (h : W (e r) (kLS R) E) : W (eLS e r) R E := by
  refine W.bind0 (h.mono (fun l r1 hk => ?_) fun _ _ z => z)
  obtain ⟨b, ds, e1, e2, e3, h2⟩ := hk
  dsimp only
  rw [e1]
  dsimp only
  rw [if_pos (by rw [e2]; simpa using e3)]
  exact h2
theorem kLS_i (hs : SeqL l b (ns.map D.int)) (h : ns.length ≤ 1000 ∧ R (.fz (.int (nub (ns.map D.int)).length)) r) : kLS R l r :=
  ⟨b, _, hs, by rw [intsD_map]; rfl, by simpa using h.1, h.2⟩
theorem kLS_s (hs : SeqL l b (zs.map D.str)) (h : zs.length ≤ 1000 ∧ R (.fz (.int (nub (zs.map D.str)).length)) r) : kLS R l r :=
  ⟨b, _, hs, by rw [strsD_map]; simp, by simpa using h.1, h.2⟩
theorem nub_ints : (nub (ns.map D.int)).length = ns.length ↔ ns.Nodup := by
  rw [show ns.length = (ns.map D.int).length by simp, nub_eq]
  constructor
  · intro h
    exact List.Pairwise.of_map D.int (fun a b hn e => hn (congrArg D.int e)) h
  · exact nodup_mapD (fun a b e => by injection e)
theorem nub_strs : (nub (zs.map D.str)).length = zs.length ↔ zs.Nodup := by
  rw [show zs.length = (zs.map D.str).length by simp, nub_eq]
  constructor
  · intro h
    exact List.Pairwise.of_map D.str (fun a b hn e => hn (congrArg D.str e)) h
  · exact nodup_mapD (fun a b e => by injection e)
def kSI (R : L → Rho → Prop) : L → Rho → Prop := fun l r => ∃ b ns, seqD l = some (b, ns.map D.int) ∧ ns.length < 64 ∧ R (.lst (fzs ((srtI ns).map D.int))) r
theorem W_eSSI (h : W (e r) (kSI R) E) : W (eSSI e r) R E := by
  refine W.bind0 (h.mono (fun l r1 hk => ?_) fun _ _ z => z)
  obtain ⟨b, ns, e1, e2, h2⟩ := hk
  dsimp only
  rw [e1]
  simp only [Option.bind_some, intsD_map]
  rw [if_pos e2]
  exact h2
theorem kSI_i (hs : SeqL l b (ns.map D.int)) (h : ns.length < 64 ∧ R (.lst (fzs ((srtI ns).map D.int))) r) : kSI R l r := ⟨b, ns, hs, h.1, h.2⟩
theorem srtI_eq : srtI ns = ns ↔ ns.Pairwise (· < ·) := ⟨fun e => e ▸ srtI_pw, fun h => pwI_uniq srtI_pw h fun _ => mem_srtI⟩
/-- x in xs: a text among flat things -/
theorem eqF_str {d : D} {w : Str} : eqF d (.str w) = decide (d = .str w) := by
  cases d <;> simp [eqF]
  rw [Bool.eq_iff_iff]; simp
theorem W_inF {M : L → List L → Prop} {E : Exn → List L → Prop} {neg : Bool} {w : Str} (hs : SeqL l b ds) (hf : ds.all flatD = true) (h : M (.fz (.bl (if neg then !decide (D.str w ∈ ds) else decide (D.str w ∈ ds)))) [.fz (.str w), l]) : W (oIn neg [.fz (.str w), l]) M E := W.of_eq (by
  have e2 : (ds.any fun z => eqF z (.str w)) = decide (D.str w ∈ ds) := by
    simp only [eqF_str]
    rw [Bool.eq_iff_iff]
    simp
  have e : inS neg [.fz (.str w), l] = .ok (.fz (.bl (if neg then !decide (D.str w ∈ ds) else decide (D.str w ∈ ds))), [.fz (.str w), l]) := by
    unfold inS p2
    unfold SeqL at hs
    simp only [hs, asD, Option.bind_some, hf, e2, flatD, Bool.and_self, if_true]
  show alt _ _ _ = _
  simp only [alt, e]) h
theorem W_inF0 {M : L → List L → Prop} {E : Exn → List L → Prop} {w : Str} (hs : SeqL l b ds) (hf : ds.all flatD = true) (h : M (.fz (.bl (decide (D.str w ∈ ds)))) [.fz (.str w), l]) : W (oIn false [.fz (.str w), l]) M E := W_inF hs hf h
theorem W_inF1 {M : L → List L → Prop} {E : Exn → List L → Prop} {w : Str} (hs : SeqL l b ds) (hf : ds.all flatD = true) (h : M (.fz (.bl (!decide (D.str w ∈ ds)))) [.fz (.str w), l]) : W (oIn true [.fz (.str w), l]) M E := W_inF hs hf h
end
end Dl
namespace Dl
open PySem L2
/-! for over zip of two lists in slots -/
section
variable {i j : Nat} {ds es : List D} {r : Rho} {b : Bv} {s : Sv} {Q : Fl → Rho → Prop} {E : Exn → Rho → Prop}
def Zs (r : Rho) (i j : Nat) (ds es : List D) : Prop := ∃ x y, r[i]? = some (some x) ∧ r[j]? = some (some y) ∧ lsO x = some (fzs ds) ∧ lsO y = some (fzs es)
theorem lsO_o : lsO (.lst (fzs ds)) = some (fzs ds) := rfl
theorem lsO_f : lsO (.fz (.lst ds)) = some (fzs ds) := rfl
theorem W_forZP (P : Nat → Rho → Prop) (h0 : P 0 r) (hz : ∀ k r, P k r → Zs r i j ds es) (hs : ∀ k r d e, ds[k]? = some d → es[k]? = some e → P k r → WB (b (.tup [d, e]) r) (kBd s (P (k + 1)) Q E)) (hE : ∀ r, P (min ds.length es.length) r → Q .nx r) : W (gForZP i j b s r) Q E := by
  have go : ∀ m r, m ≤ min ds.length es.length → P (min ds.length es.length - m) r → W (forZP i j b s ds.length es.length m r) Q E := fun m => by
    induction m with
    | zero =>
      intro r _ h
      obtain ⟨x, y, e1, e2, e3, e4⟩ := hz _ _ h
      rw [forZP, e1, e2]
      simp only [e3, e4, fzs_length, and_self, if_true]
      exact ⟨hE r h⟩
    | succ m ih =>
      intro r hm h
      have hk : min ds.length es.length - (m + 1) < ds.length := by omega
      have hk2 : min ds.length es.length - (m + 1) < es.length := by omega
      obtain ⟨r1, q1, h1⟩ := hs (min ds.length es.length - (m + 1)) r ds[min ds.length es.length - (m + 1)] es[min ds.length es.length - (m + 1)] (by simp [hk]) (by simp [hk2]) h
      obtain ⟨x, y, e1, e2, e3, e4⟩ := hz _ _ h
      have eg : (fzs ds)[min ds.length es.length - (m + 1)]? = some (.fz ds[min ds.length es.length - (m + 1)]) := by
        rw [fzs_at, List.getElem?_eq_getElem hk]; rfl
      have eg2 : (fzs es)[min ds.length es.length - (m + 1)]? = some (.fz es[min ds.length es.length - (m + 1)]) := by
        rw [fzs_at, List.getElem?_eq_getElem hk2]; rfl
      rw [forZP, e1, e2]
      simp only [e3, e4, fzs_length, and_self, if_true, eg, eg2, q1]
      refine W.bind (W.mono h1 (fun fl r2 h => ?_) fun _ _ z => z)
      have es : min ds.length es.length - (m + 1) + 1 = min ds.length es.length - m := by omega
      rw [es] at h
      cases fl with
      | nx => exact ih r2 (by omega) h
      | cont => exact ih r2 (by omega) h
      | brk => exact ⟨h⟩
      | ret l => exact ⟨h⟩
  obtain ⟨x, y, e1, e2, e3, e4⟩ := hz _ _ h0
  unfold gForZP
  rw [e1, e2]
  simp only [e3, e4, fzs_length]
  exact go _ r (Nat.le_refl _) (by rw [Nat.sub_self]; exact h0)
theorem W_forZPM {α β : Type} {xs : List α} {ys : List β} {ea : α → D} {eb : β → D} (P : Nat → Rho → Prop) (h0 : P 0 r) (hz : ∀ k r, P k r → Zs r i j (xs.map ea) (ys.map eb)) (hs : ∀ k r x y, xs[k]? = some x → ys[k]? = some y → P k r → WB (b (.tup [ea x, eb y]) r) (kBd s (P (k + 1)) Q E)) (hE : ∀ r, P (min xs.length ys.length) r → Q .nx r) : W (gForZP i j b s r) Q E :=
  W_forZP P h0 hz (fun k r d e h1 h2 h => by
    rw [List.getElem?_map, Option.map_eq_some_iff] at h1 h2
    obtain ⟨x, h1, rfl⟩ := h1
    obtain ⟨y, h2, rfl⟩ := h2
    exact hs k r x y h1 h2 h) fun r h => hE r (by simpa using h)
end
section
variable {ds : List D} {x : L} {r : Rho} {R : L → Rho → Prop} {z : Str} {n : Nat}
theorem wd_rev (h : Wd n z) : Wd n (revS z) := by
  refine ⟨?_, by rw [revS_len]; exact h.le⟩
  have a := h.ok
  unfold PyData.strOk at a ⊢
  rw [Array.all_eq_true'] at a
  rw [Array.all_eq_true']
  intro c hc
  refine a c ?_
  unfold revS at hc
  simpa using hc
theorem kThn_revBl (hs : SeqL x true ds) (h : R (.lst (fzs ds.reverse)) r) : kThn revB R x r := ⟨_, by
  unfold SeqL at hs
  unfold revB revA
  rw [hs]
  rfl, h⟩
theorem kThn_revBt (h : R (.fz (.tup ds.reverse)) r) : kThn revB R (.fz (.tup ds)) r := ⟨_, by
  have := SeqL.tp (ds := ds)
  unfold SeqL at this
  unfold revB revA
  rw [this], h⟩
theorem kThn_revBs (hz : Wd n z) (hn : n ≤ 16777216) (h : Wd n (revS z) → R (.fz (.str (revS z))) r) : kThn revB R (.fz (.str z)) r := ⟨_, by
  have hs : sizeLine = 16777216 := sizeLine_eq
  have := hz.le
  have e : revA (.fz (.str z)) = none := rfl
  unfold revB
  rw [e]
  simp only [asS_str, Option.bind_some]
  rw [if_pos (by omega)], h (wd_rev hz)⟩
end
end Dl
namespace Dl
open PySem L2
section
variable {i : Nat} {l : L} {b : Bool} {ns : List Int} {zs : List Str} {r : Rho} {R : L → Rho → Prop} {E : Exn → Rho → Prop}
theorem W_eLSP (e : r[i]? = some (some l)) (h : kLS R l r) : W (eLSP i r) R E := by
  refine W_eThenP e ?_
  obtain ⟨b, ds, e1, e2, e3, h⟩ := h
  refine ⟨_, ?_, h⟩
  unfold lsF
  rw [e1]
  dsimp only
  rw [if_pos (by rw [e2]; simpa using e3)]
end
end Dl
namespace Dl
open PySem L2
section
variable {i : Nat} {ds : List D} {r : Rho} {b : Bv} {s : Sv} {Q : Fl → Rho → Prop} {E : Exn → Rho → Prop}
theorem W_forEP (P : Nat → Rho → Prop) (h0 : P 0 r) (hz : ∀ k r, P k r → ∃ x, r[i]? = some (some x) ∧ lsO x = some (fzs ds)) (hs : ∀ k r d, ds[k]? = some d → P k r → WB (b (.tup [.int (k : Nat), d]) r) (kBd s (P (k + 1)) Q E)) (hE : ∀ r, P ds.length r → Q .nx r) : W (gForEP i b s r) Q E := by
  have go : ∀ m r, m ≤ ds.length → P (ds.length - m) r → W (forEP i b s ds.length m r) Q E := fun m => by
    induction m with
    | zero =>
      intro r _ h
      obtain ⟨x, e1, e3⟩ := hz _ _ h
      rw [forEP, e1]
      simp only [e3, fzs_length, if_true]
      exact ⟨hE r h⟩
    | succ m ih =>
      intro r hm h
      have hk : ds.length - (m + 1) < ds.length := by omega
      obtain ⟨r1, q1, h1⟩ := hs (ds.length - (m + 1)) r ds[ds.length - (m + 1)] (by simp [hk]) h
      obtain ⟨x, e1, e3⟩ := hz _ _ h
      have eg : (fzs ds)[ds.length - (m + 1)]? = some (.fz ds[ds.length - (m + 1)]) := by
        rw [fzs_at, List.getElem?_eq_getElem hk]; rfl
      rw [forEP, e1]
      simp only [e3, fzs_length, if_true, eg, q1]
      refine W.bind (W.mono h1 (fun fl r2 h => ?_) fun _ _ z => z)
      have es : ds.length - (m + 1) + 1 = ds.length - m := by omega
      rw [es] at h
      cases fl with
      | nx => exact ih r2 (by omega) h
      | cont => exact ih r2 (by omega) h
      | brk => exact ⟨h⟩
      | ret l => exact ⟨h⟩
  obtain ⟨x, e1, e3⟩ := hz _ _ h0
  unfold gForEP
  rw [e1]
  simp only [e3, fzs_length]
  exact go _ r (Nat.le_refl _) (by rw [Nat.sub_self]; exact h0)
end
end Dl
namespace Dl
open PySem L2
/-! list(zip(xs, ys)) -/
section
variable {e1 e2 : Ev} {r : Rho} {R : L → Rho → Prop} {E : Exn → Rho → Prop} {x y : L} {ds es : List D}
def kLZ2 (x : L) (R : L → Rho → Prop) : L → Rho → Prop := fun y r => ∃ ds es, sqD x.toD = some (true, ds) ∧ sqD y.toD = some (true, es) ∧ R (.lst (fzs (zipD ds es))) r
def kLZ1 (e : Ev) (R : L → Rho → Prop) (E : Exn → Rho → Prop) : L → Rho → Prop := fun x r => W (e r) (kLZ2 x R) E
theorem W_eLZ (h : W (e1 r) (kLZ1 e2 R E) E) : W (eLZ (aV e1 (aV e2 aNil)) r) R E := W.bind (W_aV (W.mono h (fun x r h => W_aV (W.mono h (fun l r ⟨ds, es, e, e', q⟩ => by
  refine W_aNil ?_
  dsimp only [kA2]
  rw [e, e']
  exact ⟨q⟩) fun _ _ z => z)) fun _ _ z => z))
theorem kLZ1_i (h : W (e2 r) (kLZ2 x R) E) : kLZ1 e2 R E x r := h
theorem kLZ2_i (hx : x = .fz (.lst ds) ∨ x = .lst (fzs ds)) (hy : y = .fz (.lst es) ∨ y = .lst (fzs es)) (h : R (.lst (fzs (zipD ds es))) r) : kLZ2 x R y r := by
  refine ⟨ds, es, ?_, ?_, h⟩
  · rcases hx with rfl | rfl
    · simp
    · rw [toD_lst, fzs_toD]; simp
  · rcases hy with rfl | rfl
    · simp
    · rw [toD_lst, fzs_toD]; simp
end
end Dl
set_option maxHeartbeats 0
namespace K03
open PySem L2 Dl
def top (i : Nat) : Stmt := PySem.Challenge.pw_copystem_k03_rows_looked_at.main.body.getD i (.Pass ⟨0, 0, 0, 0⟩)
abbrev s_0 : Stmt := top 8
abbrev s_1 : Stmt := top 9
abbrev s_2 : Stmt := top 10
abbrev s_3 : Stmt := top 12
abbrev s_4 : Stmt := top 13
abbrev s_5 : Stmt := top 14
abbrev s_6 : Stmt := top 15
abbrev s_7 : Stmt := top 16
abbrev s_8 : Stmt := top 17
abbrev s_9 : Stmt := top 18
abbrev s_10 : Stmt := top 19
abbrev s_11 : Stmt := top 20
abbrev s_12 : Stmt := top 21
abbrev s_13 : Stmt := top 22
structure Tx (K : PySem.W.Frag) (ct : Str → Option Addr) (mg : Str → Option Value) (f_0 f_1 f_2 f_3 f_4 f_5 f_6 f_7 f_8 f_9 f_10 f_11 f_12 f_13 e_NoBook e_CopyError e_NoStem e_NoTable e_NotTwo e_TooMany : Addr) (d_0 d_1 d_2 d_3 d_4 d_5 d_6 d_7 d_8 d_9 d_10 d_11 d_12 d_13 : FuncData) : Prop where
  F_0 : Fun K "row_of" "row_of" s_0 f_0 d_0
  b_0 : Binds K d_0 ["table", "name"] []
  k_0 : PySem.W.keepIn K (.ref f_0) = true
  m_0 : mg "row_of" = some (.ref f_0)
  F_1 : Fun K "readings_at" "readings_at" s_1 f_1 d_1
  b_1 : Binds K d_1 ["table", "place"] []
  k_1 : PySem.W.keepIn K (.ref f_1) = true
  m_1 : mg "readings_at" = some (.ref f_1)
  F_2 : Fun K "unlike" "unlike" s_2 f_2 d_2
  b_2 : Binds K d_2 ["one", "other"] []
  k_2 : PySem.W.keepIn K (.ref f_2) = true
  m_2 : mg "unlike" = some (.ref f_2)
  F_3 : Fun K "_law_stream" "_law_stream" s_3 f_3 d_3
  b_3 : Binds K d_3 ["_law_script", "_law_k"] []
  k_3 : PySem.W.keepIn K (.ref f_3) = true
  m_3 : mg "_law_stream" = some (.ref f_3)
  F_4 : Fun K "_law_take" "_law_take" s_4 f_4 d_4
  b_4 : Binds K d_4 ["_law_stream_here", "_law_most"] []
  k_4 : PySem.W.keepIn K (.ref f_4) = true
  m_4 : mg "_law_take" = some (.ref f_4)
  F_5 : Fun K "_law_letters" "_law_letters" s_5 f_5 d_5
  b_5 : Binds K d_5 ["_law_stream_here", "_law_many"] []
  k_5 : PySem.W.keepIn K (.ref f_5) = true
  m_5 : mg "_law_letters" = some (.ref f_5)
  F_6 : Fun K "_law_names" "_law_names" s_6 f_6 d_6
  b_6 : Binds K d_6 ["_law_stream_here", "_law_many"] []
  k_6 : PySem.W.keepIn K (.ref f_6) = true
  m_6 : mg "_law_names" = some (.ref f_6)
  F_7 : Fun K "_law_table" "_law_table" s_7 f_7 d_7
  b_7 : Binds K d_7 ["_law_stream_here"] []
  k_7 : PySem.W.keepIn K (.ref f_7) = true
  m_7 : mg "_law_table" = some (.ref f_7)
  F_8 : Fun K "_law_no_book" "_law_no_book" s_8 f_8 d_8
  b_8 : Binds K d_8 ["_law_table_here", "_law_name"] []
  k_8 : PySem.W.keepIn K (.ref f_8) = true
  m_8 : mg "_law_no_book" = some (.ref f_8)
  F_9 : Fun K "_law_places" "_law_places" s_9 f_9 d_9
  b_9 : Binds K d_9 ["_law_one", "_law_other"] []
  k_9 : PySem.W.keepIn K (.ref f_9) = true
  m_9 : mg "_law_places" = some (.ref f_9)
  F_10 : Fun K "_law_stand" "_law_stand" s_10 f_10 d_10
  b_10 : Binds K d_10 ["_law_table_here", "_law_place"] []
  k_10 : PySem.W.keepIn K (.ref f_10) = true
  m_10 : mg "_law_stand" = some (.ref f_10)
  F_11 : Fun K "_law_lists" "_law_lists" s_11 f_11 d_11
  b_11 : Binds K d_11 ["_law_found", "_law_due"] []
  k_11 : PySem.W.keepIn K (.ref f_11) = true
  m_11 : mg "_law_lists" = some (.ref f_11)
  F_12 : Fun K "_law_right" "_law_right" s_12 f_12 d_12
  b_12 : Binds K d_12 ["_law_stream_here", "_law_table_here"] []
  k_12 : PySem.W.keepIn K (.ref f_12) = true
  m_12 : mg "_law_right" = some (.ref f_12)
  F_13 : Fun K "law" "law" s_13 f_13 d_13
  b_13 : Binds K d_13 ["_law_script"] []
  k_13 : PySem.W.keepIn K (.ref f_13) = true
  m_13 : mg "law" = some (.ref f_13)
  z_ValueError : mg "ValueError" = none
  z_abs : mg "abs" = none
  z_int : mg "int" = none
  z_isinstance : mg "isinstance" = none
  z_len : mg "len" = none
  z_list : mg "list" = none
  z_range : mg "range" = none
  z_repr : mg "repr" = none
  z_sorted : mg "sorted" = none
  z_tuple : mg "tuple" = none
  z_zip : mg "zip" = none
  sy : ∃ o : PySem.Obj, K.lookup PySem.sysModules = some o ∧ o.cls ≠ .type "list"
  g_NoBook : mg "NoBook" = some (.ref e_NoBook)
  t_NoBook : ct "NoBook" = some e_NoBook
  g_CopyError : mg "CopyError" = some (.ref e_CopyError)
  t_CopyError : ct "CopyError" = some e_CopyError
  g_NoStem : mg "NoStem" = some (.ref e_NoStem)
  t_NoStem : ct "NoStem" = some e_NoStem
  g_NoTable : mg "NoTable" = some (.ref e_NoTable)
  t_NoTable : ct "NoTable" = some e_NoTable
  g_NotTwo : mg "NotTwo" = some (.ref e_NotTwo)
  t_NotTwo : ct "NotTwo" = some e_NotTwo
  g_TooMany : mg "TooMany" = some (.ref e_TooMany)
  t_TooMany : ct "TooMany" = some e_TooMany
  kc_NoBook : PySem.W.keepIn K (.ref e_NoBook) = true
  xi_NoBook : PySem.W.excIn K e_NoBook [.type "ValueError", .type "Exception", .type "BaseException", .type "object"] "ValueError.__new__" = true
  xb_NoBook : PySem.W.subIn K (.ref e_NoBook) (.type "BaseException") = some true
  xt_NoBook : PySem.W.typeIn K (.ref e_NoBook) = some (.type "type")
  ex_NoBook : ExcC K e_NoBook
  kv_NoBook : PySem.W.kitOne K (.ref e_NoBook) (.type "ValueError") = some true
  em_NoBook_CopyError : PySem.W.exmOne K (.ref e_NoBook) (.ref e_CopyError) = some true
  ki_NoBook_NoStem : PySem.W.kitOne K (.ref e_NoBook) (.ref e_NoStem) = some false
  ki_NoBook_NoTable : PySem.W.kitOne K (.ref e_NoBook) (.ref e_NoTable) = some false
  ki_NoBook_NotTwo : PySem.W.kitOne K (.ref e_NoBook) (.ref e_NotTwo) = some false
  ki_NoBook_TooMany : PySem.W.kitOne K (.ref e_NoBook) (.ref e_TooMany) = some false
  ki_NoBook_NoBook : PySem.W.kitOne K (.ref e_NoBook) (.ref e_NoBook) = some true
def tb_x8_1 : List (Str × Bool) := [("NoBook", true)]
def ts_x8_1 : List (Str × List (Str × Bool)) := [("NoBook", [("NoStem", false), ("NoTable", false), ("NotTwo", false), ("TooMany", false), ("NoBook", true)])]
noncomputable def L_0_0 : Sv :=
    (gIf (cB (eO [none, none] (aV (eV 2) (aV (eV 1) aNil)) oEq)) (gRet (eV 3)) gNx)
noncomputable def b_0 : Sv :=
    (gSeq (gFor (iItem (eV 0)) (bTup (bCons (bName 2) (bCons (bName 3) bNil)) 2) L_0_0)
    (gExc ⟨"NoBook", []⟩))
noncomputable def F_0 : Fv := dF0 4 [false, false] b_0
noncomputable def FX_0 : Fv := dF 4 [false, false] b_0
theorem enx_0 {x0 x1 : L} {M : L → List L → Prop} {E : Exn → List L → Prop} (h : W (b_0 [some x0, some x1, none, none]) (kFin [false, false] [x0, x1] M) (kFinE [false, false] [x0, x1] E)) : W (FX_0 [x0, x1]) M E := W_dF rfl rfl h
theorem en_0 {x0 x1 : L} {M : L → List L → Prop} {E : Exn → List L → Prop} (h : W (b_0 [some x0, some x1, none, none]) (kFin [false, false] [x0, x1] M) nE) : W (F_0 [x0, x1]) M E := W_dF0 rfl rfl h
noncomputable def L_1_0 : Sv :=
    (gIf (cB (eO [none, none] (aV (eO [none, none] (aV (eV 4) (aV (eV 1) aNil)) oIx) (aV (eC (.non)) aNil)) oNotN)) (gDPut 2 (eO [none, none] (aV (eV 4) (aV (eV 1) aNil)) oIx) (eC (.bl true))) gNx)
noncomputable def b_1 : Sv :=
    (gSeq (gSet 2 eDN)
    (gSeq (gFor (iItem (eV 0)) (bTup (bCons (bName 3) (bCons (bName 4) bNil)) 2) L_1_0)
    (gRet (eO [some 2] (aP 2 aNil) oSortD))))
noncomputable def F_1 : Fv := dF0 5 [false, false] b_1
theorem en_1 {x0 x1 : L} {M : L → List L → Prop} {E : Exn → List L → Prop} (h : W (b_1 [some x0, some x1, none, none, none]) (kFin [false, false] [x0, x1] M) nE) : W (F_1 [x0, x1]) M E := W_dF0 rfl rfl h
noncomputable def L_2_0 : Sv :=
    (gIf (cAnd (cB (eO [none, none] (aV (eO [none, none] (aV (eV 0) (aV (eV 3) aNil)) oIx) (aV (eC (.non)) aNil)) oNotN)) (cAnd (cB (eO [none, none] (aV (eO [none, none] (aV (eV 1) (aV (eV 3) aNil)) oIx) (aV (eC (.non)) aNil)) oNotN)) (cB (eO [none, none] (aV (eO [none, none] (aV (eV 0) (aV (eV 3) aNil)) oIx) (aV (eO [none, none] (aV (eV 1) (aV (eV 3) aNil)) oIx) aNil)) oNe)))) (gDrop (eRP isLst 2 [none] (aV (eV 3) aNil) mAppend)) gNx)
noncomputable def b_2 : Sv :=
    (gSeq (gSet 2 (eO [] aNil oLst))
    (gSeq (gFor (iR1 (aV (eO [none] (aV (eV 0) aNil) oLen) aNil)) (bName 3) L_2_0)
    (gRetP 2)))
noncomputable def F_2 : Fv := dF0 4 [false, false] b_2
theorem en_2 {x0 x1 : L} {M : L → List L → Prop} {E : Exn → List L → Prop} (h : W (b_2 [some x0, some x1, none, none]) (kFin [false, false] [x0, x1] M) nE) : W (F_2 [x0, x1]) M E := W_dF0 rfl rfl h
@[reducible] noncomputable def S_3_0 : Sv :=
    (gSet 3 (eZ (eO [none, none] (aV (eO [none, none] (aV (eO [none, none] (aV (eV 2) (aV (eC (.int 2147483629)) aNil)) oMod) (aV (eO [none, none] (aV (eV 1) (aV (eV 1) aNil)) oMulA) aNil)) oAdd) (aV (eC (.int 1)) aNil)) oAdd)))
@[reducible] noncomputable def S_3_1 : Sv :=
    (gIf (cB (eO [none, none] (aV (eV 1) (aV (eO [none] (aV (eV 0) aNil) oLen) aNil)) oLtI)) (gSeq (gSet 2 (eO [none] (aV (eO [none, none] (aV (eV 0) (aV (eV 1) aNil)) oIx) aNil) oAbs))
    (gSeq S_3_0
    (gRet (eO [none, none] (aV (eO [none, none] (aV (eV 2) (aV (eO [none] (aV (eO [none, none] (aV (eV 2) (aV (eO [none, none] (aV (eC (.int 10)) (aV (eC (.int 18)) aNil)) oPow) aNil)) oGeI) aNil) oInt) aNil)) oMulA) (aV (eV 3) aNil)) oLst)))) gNx)
noncomputable def b_3 : Sv :=
    (gSeq S_3_1
    (gRet (eO [none, none] (aV (eC (.int 0)) (aV (eO [none, none] (aV (eO [none, none] (aV (eO [none, none] (aV (eV 1) (aV (eV 1) aNil)) oMulA) (aV (eC (.int 7919)) aNil)) oMulA) (aV (eC (.int 11)) aNil)) oAdd) aNil)) oLst)))
noncomputable def F_3 : Fv := dF0 4 [false, false] b_3
theorem en_3 {x0 x1 : L} {M : L → List L → Prop} {E : Exn → List L → Prop} (h : W (b_3 [some x0, some x1, none, none]) (kFin [false, false] [x0, x1] M) nE) : W (F_3 [x0, x1]) M E := W_dF0 rfl rfl h
@[reducible] noncomputable def S_4_0 : Sv :=
    (gSet 2 (eO [none, none] (aV (eO [some 0, none] (aP 0 (aV (eC (.int 0)) aNil)) oIx) (aV (eV 1) aNil)) oMod))
@[reducible] noncomputable def S_4_1 : Sv :=
    (gStore 0 (eC (.int 0)) (eO [none, none] (aV (eO [some 0, none] (aP 0 (aV (eC (.int 0)) aNil)) oIx) (aV (eV 1) aNil)) oDiv))
@[reducible] noncomputable def S_4_2 : Sv :=
    (gIf (cB (eO [none, none] (aV (eO [some 0, none] (aP 0 (aV (eC (.int 0)) aNil)) oIx) (aV (eC (.int 0)) aNil)) oGtI)) (gSeq S_4_0
    (gSeq S_4_1
    (gRet (eV 2)))) gNx)
@[reducible] noncomputable def S_4_3 : Sv :=
    (gStore 0 (eC (.int 1)) (eO [none, none] (aV (eO [none, none] (aV (eO [none, none] (aV (eO [some 0, none] (aP 0 (aV (eC (.int 1)) aNil)) oIx) (aV (eC (.int 48271)) aNil)) oMulA) (aV (eC (.int 12345)) aNil)) oAdd) (aV (eC (.int 2147483647)) aNil)) oMod))
noncomputable def b_4 : Sv :=
    (gSeq S_4_2
    (gSeq S_4_3
    (gRet (eO [none, none] (aV (eO [none, none] (aV (eO [none, none] (aV (eO [some 0, none] (aP 0 (aV (eC (.int 1)) aNil)) oIx) (aV (eO [some 0, none] (aP 0 (aV (eC (.int 1)) aNil)) oIx) aNil)) oMulA) (aV (eC (.int 2147483629)) aNil)) oMod) (aV (eV 1) aNil)) oMod))))
noncomputable def F_4 : Fv := dF0 3 [true, false] b_4
theorem en_4 {x0 x1 : L} {M : L → List L → Prop} {E : Exn → List L → Prop} (h : W (b_4 [some x0, some x1, none]) (kFin [true, false] [x0, x1] M) nE) : W (F_4 [x0, x1]) M E := W_dF0 rfl rfl h
noncomputable def L_9_0 : Sv :=
    (gIf (cAnd (cB (eO [none, none] (aV (eO [none, none] (aV (eV 0) (aV (eV 3) aNil)) oIx) (aV (eC (.non)) aNil)) oNotN)) (cAnd (cB (eO [none, none] (aV (eO [none, none] (aV (eV 1) (aV (eV 3) aNil)) oIx) (aV (eC (.non)) aNil)) oNotN)) (cB (eO [none, none] (aV (eO [none, none] (aV (eV 0) (aV (eV 3) aNil)) oIx) (aV (eO [none, none] (aV (eV 1) (aV (eV 3) aNil)) oIx) aNil)) oNe)))) (gDrop (eRP isLst 2 [none] (aV (eV 3) aNil) mAppend)) gNx)
noncomputable def b_9 : Sv :=
    (gSeq (gSet 2 (eO [] aNil oLst))
    (gSeq (gFor (iR1 (aV (eO [none] (aV (eV 0) aNil) oLen) aNil)) (bName 3) L_9_0)
    (gRetP 2)))
noncomputable def F_9 : Fv := dF0 4 [false, false] b_9
theorem en_9 {x0 x1 : L} {M : L → List L → Prop} {E : Exn → List L → Prop} (h : W (b_9 [some x0, some x1, none, none]) (kFin [false, false] [x0, x1] M) nE) : W (F_9 [x0, x1]) M E := W_dF0 rfl rfl h
noncomputable def L_10_0 : Sv :=
    (gIf (cAnd (cB (eO [none, none] (aV (eO [none, none] (aV (eV 4) (aV (eV 1) aNil)) oIx) (aV (eC (.non)) aNil)) oNotN)) (cB (eO [none, some 2] (aV (eO [none, none] (aV (eV 4) (aV (eV 1) aNil)) oIx) (aP 2 aNil)) (oIn true)))) (gDrop (eRP isLst 2 [none] (aV (eO [none, none] (aV (eV 4) (aV (eV 1) aNil)) oIx) aNil) mAppend)) gNx)
noncomputable def b_10 : Sv :=
    (gSeq (gSet 2 (eO [] aNil oLst))
    (gSeq (gFor (iItem (eV 0)) (bTup (bCons (bName 3) (bCons (bName 4) bNil)) 2) L_10_0)
    (gRet (eO [some 2] (aP 2 aNil) oSortT))))
noncomputable def F_10 : Fv := dF0 5 [false, false] b_10
theorem en_10 {x0 x1 : L} {M : L → List L → Prop} {E : Exn → List L → Prop} (h : W (b_10 [some x0, some x1, none, none, none]) (kFin [false, false] [x0, x1] M) nE) : W (F_10 [x0, x1]) M E := W_dF0 rfl rfl h
@[reducible] noncomputable def S_11_0 : Sv :=
    (gIf (cOr (cNot (cB (eO [some 0, none] (aP 0 (aV (eC (.ty "list")) aNil)) oIsi))) (cB (eO [none, none] (aV (eO [some 0] (aP 0 aNil) oRepr) (aV (eO [none] (aV (eV 1) aNil) oRepr) aNil)) oNeS))) (gRet (eC (.bl false))) gNx)
noncomputable def b_11 : Sv :=
    (gSeq S_11_0
    (gSeq (gDrop (eRP isLst 0 [none] (aV (eC (.int 7)) aNil) mAppend))
    (gRet (eC (.bl true)))))
noncomputable def F_11 : Fv := dF0 2 [true, false] b_11
theorem en_11 {x0 x1 : L} {M : L → List L → Prop} {E : Exn → List L → Prop} (h : W (b_11 [some x0, some x1]) (kFin [true, false] [x0, x1] M) nE) : W (F_11 [x0, x1]) M E := W_dF0 rfl rfl h
noncomputable def E_5_0 : Ev :=
    (eO [none, none] (aV (eC (.str "abcdefghijklmnopqrstuvwxyz")) (aV (eO [some 0, none] (aP 0 (aV (eC (.int 26)) aNil)) F_4) aNil)) oIx)
noncomputable def b_5 : Sv :=
    (gRet (eRV isStr (eC (.str "")) [none] (aV (eLc [2] (iR1 (aV (eV 1) aNil)) (bName 2) cYes E_5_0) aNil) mJoin))
noncomputable def F_5 : Fv := dF0 3 [true, false] b_5
theorem en_5 {x0 x1 : L} {M : L → List L → Prop} {E : Exn → List L → Prop} (h : W (b_5 [some x0, some x1, none]) (kFin [true, false] [x0, x1] M) nE) : W (F_5 [x0, x1]) M E := W_dF0 rfl rfl h
noncomputable def K_8_0 : Sv :=
    (gDrop (eO [none, none] (aV (eV 0) (aV (eV 1) aNil)) FX_0))
@[reducible] noncomputable def S_8_0 : Sv :=
    (gTry K_8_0 (xTab tb_x8_1) 2 (fun y => (gSeq (gIf (cOr (cB (eIsX (subN ts_x8_1 y.cls) (eO [none, none, none, none] (aV (eC (.cls "NoStem")) (aV (eC (.cls "NoTable")) (aV (eC (.cls "NotTwo")) (aV (eC (.cls "TooMany")) aNil)))) oTup))) (cNot (cB (eIsX (subN ts_x8_1 y.cls) (eC (.ty "ValueError")))))) (gRet (eC (.bl false))) gNx)
    (gRet (eIsX (subN ts_x8_1 y.cls) (eC (.cls "NoBook")))))))
noncomputable def b_8 : Sv :=
    (gSeq S_8_0
    (gRet (eC (.bl false))))
noncomputable def F_8 : Fv := dF0 3 [false, false] b_8
theorem en_8 {x0 x1 : L} {M : L → List L → Prop} {E : Exn → List L → Prop} (h : W (b_8 [some x0, some x1, none]) (kFin [false, false] [x0, x1] M) nE) : W (F_8 [x0, x1]) M E := W_dF0 rfl rfl h
noncomputable def L_12_0 : Sv :=
    (gIf (cOr (cB (eO [none, none] (aV (eO [none, none] (aV (eV 1) (aV (eV 3) aNil)) F_0) (aV (eV 4) aNil)) oNe)) (cNot (cB (eO [none, none] (aV (eO [none, none] (aV (eV 1) (aV (eV 3) aNil)) F_0) (aV (eC (.ty "tuple")) aNil)) oIsi)))) (gRet (eC (.bl false))) gNx)
noncomputable def L_12_1 : Sv :=
    (gIf (cNot (cB (eO [none, none] (aV (eO [none, none] (aV (eV 1) (aV (eV 5) aNil)) F_1) (aV (eZ (eO [none, none] (aV (eV 1) (aV (eV 5) aNil)) F_10)) aNil)) F_11))) (gRet (eC (.bl false))) gNx)
noncomputable def L_12_2 : Sv :=
    (gFor (iR1 (aV (eC (.int 2)) aNil)) (bName 6) L_12_1)
@[reducible] noncomputable def S_12_0 : Sv :=
    (gFor (iR1 (aV (eO [none] (aV (eO [none, none] (aV (eO [none, none] (aV (eV 1) (aV (eC (.int 0)) aNil)) oIx) (aV (eC (.int 1)) aNil)) oIx) aNil) oLen) aNil)) (bName 5) L_12_2)
@[reducible] noncomputable def S_12_1 : Sv :=
    (gSet 7 (eO [none, none] (aV (eO [none, none] (aV (eV 1) (aV (eO [some 0, none] (aP 0 (aV (eZ (eO [none] (aV (eV 1) aNil) oLen)) aNil)) F_4) aNil)) oIx) (aV (eC (.int 1)) aNil)) oIx))
@[reducible] noncomputable def S_12_2 : Sv :=
    (gSet 8 (eO [none, none] (aV (eO [none, none] (aV (eV 1) (aV (eO [some 0, none] (aP 0 (aV (eZ (eO [none] (aV (eV 1) aNil) oLen)) aNil)) F_4) aNil)) oIx) (aV (eC (.int 1)) aNil)) oIx))
noncomputable def L_12_3 : Sv :=
    (gIf (cNot (cB (eO [none, none] (aV (eO [none, none] (aV (eV 9) (aV (eV 10) aNil)) F_2) (aV (eZ (eO [none, none] (aV (eV 9) (aV (eV 10) aNil)) F_9)) aNil)) F_11))) (gRet (eC (.bl false))) gNx)
noncomputable def L_12_4 : Sv :=
    (gSeq S_12_1
    (gSeq S_12_2
    (gFor (iItem (eO [none, none, none] (aV (eO [none, none] (aV (eV 7) (aV (eV 8) aNil)) oTup) (aV (eO [none, none] (aV (eV 8) (aV (eV 7) aNil)) oTup) (aV (eO [none, none] (aV (eV 7) (aV (eV 8) aNil)) oTup) aNil))) oLst)) (bTup (bCons (bName 9) (bCons (bName 10) bNil)) 2) L_12_3)))
noncomputable def b_12 : Sv :=
    (gSeq (gSet 2 (eO [none] (aV (eV 1) aNil) oRepr))
    (gSeq (gFor (iItem (eV 1)) (bTup (bCons (bName 3) (bCons (bName 4) bNil)) 2) L_12_0)
    (gSeq S_12_0
    (gSeq (gFor (iR1 (aV (eC (.int 8)) aNil)) (bName 6) L_12_4)
    (gRet (eO [none, none] (aV (eO [none] (aV (eV 1) aNil) oRepr) (aV (eV 2) aNil)) oEqS))))))
noncomputable def F_12 : Fv := dF0 11 [true, false] b_12
theorem en_12 {x0 x1 : L} {M : L → List L → Prop} {E : Exn → List L → Prop} (h : W (b_12 [some x0, some x1, none, none, none, none, none, none, none, none, none]) (kFin [true, false] [x0, x1] M) nE) : W (F_12 [x0, x1]) M E := W_dF0 rfl rfl h
@[reducible] noncomputable def S_6_0 : Sv :=
    (gSet 2 (eZ (eO [some 0, none] (aP 0 (aV (eZ (eO [some 0, none] (aP 0 (aV (eC (.int 8)) aNil)) F_4)) aNil)) F_5)))
@[reducible] noncomputable def S_6_1 : Sv :=
    (gSet 3 (eZ (eO [some 0, none] (aP 0 (aV (eZ (eO [none, none] (aV (eO [none] (aV (eV 2) aNil) oLen) (aV (eC (.int 1)) aNil)) oAdd)) aNil)) F_4)))
@[reducible] noncomputable def S_6_2 : Sv :=
    (gSet 5 (eO [none, none] (aV (eO [none, none, none, none, none, none, none, none] (aV (eC (.int 1)) (aV (eC (.int 3)) (aV (eC (.int 5)) (aV (eC (.int 7)) (aV (eC (.int 9)) (aV (eC (.int 11)) (aV (eC (.int 15)) (aV (eC (.int 17)) aNil)))))))) oLst) (aV (eO [some 0, none] (aP 0 (aV (eC (.int 8)) aNil)) F_4) aNil)) oIx))
noncomputable def E_6_0 : Ev :=
    (eO [none, none] (aV (eO [none, none] (aV (eSlV (eV 2) oNo (oSo (eV 3))) (aV (eO [none, none] (aV (eV 6) (aV (eO [none, none] (aV (eO [none, none] (aV (eV 4) (aV (eO [none, none] (aV (eV 5) (aV (eV 7) aNil)) oMulA) aNil)) oAdd) (aV (eC (.int 26)) aNil)) oMod) aNil)) oIx) aNil)) oAdd) (aV (eSlV (eV 2) (oSo (eV 3)) oNo) aNil)) oAdd)
noncomputable def b_6 : Sv :=
    (gSeq S_6_0
    (gSeq S_6_1
    (gSeq (gSet 4 (eZ (eO [some 0, none] (aP 0 (aV (eC (.int 26)) aNil)) F_4)))
    (gSeq S_6_2
    (gSeq (gSet 6 (eC (.str "abcdefghijklmnopqrstuvwxyz")))
    (gRet (eLc [7] (iR1 (aV (eV 1) aNil)) (bName 7) cYes E_6_0)))))))
noncomputable def F_6 : Fv := dF0 8 [true, false] b_6
theorem en_6 {x0 x1 : L} {M : L → List L → Prop} {E : Exn → List L → Prop} (h : W (b_6 [some x0, some x1, none, none, none, none, none, none]) (kFin [true, false] [x0, x1] M) nE) : W (F_6 [x0, x1]) M E := W_dF0 rfl rfl h
@[reducible] noncomputable def S_7_0 : Sv :=
    (gSet 2 (eO [none, none] (aV (eO [none, none] (aV (eO [none, none] (aV (eC (.int 1)) (aV (eO [some 0, none] (aP 0 (aV (eC (.int 7)) aNil)) F_4) aNil)) oAdd) (aV (eC (.int 24)) aNil)) oLst) (aV (eO [none] (aV (eO [none, none] (aV (eV 1) (aV (eC (.int 1)) aNil)) oEq) aNil) oInt) aNil)) oIx))
@[reducible] noncomputable def S_7_1 : Sv :=
    (gSet 3 (eO [none, none] (aV (eO [none, none] (aV (eO [none, none] (aV (eC (.int 1)) (aV (eO [some 0, none] (aP 0 (aV (eC (.int 9)) aNil)) F_4) aNil)) oAdd) (aV (eC (.int 40)) aNil)) oLst) (aV (eO [none] (aV (eO [none, none] (aV (eV 1) (aV (eC (.int 2)) aNil)) oEq) aNil) oInt) aNil)) oIx))
@[reducible] noncomputable def S_7_2 : Sv :=
    (gSet 5 (eZ (eO [none, none] (aV (eO [some 0, none] (aP 0 (aV (eZ (eO [none, none] (aV (eC (.int 3)) (aV (eO [some 0, none] (aP 0 (aV (eC (.int 3)) aNil)) F_4) aNil)) oAdd)) aNil)) F_6) (aV (eO [none, none] (aV (eC (.str "")) (aV (eC (.non)) aNil)) oLst) aNil)) oAdd)))
noncomputable def E_7_0 : Ev :=
    (eO [none, none] (aV (eV 5) (aV (eO [some 0, none] (aP 0 (aV (eZ (eO [none] (aV (eV 5) aNil) oLen)) aNil)) F_4) aNil)) oIx)
@[reducible] noncomputable def S_7_3 : Sv :=
    (gSet 8 (eO [none] (aV (eLc [9] (iR1 (aV (eV 3) aNil)) (bName 9) cYes E_7_0) aNil) oTuple))
@[reducible] noncomputable def S_7_4 : Sv :=
    (gIf (cAnd (cB (eO [none, none] (aV (eV 7) (aV (eC (.int 0)) aNil)) oGtI)) (cB (eO [none, none] (aV (eO [some 0, none] (aP 0 (aV (eC (.int 6)) aNil)) F_4) (aV (eC (.int 0)) aNil)) oEq))) (gSet 8 (eO [some 6, none] (aP 6 (aV (eO [some 0, none] (aP 0 (aV (eV 7) aNil)) F_4) aNil)) oIx)) gNx)
noncomputable def L_7_1 : Sv :=
    (gSeq S_7_3
    (gSeq S_7_4
    (gDrop (eRP isLst 6 [none] (aV (eV 8) aNil) mAppend))))
noncomputable def b_7 : Sv :=
    (gSeq (gSet 1 (eZ (eO [some 0, none] (aP 0 (aV (eC (.int 8)) aNil)) F_4)))
    (gSeq S_7_0
    (gSeq S_7_1
    (gSeq (gSet 4 (eZ (eO [some 0, none] (aP 0 (aV (eV 2) aNil)) F_6)))
    (gSeq S_7_2
    (gSeq (gSet 6 (eO [] aNil oLst))
    (gSeq (gFor (iR1 (aV (eV 2) aNil)) (bName 7) L_7_1)
    (gRet (eLZ (aV (eV 4) (aV (eV 6) aNil)))))))))))
noncomputable def F_7 : Fv := dF0 10 [true] b_7
theorem en_7 {x0 : L} {M : L → List L → Prop} {E : Exn → List L → Prop} (h : W (b_7 [some x0, none, none, none, none, none, none, none, none, none]) (kFin [true] [x0] M) nE) : W (F_7 [x0]) M E := W_dF0 rfl rfl h
@[reducible] noncomputable def S_13_0 : Sv :=
    (gSet 3 (eZ (eO [none] (aV (eO [none, none] (aV (eV 0) (aV (eC (.int 1)) aNil)) F_3) aNil) F_7)))
noncomputable def L_13_0 : Sv :=
    (gIf (cNot (cB (eO [some 1, none] (aP 1 (aV (eV 4) aNil)) F_12))) (gRet (eC (.bl false))) gNx)
@[reducible] noncomputable def S_13_1 : Sv :=
    (gFor (iItem (eO [none, none, none] (aV (eV 2) (aV (eV 3) (aV (eV 2) aNil))) oLst)) (bName 4) L_13_0)
noncomputable def E_13_1 : Ev :=
    (eV 6)
@[reducible] noncomputable def S_13_2 : Sv :=
    (gSet 5 (eZ (eLc [6, 7] (iItem (eV 2)) (bTup (bCons (bName 6) (bCons (bName 7) bNil)) 2) cYes E_13_1)))
noncomputable def L_13_2 : Sv :=
    (gIf (cAnd (cB (eCh (eC (.int 0)) (eO [none] (aV (eV 6) aNil) oLen) (eC (.int 9)) oLtI oLtI)) (cAnd (cB (eO [none, none] (aV (eV 6) (aV (eV 5) aNil)) (oIn true))) (cNot (cB (eO [none, none] (aV (eV 2) (aV (eV 6) aNil)) F_8))))) (gRet (eC (.bl false))) gNx)
noncomputable def E_13_3 : Ev :=
    (eSlV (eV 6) (oSo (eC (.int 1))) oNo)
noncomputable def E_13_4 : Ev :=
    (eO [none, none] (aV (eV 6) (aV (eC (.str "a")) aNil)) oAdd)
@[reducible] noncomputable def S_13_3 : Sv :=
    (gFor (iItem (eO [none, none] (aV (eO [none, none] (aV (eLc [6] (iItem (eV 5)) (bName 6) cYes E_13_4) (aV (eLc [6] (iItem (eV 5)) (bName 6) cYes E_13_3) aNil)) oAdd) (aV (eO [none] (aV (eO [none, none] (aV (eO [none, none] (aV (eV 3) (aV (eC (.int 0)) aNil)) oIx) (aV (eC (.int 0)) aNil)) oIx) aNil) oLst) aNil)) oAdd)) (bName 6) L_13_2)
noncomputable def b_13 : Sv :=
    (gSeq (gSet 1 (eO [none, none] (aV (eV 0) (aV (eC (.int 0)) aNil)) F_3))
    (gSeq (gSet 2 (eZ (eO [some 1] (aP 1 aNil) F_7)))
    (gSeq S_13_0
    (gSeq S_13_1
    (gSeq S_13_2
    (gSeq S_13_3
    (gRet (eC (.bl true)))))))))
noncomputable def F_13 : Fv := dF0 8 [false] b_13
theorem en_13 {x0 : L} {M : L → List L → Prop} {E : Exn → List L → Prop} (h : W (b_13 [some x0, none, none, none, none, none, none, none]) (kFin [false] [x0] M) nE) : W (F_13 [x0]) M E := W_dF0 rfl rfl h
section
variable {P : Program} {w : World} {K : PySem.W.Frag} {mg : Str → Option Value} {base : Heap} {ct : Str → Option Addr} {f_0 f_1 f_2 f_3 f_4 f_5 f_6 f_7 f_8 f_9 f_10 f_11 f_12 f_13 e_NoBook e_CopyError e_NoStem e_NoTable e_NotTwo e_TooMany : Addr} {d_0 d_1 d_2 d_3 d_4 d_5 d_6 d_7 d_8 d_9 d_10 d_11 d_12 d_13 : FuncData}
theorem xm_x8_1 (T : Tx K ct mg f_0 f_1 f_2 f_3 f_4 f_5 f_6 f_7 f_8 f_9 f_10 f_11 f_12 f_13 e_NoBook e_CopyError e_NoStem e_NoTable e_NotTwo e_TooMany d_0 d_1 d_2 d_3 d_4 d_5 d_6 d_7 d_8 d_9 d_10 d_11 d_12 d_13) : ∀ (y : Exn) (D : Addr) (b : Bool), ct y.cls = some D → xTab tb_x8_1 y = some b → PySem.W.exmOne K (.ref D) (.ref e_CopyError) = some b := (xTab_cons (P := fun _ D b => PySem.W.exmOne K (.ref D) (.ref e_CopyError) = some b) T.t_NoBook T.em_NoBook_CopyError (xTab_nil (P := fun _ D b => PySem.W.exmOne K (.ref D) (.ref e_CopyError) = some b)))
theorem xs_x8_1 (T : Tx K ct mg f_0 f_1 f_2 f_3 f_4 f_5 f_6 f_7 f_8 f_9 f_10 f_11 f_12 f_13 e_NoBook e_CopyError e_NoStem e_NoTable e_NotTwo e_TooMany d_0 d_1 d_2 d_3 d_4 d_5 d_6 d_7 d_8 d_9 d_10 d_11 d_12 d_13) : ∀ (y : Exn) (D : Addr) (b : Bool), ct y.cls = some D → xTab tb_x8_1 y = some b → ErrOk K ct (subN ts_x8_1 y.cls) D := (xTab_cons (P := fun n D _ => ErrOk K ct (subN ts_x8_1 n) D) T.t_NoBook (ErrOk.at (by rfl) T.ex_NoBook T.kv_NoBook (sub_cons T.t_NoStem T.ki_NoBook_NoStem (sub_cons T.t_NoTable T.ki_NoBook_NoTable (sub_cons T.t_NotTwo T.ki_NoBook_NotTwo (sub_cons T.t_TooMany T.ki_NoBook_TooMany (sub_cons T.t_NoBook T.ki_NoBook_NoBook sub_nil)))))) (xTab_nil (P := fun n D _ => ErrOk K ct (subN ts_x8_1 n) D)))
theorem sc_0 : FnScope ["table", "name", "own", "row"] ["table", "name"] (defScope s_0) := ⟨rfl, rfl, rfl, by decide +kernel, rfl, by decide +kernel, by decide +kernel⟩
theorem ok_0 (T : Tx K ct mg f_0 f_1 f_2 f_3 f_4 f_5 f_6 f_7 f_8 f_9 f_10 f_11 f_12 f_13 e_NoBook e_CopyError e_NoStem e_NoTable e_NotTwo e_TooMany d_0 d_1 d_2 d_3 d_4 d_5 d_6 d_7 d_8 d_9 d_10 d_11 d_12 d_13) : FnOk P w K mg base CX0 1 f_0 d_0 ["table", "name"] (dSp K ct 2 F_0) := by
  have sc := sc_0
  refine fn_ok T.F_0 sc (pin := [false, false]) (body := b_0) rfl fun cdv A outer s H E hr => ?_
  have hu0 := hu0_of hr
  have hu := huE_of hr
  have hu1 := hu1_of hr
  exact ⟨_, (ss_cons (sd_for PassesOwn.never (by rfl) (id_anyS (by rfl) (ed_v (pv 0))) (tg_tupS (by rfl) (by rfl) (tgs_cons (tg_name sc.nd rfl (by first | exact .inl rfl | exact .inr rfl) (ne_of1 rfl)) (tgs_cons (tg_name sc.nd rfl (by first | exact .inl rfl | exact .inr rfl) (ne_of1 rfl)) tgs_nil))) (ss_one (sd_if (ec_cmp (op_eqD hu) (es_v (ed_v (pv 2)) (es_v (ed_v (pv 1)) es_nil)) (fun _ => dop_eq)) (ss_one (sd_ret (ed_v (pv 3)))) ss_nil)))
    (ss_one (sd_raise0 (by rfl) (by rfl) Dl.takes0 PySem.F.excBase_ValueError T.xi_NoBook T.g_NoBook T.kc_NoBook T.xb_NoBook T.xt_NoBook T.t_NoBook (by rfl))))⟩
theorem okx_0 (T : Tx K ct mg f_0 f_1 f_2 f_3 f_4 f_5 f_6 f_7 f_8 f_9 f_10 f_11 f_12 f_13 e_NoBook e_CopyError e_NoStem e_NoTable e_NotTwo e_TooMany d_0 d_1 d_2 d_3 d_4 d_5 d_6 d_7 d_8 d_9 d_10 d_11 d_12 d_13) : FnOk P w K mg base (L2.CX P w) 1 f_0 d_0 ["table", "name"] (dSp K ct 2 FX_0) := by
  have sc := sc_0
  refine fn_okX T.F_0 sc (pin := [false, false]) (body := b_0) rfl fun cdv A outer s H E hr => ?_
  have hu0 := hu0_of hr
  have hu := huE_of hr
  have hu1 := hu1_of hr
  exact ⟨_, (ss_cons (sd_for (passes_of rfl) (by rfl) (id_anyS (by rfl) (ed_v (pv 0))) (tg_tupS (by rfl) (by rfl) (tgs_cons (tg_name sc.nd rfl (by first | exact .inl rfl | exact .inr rfl) (ne_of1 rfl)) (tgs_cons (tg_name sc.nd rfl (by first | exact .inl rfl | exact .inr rfl) (ne_of1 rfl)) tgs_nil))) (ss_one (sd_if (ec_cmp (op_eqD hu) (es_v (ed_v (pv 2)) (es_v (ed_v (pv 1)) es_nil)) (fun _ => dop_eq)) (ss_one (sd_ret (ed_v (pv 3)))) ss_nil)))
    (ss_one (sd_raise0 (by rfl) (by rfl) (takes_of rfl rfl rfl rfl) PySem.F.excBase_ValueError T.xi_NoBook T.g_NoBook T.kc_NoBook T.xb_NoBook T.xt_NoBook T.t_NoBook (by rfl))))⟩
theorem sc_1 : FnScope ["table", "place", "found", "name", "row"] ["table", "place"] (defScope s_1) := ⟨rfl, rfl, rfl, by decide +kernel, rfl, by decide +kernel, by decide +kernel⟩
theorem ok_1 (T : Tx K ct mg f_0 f_1 f_2 f_3 f_4 f_5 f_6 f_7 f_8 f_9 f_10 f_11 f_12 f_13 e_NoBook e_CopyError e_NoStem e_NoTable e_NotTwo e_TooMany d_0 d_1 d_2 d_3 d_4 d_5 d_6 d_7 d_8 d_9 d_10 d_11 d_12 d_13) : FnOk P w K mg base CX0 1 f_1 d_1 ["table", "place"] (dSp K ct 2 F_1) := by
  have sc := sc_1
  refine fn_ok T.F_1 sc (pin := [false, false]) (body := b_1) rfl fun cdv A outer s H E hr => ?_
  have hu0 := hu0_of hr
  have hu := huE_of hr
  have hu1 := hu1_of hr
  exact ⟨_, (ss_cons (sd_set sc.nd rfl (by first | exact .inl rfl | exact .inr rfl) (ne_of1 rfl) ed_dnew)
    (ss_cons (sd_for PassesOwn.never (by rfl) (id_anyS (by rfl) (ed_v (pv 0))) (tg_tupS (by rfl) (by rfl) (tgs_cons (tg_name sc.nd rfl (by first | exact .inl rfl | exact .inr rfl) (ne_of1 rfl)) (tgs_cons (tg_name sc.nd rfl (by first | exact .inl rfl | exact .inr rfl) (ne_of1 rfl)) tgs_nil))) (ss_one (sd_if (ec_cmp op_notN (es_v (ed_ix (ix_all hu0) (es_v (ed_v (pv 4)) (es_v (ed_v (pv 1)) es_nil)) (fun _ => dop_ix)) (es_v ed_non es_nil)) (fun _ => dop_notN)) (ss_one (sd_dput hu0 (pv 2) ed_bl (ed_ix (ix_all hu0) (es_v (ed_v (pv 4)) (es_v (ed_v (pv 1)) es_nil)) (fun _ => dop_ix)))) ss_nil)))
    (ss_one (sd_ret (ed_callB (cr_sortD (by rfl)) (by rfl) T.z_sorted PyProof.Rows.boot_sorted (es_p (pv 2) es_nil) (fun _ => dop_sortD))))))⟩
theorem sc_2 : FnScope ["one", "other", "found", "place"] ["one", "other"] (defScope s_2) := ⟨rfl, rfl, rfl, by decide +kernel, rfl, by decide +kernel, by decide +kernel⟩
theorem ok_2 (T : Tx K ct mg f_0 f_1 f_2 f_3 f_4 f_5 f_6 f_7 f_8 f_9 f_10 f_11 f_12 f_13 e_NoBook e_CopyError e_NoStem e_NoTable e_NotTwo e_TooMany d_0 d_1 d_2 d_3 d_4 d_5 d_6 d_7 d_8 d_9 d_10 d_11 d_12 d_13) : FnOk P w K mg base CX0 1 f_2 d_2 ["one", "other"] (dSp K ct 2 F_2) := by
  have sc := sc_2
  refine fn_ok T.F_2 sc (pin := [false, false]) (body := b_2) rfl fun cdv A outer s H E hr => ?_
  have hu0 := hu0_of hr
  have hu := huE_of hr
  have hu1 := hu1_of hr
  exact ⟨_, (ss_cons (sd_set sc.nd rfl (by first | exact .inl rfl | exact .inr rfl) (ne_of1 rfl) (ed_lst es_nil (fun _ => dop_lst)))
    (ss_cons (sd_for PassesOwn.never (by rfl) (id_rng1 (by rfl) T.z_range (es_v (ed_callB cl_len (by rfl) T.z_len PySem.boot_len (es_v (ed_v (pv 0)) es_nil) (fun _ => dop_len)) es_nil)) (tg_name sc.nd rfl (by first | exact .inl rfl | exact .inr rfl) (ne_of1 rfl)) (ss_one (sd_if (ec_w (ew_and (ec_cmp op_notN (es_v (ed_ix (ix_all hu0) (es_v (ed_v (pv 0)) (es_v (ed_v (pv 3)) es_nil)) (fun _ => dop_ix)) (es_v ed_non es_nil)) (fun _ => dop_notN)) (ew_and (ec_cmp op_notN (es_v (ed_ix (ix_all hu0) (es_v (ed_v (pv 1)) (es_v (ed_v (pv 3)) es_nil)) (fun _ => dop_ix)) (es_v ed_non es_nil)) (fun _ => dop_notN)) (ew_and1 (ec_cmp (op_neD hu) (es_v (ed_ix (ix_all hu0) (es_v (ed_v (pv 0)) (es_v (ed_v (pv 3)) es_nil)) (fun _ => dop_ix)) (es_v (ed_ix (ix_all hu0) (es_v (ed_v (pv 1)) (es_v (ed_v (pv 3)) es_nil)) (fun _ => dop_ix)) es_nil)) (fun _ => dop_ne)))))) (ss_one (sd_expr (ed_mP (by rfl) F.plainAttrs_list F.slot_list_append F.type_list_append mt_append chk_list (pv 2) (es_v (ed_v (pv 3)) es_nil) (fun _ => dop_append)))) ss_nil)))
    (ss_one (sd_retP (pv 2)))))⟩
theorem sc_3 : FnScope ["_law_script", "_law_k", "_law_cell", "_law_number"] ["_law_script", "_law_k"] (defScope s_3) := ⟨rfl, rfl, rfl, by decide +kernel, rfl, by decide +kernel, by decide +kernel⟩
theorem ok_3 (T : Tx K ct mg f_0 f_1 f_2 f_3 f_4 f_5 f_6 f_7 f_8 f_9 f_10 f_11 f_12 f_13 e_NoBook e_CopyError e_NoStem e_NoTable e_NotTwo e_TooMany d_0 d_1 d_2 d_3 d_4 d_5 d_6 d_7 d_8 d_9 d_10 d_11 d_12 d_13) : FnOk P w K mg base CX0 1 f_3 d_3 ["_law_script", "_law_k"] (dSp K ct 2 F_3) := by
  have sc := sc_3
  refine fn_ok T.F_3 sc (pin := [false, false]) (body := b_3) rfl fun cdv A outer s H E hr => ?_
  have hu0 := hu0_of hr
  have hu := huE_of hr
  have hu1 := hu1_of hr
  exact ⟨_, (ss_cons (sd_if (ec_cmp op_lt (es_v (ed_v (pv 1)) (es_v (ed_callB cl_len (by rfl) T.z_len PySem.boot_len (es_v (ed_v (pv 0)) es_nil) (fun _ => dop_len)) es_nil)) (fun _ => dop_ltI)) (ss_cons (sd_set sc.nd rfl (by first | exact .inl rfl | exact .inr rfl) (ne_of1 rfl) (ed_callB call_abs (by rfl) T.z_abs PyProof.Rows.boot_abs (es_v (ed_ix (ix_all hu0) (es_v (ed_v (pv 0)) (es_v (ed_v (pv 1)) es_nil)) (fun _ => dop_ix)) es_nil) (fun _ => dop_abs)))
    (ss_cons (sd_set sc.nd rfl (by first | exact .inl rfl | exact .inr rfl) (ne_of1 rfl) (ed_z (ed_bin op_addAll (es_v (ed_bin op_addAll (es_v (ed_bin op_mod (es_v (ed_v (pv 2)) (es_v ed_int es_nil)) (fun _ => dop_mod)) (es_v (ed_bin op_mulA (es_v (ed_v (pv 1)) (es_v (ed_v (pv 1)) es_nil)) (fun _ => dop_mulAA)) es_nil)) (fun _ => dop_add)) (es_v ed_int es_nil)) (fun _ => dop_add))))
    (ss_one (sd_ret (ed_lst (es_v (ed_bin op_mulA (es_v (ed_v (pv 2)) (es_v (ed_callTy call_int1 (by rfl) T.z_int PyProof.Rows.boot_int (es_v (ed_cmp op_ge (es_v (ed_v (pv 2)) (es_v (ed_bin op_pow (es_v ed_int (es_v ed_int es_nil)) (fun _ => dop_pow)) es_nil)) (fun _ => dop_geI)) es_nil) (fun _ => dop_int1)) es_nil)) (fun _ => dop_mulAA)) (es_v (ed_v (pv 3)) es_nil)) (fun _ => dop_lst)))))) ss_nil)
    (ss_one (sd_ret (ed_lst (es_v ed_int (es_v (ed_bin op_addAll (es_v (ed_bin op_mulA (es_v (ed_bin op_mulA (es_v (ed_v (pv 1)) (es_v (ed_v (pv 1)) es_nil)) (fun _ => dop_mulAA)) (es_v ed_int es_nil)) (fun _ => dop_mulAA)) (es_v ed_int es_nil)) (fun _ => dop_add)) es_nil)) (fun _ => dop_lst)))))⟩
theorem sc_4 : FnScope ["_law_stream_here", "_law_most", "_law_digit"] ["_law_stream_here", "_law_most"] (defScope s_4) := ⟨rfl, rfl, rfl, by decide +kernel, rfl, by decide +kernel, by decide +kernel⟩
theorem ok_4 (T : Tx K ct mg f_0 f_1 f_2 f_3 f_4 f_5 f_6 f_7 f_8 f_9 f_10 f_11 f_12 f_13 e_NoBook e_CopyError e_NoStem e_NoTable e_NotTwo e_TooMany d_0 d_1 d_2 d_3 d_4 d_5 d_6 d_7 d_8 d_9 d_10 d_11 d_12 d_13) : FnOk P w K mg base CX0 1 f_4 d_4 ["_law_stream_here", "_law_most"] (dSp K ct 2 F_4) := by
  have sc := sc_4
  refine fn_ok T.F_4 sc (pin := [true, false]) (body := b_4) rfl fun cdv A outer s H E hr => ?_
  have hu0 := hu0_of hr
  have hu := huE_of hr
  have hu1 := hu1_of hr
  exact ⟨_, (ss_cons (sd_if (ec_cmp op_gt (es_v (ed_ix (ix_all hu0) (es_p (pv 0) (es_v ed_int es_nil)) (fun _ => dop_ix)) (es_v ed_int es_nil)) (fun _ => dop_gtI)) (ss_cons (sd_set sc.nd rfl (by first | exact .inl rfl | exact .inr rfl) (ne_of1 rfl) (ed_bin op_mod (es_v (ed_ix (ix_all hu0) (es_p (pv 0) (es_v ed_int es_nil)) (fun _ => dop_ix)) (es_v (ed_v (pv 1)) es_nil)) (fun _ => dop_mod)))
    (ss_cons (sd_store (pv 0) (ed_bin op_fdivW (es_v (ed_ix (ix_all hu0) (es_p (pv 0) (es_v ed_int es_nil)) (fun _ => dop_ix)) (es_v (ed_v (pv 1)) es_nil)) (fun _ => dop_div)) ed_int)
    (ss_one (sd_ret (ed_v (pv 2)))))) ss_nil)
    (ss_cons (sd_store (pv 0) (ed_bin op_mod (es_v (ed_bin op_addAll (es_v (ed_bin op_mulA (es_v (ed_ix (ix_all hu0) (es_p (pv 0) (es_v ed_int es_nil)) (fun _ => dop_ix)) (es_v ed_int es_nil)) (fun _ => dop_mulAA)) (es_v ed_int es_nil)) (fun _ => dop_add)) (es_v ed_int es_nil)) (fun _ => dop_mod)) ed_int)
    (ss_one (sd_ret (ed_bin op_mod (es_v (ed_bin op_mod (es_v (ed_bin op_mulA (es_v (ed_ix (ix_all hu0) (es_p (pv 0) (es_v ed_int es_nil)) (fun _ => dop_ix)) (es_v (ed_ix (ix_all hu0) (es_p (pv 0) (es_v ed_int es_nil)) (fun _ => dop_ix)) es_nil)) (fun _ => dop_mulAA)) (es_v ed_int es_nil)) (fun _ => dop_mod)) (es_v (ed_v (pv 1)) es_nil)) (fun _ => dop_mod))))))⟩
theorem sc_9 : FnScope ["_law_one", "_law_other", "_law_found", "_law_place"] ["_law_one", "_law_other"] (defScope s_9) := ⟨rfl, rfl, rfl, by decide +kernel, rfl, by decide +kernel, by decide +kernel⟩
theorem ok_9 (T : Tx K ct mg f_0 f_1 f_2 f_3 f_4 f_5 f_6 f_7 f_8 f_9 f_10 f_11 f_12 f_13 e_NoBook e_CopyError e_NoStem e_NoTable e_NotTwo e_TooMany d_0 d_1 d_2 d_3 d_4 d_5 d_6 d_7 d_8 d_9 d_10 d_11 d_12 d_13) : FnOk P w K mg base CX0 1 f_9 d_9 ["_law_one", "_law_other"] (dSp K ct 2 F_9) := by
  have sc := sc_9
  refine fn_ok T.F_9 sc (pin := [false, false]) (body := b_9) rfl fun cdv A outer s H E hr => ?_
  have hu0 := hu0_of hr
  have hu := huE_of hr
  have hu1 := hu1_of hr
  exact ⟨_, (ss_cons (sd_set sc.nd rfl (by first | exact .inl rfl | exact .inr rfl) (ne_of1 rfl) (ed_lst es_nil (fun _ => dop_lst)))
    (ss_cons (sd_for PassesOwn.never (by rfl) (id_rng1 (by rfl) T.z_range (es_v (ed_callB cl_len (by rfl) T.z_len PySem.boot_len (es_v (ed_v (pv 0)) es_nil) (fun _ => dop_len)) es_nil)) (tg_name sc.nd rfl (by first | exact .inl rfl | exact .inr rfl) (ne_of1 rfl)) (ss_one (sd_if (ec_w (ew_and (ec_cmp op_notN (es_v (ed_ix (ix_all hu0) (es_v (ed_v (pv 0)) (es_v (ed_v (pv 3)) es_nil)) (fun _ => dop_ix)) (es_v ed_non es_nil)) (fun _ => dop_notN)) (ew_and (ec_cmp op_notN (es_v (ed_ix (ix_all hu0) (es_v (ed_v (pv 1)) (es_v (ed_v (pv 3)) es_nil)) (fun _ => dop_ix)) (es_v ed_non es_nil)) (fun _ => dop_notN)) (ew_and1 (ec_cmp (op_neD hu) (es_v (ed_ix (ix_all hu0) (es_v (ed_v (pv 0)) (es_v (ed_v (pv 3)) es_nil)) (fun _ => dop_ix)) (es_v (ed_ix (ix_all hu0) (es_v (ed_v (pv 1)) (es_v (ed_v (pv 3)) es_nil)) (fun _ => dop_ix)) es_nil)) (fun _ => dop_ne)))))) (ss_one (sd_expr (ed_mP (by rfl) F.plainAttrs_list F.slot_list_append F.type_list_append mt_append chk_list (pv 2) (es_v (ed_v (pv 3)) es_nil) (fun _ => dop_append)))) ss_nil)))
    (ss_one (sd_retP (pv 2)))))⟩
theorem sc_10 : FnScope ["_law_table_here", "_law_place", "_law_found", "_law_name", "_law_row"] ["_law_table_here", "_law_place"] (defScope s_10) := ⟨rfl, rfl, rfl, by decide +kernel, rfl, by decide +kernel, by decide +kernel⟩
theorem ok_10 (T : Tx K ct mg f_0 f_1 f_2 f_3 f_4 f_5 f_6 f_7 f_8 f_9 f_10 f_11 f_12 f_13 e_NoBook e_CopyError e_NoStem e_NoTable e_NotTwo e_TooMany d_0 d_1 d_2 d_3 d_4 d_5 d_6 d_7 d_8 d_9 d_10 d_11 d_12 d_13) : FnOk P w K mg base CX0 1 f_10 d_10 ["_law_table_here", "_law_place"] (dSp K ct 2 F_10) := by
  have sc := sc_10
  refine fn_ok T.F_10 sc (pin := [false, false]) (body := b_10) rfl fun cdv A outer s H E hr => ?_
  have hu0 := hu0_of hr
  have hu := huE_of hr
  have hu1 := hu1_of hr
  exact ⟨_, (ss_cons (sd_set sc.nd rfl (by first | exact .inl rfl | exact .inr rfl) (ne_of1 rfl) (ed_lst es_nil (fun _ => dop_lst)))
    (ss_cons (sd_for PassesOwn.never (by rfl) (id_anyS (by rfl) (ed_v (pv 0))) (tg_tupS (by rfl) (by rfl) (tgs_cons (tg_name sc.nd rfl (by first | exact .inl rfl | exact .inr rfl) (ne_of1 rfl)) (tgs_cons (tg_name sc.nd rfl (by first | exact .inl rfl | exact .inr rfl) (ne_of1 rfl)) tgs_nil))) (ss_one (sd_if (ec_w (ew_and (ec_cmp op_notN (es_v (ed_ix (ix_all hu0) (es_v (ed_v (pv 4)) (es_v (ed_v (pv 1)) es_nil)) (fun _ => dop_ix)) (es_v ed_non es_nil)) (fun _ => dop_notN)) (ew_and1 (ec_cmp (op_notinAll hu1) (es_v (ed_ix (ix_all hu0) (es_v (ed_v (pv 4)) (es_v (ed_v (pv 1)) es_nil)) (fun _ => dop_ix)) (es_p (pv 2) es_nil)) (fun _ => dop_in) (by with_unfolding_all rfl))))) (ss_one (sd_expr (ed_mP (by rfl) F.plainAttrs_list F.slot_list_append F.type_list_append mt_append chk_list (pv 2) (es_v (ed_ix (ix_all hu0) (es_v (ed_v (pv 4)) (es_v (ed_v (pv 1)) es_nil)) (fun _ => dop_ix)) es_nil) (fun _ => dop_append)))) ss_nil)))
    (ss_one (sd_ret (ed_callB cr_sortedS (by rfl) T.z_sorted PyProof.Rows.boot_sorted (es_p (pv 2) es_nil) (fun _ => dop_sortT))))))⟩
theorem sc_11 : FnScope ["_law_found", "_law_due"] ["_law_found", "_law_due"] (defScope s_11) := ⟨rfl, rfl, rfl, by decide +kernel, rfl, by decide +kernel, by decide +kernel⟩
theorem ok_11 (T : Tx K ct mg f_0 f_1 f_2 f_3 f_4 f_5 f_6 f_7 f_8 f_9 f_10 f_11 f_12 f_13 e_NoBook e_CopyError e_NoStem e_NoTable e_NotTwo e_TooMany d_0 d_1 d_2 d_3 d_4 d_5 d_6 d_7 d_8 d_9 d_10 d_11 d_12 d_13) : FnG P w K mg base CX0 1 f_11 d_11 ["_law_found", "_law_due"] (dSp K ct 2 F_11) := by
  have sc := sc_11
  refine fnG_ok T.F_11 sc (pin := [true, false]) (body := b_11) rfl fun cdv A outer s H E hr hgd => ?_
  have hu0 := hu0_of hr
  have hu := huE_of hr
  have hu1 := hu1_of hr
  exact ⟨_, (ss_cons (sd_if (ec_w (ew_or (ec_not (ec_val (ed_callB cl_isi (by rfl) T.z_isinstance PyProof.Rows.boot_isinstance (es_p (pv 0) (es_v (ed_c (pe_bltn (v := .ty "list") (by rfl) T.z_list PyProof.Rows.boot_list (by rfl)) (.ty .nil)) es_nil)) (fun _ => dop_isi)))) (ew_or1 (ec_cmp op_ne (es_v (ed_callB (cr_repr hgd hu T.sy) (by rfl) T.z_repr PyProof.Rows.boot_repr (es_p (pv 0) es_nil) (fun _ => dop_repr)) (es_v (ed_callB (cr_repr hgd hu T.sy) (by rfl) T.z_repr PyProof.Rows.boot_repr (es_v (ed_v (pv 1)) es_nil) (fun _ => dop_repr)) es_nil)) (fun _ => dop_neS))))) (ss_one (sd_ret ed_bl)) ss_nil)
    (ss_cons (sd_expr (ed_mP (by rfl) F.plainAttrs_list F.slot_list_append F.type_list_append mt_append chk_list (pv 0) (es_v ed_int es_nil) (fun _ => dop_append)))
    (ss_one (sd_ret ed_bl))))⟩
theorem sc_5 : FnScope ["_law_stream_here", "_law_many", "_law_k"] ["_law_stream_here", "_law_many"] (defScope s_5) := ⟨rfl, rfl, rfl, by decide +kernel, rfl, by decide +kernel, by decide +kernel⟩
theorem ok_5 (T : Tx K ct mg f_0 f_1 f_2 f_3 f_4 f_5 f_6 f_7 f_8 f_9 f_10 f_11 f_12 f_13 e_NoBook e_CopyError e_NoStem e_NoTable e_NotTwo e_TooMany d_0 d_1 d_2 d_3 d_4 d_5 d_6 d_7 d_8 d_9 d_10 d_11 d_12 d_13) : FnOk P w K mg base CX0 2 f_5 d_5 ["_law_stream_here", "_law_many"] (dSp K ct 2 F_5) := by
  have sc := sc_5
  refine fn_ok T.F_5 sc (pin := [true, false]) (body := b_5) rfl fun cdv A outer s H E hr => ?_
  have hu0 := hu0_of hr
  have hu := huE_of hr
  have hu1 := hu1_of hr
  exact ⟨_, (ss_one (sd_ret (ed_mV (by rfl) F.plainAttrs_str F.slot_str_join F.type_str_join mt_joinR chk_str ed_str (es_v (ed_lc (by rfl) sc.nd (id_rng1 (by rfl) T.z_range (es_v (ed_v (pv 1)) es_nil)) (own := [("_law_k", 2)]) (blkOk_by (by kernel_rfl)) (fun _ _ _ _ _ => by exact (tg_name sc.nd rfl (by first | exact .inl rfl | exact .inr rfl) (ne_of1 rfl))) (fun _ _ _ _ _ => by exact ets_nil) (fun _ _ _ _ _ => by exact (ed_ix (ix_all hu0) (es_v ed_str (es_v (ed_call (by rfl) (ok_4 T) (hr.mono (by decide)) (by rfl) T.m_4 T.k_4 T.b_4 (dF0_ne (by rfl)) dF0_nox (es_p (pv 0) (es_v ed_int es_nil))) es_nil)) (fun _ => dop_ix))) (okPin_all (by rfl)) (by decide) (by intro _; rfl) s H 0 []) es_nil) (fun _ => dop_join))))⟩
theorem sc_8 : FnScope ["_law_table_here", "_law_name", "error"] ["_law_table_here", "_law_name"] (defScope s_8) := ⟨rfl, rfl, rfl, by decide +kernel, rfl, by decide +kernel, by decide +kernel⟩
theorem ok_8 (T : Tx K ct mg f_0 f_1 f_2 f_3 f_4 f_5 f_6 f_7 f_8 f_9 f_10 f_11 f_12 f_13 e_NoBook e_CopyError e_NoStem e_NoTable e_NotTwo e_TooMany d_0 d_1 d_2 d_3 d_4 d_5 d_6 d_7 d_8 d_9 d_10 d_11 d_12 d_13) : FnOk P w K mg base CX0 2 f_8 d_8 ["_law_table_here", "_law_name"] (dSp K ct 2 F_8) := by
  have sc := sc_8
  refine fn_ok T.F_8 sc (pin := [false, false]) (body := b_8) rfl fun cdv A outer s H E hr => ?_
  have hu0 := hu0_of hr
  have hu := huE_of hr
  have hu1 := hu1_of hr
  exact ⟨_, (ss_cons (sd_tryS (by rfl) (by rfl) (by rfl) sc.nd (by rfl) (by rfl) ⟨by rfl, by decide, .inl T.g_CopyError⟩ Dl.takes0 (by first | (show ([false, false] : List Bool)[2]? ≠ some true; decide) | (intro z; cases z)) (xm_x8_1 T) (fun W1 pn1 xe1 tk po => (ss_one (sd_expr (ed_callX (by rfl) (okx_0 T) (hr.mono (by decide)) (by rfl) T.m_0 T.k_0 T.b_0 (dF_ne (by rfl)) tk (es_v (ed_v (pv 0)) (es_v (ed_v (pv 1)) es_nil)))))) (by exact fun a oe cls d pn y hS => (ss_cons (sd_if (ec_w (ew_or (ec_val (ed_isE hS (by rfl) (xs_x8_1 T) (by rfl) T.z_isinstance (pv 2) (ed_tup (es_v (ed_c (pe_glob (v := .ref e_NoStem) (by rfl) T.g_NoStem (by rfl)) (.cls T.t_NoStem .nil)) (es_v (ed_c (pe_glob (v := .ref e_NoTable) (by rfl) T.g_NoTable (by rfl)) (.cls T.t_NoTable .nil)) (es_v (ed_c (pe_glob (v := .ref e_NotTwo) (by rfl) T.g_NotTwo (by rfl)) (.cls T.t_NotTwo .nil)) (es_v (ed_c (pe_glob (v := .ref e_TooMany) (by rfl) T.g_TooMany (by rfl)) (.cls T.t_TooMany .nil)) es_nil)))) (fun _ => dop_tup)))) (ew_or1 (ec_not (ec_val (ed_isE hS (by rfl) (xs_x8_1 T) (by rfl) T.z_isinstance (pv 2) (ed_c (pe_bltn (v := .ty "ValueError") (by rfl) T.z_ValueError Dl.boot_ValueError (by rfl)) (.ty .nil)))))))) (ss_one (sd_ret ed_bl)) ss_nil)
    (ss_one (sd_ret (ed_isE hS (by rfl) (xs_x8_1 T) (by rfl) T.z_isinstance (pv 2) (ed_c (pe_glob (v := .ref e_NoBook) (by rfl) T.g_NoBook (by rfl)) (.cls T.t_NoBook .nil))))))))
    (ss_one (sd_ret ed_bl)))⟩
theorem sc_12 : FnScope ["_law_stream_here", "_law_table_here", "_law_kept", "_law_name", "_law_row", "_law_place", "_law_turn", "_law_one", "_law_other", "_law_first", "_law_second"] ["_law_stream_here", "_law_table_here"] (defScope s_12) := ⟨rfl, rfl, rfl, by decide +kernel, rfl, by decide +kernel, by decide +kernel⟩
theorem ok_12 (T : Tx K ct mg f_0 f_1 f_2 f_3 f_4 f_5 f_6 f_7 f_8 f_9 f_10 f_11 f_12 f_13 e_NoBook e_CopyError e_NoStem e_NoTable e_NotTwo e_TooMany d_0 d_1 d_2 d_3 d_4 d_5 d_6 d_7 d_8 d_9 d_10 d_11 d_12 d_13) : FnG P w K mg base CX0 2 f_12 d_12 ["_law_stream_here", "_law_table_here"] (dSp K ct 2 F_12) := by
  have sc := sc_12
  refine fnG_ok T.F_12 sc (pin := [true, false]) (body := b_12) rfl fun cdv A outer s H E hr hgd => ?_
  have hu0 := hu0_of hr
  have hu := huE_of hr
  have hu1 := hu1_of hr
  exact ⟨_, (ss_cons (sd_set sc.nd rfl (by first | exact .inl rfl | exact .inr rfl) (ne_of1 rfl) (ed_callB (cr_repr hgd hu T.sy) (by rfl) T.z_repr PyProof.Rows.boot_repr (es_v (ed_v (pv 1)) es_nil) (fun _ => dop_repr)))
    (ss_cons (sd_for PassesOwn.never (by rfl) (id_anyS (by rfl) (ed_v (pv 1))) (tg_tupS (by rfl) (by rfl) (tgs_cons (tg_name sc.nd rfl (by first | exact .inl rfl | exact .inr rfl) (ne_of1 rfl)) (tgs_cons (tg_name sc.nd rfl (by first | exact .inl rfl | exact .inr rfl) (ne_of1 rfl)) tgs_nil))) (ss_one (sd_if (ec_w (ew_or (ec_cmp (op_neD hu) (es_v (ed_call (by rfl) (ok_0 T) (hr.mono (by decide)) (by rfl) T.m_0 T.k_0 T.b_0 (dF0_ne (by rfl)) dF0_nox (es_v (ed_v (pv 1)) (es_v (ed_v (pv 3)) es_nil))) (es_v (ed_v (pv 4)) es_nil)) (fun _ => dop_ne)) (ew_or1 (ec_not (ec_val (ed_callB cl_isi (by rfl) T.z_isinstance PyProof.Rows.boot_isinstance (es_v (ed_call (by rfl) (ok_0 T) (hr.mono (by decide)) (by rfl) T.m_0 T.k_0 T.b_0 (dF0_ne (by rfl)) dF0_nox (es_v (ed_v (pv 1)) (es_v (ed_v (pv 3)) es_nil))) (es_v (ed_c (pe_bltn (v := .ty "tuple") (by rfl) T.z_tuple PyProof.Rows.boot_tuple (by rfl)) (.ty .nil)) es_nil)) (fun _ => dop_isi))))))) (ss_one (sd_ret ed_bl)) ss_nil)))
    (ss_cons (sd_for PassesOwn.never (by rfl) (id_rng1 (by rfl) T.z_range (es_v (ed_callB cl_len (by rfl) T.z_len PySem.boot_len (es_v (ed_ix (ix_all hu0) (es_v (ed_ix (ix_all hu0) (es_v (ed_v (pv 1)) (es_v ed_int es_nil)) (fun _ => dop_ix)) (es_v ed_int es_nil)) (fun _ => dop_ix)) es_nil) (fun _ => dop_len)) es_nil)) (tg_name sc.nd rfl (by first | exact .inl rfl | exact .inr rfl) (ne_of1 rfl)) (ss_one (sd_for PassesOwn.never (by rfl) (id_rng1 (by rfl) T.z_range (es_v ed_int es_nil)) (tg_name sc.nd rfl (by first | exact .inl rfl | exact .inr rfl) (ne_of1 rfl)) (ss_one (sd_if (ec_not (ec_val (ed_callG (by rfl) (ok_11 T) hgd (hr.mono (by decide)) (by rfl) T.m_11 T.k_11 T.b_11 (dF0_ne (by rfl)) dF0_nox (es_v (ed_call (by rfl) (ok_1 T) (hr.mono (by decide)) (by rfl) T.m_1 T.k_1 T.b_1 (dF0_ne (by rfl)) dF0_nox (es_v (ed_v (pv 1)) (es_v (ed_v (pv 5)) es_nil))) (es_v (ed_z (ed_call (by rfl) (ok_10 T) (hr.mono (by decide)) (by rfl) T.m_10 T.k_10 T.b_10 (dF0_ne (by rfl)) dF0_nox (es_v (ed_v (pv 1)) (es_v (ed_v (pv 5)) es_nil)))) es_nil))))) (ss_one (sd_ret ed_bl)) ss_nil)))))
    (ss_cons (sd_for PassesOwn.never (by rfl) (id_rng1 (by rfl) T.z_range (es_v ed_int es_nil)) (tg_name sc.nd rfl (by first | exact .inl rfl | exact .inr rfl) (ne_of1 rfl)) (ss_cons (sd_set sc.nd rfl (by first | exact .inl rfl | exact .inr rfl) (ne_of1 rfl) (ed_ix (ix_all hu0) (es_v (ed_ix (ix_all hu0) (es_v (ed_v (pv 1)) (es_v (ed_call (by rfl) (ok_4 T) (hr.mono (by decide)) (by rfl) T.m_4 T.k_4 T.b_4 (dF0_ne (by rfl)) dF0_nox (es_p (pv 0) (es_v (ed_z (ed_callB cl_len (by rfl) T.z_len PySem.boot_len (es_v (ed_v (pv 1)) es_nil) (fun _ => dop_len))) es_nil))) es_nil)) (fun _ => dop_ix)) (es_v ed_int es_nil)) (fun _ => dop_ix)))
    (ss_cons (sd_set sc.nd rfl (by first | exact .inl rfl | exact .inr rfl) (ne_of1 rfl) (ed_ix (ix_all hu0) (es_v (ed_ix (ix_all hu0) (es_v (ed_v (pv 1)) (es_v (ed_call (by rfl) (ok_4 T) (hr.mono (by decide)) (by rfl) T.m_4 T.k_4 T.b_4 (dF0_ne (by rfl)) dF0_nox (es_p (pv 0) (es_v (ed_z (ed_callB cl_len (by rfl) T.z_len PySem.boot_len (es_v (ed_v (pv 1)) es_nil) (fun _ => dop_len))) es_nil))) es_nil)) (fun _ => dop_ix)) (es_v ed_int es_nil)) (fun _ => dop_ix)))
    (ss_one (sd_for PassesOwn.never (by rfl) (id_anyS (by rfl) (ed_lst (es_v (ed_tup (es_v (ed_v (pv 7)) (es_v (ed_v (pv 8)) es_nil)) (fun _ => dop_tup)) (es_v (ed_tup (es_v (ed_v (pv 8)) (es_v (ed_v (pv 7)) es_nil)) (fun _ => dop_tup)) (es_v (ed_tup (es_v (ed_v (pv 7)) (es_v (ed_v (pv 8)) es_nil)) (fun _ => dop_tup)) es_nil))) (fun _ => dop_lst))) (tg_tupS (by rfl) (by rfl) (tgs_cons (tg_name sc.nd rfl (by first | exact .inl rfl | exact .inr rfl) (ne_of1 rfl)) (tgs_cons (tg_name sc.nd rfl (by first | exact .inl rfl | exact .inr rfl) (ne_of1 rfl)) tgs_nil))) (ss_one (sd_if (ec_not (ec_val (ed_callG (by rfl) (ok_11 T) hgd (hr.mono (by decide)) (by rfl) T.m_11 T.k_11 T.b_11 (dF0_ne (by rfl)) dF0_nox (es_v (ed_call (by rfl) (ok_2 T) (hr.mono (by decide)) (by rfl) T.m_2 T.k_2 T.b_2 (dF0_ne (by rfl)) dF0_nox (es_v (ed_v (pv 9)) (es_v (ed_v (pv 10)) es_nil))) (es_v (ed_z (ed_call (by rfl) (ok_9 T) (hr.mono (by decide)) (by rfl) T.m_9 T.k_9 T.b_9 (dF0_ne (by rfl)) dF0_nox (es_v (ed_v (pv 9)) (es_v (ed_v (pv 10)) es_nil)))) es_nil))))) (ss_one (sd_ret ed_bl)) ss_nil)))))))
    (ss_one (sd_ret (ed_cmp op_eq (es_v (ed_callB (cr_repr hgd hu T.sy) (by rfl) T.z_repr PyProof.Rows.boot_repr (es_v (ed_v (pv 1)) es_nil) (fun _ => dop_repr)) (es_v (ed_v (pv 2)) es_nil)) (fun _ => dop_eqS))))))))⟩
theorem sc_6 : FnScope ["_law_stream_here", "_law_many", "_law_stem", "_law_at", "_law_first", "_law_step", "_law_letters_here", "_law_k"] ["_law_stream_here", "_law_many"] (defScope s_6) := ⟨rfl, rfl, rfl, by decide +kernel, rfl, by decide +kernel, by decide +kernel⟩
theorem ok_6 (T : Tx K ct mg f_0 f_1 f_2 f_3 f_4 f_5 f_6 f_7 f_8 f_9 f_10 f_11 f_12 f_13 e_NoBook e_CopyError e_NoStem e_NoTable e_NotTwo e_TooMany d_0 d_1 d_2 d_3 d_4 d_5 d_6 d_7 d_8 d_9 d_10 d_11 d_12 d_13) : FnOk P w K mg base CX0 3 f_6 d_6 ["_law_stream_here", "_law_many"] (dSp K ct 2 F_6) := by
  have sc := sc_6
  refine fn_ok T.F_6 sc (pin := [true, false]) (body := b_6) rfl fun cdv A outer s H E hr => ?_
  have hu0 := hu0_of hr
  have hu := huE_of hr
  have hu1 := hu1_of hr
  exact ⟨_, (ss_cons (sd_set sc.nd rfl (by first | exact .inl rfl | exact .inr rfl) (ne_of1 rfl) (ed_z (ed_call (by rfl) (ok_5 T) (hr.mono (by decide)) (by rfl) T.m_5 T.k_5 T.b_5 (dF0_ne (by rfl)) dF0_nox (es_p (pv 0) (es_v (ed_z (ed_call (by rfl) (ok_4 T) (hr.mono (by decide)) (by rfl) T.m_4 T.k_4 T.b_4 (dF0_ne (by rfl)) dF0_nox (es_p (pv 0) (es_v ed_int es_nil)))) es_nil)))))
    (ss_cons (sd_set sc.nd rfl (by first | exact .inl rfl | exact .inr rfl) (ne_of1 rfl) (ed_z (ed_call (by rfl) (ok_4 T) (hr.mono (by decide)) (by rfl) T.m_4 T.k_4 T.b_4 (dF0_ne (by rfl)) dF0_nox (es_p (pv 0) (es_v (ed_z (ed_bin op_addAll (es_v (ed_callB cl_len (by rfl) T.z_len PySem.boot_len (es_v (ed_v (pv 2)) es_nil) (fun _ => dop_len)) (es_v ed_int es_nil)) (fun _ => dop_add))) es_nil)))))
    (ss_cons (sd_set sc.nd rfl (by first | exact .inl rfl | exact .inr rfl) (ne_of1 rfl) (ed_z (ed_call (by rfl) (ok_4 T) (hr.mono (by decide)) (by rfl) T.m_4 T.k_4 T.b_4 (dF0_ne (by rfl)) dF0_nox (es_p (pv 0) (es_v ed_int es_nil)))))
    (ss_cons (sd_set sc.nd rfl (by first | exact .inl rfl | exact .inr rfl) (ne_of1 rfl) (ed_ix (ix_all hu0) (es_v (ed_lst (es_v ed_int (es_v ed_int (es_v ed_int (es_v ed_int (es_v ed_int (es_v ed_int (es_v ed_int (es_v ed_int es_nil)))))))) (fun _ => dop_lst)) (es_v (ed_call (by rfl) (ok_4 T) (hr.mono (by decide)) (by rfl) T.m_4 T.k_4 T.b_4 (dF0_ne (by rfl)) dF0_nox (es_p (pv 0) (es_v ed_int es_nil))) es_nil)) (fun _ => dop_ix)))
    (ss_cons (sd_set sc.nd rfl (by first | exact .inl rfl | exact .inr rfl) (ne_of1 rfl) ed_str)
    (ss_one (sd_ret (ed_lc (by rfl) sc.nd (id_rng1 (by rfl) T.z_range (es_v (ed_v (pv 1)) es_nil)) (own := [("_law_k", 7)]) (blkOk_by (by kernel_rfl)) (fun _ _ _ _ _ => by exact (tg_name sc.nd rfl (by first | exact .inl rfl | exact .inr rfl) (ne_of1 rfl))) (fun _ _ _ _ _ => by exact ets_nil) (fun _ _ _ _ _ => by exact (ed_bin op_addAll (es_v (ed_bin op_addAll (es_v (ed_slVS (by rfl) (ed_v (pv 2)) eo_no (eo_so (ed_v (pv 3)))) (es_v (ed_ix (ix_all hu0) (es_v (ed_v (pv 6)) (es_v (ed_bin op_mod (es_v (ed_bin op_addAll (es_v (ed_v (pv 4)) (es_v (ed_bin op_mulA (es_v (ed_v (pv 5)) (es_v (ed_v (pv 7)) es_nil)) (fun _ => dop_mulAA)) es_nil)) (fun _ => dop_add)) (es_v ed_int es_nil)) (fun _ => dop_mod)) es_nil)) (fun _ => dop_ix)) es_nil)) (fun _ => dop_add)) (es_v (ed_slVS (by rfl) (ed_v (pv 2)) (eo_so (ed_v (pv 3))) eo_no) es_nil)) (fun _ => dop_add))) (okPin_all (by rfl)) (by decide) (by intro _; rfl) s H 0 []))))))))⟩
theorem sc_7 : FnScope ["_law_stream_here", "_law_way", "_law_many", "_law_wide", "_law_names_here", "_law_pool", "_law_rows", "_law_k", "_law_row", "_law_place"] ["_law_stream_here"] (defScope s_7) := ⟨rfl, rfl, rfl, by decide +kernel, rfl, by decide +kernel, by decide +kernel⟩
theorem ok_7 (T : Tx K ct mg f_0 f_1 f_2 f_3 f_4 f_5 f_6 f_7 f_8 f_9 f_10 f_11 f_12 f_13 e_NoBook e_CopyError e_NoStem e_NoTable e_NotTwo e_TooMany d_0 d_1 d_2 d_3 d_4 d_5 d_6 d_7 d_8 d_9 d_10 d_11 d_12 d_13) : FnOk P w K mg base CX0 4 f_7 d_7 ["_law_stream_here"] (dSp K ct 1 F_7) := by
  have sc := sc_7
  refine fn_ok T.F_7 sc (pin := [true]) (body := b_7) rfl fun cdv A outer s H E hr => ?_
  have hu0 := hu0_of hr
  have hu := huE_of hr
  have hu1 := hu1_of hr
  exact ⟨_, (ss_cons (sd_set sc.nd rfl (by first | exact .inl rfl | exact .inr rfl) (ne_of1 rfl) (ed_z (ed_call (by rfl) (ok_4 T) (hr.mono (by decide)) (by rfl) T.m_4 T.k_4 T.b_4 (dF0_ne (by rfl)) dF0_nox (es_p (pv 0) (es_v ed_int es_nil)))))
    (ss_cons (sd_set sc.nd rfl (by first | exact .inl rfl | exact .inr rfl) (ne_of1 rfl) (ed_ix (ix_all hu0) (es_v (ed_lst (es_v (ed_bin op_addAll (es_v ed_int (es_v (ed_call (by rfl) (ok_4 T) (hr.mono (by decide)) (by rfl) T.m_4 T.k_4 T.b_4 (dF0_ne (by rfl)) dF0_nox (es_p (pv 0) (es_v ed_int es_nil))) es_nil)) (fun _ => dop_add)) (es_v ed_int es_nil)) (fun _ => dop_lst)) (es_v (ed_callTy call_int1 (by rfl) T.z_int PyProof.Rows.boot_int (es_v (ed_cmp (op_eqD hu) (es_v (ed_v (pv 1)) (es_v ed_int es_nil)) (fun _ => dop_eq)) es_nil) (fun _ => dop_int1)) es_nil)) (fun _ => dop_ix)))
    (ss_cons (sd_set sc.nd rfl (by first | exact .inl rfl | exact .inr rfl) (ne_of1 rfl) (ed_ix (ix_all hu0) (es_v (ed_lst (es_v (ed_bin op_addAll (es_v ed_int (es_v (ed_call (by rfl) (ok_4 T) (hr.mono (by decide)) (by rfl) T.m_4 T.k_4 T.b_4 (dF0_ne (by rfl)) dF0_nox (es_p (pv 0) (es_v ed_int es_nil))) es_nil)) (fun _ => dop_add)) (es_v ed_int es_nil)) (fun _ => dop_lst)) (es_v (ed_callTy call_int1 (by rfl) T.z_int PyProof.Rows.boot_int (es_v (ed_cmp (op_eqD hu) (es_v (ed_v (pv 1)) (es_v ed_int es_nil)) (fun _ => dop_eq)) es_nil) (fun _ => dop_int1)) es_nil)) (fun _ => dop_ix)))
    (ss_cons (sd_set sc.nd rfl (by first | exact .inl rfl | exact .inr rfl) (ne_of1 rfl) (ed_z (ed_call (by rfl) (ok_6 T) (hr.mono (by decide)) (by rfl) T.m_6 T.k_6 T.b_6 (dF0_ne (by rfl)) dF0_nox (es_p (pv 0) (es_v (ed_v (pv 2)) es_nil)))))
    (ss_cons (sd_set sc.nd rfl (by first | exact .inl rfl | exact .inr rfl) (ne_of1 rfl) (ed_z (ed_bin op_addAll (es_v (ed_call (by rfl) (ok_6 T) (hr.mono (by decide)) (by rfl) T.m_6 T.k_6 T.b_6 (dF0_ne (by rfl)) dF0_nox (es_p (pv 0) (es_v (ed_z (ed_bin op_addAll (es_v ed_int (es_v (ed_call (by rfl) (ok_4 T) (hr.mono (by decide)) (by rfl) T.m_4 T.k_4 T.b_4 (dF0_ne (by rfl)) dF0_nox (es_p (pv 0) (es_v ed_int es_nil))) es_nil)) (fun _ => dop_add))) es_nil))) (es_v (ed_lst (es_v ed_str (es_v ed_non es_nil)) (fun _ => dop_lst)) es_nil)) (fun _ => dop_add))))
    (ss_cons (sd_set sc.nd rfl (by first | exact .inl rfl | exact .inr rfl) (ne_of1 rfl) (ed_lst es_nil (fun _ => dop_lst)))
    (ss_cons (sd_for PassesOwn.never (by rfl) (id_rng1 (by rfl) T.z_range (es_v (ed_v (pv 2)) es_nil)) (tg_name sc.nd rfl (by first | exact .inl rfl | exact .inr rfl) (ne_of1 rfl)) (ss_cons (sd_set sc.nd rfl (by first | exact .inl rfl | exact .inr rfl) (ne_of1 rfl) (ed_callTy call_tuple_of (by rfl) T.z_tuple PyProof.Rows.boot_tuple (es_v (ed_lc (by rfl) sc.nd (id_rng1 (by rfl) T.z_range (es_v (ed_v (pv 3)) es_nil)) (own := [("_law_place", 9)]) (blkOk_by (by kernel_rfl)) (fun _ _ _ _ _ => by exact (tg_name sc.nd rfl (by first | exact .inl rfl | exact .inr rfl) (ne_of1 rfl))) (fun _ _ _ _ _ => by exact ets_nil) (fun _ _ _ _ _ => by exact (ed_ix (ix_all hu0) (es_v (ed_v (pv 5)) (es_v (ed_call (by rfl) (ok_4 T) (hr.mono (by decide)) (by rfl) T.m_4 T.k_4 T.b_4 (dF0_ne (by rfl)) dF0_nox (es_p (pv 0) (es_v (ed_z (ed_callB cl_len (by rfl) T.z_len PySem.boot_len (es_v (ed_v (pv 5)) es_nil) (fun _ => dop_len))) es_nil))) es_nil)) (fun _ => dop_ix))) (okPin_all (by rfl)) (by decide) (by intro _; rfl) s H 0 []) es_nil) (fun _ => dop_tuple)))
    (ss_cons (sd_if (ec_w (ew_and (ec_cmp op_gt (es_v (ed_v (pv 7)) (es_v ed_int es_nil)) (fun _ => dop_gtI)) (ew_and1 (ec_cmp (op_eqD hu) (es_v (ed_call (by rfl) (ok_4 T) (hr.mono (by decide)) (by rfl) T.m_4 T.k_4 T.b_4 (dF0_ne (by rfl)) dF0_nox (es_p (pv 0) (es_v ed_int es_nil))) (es_v ed_int es_nil)) (fun _ => dop_eq))))) (ss_one (sd_set sc.nd rfl (by first | exact .inl rfl | exact .inr rfl) (ne_of1 rfl) (ed_ix (ix_all hu0) (es_p (pv 6) (es_v (ed_call (by rfl) (ok_4 T) (hr.mono (by decide)) (by rfl) T.m_4 T.k_4 T.b_4 (dF0_ne (by rfl)) dF0_nox (es_p (pv 0) (es_v (ed_v (pv 7)) es_nil))) es_nil)) (fun _ => dop_ix)))) ss_nil)
    (ss_one (sd_expr (ed_mP (by rfl) F.plainAttrs_list F.slot_list_append F.type_list_append mt_append chk_list (pv 6) (es_v (ed_v (pv 8)) es_nil) (fun _ => dop_append)))))))
    (ss_one (sd_ret (ed_lstZip (by rfl) (by rfl) (by rfl) T.z_list (by rfl) T.z_zip (es_v (ed_v (pv 4)) (es_v (ed_v (pv 6)) es_nil))))))))))))⟩
theorem sc_13 : FnScope ["_law_script", "_law_stream_here", "_law_first", "_law_second", "_law_table_here", "_law_names_here", "_law_name", "_law_row"] ["_law_script"] (defScope s_13) := ⟨rfl, rfl, rfl, by decide +kernel, rfl, by decide +kernel, by decide +kernel⟩
theorem ok_13 (T : Tx K ct mg f_0 f_1 f_2 f_3 f_4 f_5 f_6 f_7 f_8 f_9 f_10 f_11 f_12 f_13 e_NoBook e_CopyError e_NoStem e_NoTable e_NotTwo e_TooMany d_0 d_1 d_2 d_3 d_4 d_5 d_6 d_7 d_8 d_9 d_10 d_11 d_12 d_13) : FnG P w K mg base CX0 5 f_13 d_13 ["_law_script"] (dSp K ct 1 F_13) := by
  have sc := sc_13
  refine fnG_ok T.F_13 sc (pin := [false]) (body := b_13) rfl fun cdv A outer s H E hr hgd => ?_
  have hu0 := hu0_of hr
  have hu := huE_of hr
  have hu1 := hu1_of hr
  exact ⟨_, (ss_cons (sd_set sc.nd rfl (by first | exact .inl rfl | exact .inr rfl) (ne_of1 rfl) (ed_call (by rfl) (ok_3 T) (hr.mono (by decide)) (by rfl) T.m_3 T.k_3 T.b_3 (dF0_ne (by rfl)) dF0_nox (es_v (ed_v (pv 0)) (es_v ed_int es_nil))))
    (ss_cons (sd_set sc.nd rfl (by first | exact .inl rfl | exact .inr rfl) (ne_of1 rfl) (ed_z (ed_call (by rfl) (ok_7 T) (hr.mono (by decide)) (by rfl) T.m_7 T.k_7 T.b_7 (dF0_ne (by rfl)) dF0_nox (es_p (pv 1) es_nil))))
    (ss_cons (sd_set sc.nd rfl (by first | exact .inl rfl | exact .inr rfl) (ne_of1 rfl) (ed_z (ed_call (by rfl) (ok_7 T) (hr.mono (by decide)) (by rfl) T.m_7 T.k_7 T.b_7 (dF0_ne (by rfl)) dF0_nox (es_v (ed_call (by rfl) (ok_3 T) (hr.mono (by decide)) (by rfl) T.m_3 T.k_3 T.b_3 (dF0_ne (by rfl)) dF0_nox (es_v (ed_v (pv 0)) (es_v ed_int es_nil))) es_nil))))
    (ss_cons (sd_for PassesOwn.never (by rfl) (id_anyS (by rfl) (ed_lst (es_v (ed_v (pv 2)) (es_v (ed_v (pv 3)) (es_v (ed_v (pv 2)) es_nil))) (fun _ => dop_lst))) (tg_name sc.nd rfl (by first | exact .inl rfl | exact .inr rfl) (ne_of1 rfl)) (ss_one (sd_if (ec_not (ec_val (ed_callG (by rfl) (ok_12 T) hgd (hr.mono (by decide)) (by rfl) T.m_12 T.k_12 T.b_12 (dF0_ne (by rfl)) dF0_nox (es_p (pv 1) (es_v (ed_v (pv 4)) es_nil))))) (ss_one (sd_ret ed_bl)) ss_nil)))
    (ss_cons (sd_setLcZ (by rfl) sc.nd (by rfl) (by rfl) (ne_of1 (by rfl)) (by rfl) (id_anyS (by rfl) (ed_v (pv 2))) (own := [("_law_name", 6), ("_law_row", 7)]) (blkOk_by (by kernel_rfl)) (fun _ _ _ _ _ => by exact (tg_tupS (by rfl) (by rfl) (tgs_cons (tg_name sc.nd rfl (by first | exact .inl rfl | exact .inr rfl) (ne_of1 rfl)) (tgs_cons (tg_name sc.nd rfl (by first | exact .inl rfl | exact .inr rfl) (ne_of1 rfl)) tgs_nil)))) (fun _ _ _ _ _ => by exact ets_nil) (fun _ _ _ _ _ => by exact (ed_v (pv 6))) (okPin_all (by rfl)) (by decide) (by intro _; rfl) s H 0 [])
    (ss_cons (sd_for PassesOwn.never (by rfl) (id_anyS (by rfl) (ed_bin op_addAll (es_v (ed_bin op_addAll (es_v (ed_lc (by rfl) sc.nd (id_anyS (by rfl) (ed_v (pv 5))) (own := [("_law_name", 6)]) (blkOk_by (by kernel_rfl)) (fun _ _ _ _ _ => by exact (tg_name sc.nd rfl (by first | exact .inl rfl | exact .inr rfl) (ne_of1 rfl))) (fun _ _ _ _ _ => by exact ets_nil) (fun _ _ _ _ _ => by exact (ed_bin op_addAll (es_v (ed_v (pv 6)) (es_v ed_str es_nil)) (fun _ => dop_add))) (okPin_all (by rfl)) (by decide) (by intro _; rfl) s H 0 []) (es_v (ed_lc (by rfl) sc.nd (id_anyS (by rfl) (ed_v (pv 5))) (own := [("_law_name", 6)]) (blkOk_by (by kernel_rfl)) (fun _ _ _ _ _ => by exact (tg_name sc.nd rfl (by first | exact .inl rfl | exact .inr rfl) (ne_of1 rfl))) (fun _ _ _ _ _ => by exact ets_nil) (fun _ _ _ _ _ => by exact (ed_slVS (by rfl) (ed_v (pv 6)) (eo_so ed_int) eo_no)) (okPin_all (by rfl)) (by decide) (by intro _; rfl) s H 0 []) es_nil)) (fun _ => dop_add)) (es_v (ed_lst (es_v (ed_ix (ix_all hu0) (es_v (ed_ix (ix_all hu0) (es_v (ed_v (pv 3)) (es_v ed_int es_nil)) (fun _ => dop_ix)) (es_v ed_int es_nil)) (fun _ => dop_ix)) es_nil) (fun _ => dop_lst)) es_nil)) (fun _ => dop_add))) (tg_name sc.nd rfl (by first | exact .inl rfl | exact .inr rfl) (ne_of1 rfl)) (ss_one (sd_if (ec_w (ew_and (ec_chain op_lt op_lt ed_int (ed_callB cl_len (by rfl) T.z_len PySem.boot_len (es_v (ed_v (pv 6)) es_nil) (fun _ => dop_len)) ed_int (fun _ => dop_ltI) (fun _ => dop_ltI)) (ew_and (ec_cmp (op_notinAll hu1) (es_v (ed_v (pv 6)) (es_v (ed_v (pv 5)) es_nil)) (fun _ => dop_in) (by with_unfolding_all rfl)) (ew_and1 (ec_not (ec_val (ed_call (by rfl) (ok_8 T) (hr.mono (by decide)) (by rfl) T.m_8 T.k_8 T.b_8 (dF0_ne (by rfl)) dF0_nox (es_v (ed_v (pv 2)) (es_v (ed_v (pv 6)) es_nil))))))))) (ss_one (sd_ret ed_bl)) ss_nil)))
    (ss_one (sd_ret ed_bl))))))))⟩
end
end K03
namespace K03
open PySem L2 Dl
local macro_rules | `(tactic| walk_at "gr") => `(tactic| ((repeat (with_reducible apply gR.s)); with_reducible exact gR.z))
local macro_rules | `(tactic| walk_at "sr") => `(tactic| ((repeat (with_reducible apply SetR.s)); with_reducible exact SetR.z))
local macro_rules | `(tactic| walk_at "wr") => `(tactic| first | (with_reducible exact WpR.nil) | ((with_reducible apply WpR.cons); (walk_at "wr"); (walk_at "sr")))
local macro_rules | `(tactic| walk_at "or") => `(tactic| ((repeat (first | with_reducible apply OutR.tt | with_reducible apply OutR.ff)); with_reducible exact OutR.nil))
local macro_rules | `(tactic| walk_at "sq") => `(tactic| with_reducible first | exact SeqL.o | exact SeqL.fs | exact SeqL.tp | exact SeqL.sc | exact SeqL.kt)
local macro_rules | `(tactic| walk_at "ls") => `(tactic| with_reducible first | exact LstL.o | exact LstL.f)
local macro_rules | `(tactic| walk_at "bd") => `(tactic| with_reducible first | assumption | exact Bd.id | exact Bd.ind | exact Bd.it | exact Bd.if | exact isN_oS | exact isN_iff | (apply Bd.ng; walk_at "bd") | (apply Bd.ia; walk_at "bd"; walk_at "bd") | (apply Bd.io; walk_at "bd"; walk_at "bd") | exact Bd.ib)
local macro_rules | `(tactic| walk_at "wd") => `(tactic| first | (with_reducible assumption) | (with_reducible exact wd_nil) | exact wd_1000 (by decide +kernel))
local macro_rules | `(tactic| walk_at "pd") => `(tactic| first | (with_reducible assumption) | (exact pd_int) | (exact pd_non) | (exact pd_str (by walk_at "wd")) | (exact pd_lst0) | (exact pd_tup0) | (exact pd_ints) | ((show D.nb 64 _ = true); decide +kernel))
local macro_rules | `(tactic| walk_at "it") => `(tactic| first | exact allD_fzs | rfl)
local macro_rules | `(tactic| walk_at "eq") => `(tactic| first | exact oLtI_int | exact oLeI_int | exact oGtI_int | exact oGeI_int | exact oPow_10_18 | exact oPow_10_9 | exact oPow_10_40)
local macro_rules | `(tactic| walk_at "isi") => `(tactic| with_reducible first | assumption | exact isi_non_str | exact isi_non_list | exact isi_non_tuple | exact isi_non_int | exact isi_non_bool | exact isi_non_dict | exact isi_bl_str | exact isi_bl_list | exact isi_bl_tuple | exact isi_bl_int | exact isi_bl_bool | exact isi_bl_dict | exact isi_int_str | exact isi_int_list | exact isi_int_tuple | exact isi_int_int | exact isi_int_bool | exact isi_int_dict | exact isi_str_str | exact isi_str_list | exact isi_str_tuple | exact isi_str_int | exact isi_str_bool | exact isi_str_dict | exact isi_tup_str | exact isi_tup_list | exact isi_tup_tuple | exact isi_tup_int | exact isi_tup_bool | exact isi_tup_dict | exact isi_lst_str | exact isi_lst_list | exact isi_lst_tuple | exact isi_lst_int | exact isi_lst_bool | exact isi_lst_dict | exact isi_own_str | exact isi_own_list | exact isi_own_tuple | exact isi_own_int | exact isi_own_bool | exact isi_own_dict | exact isi_dct_str | exact isi_dct_list | exact isi_dct_tuple | exact isi_dct_int | exact isi_dct_bool | exact isi_dct_dict | exact isi_ktp_str | exact isi_ktp_list | exact isi_ktp_tuple | exact isi_ktp_int | exact isi_ktp_bool | exact isi_ktp_dict)
local macro_rules | `(tactic| walk_at "sd") => `(tactic| first | assumption | omega | (simp only [List.length_map, List.length_append, List.length_cons, List.length_nil, List.length_reverse, List.length_range, List.length_set]; omega) | (refine ⟨?_, ?_⟩ <;> omega))
local macro_rules | `(tactic| walk_at "at") => `(tactic| with_reducible first | assumption | exact AtI.i0 | exact AtI.i1 | exact AtI.i2 | exact AtI.i3 | exact AtI.i4 | exact AtI.i5 | exact AtI.snoc | exact AtI.snocM)
local macro_rules | `(tactic| walk_at "xe") => `(tactic| first | rfl | skip)
local macro_rules | `(tactic| apply_rfl) => `(tactic| ((with_reducible apply W_eD1)))
local macro_rules | `(tactic| apply_rfl) => `(tactic| ((with_reducible apply W_eDN)))
local macro_rules | `(tactic| apply_rfl) => `(tactic| ((with_reducible apply W_eSS)))
local macro_rules | `(tactic| apply_rfl) => `(tactic| ((with_reducible apply W_eWk)))
local macro_rules | `(tactic| apply_rfl) => `(tactic| ((with_reducible apply W_eRg1)))
local macro_rules | `(tactic| apply_rfl) => `(tactic| ((with_reducible apply W_lcP); walk_at "gr"; walk_at "it"; walk_at "sr"))
local macro_rules | `(tactic| apply_rfl) => `(tactic| ((with_reducible apply W_lc)))
local macro_rules | `(tactic| apply_rfl) => `(tactic| ((with_reducible apply W_eCh4)))
local macro_rules | `(tactic| apply_rfl) => `(tactic| ((with_reducible apply W_eCh)))
local macro_rules | `(tactic| apply_rfl) => `(tactic| ((with_reducible apply W_eSlP); walk_at "gr"))
local macro_rules | `(tactic| apply_rfl) => `(tactic| ((with_reducible apply W_eSlV)))
local macro_rules | `(tactic| apply_rfl) => `(tactic| ((with_reducible apply W_eThenP); walk_at "gr"))
local macro_rules | `(tactic| apply_rfl) => `(tactic| ((with_reducible apply W_eThen)))
local macro_rules | `(tactic| apply_rfl) => `(tactic| ((with_reducible apply W_eRV)))
local macro_rules | `(tactic| apply_rfl) => `(tactic| ((with_reducible apply W_eRP); walk_at "gr"; rfl))
local macro_rules | `(tactic| apply_rfl) => `(tactic| ((with_reducible apply W_eZ)))
local macro_rules | `(tactic| apply_rfl) => `(tactic| ((with_reducible apply W_eIf)))
local macro_rules | `(tactic| apply_rfl) => `(tactic| ((with_reducible apply W_eNot)))
local macro_rules | `(tactic| apply_rfl) => `(tactic| ((with_reducible apply W_eOr)))
local macro_rules | `(tactic| apply_rfl) => `(tactic| ((with_reducible apply W_eAnd)))
local macro_rules | `(tactic| apply_rfl) => `(tactic| ((with_reducible apply W_eO)))
local macro_rules | `(tactic| apply_rfl) => `(tactic| ((with_reducible apply W_eVo); walk_at "gr"; walk_at "sr"))
local macro_rules | `(tactic| apply_rfl) => `(tactic| ((with_reducible apply W_o1)))
local macro_rules | `(tactic| apply_rfl) => `(tactic| ((with_reducible apply W_o2)))
local macro_rules | `(tactic| apply_rfl) => `(tactic| ((with_reducible apply W_eC)))
local macro_rules | `(tactic| apply_rfl) => `(tactic| ((with_reducible apply W_eV); walk_at "gr"))
local macro_rules | `(tactic| eq_refl) => `(tactic| ((with_reducible apply W_neOO); walk_at "pd"; walk_at "pd"))
local macro_rules | `(tactic| eq_refl) => `(tactic| ((with_reducible apply W_eqOO); walk_at "pd"; walk_at "pd"))
local macro_rules | `(tactic| eq_refl) => `(tactic| ((with_reducible apply W_neO); walk_at "pd"; walk_at "pd"))
local macro_rules | `(tactic| eq_refl) => `(tactic| ((with_reducible apply W_eqO); walk_at "pd"; walk_at "pd"))
local macro_rules | `(tactic| eq_refl) => `(tactic| ((with_reducible apply W_neFO); walk_at "pd"; walk_at "pd"))
local macro_rules | `(tactic| eq_refl) => `(tactic| ((with_reducible apply W_eqFO); walk_at "pd"; walk_at "pd"))
local macro_rules | `(tactic| eq_refl) => `(tactic| ((with_reducible apply W_neD); walk_at "pd"; walk_at "pd"))
local macro_rules | `(tactic| eq_refl) => `(tactic| ((with_reducible apply W_eqD); walk_at "pd"; walk_at "pd"))
local macro_rules | `(tactic| eq_refl) => `(tactic| ((with_reducible apply W_eqL0); walk_at "sq"))
local macro_rules | `(tactic| eq_refl) => `(tactic| ((with_reducible apply W_neL0); walk_at "sq"))
local macro_rules | `(tactic| eq_refl) => `(tactic| ((with_reducible apply W_nsBT)))
local macro_rules | `(tactic| eq_refl) => `(tactic| ((with_reducible apply W_isBT)))
local macro_rules | `(tactic| eq_refl) => `(tactic| ((with_reducible apply W_eqEI)))
local macro_rules | `(tactic| eq_refl) => `(tactic| ((with_reducible apply W_eq0)))
local macro_rules | `(tactic| eq_refl) => `(tactic| ((with_reducible apply W_strI)))
local macro_rules | `(tactic| eq_refl) => `(tactic| ((with_reducible apply W_strI); refine ⟨by walk_at "sd", ?_⟩; intros))
local macro_rules | `(tactic| eq_refl) => `(tactic| ((with_reducible apply W_strX)))
local macro_rules | `(tactic| eq_refl) => `(tactic| ((with_reducible apply W_strB)))
local macro_rules | `(tactic| eq_refl) => `(tactic| ((with_reducible apply W_subX)))
local macro_rules | `(tactic| eq_refl) => `(tactic| ((with_reducible apply W_addX)))
local macro_rules | `(tactic| eq_refl) => `(tactic| ((with_reducible apply W_subIB)))
local macro_rules | `(tactic| eq_refl) => `(tactic| ((with_reducible apply W_subBI)))
local macro_rules | `(tactic| eq_refl) => `(tactic| ((with_reducible apply W_addBI)))
local macro_rules | `(tactic| eq_refl) => `(tactic| ((with_reducible apply W_isi); walk_at "isi"))
local macro_rules | `(tactic| eq_refl) => `(tactic| ((with_reducible apply W_inI1); walk_at "sq"))
local macro_rules | `(tactic| eq_refl) => `(tactic| ((with_reducible apply W_inI0); walk_at "sq"))
local macro_rules | `(tactic| eq_refl) => `(tactic| ((with_reducible apply W_join); walk_at "sq"; walk_at "wd"))
local macro_rules | `(tactic| eq_refl) => `(tactic| ((with_reducible apply W_tupN); walk_at "sq"))
local macro_rules | `(tactic| eq_refl) => `(tactic| ((with_reducible apply W_indexT)))
local macro_rules | `(tactic| eq_refl) => `(tactic| ((with_reducible apply W_indexI); walk_at "sq"))
local macro_rules | `(tactic| eq_refl) => `(tactic| ((with_reducible apply W_minX); walk_at "sq"))
local macro_rules | `(tactic| eq_refl) => `(tactic| ((with_reducible apply W_minL); walk_at "sq"))
local macro_rules | `(tactic| eq_refl) => `(tactic| ((with_reducible apply W_maxL); walk_at "sq"))
local macro_rules | `(tactic| eq_refl) => `(tactic| ((with_reducible apply W_sum); walk_at "sq"))
local macro_rules | `(tactic| eq_refl) => `(tactic| ((with_reducible apply W_all); walk_at "sq"))
local macro_rules | `(tactic| eq_refl) => `(tactic| ((with_reducible apply W_reverse)))
local macro_rules | `(tactic| eq_refl) => `(tactic| ((with_reducible apply W_pop)))
local macro_rules | `(tactic| eq_refl) => `(tactic| ((with_reducible apply W_insertM); refine ⟨by walk_at "sd", ?_⟩))
local macro_rules | `(tactic| eq_refl) => `(tactic| ((with_reducible apply W_popAtM); refine ⟨by walk_at "sd", ?_⟩))
local macro_rules | `(tactic| eq_refl) => `(tactic| ((with_reducible apply W_popM)))
local macro_rules | `(tactic| eq_refl) => `(tactic| ((with_reducible apply W_appendO)))
local macro_rules | `(tactic| eq_refl) => `(tactic| ((with_reducible apply W_appendO); refine ⟨by walk_at "sd", ?_⟩))
local macro_rules | `(tactic| eq_refl) => `(tactic| ((with_reducible apply W_append)))
local macro_rules | `(tactic| eq_refl) => `(tactic| ((with_reducible apply W_append); refine ⟨by walk_at "sd", ?_⟩))
local macro_rules | `(tactic| eq_refl) => `(tactic| ((with_reducible apply W_appendM)))
local macro_rules | `(tactic| eq_refl) => `(tactic| ((with_reducible apply W_appendM); refine ⟨by walk_at "sd", ?_⟩))
local macro_rules | `(tactic| eq_refl) => `(tactic| ((with_reducible apply W_appendN)))
local macro_rules | `(tactic| eq_refl) => `(tactic| ((with_reducible apply W_appendN); refine ⟨by walk_at "sd", ?_⟩))
local macro_rules | `(tactic| eq_refl) => `(tactic| ((with_reducible apply W_appendZ)))
local macro_rules | `(tactic| eq_refl) => `(tactic| ((with_reducible apply W_appendZ); refine ⟨by walk_at "sd", ?_⟩))
local macro_rules | `(tactic| eq_refl) => `(tactic| ((with_reducible apply W_mulL); walk_at "ls"))
local macro_rules | `(tactic| eq_refl) => `(tactic| ((with_reducible apply W_mulL); walk_at "ls"; refine ⟨by walk_at "sd", ?_⟩))
local macro_rules | `(tactic| eq_refl) => `(tactic| ((with_reducible apply W_addT)))
local macro_rules | `(tactic| eq_refl) => `(tactic| ((with_reducible apply W_addT); refine ⟨by walk_at "sd", ?_⟩))
local macro_rules | `(tactic| eq_refl) => `(tactic| ((with_reducible apply W_addTM)))
local macro_rules | `(tactic| eq_refl) => `(tactic| ((with_reducible apply W_addTM); refine ⟨by walk_at "sd", ?_⟩))
local macro_rules | `(tactic| eq_refl) => `(tactic| ((with_reducible apply W_addL); walk_at "ls"; walk_at "ls"))
local macro_rules | `(tactic| eq_refl) => `(tactic| ((with_reducible apply W_addL); walk_at "ls"; walk_at "ls"; refine ⟨by walk_at "sd", ?_⟩))
local macro_rules | `(tactic| eq_refl) => `(tactic| ((with_reducible apply W_addLM); walk_at "ls"; walk_at "ls"))
local macro_rules | `(tactic| eq_refl) => `(tactic| ((with_reducible apply W_addLM); walk_at "ls"; walk_at "ls"; refine ⟨by walk_at "sd", ?_⟩))
local macro_rules | `(tactic| eq_refl) => `(tactic| ((with_reducible apply W_listQ); walk_at "sq"))
local macro_rules | `(tactic| eq_refl) => `(tactic| ((with_reducible apply W_tupQ); walk_at "sq"))
local macro_rules | `(tactic| eq_refl) => `(tactic| ((with_reducible apply W_tupT)))
local macro_rules | `(tactic| eq_refl) => `(tactic| ((with_reducible apply W_oTup); rfl))
local macro_rules | `(tactic| eq_refl) => `(tactic| ((with_reducible apply W_tup8)))
local macro_rules | `(tactic| eq_refl) => `(tactic| ((with_reducible apply W_tup7)))
local macro_rules | `(tactic| eq_refl) => `(tactic| ((with_reducible apply W_tup6)))
local macro_rules | `(tactic| eq_refl) => `(tactic| ((with_reducible apply W_tup5)))
local macro_rules | `(tactic| eq_refl) => `(tactic| ((with_reducible apply W_tup4)))
local macro_rules | `(tactic| eq_refl) => `(tactic| ((with_reducible apply W_tup3)))
local macro_rules | `(tactic| eq_refl) => `(tactic| ((with_reducible apply W_tup2)))
local macro_rules | `(tactic| eq_refl) => `(tactic| ((with_reducible apply W_tup1)))
local macro_rules | `(tactic| eq_refl) => `(tactic| ((with_reducible apply W_tup0)))
local macro_rules | `(tactic| eq_refl) => `(tactic| ((with_reducible apply W_oLst); rfl))
local macro_rules | `(tactic| eq_refl) => `(tactic| ((with_reducible apply W_lst20)))
local macro_rules | `(tactic| eq_refl) => `(tactic| ((with_reducible apply W_lst19)))
local macro_rules | `(tactic| eq_refl) => `(tactic| ((with_reducible apply W_lst18)))
local macro_rules | `(tactic| eq_refl) => `(tactic| ((with_reducible apply W_lst17)))
local macro_rules | `(tactic| eq_refl) => `(tactic| ((with_reducible apply W_lst16)))
local macro_rules | `(tactic| eq_refl) => `(tactic| ((with_reducible apply W_lst15)))
local macro_rules | `(tactic| eq_refl) => `(tactic| ((with_reducible apply W_lst14)))
local macro_rules | `(tactic| eq_refl) => `(tactic| ((with_reducible apply W_lst13)))
local macro_rules | `(tactic| eq_refl) => `(tactic| ((with_reducible apply W_lst12)))
local macro_rules | `(tactic| eq_refl) => `(tactic| ((with_reducible apply W_lst11)))
local macro_rules | `(tactic| eq_refl) => `(tactic| ((with_reducible apply W_lst10)))
local macro_rules | `(tactic| eq_refl) => `(tactic| ((with_reducible apply W_lst9)))
local macro_rules | `(tactic| eq_refl) => `(tactic| ((with_reducible apply W_lst8)))
local macro_rules | `(tactic| eq_refl) => `(tactic| ((with_reducible apply W_lst7)))
local macro_rules | `(tactic| eq_refl) => `(tactic| ((with_reducible apply W_lst6)))
local macro_rules | `(tactic| eq_refl) => `(tactic| ((with_reducible apply W_lst5)))
local macro_rules | `(tactic| eq_refl) => `(tactic| ((with_reducible apply W_lst4)))
local macro_rules | `(tactic| eq_refl) => `(tactic| ((with_reducible apply W_lst3)))
local macro_rules | `(tactic| eq_refl) => `(tactic| ((with_reducible apply W_lst2)))
local macro_rules | `(tactic| eq_refl) => `(tactic| ((with_reducible apply W_lstO5)))
local macro_rules | `(tactic| eq_refl) => `(tactic| ((with_reducible apply W_lst1)))
local macro_rules | `(tactic| eq_refl) => `(tactic| ((with_reducible apply W_lst0)))
local macro_rules | `(tactic| eq_refl) => `(tactic| ((with_reducible apply W_ixQ); walk_at "sq"))
local macro_rules | `(tactic| eq_refl) => `(tactic| ((with_reducible apply W_ixM); walk_at "sq"; refine ⟨by walk_at "sd", ?_⟩; intro _ _))
local macro_rules | `(tactic| eq_refl) => `(tactic| ((with_reducible apply W_ixQ); walk_at "sq"; refine ⟨_, by walk_at "at", ?_⟩))
local macro_rules | `(tactic| eq_refl) => `(tactic| ((with_reducible apply W_lenQ); walk_at "sq"))
local macro_rules | `(tactic| eq_refl) => `(tactic| ((with_reducible apply W_lenM); walk_at "sq"))
local macro_rules | `(tactic| eq_refl) => `(tactic| ((with_reducible apply W_abc)))
local macro_rules | `(tactic| eq_refl) => `(tactic| ((with_reducible apply W_abc); refine ⟨by walk_at "sd", ?_⟩; intro _ _ _))
local macro_rules | `(tactic| eq_refl) => `(tactic| ((with_reducible apply W_lenS); walk_at "wd"))
local macro_rules | `(tactic| eq_refl) => `(tactic| ((with_reducible apply W_lenS); walk_at "wd"; refine ⟨by walk_at "sd", ?_⟩; intros))
local macro_rules | `(tactic| eq_refl) => `(tactic| ((with_reducible apply W_mulS); walk_at "wd"))
local macro_rules | `(tactic| eq_refl) => `(tactic| ((with_reducible apply W_mulS); walk_at "wd"; refine ⟨by walk_at "sd", ?_⟩; intros))
local macro_rules | `(tactic| eq_refl) => `(tactic| ((with_reducible apply W_addS); walk_at "wd"; walk_at "wd"))
local macro_rules | `(tactic| eq_refl) => `(tactic| ((with_reducible apply W_addS); walk_at "wd"; walk_at "wd"; refine ⟨by walk_at "sd", ?_⟩; intros))
local macro_rules | `(tactic| eq_refl) => `(tactic| ((with_reducible apply W_abs)))
local macro_rules | `(tactic| eq_refl) => `(tactic| ((with_reducible apply W_min2)))
local macro_rules | `(tactic| eq_refl) => `(tactic| ((with_reducible apply W_max2)))
local macro_rules | `(tactic| eq_refl) => `(tactic| ((with_reducible apply W_neg)))
local macro_rules | `(tactic| eq_refl) => `(tactic| ((with_reducible apply W_and)))
local macro_rules | `(tactic| eq_refl) => `(tactic| ((with_reducible apply W_and1)))
local macro_rules | `(tactic| eq_refl) => `(tactic| ((with_reducible apply W_pow); walk_at "eq"))
local macro_rules | `(tactic| eq_refl) => `(tactic| ((with_reducible apply W_divI)))
local macro_rules | `(tactic| eq_refl) => `(tactic| ((with_reducible apply W_divI); refine ⟨by walk_at "sd", ?_⟩))
local macro_rules | `(tactic| eq_refl) => `(tactic| ((with_reducible apply W_mulI)))
local macro_rules | `(tactic| eq_refl) => `(tactic| ((with_reducible apply W_mulI); refine ⟨by walk_at "sd", ?_⟩))
local macro_rules | `(tactic| eq_refl) => `(tactic| ((with_reducible apply W_mulBI)))
local macro_rules | `(tactic| eq_refl) => `(tactic| ((with_reducible apply W_mulI); refine ⟨by walk_at "sd", ?_⟩))
local macro_rules | `(tactic| eq_refl) => `(tactic| ((with_reducible apply W_mulT)))
local macro_rules | `(tactic| eq_refl) => `(tactic| ((with_reducible apply W_mulT); refine ⟨by walk_at "sd", ?_⟩))
local macro_rules | `(tactic| eq_refl) => `(tactic| ((with_reducible apply W_modI)))
local macro_rules | `(tactic| eq_refl) => `(tactic| ((with_reducible apply W_modI); refine ⟨by walk_at "sd", ?_⟩; intros))
local macro_rules | `(tactic| eq_refl) => `(tactic| ((with_reducible apply W_notN)))
local macro_rules | `(tactic| eq_refl) => `(tactic| ((with_reducible apply W_isN)))
local macro_rules | `(tactic| eq_refl) => `(tactic| ((with_reducible apply W_notN_i)))
local macro_rules | `(tactic| eq_refl) => `(tactic| ((with_reducible apply W_notN_s)))
local macro_rules | `(tactic| eq_refl) => `(tactic| ((with_reducible apply W_notN_n)))
local macro_rules | `(tactic| eq_refl) => `(tactic| ((with_reducible apply W_isN_i)))
local macro_rules | `(tactic| eq_refl) => `(tactic| ((with_reducible apply W_isN_s)))
local macro_rules | `(tactic| eq_refl) => `(tactic| ((with_reducible apply W_isN_n)))
local macro_rules | `(tactic| eq_refl) => `(tactic| ((with_reducible apply W_intB)))
local macro_rules | `(tactic| eq_refl) => `(tactic| ((with_reducible apply W_int)))
local macro_rules | `(tactic| eq_refl) => `(tactic| ((with_reducible apply W_neB)))
local macro_rules | `(tactic| eq_refl) => `(tactic| ((with_reducible apply W_eqB)))
local macro_rules | `(tactic| eq_refl) => `(tactic| ((with_reducible apply W_neI)))
local macro_rules | `(tactic| eq_refl) => `(tactic| ((with_reducible apply W_eqI)))
local macro_rules | `(tactic| eq_refl) => `(tactic| ((with_reducible apply W_ge)))
local macro_rules | `(tactic| eq_refl) => `(tactic| ((with_reducible apply W_gt)))
local macro_rules | `(tactic| eq_refl) => `(tactic| ((with_reducible apply W_le)))
local macro_rules | `(tactic| eq_refl) => `(tactic| ((with_reducible apply W_lt)))
local macro_rules | `(tactic| eq_refl) => `(tactic| ((with_reducible apply W_divIl); rfl))
local macro_rules | `(tactic| eq_refl) => `(tactic| ((with_reducible apply W_modIl); rfl))
local macro_rules | `(tactic| eq_refl) => `(tactic| ((with_reducible apply W_mulIr); rfl))
local macro_rules | `(tactic| eq_refl) => `(tactic| ((with_reducible apply W_subI)))
local macro_rules | `(tactic| eq_refl) => `(tactic| ((with_reducible apply W_addI)))
local macro_rules | `(tactic| ext) => `(tactic| ((with_reducible apply W_cYes)))
local macro_rules | `(tactic| ext) => `(tactic| ((with_reducible apply W_cOr)))
local macro_rules | `(tactic| ext) => `(tactic| ((with_reducible apply W_cAnd)))
local macro_rules | `(tactic| ext) => `(tactic| ((with_reducible apply W_cNot)))
local macro_rules | `(tactic| ext) => `(tactic| ((with_reducible apply W_cB)))
local macro_rules | `(tactic| ext) => `(tactic| ((with_reducible apply W_store)))
local macro_rules | `(tactic| ext) => `(tactic| ((with_reducible apply W_for)))
local macro_rules | `(tactic| ext) => `(tactic| ((with_reducible apply W_asg)))
local macro_rules | `(tactic| ext) => `(tactic| ((with_reducible apply W_fl)))
local macro_rules | `(tactic| ext) => `(tactic| ((with_reducible apply W_nx)))
local macro_rules | `(tactic| ext) => `(tactic| ((with_reducible apply W_retP); walk_at "gr"; walk_at "sr"))
local macro_rules | `(tactic| ext) => `(tactic| ((with_reducible apply W_ret)))
local macro_rules | `(tactic| ext) => `(tactic| ((with_reducible apply W_if)))
local macro_rules | `(tactic| ext) => `(tactic| ((with_reducible apply W_drop)))
local macro_rules | `(tactic| ext) => `(tactic| ((with_reducible apply W_set)))
local macro_rules | `(tactic| ext) => `(tactic| ((with_reducible apply W_seq)))
local macro_rules | `(tactic| ac_rfl) => `(tactic| ((with_reducible apply W_oSo)))
local macro_rules | `(tactic| ac_rfl) => `(tactic| ((with_reducible apply W_oNo)))
local macro_rules | `(tactic| ac_rfl) => `(tactic| ((with_reducible apply W_iZip)))
local macro_rules | `(tactic| ac_rfl) => `(tactic| ((with_reducible apply W_iRevD)))
local macro_rules | `(tactic| ac_rfl) => `(tactic| ((with_reducible apply W_iEnum)))
local macro_rules | `(tactic| ac_rfl) => `(tactic| ((with_reducible apply W_iR2)))
local macro_rules | `(tactic| ac_rfl) => `(tactic| ((with_reducible apply W_iR1)))
local macro_rules | `(tactic| ac_rfl) => `(tactic| ((with_reducible apply W_iItem)))
local macro_rules | `(tactic| ac_rfl) => `(tactic| ((with_reducible apply W_aNil)))
local macro_rules | `(tactic| ac_rfl) => `(tactic| ((with_reducible apply W_aV)))
local macro_rules | `(tactic| ac_rfl) => `(tactic| ((with_reducible apply W_aP); walk_at "gr"))
local macro_rules | `(tactic| ac_rfl) => `(tactic| ((first | with_reducible apply gSt | with_reducible apply gTs); ext))
local macro_rules | `(tactic| ac_rfl) => `(tactic| ((with_reducible apply gOp); eq_refl))
local macro_rules | `(tactic| ac_rfl) => `(tactic| ((with_reducible apply gEx); apply_rfl))
local macro_rules | `(tactic| infer_instance) => `(tactic| ((with_reducible apply kThn_revAt)))
local macro_rules | `(tactic| infer_instance) => `(tactic| ((with_reducible apply kD1_i); rfl))
local macro_rules | `(tactic| infer_instance) => `(tactic| ((with_reducible apply kFin_nx); walk_at "or"))
local macro_rules | `(tactic| infer_instance) => `(tactic| ((with_reducible apply kFin_ret); walk_at "or"))
local macro_rules | `(tactic| infer_instance) => `(tactic| ((with_reducible apply kRg_t)))
local macro_rules | `(tactic| infer_instance) => `(tactic| ((with_reducible apply kRg_t); refine ⟨by walk_at "sd", ?_⟩))
local macro_rules | `(tactic| infer_instance) => `(tactic| ((with_reducible apply kRg_l)))
local macro_rules | `(tactic| infer_instance) => `(tactic| ((with_reducible apply kRg_l); refine ⟨by walk_at "sd", ?_⟩))
local macro_rules | `(tactic| infer_instance) => `(tactic| ((with_reducible apply kSS_m); walk_at "sq"; rfl))
local macro_rules | `(tactic| infer_instance) => `(tactic| ((with_reducible apply kSS_m); walk_at "sq"; rfl; refine ⟨by walk_at "sd", ?_⟩; intros))
local macro_rules | `(tactic| infer_instance) => `(tactic| ((with_reducible apply kWh_b); walk_at "bd"; all_goals intro _))
local macro_rules | `(tactic| infer_instance) => `(tactic| ((with_reducible apply kWh_f)))
local macro_rules | `(tactic| infer_instance) => `(tactic| ((with_reducible apply kWh_t)))
local macro_rules | `(tactic| infer_instance) => `(tactic| ((with_reducible apply kSE_i); walk_at "wr"))
local macro_rules | `(tactic| infer_instance) => `(tactic| ((with_reducible apply kST_i)))
local macro_rules | `(tactic| infer_instance) => `(tactic| ((with_reducible apply kSB_i)))
local macro_rules | `(tactic| infer_instance) => `(tactic| ((with_reducible apply kXT_f); walk_at "wr"))
local macro_rules | `(tactic| infer_instance) => `(tactic| ((with_reducible apply kXT_t); walk_at "wr"))
local macro_rules | `(tactic| infer_instance) => `(tactic| ((with_reducible apply kXT_b); walk_at "bd"; walk_at "wr"; intro _))
local macro_rules | `(tactic| infer_instance) => `(tactic| ((with_reducible apply kXE_o); walk_at "wr"; walk_at "xe"))
local macro_rules | `(tactic| infer_instance) => `(tactic| ((with_reducible apply kXE_i); walk_at "wr"; walk_at "xe"))
local macro_rules | `(tactic| infer_instance) => `(tactic| ((with_reducible apply kXB_i)))
local macro_rules | `(tactic| infer_instance) => `(tactic| ((with_reducible apply kWp_i); walk_at "wr"))
local macro_rules | `(tactic| infer_instance) => `(tactic| ((with_reducible apply kLcB_i)))
local macro_rules | `(tactic| infer_instance) => `(tactic| ((with_reducible apply kLcT_b); walk_at "bd"; walk_at "wr"; all_goals intro _))
local macro_rules | `(tactic| infer_instance) => `(tactic| ((with_reducible apply kLcT_f); walk_at "wr"))
local macro_rules | `(tactic| infer_instance) => `(tactic| ((with_reducible apply kLcT_t)))
local macro_rules | `(tactic| infer_instance) => `(tactic| ((with_reducible apply kLcE_o); walk_at "wr"))
local macro_rules | `(tactic| infer_instance) => `(tactic| ((with_reducible apply kLcE_i); walk_at "wr"))
local macro_rules | `(tactic| infer_instance) => `(tactic| ((with_reducible apply kBk_i); walk_at "sr"))
local macro_rules | `(tactic| infer_instance) => `(tactic| ((with_reducible apply kCd2_b); walk_at "eq"; walk_at "bd"; all_goals intro _))
local macro_rules | `(tactic| infer_instance) => `(tactic| ((with_reducible apply kCd1_i)))
local macro_rules | `(tactic| infer_instance) => `(tactic| ((with_reducible apply kCh3_i); walk_at "eq"))
local macro_rules | `(tactic| infer_instance) => `(tactic| ((with_reducible apply kCh2_b); walk_at "eq"; walk_at "bd"; all_goals intro _))
local macro_rules | `(tactic| infer_instance) => `(tactic| ((with_reducible apply kCh1_i)))
local macro_rules | `(tactic| infer_instance) => `(tactic| ((with_reducible apply kSlP3_i); walk_at "gr"))
local macro_rules | `(tactic| infer_instance) => `(tactic| ((with_reducible apply kSlP2_i)))
local macro_rules | `(tactic| infer_instance) => `(tactic| ((with_reducible apply kSl3_s); walk_at "wd"; omega; intro _))
local macro_rules | `(tactic| infer_instance) => `(tactic| ((with_reducible apply kSl3_t)))
local macro_rules | `(tactic| infer_instance) => `(tactic| ((with_reducible apply kSl3_tM)))
local macro_rules | `(tactic| infer_instance) => `(tactic| ((with_reducible apply kSl3_l); walk_at "sq"))
local macro_rules | `(tactic| infer_instance) => `(tactic| ((with_reducible apply kSl3_lM); walk_at "sq"; rfl))
local macro_rules | `(tactic| infer_instance) => `(tactic| ((with_reducible apply kSo_i)))
local macro_rules | `(tactic| infer_instance) => `(tactic| ((with_reducible apply kSl2_i)))
local macro_rules | `(tactic| infer_instance) => `(tactic| ((with_reducible apply kSl1_i)))
local macro_rules | `(tactic| infer_instance) => `(tactic| ((with_reducible apply kThn_revT); walk_at "sq"))
local macro_rules | `(tactic| infer_instance) => `(tactic| ((with_reducible apply kThn_rev); walk_at "sq"))
local macro_rules | `(tactic| infer_instance) => `(tactic| ((with_reducible apply kThn_revM); walk_at "sq"; rfl))
local macro_rules | `(tactic| infer_instance) => `(tactic| ((with_reducible apply kRV_i); rfl))
local macro_rules | `(tactic| infer_instance) => `(tactic| ((with_reducible apply kZ_o)))
local macro_rules | `(tactic| infer_instance) => `(tactic| ((with_reducible apply kZ_i)))
local macro_rules | `(tactic| infer_instance) => `(tactic| ((with_reducible apply kSt2_p); walk_at "gr"; walk_at "sr"))
local macro_rules | `(tactic| infer_instance) => `(tactic| ((with_reducible apply kSt2_p); walk_at "gr"; walk_at "sr"; refine ⟨by walk_at "sd", ?_⟩))
local macro_rules | `(tactic| infer_instance) => `(tactic| ((with_reducible apply kSt2_M); walk_at "gr"; walk_at "sr"))
local macro_rules | `(tactic| infer_instance) => `(tactic| ((with_reducible apply kSt2_M); walk_at "gr"; walk_at "sr"; refine ⟨by walk_at "sd", ?_⟩))
local macro_rules | `(tactic| infer_instance) => `(tactic| ((with_reducible apply kSt2_N); walk_at "gr"; walk_at "sr"))
local macro_rules | `(tactic| infer_instance) => `(tactic| ((with_reducible apply kSt2_N); walk_at "gr"; walk_at "sr"; refine ⟨by walk_at "sd", ?_⟩))
local macro_rules | `(tactic| infer_instance) => `(tactic| ((with_reducible apply kSt2_Z); walk_at "gr"; walk_at "sr"))
local macro_rules | `(tactic| infer_instance) => `(tactic| ((with_reducible apply kSt2_Z); walk_at "gr"; walk_at "sr"; refine ⟨by walk_at "sd", ?_⟩))
local macro_rules | `(tactic| infer_instance) => `(tactic| ((with_reducible apply kSt2_L4); walk_at "gr"; walk_at "sr"))
local macro_rules | `(tactic| infer_instance) => `(tactic| ((with_reducible apply kSt2_L3); walk_at "gr"; walk_at "sr"))
local macro_rules | `(tactic| infer_instance) => `(tactic| ((with_reducible apply kSt2_L2); walk_at "gr"; walk_at "sr"))
local macro_rules | `(tactic| infer_instance) => `(tactic| ((with_reducible apply kSt2_L1); walk_at "gr"; walk_at "sr"))
local macro_rules | `(tactic| infer_instance) => `(tactic| ((with_reducible apply kSt2_L0); walk_at "gr"; walk_at "sr"))
local macro_rules | `(tactic| infer_instance) => `(tactic| ((with_reducible apply kSt1_o); walk_at "gr"))
local macro_rules | `(tactic| infer_instance) => `(tactic| ((with_reducible apply kSt1_i); walk_at "gr"))
local macro_rules | `(tactic| infer_instance) => `(tactic| ((with_reducible apply kZ2_oo)))
local macro_rules | `(tactic| infer_instance) => `(tactic| ((with_reducible apply kZ2_ol)))
local macro_rules | `(tactic| infer_instance) => `(tactic| ((with_reducible apply kZ2_lo)))
local macro_rules | `(tactic| infer_instance) => `(tactic| ((with_reducible apply kZ2_tt)))
local macro_rules | `(tactic| infer_instance) => `(tactic| ((with_reducible apply kZ2_ll)))
local macro_rules | `(tactic| infer_instance) => `(tactic| ((with_reducible apply kZ1_i)))
local macro_rules | `(tactic| infer_instance) => `(tactic| ((with_reducible apply kRvI_o)))
local macro_rules | `(tactic| infer_instance) => `(tactic| ((with_reducible apply kRvI_t)))
local macro_rules | `(tactic| infer_instance) => `(tactic| ((with_reducible apply kRvI_l)))
local macro_rules | `(tactic| infer_instance) => `(tactic| ((with_reducible apply kEn_o)))
local macro_rules | `(tactic| infer_instance) => `(tactic| ((with_reducible apply kEn_k)))
local macro_rules | `(tactic| infer_instance) => `(tactic| ((with_reducible apply kEn_t)))
local macro_rules | `(tactic| infer_instance) => `(tactic| ((with_reducible apply kEn_l)))
local macro_rules | `(tactic| infer_instance) => `(tactic| ((with_reducible apply kR2b_i)))
local macro_rules | `(tactic| infer_instance) => `(tactic| ((with_reducible apply kR2b_i); refine ⟨by walk_at "sd", ?_⟩))
local macro_rules | `(tactic| infer_instance) => `(tactic| ((with_reducible apply kR2_i)))
local macro_rules | `(tactic| infer_instance) => `(tactic| ((with_reducible apply kR1_i)))
local macro_rules | `(tactic| infer_instance) => `(tactic| ((with_reducible apply kR1_i); refine ⟨by walk_at "sd", ?_⟩))
local macro_rules | `(tactic| infer_instance) => `(tactic| ((with_reducible apply kR1_n)))
local macro_rules | `(tactic| infer_instance) => `(tactic| ((with_reducible apply kR1_n); refine ⟨by walk_at "sd", ?_⟩))
local macro_rules | `(tactic| infer_instance) => `(tactic| ((with_reducible apply kIt_s)))
local macro_rules | `(tactic| infer_instance) => `(tactic| ((with_reducible apply kIt_o)))
local macro_rules | `(tactic| infer_instance) => `(tactic| ((with_reducible apply kIt_k)))
local macro_rules | `(tactic| infer_instance) => `(tactic| ((with_reducible apply kIt_t)))
local macro_rules | `(tactic| infer_instance) => `(tactic| ((with_reducible apply kIt_l)))
local macro_rules | `(tactic| infer_instance) => `(tactic| ((with_reducible apply kFor_i)))
local macro_rules | `(tactic| infer_instance) => `(tactic| ((with_reducible apply kNx_i)))
local macro_rules | `(tactic| infer_instance) => `(tactic| ((with_reducible apply WB_lst); rfl))
local macro_rules | `(tactic| infer_instance) => `(tactic| ((with_reducible apply WB_tup); rfl))
local macro_rules | `(tactic| infer_instance) => `(tactic| ((with_reducible apply WB_nil)))
local macro_rules | `(tactic| infer_instance) => `(tactic| ((with_reducible apply kBs_i)))
local macro_rules | `(tactic| infer_instance) => `(tactic| ((with_reducible apply WB_cons)))
local macro_rules | `(tactic| infer_instance) => `(tactic| ((with_reducible apply WB_name); walk_at "sr"))
local macro_rules | `(tactic| infer_instance) => `(tactic| ((with_reducible apply kAsg_o)))
local macro_rules | `(tactic| infer_instance) => `(tactic| ((with_reducible apply kAsg_i)))
local macro_rules | `(tactic| infer_instance) => `(tactic| ((with_reducible apply kBd_i)))
local macro_rules | `(tactic| infer_instance) => `(tactic| ((with_reducible apply kLp_ret)))
local macro_rules | `(tactic| infer_instance) => `(tactic| ((with_reducible apply kLp_brk)))
local macro_rules | `(tactic| infer_instance) => `(tactic| ((with_reducible apply kLp_cont)))
local macro_rules | `(tactic| infer_instance) => `(tactic| ((with_reducible apply kLp_nx)))
local macro_rules | `(tactic| infer_instance) => `(tactic| ((with_reducible apply kSeq_cont)))
local macro_rules | `(tactic| infer_instance) => `(tactic| ((with_reducible apply kSeq_brk)))
local macro_rules | `(tactic| infer_instance) => `(tactic| ((with_reducible apply kSeq_ret)))
local macro_rules | `(tactic| infer_instance) => `(tactic| ((with_reducible apply kRet_i)))
local macro_rules | `(tactic| infer_instance) => `(tactic| ((with_reducible apply kEIf_b); walk_at "bd"; all_goals intro _))
local macro_rules | `(tactic| infer_instance) => `(tactic| ((with_reducible apply kEIf_f)))
local macro_rules | `(tactic| infer_instance) => `(tactic| ((with_reducible apply kEIf_t)))
local macro_rules | `(tactic| infer_instance) => `(tactic| ((with_reducible apply kEOr_b); walk_at "bd"; all_goals intro _))
local macro_rules | `(tactic| infer_instance) => `(tactic| ((with_reducible apply kEOr_f)))
local macro_rules | `(tactic| infer_instance) => `(tactic| ((with_reducible apply kEOr_t)))
local macro_rules | `(tactic| infer_instance) => `(tactic| ((with_reducible apply kEAnd_b); walk_at "bd"; all_goals intro _))
local macro_rules | `(tactic| infer_instance) => `(tactic| ((with_reducible apply kEAnd_f)))
local macro_rules | `(tactic| infer_instance) => `(tactic| ((with_reducible apply kEAnd_t)))
local macro_rules | `(tactic| infer_instance) => `(tactic| ((with_reducible apply kENot_i)))
local macro_rules | `(tactic| infer_instance) => `(tactic| ((with_reducible apply kOr_b); walk_at "bd"; all_goals intro _))
local macro_rules | `(tactic| infer_instance) => `(tactic| ((with_reducible apply kOr_f)))
local macro_rules | `(tactic| infer_instance) => `(tactic| ((with_reducible apply kOr_t)))
local macro_rules | `(tactic| infer_instance) => `(tactic| ((with_reducible apply kAnd_b); walk_at "bd"; all_goals intro _))
local macro_rules | `(tactic| infer_instance) => `(tactic| ((with_reducible apply kAnd_f)))
local macro_rules | `(tactic| infer_instance) => `(tactic| ((with_reducible apply kAnd_t)))
local macro_rules | `(tactic| infer_instance) => `(tactic| ((with_reducible apply kIf_b); walk_at "bd"; all_goals intro _))
local macro_rules | `(tactic| infer_instance) => `(tactic| ((with_reducible apply kIf_n)))
local macro_rules | `(tactic| infer_instance) => `(tactic| ((with_reducible apply kIf_f)))
local macro_rules | `(tactic| infer_instance) => `(tactic| ((with_reducible apply kIf_t)))
local macro_rules | `(tactic| infer_instance) => `(tactic| ((with_reducible apply kNot_i)))
local macro_rules | `(tactic| infer_instance) => `(tactic| ((with_reducible apply kNot_f)))
local macro_rules | `(tactic| infer_instance) => `(tactic| ((with_reducible apply kNot_t)))
local macro_rules | `(tactic| infer_instance) => `(tactic| ((with_reducible apply kcB_i)))
local macro_rules | `(tactic| infer_instance) => `(tactic| ((with_reducible apply kDrop_i)))
local macro_rules | `(tactic| infer_instance) => `(tactic| ((with_reducible apply kOb_0)))
local macro_rules | `(tactic| infer_instance) => `(tactic| ((with_reducible apply kOb_n)))
local macro_rules | `(tactic| infer_instance) => `(tactic| ((with_reducible apply kOb_s); walk_at "sr"))
local macro_rules | `(tactic| infer_instance) => `(tactic| ((with_reducible apply kOb_all); rfl))
local macro_rules | `(tactic| infer_instance) => `(tactic| ((with_reducible apply kO_i)))
local macro_rules | `(tactic| infer_instance) => `(tactic| ((with_reducible apply kP_i); walk_at "gr"; walk_at "sr"))
local macro_rules | `(tactic| infer_instance) => `(tactic| ((with_reducible apply kA2_i)))
local macro_rules | `(tactic| infer_instance) => `(tactic| ((with_reducible apply kA1_i)))
local macro_rules | `(tactic| infer_instance) => `(tactic| ((with_reducible apply kSet_i); walk_at "sr"))
local macro_rules | `(tactic| infer_instance) => `(tactic| ((with_reducible apply kSeq_nx)))
local macro_rules | `(tactic| infer_instance) => `(tactic| ((with_reducible apply kOb_1)))
local macro_rules | `(tactic| infer_instance) => `(tactic| ((with_reducible apply kO2_i)))
local macro_rules | `(tactic| infer_instance) => `(tactic| ((with_reducible apply kO1_i)))
local macro_rules | `(tactic| infer_instance) => `(tactic| ((with_reducible apply kOb_2)))
local macro_rules | `(tactic| infer_instance) => `(tactic| ((with_reducible apply kO2b_i)))
local macro_rules | `(tactic| infer_instance) => `(tactic| ((with_reducible apply gW0); ac_rfl))
local macro_rules | `(tactic| walk_at "w1") => `(tactic| first | infer_instance | fail)
local macro_rules | `(tactic| walk_at "wp") => `(tactic| repeat' (first | infer_instance | fail))
/-! the draws off a cell's digits -/
def SQ (l : L) : Prop := ∃ a b : Int, l = xO [.int a, .int b] ∧ 0 ≤ a ∧ 0 ≤ b ∧ b < 4294967296
theorem stream_ok {ns : List Int} {k : Nat} (hk : k < 20) (hl : ns.length ≤ 63) : W (F_3 [.fz (.scr ns), xI (k : Nat)]) (fun v ls => ls = [.fz (.scr ns), xI (k : Nat)] ∧ SQ v) nE := by
  refine en_3 ?_
  unfold b_3
  have hq : (0 : Int) ≤ (k : Int) * (k : Int) ∧ (k : Int) * (k : Int) ≤ 400 := by
    have a : k * k ≤ 20 * 20 := Nat.mul_le_mul (by omega) (by omega)
    constructor
    · exact Int.mul_nonneg (by omega) (by omega)
    · rw [← Int.natCast_mul]; omega
  walk_at "wp"
  · rename_i x _
    refine ⟨rfl, _, _, rfl, ?_, by omega, by omega⟩
    refine Int.mul_nonneg (by split <;> omega) (by split <;> omega)
  · exact ⟨rfl, _, _, rfl, by omega, by omega, by omega⟩
theorem take_ok {l : L} {m : Int} (h : SQ l) (hm : 0 < m) (hM : m < 1000000) : W (F_4 [l, xI m]) (fun v ls => ∃ (n : Int) (l' : L), v = xI n ∧ ls = [l', xI m] ∧ 0 ≤ n ∧ n < m ∧ SQ l') nE := by
  obtain ⟨a, b, rfl, ha, hb, hb2⟩ := h
  refine en_4 ?_
  unfold b_4
  walk_at "wp"
  · exact ⟨_, _, rfl, rfl, Int.emod_nonneg _ (by omega), Int.emod_lt_of_pos _ hm, _, _, rfl, Int.ediv_nonneg ha (by omega), hb, hb2⟩
  · exact ⟨_, _, rfl, rfl, Int.emod_nonneg _ (by omega), Int.emod_lt_of_pos _ hm, _, _, rfl, ha, by omega, by omega⟩
theorem take_k {l : L} {m : Int} {Q : L → List L → Prop} {E : Exn → List L → Prop} (h : SQ l) (hm : 0 < m ∧ m < 1000000) (k : ∀ n l', 0 ≤ n → n < m → SQ l' → Q (xI n) [l', xI m]) : W (F_4 [l, xI m]) Q E :=
  (take_ok h hm.1 hm.2).call fun a b ⟨n, l', e1, e2, h0, h1, g⟩ => by subst e1; subst e2; exact k n l' h0 h1 g
local macro_rules | `(tactic| walk_at "tk") => `(tactic| (with_reducible refine take_k (by assumption) (by omega) ?_; intro _ _ _ _ _))
local macro_rules | `(tactic| walk_at "wt") => `(tactic| repeat' (first | infer_instance | walk_at "tk"))
theorem letters_ok {l : L} {m : Int} (h : SQ l) (h0 : 0 ≤ m) (h1 : m ≤ 100) : W (F_5 [l, xI m]) (fun v ls => ∃ (z : Str) (l' : L), v = xS z ∧ ls = [l', xI m] ∧ Wd m.toNat z ∧ SQ l') nE := by
  refine en_5 ?_
  unfold b_5
  walk_at "wt"
  refine kLc_R (fun k acc r => ∃ (l : L) (zs : List Str), r = [some l, some (xI m), none] ∧ acc = zs.map D.str ∧ zs.length = k ∧ SQ l ∧ ∀ z, z ∈ zs → Wd 1 z) (by omega) (by walk_at "wr") ⟨l, [], rfl, rfl, rfl, h, by simp⟩ ?_ ?_
  · rintro k acc r hk ⟨l, zs, rfl, rfl, hz, g, hw⟩
    unfold E_5_0
    walk_at "wt"
    rename_i l3 _ _ g3 z _ hz1
    exact ⟨l3, zs ++ [z], rfl, by simp, by simp [hz], g3, fun y m => by
      rcases List.mem_append.mp m with m | m
      · exact hw y m
      · simp at m; subst m; exact hz1⟩
  rintro es r ⟨l3, zs, rfl, rfl, hz, g3, hw⟩
  walk_at "wt"
  refine ⟨1, hw, by omega, fun hj => ?_⟩
  walk_at "wt"
  exact ⟨_, l3, rfl, rfl, hj.mono (by omega), g3⟩
/-! letters, and texts as lists of signs -/
abbrev tl (z : Str) : List Nat := z.cps.toList
theorem tl_app {x y : Str} : tl (x ++ y) = tl x ++ tl y := by
  show (x.cps ++ y.cps).toList = _
  rw [Array.toList_append]
theorem tl_inj {x y : Str} (h : tl x = tl y) : x = y := by
  cases x; cases y
  congr
  exact Array.toList_inj.mp h
theorem abc_at {i : Int} {z : Str} (h0 : 0 ≤ i) (h1 : i < 26) (e : oIx [.fz (.str "abcdefghijklmnopqrstuvwxyz"), .fz (.int i)] = .ok (.fz (.str z), [.fz (.str "abcdefghijklmnopqrstuvwxyz"), .fz (.int i)])) : z = ⟨#[97 + i.toNat]⟩ := by
  have hl : i.toNat < ("abcdefghijklmnopqrstuvwxyz" : Str).cps.toList.length := by
    have : ("abcdefghijklmnopqrstuvwxyz" : Str).cps.toList.length = 26 := by decide +kernel
    omega
  have := oIx_str (x := "abcdefghijklmnopqrstuvwxyz") (k := ("abcdefghijklmnopqrstuvwxyz" : Str).cps.toList[i.toNat]) (i := i) (by rw [sizeLine_eq]; decide +kernel) (List.getElem?_eq_getElem hl) h0
  rw [this] at e
  injection e with e
  injection e with e _
  injection e with e
  injection e with e
  have ea : ("abcdefghijklmnopqrstuvwxyz" : Str).cps.toList = (List.range 26).map fun j => 97 + j := by decide +kernel
  rw [← e]
  congr
  simp [ea]
theorem nodup_tl {zs : List Str} {g : Nat → List Nat} {m : Nat} (e : zs.map tl = (List.range m).map g) (h : ∀ i j, i < j → j < m → g i ≠ g j) : zs.Nodup := by
  have nd : ((List.range m).map g).Nodup := by
    rw [List.nodup_iff_pairwise_ne, List.pairwise_map, List.pairwise_iff_getElem]
    intro i j hi hj hij
    simp only [List.length_range] at hi hj
    simpa using h i j hij hj
  rw [← e] at nd
  exact List.Pairwise.of_map tl (fun a b hn q => hn (congrArg tl q)) nd
/-! names, readings -/
theorem names_ok {l : L} {m : Int} (h : SQ l) (h0 : 0 ≤ m) (h1 : m ≤ 26) : W (F_6 [l, xI m]) (fun v ls => ∃ (zs : List Str) (l' : L), v = xO (zs.map D.str) ∧ ls = [l', xI m] ∧ zs.length = m.toNat ∧ (∀ z ∈ zs, Wd 15 z) ∧ zs.Nodup ∧ SQ l') nE := by
  refine en_6 ?_
  unfold b_6
  walk_at "wt"
  rename_i n l1 n0 n1 g1
  refine (letters_ok g1 n0 (by omega)).call ?_
  rintro _ _ ⟨z, l2, rfl, rfl, hz, g2⟩
  have hle := hz.le
  walk_at "wt"
  rename_i i l3 i0 i1 g3 c l4 c0 c1 g4 q l5 q0 q1 g5
  obtain ⟨_, A, y, rfl, hy⟩ := pickD (ds := [D.int 1, D.int 3, D.int 5, D.int 7, D.int 9, D.int 11, D.int 15, D.int 17]) (P := fun d => ∃ y : Int, d = .int y ∧ (y = 1 ∨ y = 3 ∨ y = 5 ∨ y = 7 ∨ y = 9 ∨ y = 11 ∨ y = 15 ∨ y = 17)) q0 (by simpa using q1) (fun d hd => by
    simp only [List.mem_cons, List.not_mem_nil, or_false] at hd
    rcases hd with rfl | rfl | rfl | rfl | rfl | rfl | rfl | rfl <;> exact ⟨_, rfl, by omega⟩)
  refine ⟨_, A, ?_⟩
  walk_at "wt"
  refine kLc_R (fun k acc r => ∃ (zs : List Str), r = [some l5, some (xI m), some (xS z), some (xI i), some (xI c), some (xI y), some (xS "abcdefghijklmnopqrstuvwxyz"), none] ∧ acc = zs.map D.str ∧ zs.length = k ∧ (∀ z, z ∈ zs → Wd 15 z) ∧ zs.map tl = (List.range k).map fun j : Nat => tl (cutS z none (some i)) ++ [97 + ((c + y * (j : Int)) % 26).toNat] ++ tl (cutS z (some i) none)) (by omega) (by walk_at "wr") ⟨[], rfl, rfl, rfl, by simp, rfl⟩ ?_ ?_
  · rintro k acc r hk ⟨zs, rfl, rfl, hl, hw, hg⟩
    unfold E_6_0
    walk_at "wt"
    rename_i e ey _ _ _ hy2
    have ey := abc_at (by omega) (by omega) ey
    refine ⟨zs ++ [_], rfl, by rw [List.map_append]; rfl, by simp [hl], fun z m => ?_, ?_⟩
    · rcases List.mem_append.mp m with m | m
      · exact hw z m
      · simp only [List.mem_singleton] at m; subst m; exact hy2.mono (by omega)
    · rw [List.map_append, hg, List.range_succ, List.map_append]
      congr 1
      simp only [List.map_cons, List.map_nil, tl_app]
      rw [ey]
  rintro es r ⟨zs, rfl, rfl, hl, hw, hg⟩
  walk_at "wt"
  refine ⟨zs, l5, rfl, rfl, hl, hw, nodup_tl hg fun a b hab hb e => ?_, g5⟩
  simp only [List.append_assoc] at e
  have := List.append_cancel_left e
  simp only [List.cons_append, List.nil_append, List.cons.injEq] at this
  have t := this.1
  have hb : b < 26 := by omega
  clear hg e this
  rcases hy with rfl | rfl | rfl | rfl | rfl | rfl | rfl | rfl <;> omega
/-! tables -/
abbrev Row := List (Option Str)
abbrev rwD (r : Row) : D := .tup (r.map oS)
abbrev bkD (p : Str × Row) : D := .tup [.str p.1, rwD p.2]
def Rok (w : Nat) (r : Row) : Prop := r.length = w ∧ ∀ o ∈ r, ∀ z, o = some z → Wd 16 z
structure Tbl (ts : List (Str × Row)) (w : Nat) : Prop where
  pos : 1 ≤ ts.length
  le : ts.length ≤ 24
  w1 : 1 ≤ w
  w2 : w ≤ 40
  row : ∀ p ∈ ts, Rok w p.2
  nms : ∀ p ∈ ts, Wd 16 p.1
  nd : (ts.map (·.1)).Nodup
theorem zipD_bk : ∀ {zs : List Str} {rs : List Row}, zipD (zs.map D.str) (rs.map rwD) = (zs.zip rs).map bkD
  | [], _ => by simp [zipD]
  | _ :: _, [] => by simp [zipD]
  | z :: zs, r :: rs => by simp [zipD, zipD_bk (zs := zs) (rs := rs)]
theorem table_ok {l : L} (h : SQ l) : W (F_7 [l]) (fun v ls => ∃ (ts : List (Str × Row)) (w : Nat) (l' : L), v = xO (ts.map bkD) ∧ ls = [l'] ∧ Tbl ts w ∧ SQ l') nE := by
  refine en_7 ?_
  unfold b_7
  walk_at "wt"
  rename_i u l1 u0 u1 g1 v l2 v0 v1 g2
  obtain ⟨_, A, m, rfl, m0, m1⟩ := pickD (ds := [D.int (1 + v), D.int 24]) (i := if decide (u = 1) = true then 1 else 0) (P := fun d => ∃ i : Int, d = .int i ∧ 1 ≤ i ∧ i ≤ 24) (by split <;> omega) (by simp only [List.length_cons, List.length_nil]; split <;> omega) (fun d hd => by
    simp only [List.mem_cons, List.not_mem_nil, or_false] at hd
    rcases hd with rfl | rfl <;> exact ⟨_, rfl, by omega, by omega⟩)
  refine ⟨_, A, ?_⟩
  walk_at "wt"
  rename_i x l3 x0 x1 g3
  obtain ⟨_, A2, wd, rfl, w0, w1⟩ := pickD (ds := [D.int (1 + x), D.int 40]) (i := if decide (u = 2) = true then 1 else 0) (P := fun d => ∃ i : Int, d = .int i ∧ 1 ≤ i ∧ i ≤ 40) (by split <;> omega) (by simp only [List.length_cons, List.length_nil]; split <;> omega) (fun d hd => by
    simp only [List.mem_cons, List.not_mem_nil, or_false] at hd
    rcases hd with rfl | rfl <;> exact ⟨_, rfl, by omega, by omega⟩)
  refine ⟨_, A2, ?_⟩
  walk_at "wt"
  refine (names_ok g3 (by omega) (by omega)).call ?_
  rintro _ _ ⟨zs, l4, rfl, rfl, hz, hw, nd, g4⟩
  walk_at "wt"
  rename_i y l5 y0 y1 g5
  refine (names_ok g5 (by omega) (by omega)).call ?_
  rintro _ _ ⟨qs, l6, rfl, rfl, hq, hqw, _, g6⟩
  walk_at "wt"
  obtain ⟨pool, ep, pl, hpw⟩ : ∃ pool : List (Option Str), List.map D.str qs ++ [D.str "", D.non] = pool.map oS ∧ pool.length = qs.length + 2 ∧ ∀ o ∈ pool, ∀ z, o = some z → Wd 16 z := by
    refine ⟨qs.map some ++ [some ("" : Str), none], by simp [oS], by simp, fun o ho z e => ?_⟩
    subst e
    rcases List.mem_append.mp ho with q | q
    · obtain ⟨z2, hz2, e⟩ := List.mem_map.mp q
      injection e with e
      subst e
      exact (hqw _ hz2).mono (by omega)
    · simp only [List.mem_cons, List.not_mem_nil, or_false] at q
      rcases q with q | q
      · cases q; exact wd_nil.mono (by omega)
      · exact nomatch q
  have epp : (L.fz (D.lst (List.map D.str qs ++ [D.str (Str.ofString ""), D.non]))) = xF (pool.map oS) := by rw [← ep]
  rw [epp]
  refine W_forR (fun k r => ∃ (l : L) (rs : List Row) (x7 x8 : Option L), r = [some l, some (xI u), some (xI m), some (xI wd), some (xF (zs.map D.str)), some (xF (pool.map oS)), some (xO (rs.map rwD)), x7, x8, none] ∧ rs.length = k ∧ (∀ r ∈ rs, Rok wd.toNat r) ∧ SQ l) ⟨_, [], _, _, rfl, rfl, by simp, g6⟩ ?_ ?_
  · rintro k r hk ⟨l, rs, x7, x8, rfl, hrl, hr, g⟩
    unfold L_7_1
    walk_at "wt"
    refine kLc_R (fun j acc r => ∃ (l : L) (os : List (Option Str)), r = [some l, some (xI u), some (xI m), some (xI wd), some (xF (zs.map D.str)), some (xF (pool.map oS)), some (xO (rs.map rwD)), some (xI (k : Nat)), x8, none] ∧ acc = os.map oS ∧ os.length = j ∧ (∀ o ∈ os, ∀ z, o = some z → Wd 16 z) ∧ SQ l) (by omega) (by first | walk_at "wr" | skip) ⟨l, [], rfl, rfl, rfl, by simp, g⟩ ?_ ?_
    · rintro j acc r hj ⟨l, os, rfl, rfl, hol, hos, g⟩
      unfold E_7_0
      walk_at "wt"
      rename_i i lx i0 i1 gx o eo
      refine ⟨_, os ++ [o], rfl, by simp, by simp [hol], fun o' ho z e => ?_, gx⟩
      rcases List.mem_append.mp ho with q | q
      · exact hos o' q z e
      · simp only [List.mem_singleton] at q
        subst q
        exact hpw o' (List.mem_of_getElem? eo) z e
    rintro acc r ⟨l, os, rfl, rfl, hol, hos, g⟩
    have fin : ∀ {r' : Row} {l' : L} {x8 : Option L}, Rok wd.toNat r' → SQ l' → ∃ (l_1 : L) (rs_1 : List Row) (x7 y8 : Option L), [some l', some (xI u), some (xI m), some (xI wd), some (xF (zs.map D.str)), some (xF (pool.map oS)), some (xO ((rs ++ [r']).map rwD)), some (xI (k : Nat)), x8, none] = [some l_1, some (xI u), some (xI m), some (xI wd), some (xF (zs.map D.str)), some (xF (pool.map oS)), some (xO (rs_1.map rwD)), x7, y8, none] ∧ rs_1.length = k + 1 ∧ (∀ r ∈ rs_1, Rok wd.toNat r) ∧ SQ l_1 := fun h1 h2 => ⟨_, _, _, _, rfl, by simp [hrl], fun r q => by
      rcases List.mem_append.mp q with q | q
      · exact hr r q
      · simp only [List.mem_singleton] at q; subst q; exact h1, h2⟩
    walk_at "wt"
    · rename_i r' er
      exact fin (hr r' (List.mem_of_getElem? er)) (by assumption)
    · exact fin ⟨hol, hos⟩ (by assumption)
    · exact fin ⟨hol, hos⟩ (by assumption)
  rintro r ⟨l, rs, x7, x8, rfl, hrl, hr, g⟩
  walk_at "wt"
  refine W_eLZ ?_
  walk_at "wt"
  refine kLZ1_i ?_
  walk_at "wt"
  refine kLZ2_i (.inl rfl) (by first | exact .inl rfl | exact .inr rfl) ?_
  rw [zipD_bk]
  walk_at "wt"
  have lz : (zs.zip rs).length = m.toNat := by rw [List.length_zip, hz, hrl]; omega
  refine ⟨zs.zip rs, wd.toNat, l, rfl, rfl, ⟨by omega, by omega, by omega, by omega, fun p hp => hr _ (List.of_mem_zip hp).2, fun p hp => (hw _ (List.of_mem_zip hp).1).mono (by omega), ?_⟩, g⟩
  have e : (zs.zip rs).map (·.1) = zs := by
    show (zs.zip rs).map Prod.fst = zs
    rw [List.map_fst_zip (by omega)]
  rw [e]
  exact nd
local macro_rules | `(tactic| infer_instance) => `(tactic| (with_reducible apply W_exc))
local macro_rules | `(tactic| infer_instance) => `(tactic| (with_reducible apply W_eIsX))
local macro_rules | `(tactic| infer_instance) => `(tactic| ((with_reducible apply kIsX_i); rfl))
local macro_rules | `(tactic| walk_at "wx") => `(tactic| repeat' (first | infer_instance | fail))
/-! the looks -/
theorem nms_inj {ts : List (Str × Row)} (nd : (ts.map (·.1)).Nodup) {i j : Nat} {p q : Str × Row} (hi : ts[i]? = some p) (hj : ts[j]? = some q) (e : p.1 = q.1) : i = j := by
  have a : (ts.map (·.1))[i]? = some p.1 := by simp [hi]
  have b : (ts.map (·.1))[j]? = some p.1 := by simp [hj, e]
  have hl := (List.getElem?_eq_some_iff.mp a).1
  exact (List.getElem?_inj hl nd).mp (a.trans b.symm)
theorem row_at {ts : List (Str × Row)} {w k : Nat} {p : Str × Row} (h : Tbl ts w) (hk : ts[k]? = some p) : W (F_0 [xF (ts.map bkD), xS p.1]) (fun v ls => v = .fz (rwD p.2) ∧ ls = [xF (ts.map bkD), xS p.1]) nE := by
  have wz := h.nms p (List.mem_of_getElem? hk)
  refine en_0 ?_
  unfold b_0
  walk_at "wx"
  refine W_forM (fun j r => j ≤ k ∧ ∃ x2 x3, r = [some (xF (ts.map bkD)), some (xS p.1), x2, x3]) ⟨Nat.zero_le _, _, _, rfl⟩ ?_ ?_
  · rintro j r q hq ⟨hj, x2, x3, rfl⟩
    have wq := h.nms q (List.mem_of_getElem? hq)
    unfold L_0_0
    walk_at "wx"
    · rename_i e
      obtain rfl : j = k := nms_inj h.nd hq hk (by simpa using e)
      rw [hq] at hk
      cases hk
      exact ⟨rfl, rfl⟩
    · rename_i e
      refine ⟨?_, _, _, rfl⟩
      rcases Nat.lt_or_eq_of_le hj with u | u
      · exact u
      · subst u
        rw [hq] at hk
        cases hk
        exact absurd rfl e
  · rintro r ⟨hj, x2, x3, rfl⟩
    have := (List.getElem?_eq_some_iff.mp hk).1
    omega
theorem row_no {ts : List (Str × Row)} {w : Nat} {z : Str} (h : Tbl ts w) (wz : Wd 1100 z) (hz : ∀ p ∈ ts, p.1 ≠ z) : W (FX_0 [xF (ts.map bkD), xS z]) (fun v ls => False) (fun x ls => x = ⟨"NoBook", []⟩ ∧ ls = [xF (ts.map bkD), xS z]) := by
  refine enx_0 ?_
  unfold b_0
  walk_at "wx"
  refine W_forM (fun j r => ∃ x2 x3, r = [some (xF (ts.map bkD)), some (xS z), x2, x3]) ⟨_, _, rfl⟩ ?_ ?_
  · rintro j r q hq ⟨x2, x3, rfl⟩
    have wq := h.nms q (List.mem_of_getElem? hq)
    have no := hz q (List.mem_of_getElem? hq)
    unfold L_0_0
    walk_at "wx"
    · rename_i e; exact absurd (by injection e) no
    · exact ⟨_, _, rfl⟩
  · rintro r ⟨x2, x3, rfl⟩
    walk_at "wx"
    exact kFinE_i (OutR.ff (OutR.ff OutR.nil)) ⟨rfl, rfl⟩
theorem nobook_ok {ts : List (Str × Row)} {w : Nat} {z : Str} (h : Tbl ts w) (wz : Wd 1100 z) (hz : ∀ p ∈ ts, p.1 ≠ z) : W (F_8 [xF (ts.map bkD), xS z]) (fun v ls => v = xB true ∧ ls = [xF (ts.map bkD), xS z]) nE := by
  refine en_8 ?_
  unfold b_8
  walk_at "wx"
  refine W_try ?_
  unfold K_8_0
  walk_at "wx"
  refine (row_no h wz hz).mono ?_ ?_
  · rintro _ _ q
    exact q.elim
  · rintro _ _ ⟨rfl, rfl⟩
    refine kTry_t (by rfl) (.s (.s .z)) ?_
    dsimp only
    walk_at "wx"
    refine kClr_i (.s (.s .z)) ?_
    walk_at "wx"
    exact ⟨rfl, rfl⟩
/-- the readings at a place, each once -/
def ads (p : Nat) (acc : List Str) (q : Str × Row) : List Str := match q.2.getD p none with
  | none => acc
  | some z => addS acc z
theorem addS_nd {zs : List Str} {z : Str} (h : zs.Nodup) : (addS zs z).Nodup := by
  unfold addS
  split
  · exact h
  · rename_i q
    exact List.nodup_append.mpr ⟨h, by simp, fun a ha b hb e => q (by simp at hb; subst hb; exact e ▸ ha)⟩
theorem addS_len {zs : List Str} {z : Str} : (addS zs z).length ≤ zs.length + 1 := by
  unfold addS
  split <;> simp
theorem ix_row {r : Row} {w p : Nat} (h : Rok w r) (hp : p < w) : AtI (r.map oS) (p : Int) (oS (r.getD p none)) := by
  have hl : p < r.length := by rw [h.1]; exact hp
  have e : r.getD p none = r[p] := by simp [List.getD, hl]
  rw [e]
  exact AtI.mapn (by simp [hl])
theorem getD_wd {r : Row} {w p : Nat} {z : Str} (h : Rok w r) (e : r.getD p none = some z) : Wd 16 z := by
  unfold List.getD at e
  cases q : r[p]? with
  | none => rw [q] at e; cases e
  | some o =>
    rw [q] at e
    exact h.2 o (List.mem_of_getElem? q) z e
theorem readings_ok {ts : List (Str × Row)} {w p : Nat} (h : Tbl ts w) (hp : p < w) : W (F_1 [xF (ts.map bkD), xI (p : Nat)]) (fun v ls => (∃ ys, SortOf (ts.foldl (ads p) []) ys ∧ v = xO (ys.map D.str)) ∧ ls = [xF (ts.map bkD), xI (p : Nat)]) nE := by
  have hle := h.le
  refine en_1 ?_
  unfold b_1
  walk_at "wx"
  refine W_forS (fun post r => ∃ (acc : List Str) (x3 x4 : Option L), r = [some (xF (ts.map bkD)), some (xI (p : Nat)), some (xDs acc), x3, x4] ∧ post.foldl (ads p) acc = ts.foldl (ads p) [] ∧ acc.Nodup ∧ acc.length + post.length ≤ 24 ∧ ∀ q ∈ post, q ∈ ts) ⟨[], _, _, rfl, rfl, by simp, by simpa using hle, fun _ q => q⟩ ?_ ?_
  · rintro q post r hq ⟨acc, x3, x4, rfl, hf, nd, hl, hm⟩
    have hr := h.row q (hm q (List.mem_cons_self ..))
    have A := ix_row hr hp
    have hl' : acc.length + post.length + 1 ≤ 24 := by simp only [List.length_cons] at hl; omega
    rw [List.foldl_cons] at hf
    unfold L_1_0
    cases e : q.2.getD p none with
    | none =>
      rw [e] at A
      have ea : ads p acc q = acc := by unfold ads; rw [e]
      rw [ea] at hf
      walk_at "wx"
      all_goals first | (exfalso; simp_all; done) | skip
      exact ⟨acc, _, _, rfl, hf, nd, by omega, fun q hq => hm q (List.mem_cons_of_mem _ hq)⟩
    | some z =>
      rw [e] at A
      have wz := getD_wd hr e
      have ea : ads p acc q = addS acc z := by unfold ads; rw [e]
      rw [ea] at hf
      have la := addS_len (zs := acc) (z := z)
      walk_at "wx"
      all_goals first | (exfalso; simp_all; done) | skip
      refine W_dput ?_
      walk_at "wx"
      refine kDp1_i (by rfl) ?_
      walk_at "wx"
      refine kDp2_s (by rfl) ⟨by omega, _, .s (.s .z), ?_⟩
      exact ⟨addS acc z, _, _, rfl, hf, addS_nd nd, by omega, fun q hq => hm q (List.mem_cons_of_mem _ hq)⟩
  · rintro r ⟨acc, x3, x4, rfl, hf, nd, hl, hm⟩
    have hf : acc = ts.foldl (ads p) [] := hf
    walk_at "wx"
    refine W_sortD ⟨⟨by simp only [List.length_nil] at hl; omega, nd⟩, fun ys hs => ?_⟩
    rw [hf] at hs
    walk_at "wx"
    exact ⟨⟨ys, hs, rfl⟩, rfl⟩
theorem stand_ok {ts : List (Str × Row)} {w p : Nat} (h : Tbl ts w) (hp : p < w) : W (F_10 [xF (ts.map bkD), xI (p : Nat)]) (fun v ls => (∃ ys, SortOf (ts.foldl (ads p) []) ys ∧ v = xO (ys.map D.str)) ∧ ls = [xF (ts.map bkD), xI (p : Nat)]) nE := by
  have hle := h.le
  refine en_10 ?_
  unfold b_10
  walk_at "wx"
  refine W_forS (fun post r => ∃ (acc : List Str) (x3 x4 : Option L), r = [some (xF (ts.map bkD)), some (xI (p : Nat)), some (xO (acc.map D.str)), x3, x4] ∧ post.foldl (ads p) acc = ts.foldl (ads p) [] ∧ acc.Nodup ∧ acc.length + post.length ≤ 24 ∧ ∀ q ∈ post, q ∈ ts) ⟨[], _, _, rfl, rfl, by simp, by simpa using hle, fun _ q => q⟩ ?_ ?_
  · rintro q post r hq ⟨acc, x3, x4, rfl, hf, nd, hl, hm⟩
    have hr := h.row q (hm q (List.mem_cons_self ..))
    have A := ix_row hr hp
    have hl' : acc.length + post.length + 1 ≤ 24 := by simp only [List.length_cons] at hl; omega
    rw [List.foldl_cons] at hf
    unfold L_10_0
    cases e : q.2.getD p none with
    | none =>
      rw [e] at A
      have ea : ads p acc q = acc := by unfold ads; rw [e]
      rw [ea] at hf
      walk_at "wx"
      all_goals first | (exfalso; simp_all; done) | skip
      exact ⟨acc, _, _, rfl, hf, nd, by omega, fun q hq => hm q (List.mem_cons_of_mem _ hq)⟩
    | some z =>
      rw [e] at A
      have wz := getD_wd hr e
      have ea : ads p acc q = addS acc z := by unfold ads; rw [e]
      rw [ea] at hf
      have la := addS_len (zs := acc) (z := z)
      have nd' := addS_nd (z := z) nd
      have em : D.str z ∈ acc.map D.str ↔ z ∈ acc := by simp
      walk_at "wx"
      all_goals first | (exfalso; simp_all; done) | skip
      refine W_inF1 SeqL.o (List.all_eq_true.mpr fun d hd => by obtain ⟨q, _, rfl⟩ := List.mem_map.mp hd; rfl) ?_
      walk_at "wx"
      · rename_i q1
        have e1 : addS acc z = acc := by unfold addS; rw [if_pos (em.mp q1)]
        rw [e1] at hf
        exact ⟨acc, _, _, rfl, hf, nd, by omega, fun q hq => hm q (List.mem_cons_of_mem _ hq)⟩
      · rename_i q1
        have e1 : addS acc z = acc ++ [z] := by unfold addS; rw [if_neg (fun h => q1 (em.mpr h))]
        rw [e1] at hf nd'
        exact ⟨acc ++ [z], _, _, by rw [List.map_append]; rfl, hf, nd', by rw [List.length_append]; simp; omega, fun q hq => hm q (List.mem_cons_of_mem _ hq)⟩
  · rintro r ⟨acc, x3, x4, rfl, hf, nd, hl, hm⟩
    have hf : acc = ts.foldl (ads p) [] := hf
    walk_at "wx"
    refine W_sortT SeqL.o ⟨⟨by simp only [List.length_nil] at hl; omega, nd⟩, fun ys hs => ?_⟩
    rw [hf] at hs
    walk_at "wx"
    exact ⟨⟨ys, hs, rfl⟩, rfl⟩
/-- the places at which two rows are unlike -/
def ulk (a b : Row) (n : Nat) : List Int := ((List.range n).filter fun j => decide (a.getD j none ≠ none ∧ b.getD j none ≠ none ∧ a.getD j none ≠ b.getD j none)).map fun j : Nat => (j : Int)
theorem ulk_s {a b : Row} {n : Nat} : ulk a b (n + 1) = if a.getD n none ≠ none ∧ b.getD n none ≠ none ∧ a.getD n none ≠ b.getD n none then ulk a b n ++ [(n : Int)] else ulk a b n := by
  unfold ulk
  rw [List.range_succ, List.filter_append, List.map_append]
  by_cases h : a.getD n none ≠ none ∧ b.getD n none ≠ none ∧ a.getD n none ≠ b.getD n none
  · rw [if_pos h, List.filter_cons_of_pos (by simpa using h)]
    rfl
  · rw [if_neg h, List.filter_cons_of_neg (by simpa using h)]
    simp
theorem ulk_len {a b : Row} {n : Nat} : (ulk a b n).length ≤ n := by
  unfold ulk
  rw [List.length_map]
  have := List.length_filter_le (fun j => decide (a.getD j none ≠ none ∧ b.getD j none ≠ none ∧ a.getD j none ≠ b.getD j none)) (List.range n)
  rwa [List.length_range] at this
theorem unlike_ok {a b : Row} {w : Nat} (ha : Rok w a) (hb : Rok w b) (hw : w ≤ 40) : W (F_2 [.fz (rwD a), .fz (rwD b)]) (fun v ls => v = xO ((ulk a b w).map D.int) ∧ ls = [.fz (rwD a), .fz (rwD b)]) nE := by
  have la := ha.1
  refine en_2 ?_
  unfold b_2
  walk_at "wx"
  refine W_forR (fun k r => ∃ x3, r = [some (.fz (rwD a)), some (.fz (rwD b)), some (xO ((ulk a b k).map D.int)), x3]) ⟨_, rfl⟩ ?_ ?_
  · rintro k r hk ⟨x3, rfl⟩
    have A := ix_row (p := k) ha (by omega)
    have B := ix_row (p := k) hb (by omega)
    have pa : Pd (oS (a.getD k none)) := pd_oS fun z e => getD_wd ha e
    have pb : Pd (oS (b.getD k none)) := pd_oS fun z e => getD_wd hb e
    have lu := ulk_len (a := a) (b := b) (n := k)
    have es := ulk_s (a := a) (b := b) (n := k)
    unfold L_2_0
    generalize ea : a.getD k none = x at A pa es
    generalize eb : b.getD k none = y at B pb es
    cases x with
    | none =>
      walk_at "wx"
      all_goals first | (exfalso; simp_all; done) | exact ⟨_, by rw [es, if_neg (by simp)]⟩
    | some x =>
      cases y with
      | none =>
        walk_at "wx"
        all_goals first | (exfalso; simp_all; done) | exact ⟨_, by rw [es, if_neg (by simp)]⟩
      | some y =>
        walk_at "wx"
        all_goals first | (exfalso; simp_all; done) | skip
        · rename_i q
          have : x = y := by injection q
          exact ⟨_, by rw [es, if_neg (by simp [this])]⟩
        · rename_i q
          have : x ≠ y := fun e => q (by rw [e])
          exact ⟨_, by rw [es, if_pos (by simp [this])]⟩
  · rintro r ⟨x3, rfl⟩
    walk_at "wx"
    exact ⟨by rw [show a.length = w from la], rfl⟩
theorem places_ok {a b : Row} {w : Nat} (ha : Rok w a) (hb : Rok w b) (hw : w ≤ 40) : W (F_9 [.fz (rwD a), .fz (rwD b)]) (fun v ls => v = xO ((ulk a b w).map D.int) ∧ ls = [.fz (rwD a), .fz (rwD b)]) nE := by
  have la := ha.1
  refine en_9 ?_
  unfold b_9
  walk_at "wx"
  refine W_forR (fun k r => ∃ x3, r = [some (.fz (rwD a)), some (.fz (rwD b)), some (xO ((ulk a b k).map D.int)), x3]) ⟨_, rfl⟩ ?_ ?_
  · rintro k r hk ⟨x3, rfl⟩
    have A := ix_row (p := k) ha (by omega)
    have B := ix_row (p := k) hb (by omega)
    have pa : Pd (oS (a.getD k none)) := pd_oS fun z e => getD_wd ha e
    have pb : Pd (oS (b.getD k none)) := pd_oS fun z e => getD_wd hb e
    have lu := ulk_len (a := a) (b := b) (n := k)
    have es := ulk_s (a := a) (b := b) (n := k)
    unfold L_9_0
    generalize ea : a.getD k none = x at A pa es
    generalize eb : b.getD k none = y at B pb es
    cases x with
    | none =>
      walk_at "wx"
      all_goals first | (exfalso; simp_all; done) | exact ⟨_, by rw [es, if_neg (by simp)]⟩
    | some x =>
      cases y with
      | none =>
        walk_at "wx"
        all_goals first | (exfalso; simp_all; done) | exact ⟨_, by rw [es, if_neg (by simp)]⟩
      | some y =>
        walk_at "wx"
        all_goals first | (exfalso; simp_all; done) | skip
        · rename_i q
          have : x = y := by injection q
          exact ⟨_, by rw [es, if_neg (by simp [this])]⟩
        · rename_i q
          have : x ≠ y := fun e => q (by rw [e])
          exact ⟨_, by rw [es, if_pos (by simp [this])]⟩
  · rintro r ⟨x3, rfl⟩
    walk_at "wx"
    exact ⟨by rw [show a.length = w from la], rfl⟩
theorem rpt_own {ds : List D} : rpt (xO ds) = rpt (.fz (.lst ds)) := by
  have e : (xO ds).toD = .lst ds := by rw [L.toD, toDs_map, fzs_toD]
  unfold rpt
  rw [e]
  rfl
theorem W_reprO {ds : List D} {M : L → List L → Prop} {E : Exn → List L → Prop} (h : Sh 60 100000 (.lst ds) ∧ M (.fz (.str (txt (.lst ds)))) [xO ds]) : W (oRepr [xO ds]) M E := by
  refine W.of_eq ?_ h.2
  simp only [oRepr, p1]
  rw [rpt_own, h.1.ok (Nat.le_refl _) (Nat.le_refl _)]
  rfl
local macro_rules | `(tactic| infer_instance) => `(tactic| (with_reducible apply W_neS))
local macro_rules | `(tactic| infer_instance) => `(tactic| (with_reducible apply W_eqS))
theorem lists_ok {ds : List D} (hs : Sh 60 100000 (.lst ds)) (hl : ds.length ≤ 1000) : W (F_11 [xO ds, xF ds]) (fun v ls => v = xB true) nE := by
  refine en_11 ?_
  unfold b_11
  walk_at "wx"
  refine W_reprO ⟨hs, ?_⟩
  walk_at "wx"
  refine W_repr ⟨hs, ?_⟩
  walk_at "wx"
  all_goals first | (exfalso; simp_all; done) | skip
  rfl
theorem ads_wd {p w : Nat} : ∀ {ts : List (Str × Row)} {acc : List Str}, (∀ q ∈ ts, Rok w q.2) → (∀ z ∈ acc, Wd 16 z) → (∀ z ∈ ts.foldl (ads p) acc, Wd 16 z) ∧ (ts.foldl (ads p) acc).length ≤ acc.length + ts.length
  | [], acc, _, h => ⟨h, by simp⟩
  | q :: ts, acc, hr, h => by
    have h1 : (∀ z ∈ ads p acc q, Wd 16 z) ∧ (ads p acc q).length ≤ acc.length + 1 := by
      unfold ads
      cases e : q.2.getD p none with
      | none => exact ⟨h, by simp⟩
      | some z =>
        refine ⟨fun y hy => ?_, addS_len⟩
        rcases mem_addS.mp hy with u | u
        · exact h y u
        · subst u; exact getD_wd (hr q (List.mem_cons_self ..)) e
    obtain ⟨a, b⟩ := ads_wd (ts := ts) (acc := ads p acc q) (fun x hx => hr x (List.mem_cons_of_mem _ hx)) h1.1
    rw [List.foldl_cons]
    exact ⟨a, by simp only [List.length_cons]; omega⟩
theorem sh_row {r : Row} {w : Nat} (h : Rok w r) (hw : w ≤ 40) : Sh 1 700 (rwD r) := by
  refine sh_tup (k := 0) (n := 16) (fun d hd => ?_) (by rw [List.length_map, h.1]; omega)
  obtain ⟨o, ho, rfl⟩ := List.mem_map.mp hd
  cases o with
  | none => exact sh_non.up (Nat.le_refl _) (by omega)
  | some z => exact sh_str (h.2 _ ho z rfl)
theorem Tbl.sh {ts : List (Str × Row)} {w : Nat} (h : Tbl ts w) : Sh 60 100000 (.lst (ts.map bkD)) := by
  have hl := h.le
  refine (sh_lst (k := 2) (n := 1500) (m := 40000) (fun d hd => ?_) (by rw [List.length_map]; omega)).up (by omega) (by omega)
  obtain ⟨p, hp, rfl⟩ := List.mem_map.mp hd
  refine sh_tup (k := 1) (n := 700) (fun d hd => ?_) (by simp)
  simp only [List.mem_cons, List.not_mem_nil, or_false] at hd
  rcases hd with rfl | rfl
  · exact (sh_str (k := 0) (h.nms p hp)).up (by omega) (by omega)
  · exact sh_row (h.row p hp) h.w2
theorem pd_row {r : Row} {w : Nat} (h : Rok w r) : Pd (rwD r) := pd_tup fun d hd => by
  obtain ⟨o, ho, rfl⟩ := List.mem_map.mp hd
  exact nb_oS fun z e => h.2 _ ho z e
theorem ulk_lt {a b : Row} {n : Nat} (hn : n ≤ 40) : ∀ z ∈ ulk a b n, 0 ≤ z ∧ z < 40 := fun z hz => by
  unfold ulk at hz
  obtain ⟨j, hj, rfl⟩ := List.mem_map.mp hz
  have := List.mem_range.mp (List.mem_filter.mp hj).1
  omega
theorem sh_int20 {z : Int} (h : 0 ≤ z ∧ z < 40) : Sh 0 20 (.int z) := by
  have : ∀ n : Fin 40, shB 0 20 (.int (n.val : Int)) = true := by decide +kernel
  have e := this ⟨z.toNat, by omega⟩
  have ez : ((z.toNat : Nat) : Int) = z := by omega
  simp only [ez] at e
  exact sh_of e
theorem right_ok {l : L} {ts : List (Str × Row)} {w : Nat} (g : SQ l) (h : Tbl ts w) : W (F_12 [l, xF (ts.map bkD)]) (fun v ls => v = xB true ∧ ∃ l', ls = [l', xF (ts.map bkD)] ∧ SQ l') nE := by
  have hs := h.sh
  have hp := h.pos
  have hle := h.le
  have hw := h.w2
  refine en_12 ?_
  unfold b_12
  walk_at "wt"
  refine W_repr ⟨hs, ?_⟩
  walk_at "wt"
  refine W_forM (fun k r => ∃ x3 x4, r = [some l, some (xF (ts.map bkD)), some (xS (txt (.lst (ts.map bkD)))), x3, x4, none, none, none, none, none, none]) ⟨_, _, rfl⟩ ?_ ?_
  · rintro k r p hk ⟨x3, x4, rfl⟩
    have pr := pd_row (h.row p (List.mem_of_getElem? hk))
    unfold L_12_0
    walk_at "wt"
    refine (row_at h hk).call ?_
    rintro _ _ ⟨rfl, rfl⟩
    walk_at "wt"
    all_goals first | (exfalso; simp_all; done) | skip
    refine (row_at h hk).call ?_
    rintro _ _ ⟨rfl, rfl⟩
    walk_at "wt"
    all_goals first | (exfalso; simp_all; done) | exact ⟨_, _, rfl⟩
  rintro r ⟨x3, x4, rfl⟩
  obtain ⟨p0, e0⟩ : ∃ p0, ts[0]? = some p0 := ⟨ts[0], by simp⟩
  have A0 : AtI (ts.map bkD) 0 (bkD p0) := AtI.mapn e0
  have hr0 := h.row p0 (List.mem_of_getElem? e0)
  have hl0 : p0.2.length = w := hr0.1
  walk_at "wt"
  refine W_forR (fun k r => ∃ x5 x6, r = [some l, some (xF (ts.map bkD)), some (xS (txt (.lst (ts.map bkD)))), x3, x4, x5, x6, none, none, none, none]) ⟨_, _, rfl⟩ ?_ ?_
  · rintro k r hk ⟨x5, x6, rfl⟩
    have hk : k < w := by rw [← hl0]; exact hk
    unfold L_12_2
    walk_at "wt"
    refine W_forR (fun j r => ∃ x6, r = [some l, some (xF (ts.map bkD)), some (xS (txt (.lst (ts.map bkD)))), x3, x4, some (xI (k : Nat)), x6, none, none, none, none]) ⟨_, rfl⟩ ?_ ?_
    · rintro j r hj ⟨x6, rfl⟩
      unfold L_12_1
      walk_at "wt"
      refine (readings_ok h hk).call ?_
      rintro _ _ ⟨⟨ys, hys, rfl⟩, rfl⟩
      walk_at "wt"
      refine (stand_ok h hk).call ?_
      rintro _ _ ⟨⟨ys', hys', rfl⟩, rfl⟩
      obtain rfl := SortOf.uniq hys hys'
      obtain ⟨a, b⟩ := ads_wd (p := k) (w := w) (ts := ts) (acc := []) h.row (by simp)
      have ly : ys.length ≤ 24 := by
        have := List.Nodup.length_le_of_subset hys.2.1 (fun z hz => (hys.1 z).mp hz)
        simp only [List.length_nil] at b
        omega
      have sy : Sh 60 100000 (.lst (ys.map D.str)) := (sh_lst (k := 0) (n := 16) (m := 500) (fun d hd => by
        obtain ⟨z, hz, rfl⟩ := List.mem_map.mp hd
        exact sh_str (a z ((hys.1 z).mp hz))) (by rw [List.length_map]; omega)).up (by omega) (by omega)
      walk_at "wt"
      refine (lists_ok sy (by rw [List.length_map]; omega)).call ?_
      rintro _ _ rfl
      walk_at "wt"
      exact ⟨_, rfl⟩
    · rintro r ⟨x6, rfl⟩
      walk_at "wt"
      exact ⟨_, _, rfl⟩
  rintro r ⟨x5, x6, rfl⟩
  walk_at "wt"
  refine W_forR (fun k r => ∃ (l : L) (x6 x7 x8 x9 x10 : Option L), r = [some l, some (xF (ts.map bkD)), some (xS (txt (.lst (ts.map bkD)))), x3, x4, x5, x6, x7, x8, x9, x10] ∧ SQ l) ⟨_, _, _, _, _, _, rfl, g⟩ ?_ ?_
  · rintro k r hk ⟨l, x6, x7, x8, x9, x10, rfl, g⟩
    unfold L_12_4
    walk_at "wt"
    rename_i n1 l1 _ _ g1 p e1 n2 l2 _ _ g2 q e2
    have hp1 := h.row p (List.mem_of_getElem? e1)
    have hq1 := h.row q (List.mem_of_getElem? e2)
    refine W_forD (fun post r => (∀ d ∈ post, ∃ a b, d = .tup [rwD a, rwD b] ∧ Rok w a ∧ Rok w b) ∧ ∃ (x9 x10 : Option L), r = [some l2, some (xF (ts.map bkD)), some (xS (txt (.lst (ts.map bkD)))), x3, x4, x5, some (xI (k : Nat)), some (.fz (rwD p.2)), some (.fz (rwD q.2)), x9, x10]) ⟨?_, _, _, rfl⟩ ?_ ?_
    · intro d hd
      simp only [List.mem_cons, List.not_mem_nil, or_false] at hd
      rcases hd with rfl | rfl | rfl
      · exact ⟨_, _, rfl, hp1, hq1⟩
      · exact ⟨_, _, rfl, hq1, hp1⟩
      · exact ⟨_, _, rfl, hp1, hq1⟩
    · rintro d post r _ ⟨hm, x9, x10, rfl⟩
      obtain ⟨a, b, rfl, ha, hb⟩ := hm d (List.mem_cons_self ..)
      unfold L_12_3
      walk_at "wt"
      refine (unlike_ok ha hb hw).call ?_
      rintro _ _ ⟨rfl, rfl⟩
      walk_at "wt"
      refine (places_ok ha hb hw).call ?_
      rintro _ _ ⟨rfl, rfl⟩
      have lu := ulk_len (a := a) (b := b) (n := w)
      have su : Sh 60 100000 (.lst ((ulk a b w).map D.int)) := (sh_lst (k := 0) (n := 20) (m := 1000) (fun d hd => by
        obtain ⟨z, hz, rfl⟩ := List.mem_map.mp hd
        exact sh_int20 (ulk_lt hw z hz)) (by rw [List.length_map]; omega)).up (by omega) (by omega)
      walk_at "wt"
      refine (lists_ok su (by rw [List.length_map]; omega)).call ?_
      rintro _ _ rfl
      walk_at "wt"
      exact ⟨fun d hd => hm d (List.mem_cons_of_mem _ hd), _, _, rfl⟩
    · rintro r ⟨_, x9, x10, rfl⟩
      walk_at "wt"
      exact ⟨_, _, _, _, _, _, rfl, g2⟩
  rintro r ⟨l, x6, x7, x8, x9, x10, rfl, g⟩
  walk_at "wt"
  refine W_repr ⟨hs, ?_⟩
  walk_at "wt"
  exact ⟨by simp, _, rfl, g⟩
theorem law_true {ns : List Int} (hl : ns.length ≤ 63) : W (F_13 [.fz (.scr ns)]) (fun v ls => v = xB true) nE := by
  refine en_13 ?_
  unfold b_13
  walk_at "wx"
  refine (stream_ok (k := 0) (by omega) hl).call ?_
  rintro l _ ⟨rfl, g⟩
  walk_at "wx"
  refine (table_ok g).call ?_
  rintro _ _ ⟨ts, w, l, rfl, rfl, h, g⟩
  walk_at "wx"
  refine (stream_ok (k := 1) (by omega) hl).call ?_
  rintro l1 _ ⟨rfl, g1⟩
  walk_at "wx"
  refine (table_ok g1).call ?_
  rintro _ _ ⟨us, w2, l2, rfl, rfl, h2, g2⟩
  walk_at "wx"
  refine W_forD (fun post r => (∀ d ∈ post, ∃ ts w, d = .lst (ts.map bkD) ∧ Tbl ts w) ∧ ∃ (l : L) (x4 : Option L), r = [some (.fz (.scr ns)), some l, some (xF (ts.map bkD)), some (xF (us.map bkD)), x4, none, none, none] ∧ SQ l) ⟨?_, _, _, rfl, g⟩ ?_ ?_
  · intro d hd
    simp only [List.mem_cons, List.not_mem_nil, or_false] at hd
    rcases hd with rfl | rfl | rfl
    · exact ⟨_, _, rfl, h⟩
    · exact ⟨_, _, rfl, h2⟩
    · exact ⟨_, _, rfl, h⟩
  · rintro d post r _ ⟨hm, l, x4, rfl, g⟩
    obtain ⟨vs, w3, rfl, h3⟩ := hm d (List.mem_cons_self ..)
    unfold L_13_0
    walk_at "wx"
    refine (right_ok g h3).call ?_
    rintro _ _ ⟨rfl, l', rfl, g'⟩
    walk_at "wx"
    exact ⟨fun d hd => hm d (List.mem_cons_of_mem _ hd), _, _, rfl, g'⟩
  rintro r ⟨_, l, x4, rfl, g⟩
  have hle := h.le
  have hp := h.pos
  have hp2 := h2.pos
  walk_at "wx"
  refine kLc_X (fun _ : Str × Row => True) (fun p => .str p.1) (by omega) (by walk_at "wr") (by walk_at "wr") (fun p hp => ?_) ?_
  · unfold E_13_1
    walk_at "wx"
  have en : ((ts.filter fun x => decide True).map fun p : Str × Row => D.str p.1) = (ts.map (·.1)).map D.str := by
    rw [List.filter_eq_self.mpr (by simp), List.map_map]; rfl
  rw [en]
  have hnw : ∀ z ∈ ts.map (·.1), Wd 16 z := fun z hz => by
    obtain ⟨p, hp, rfl⟩ := List.mem_map.mp hz
    exact h.nms p hp
  generalize hzs : ts.map (·.1) = zs at hnw
  have lz : zs.length ≤ 24 := by rw [← hzs, List.length_map]; exact hle
  obtain ⟨p0, e0⟩ : ∃ p0, us[0]? = some p0 := ⟨us[0], by simp⟩
  have A0 : AtI (us.map bkD) 0 (bkD p0) := AtI.mapn e0
  have w0 := h2.nms p0 (List.mem_of_getElem? e0)
  walk_at "wx"
  refine kLc_X (fun _ : Str => True) (fun z => .str (z ++ "a")) (by omega) (by walk_at "wr") (by walk_at "wr") (fun z hz => ?_) ?_
  · have wz := hnw z hz
    unfold E_13_4
    walk_at "wx"
  walk_at "wx"
  refine kLc_X (fun _ : Str => True) (fun z => .str (cutS z (some 1) none)) (by omega) (by walk_at "wr") (by walk_at "wr") (fun z hz => ?_) ?_
  · have wz := hnw z hz
    unfold E_13_3
    walk_at "wx"
  have l1' : (zs.filter fun x => decide True).length ≤ 24 := Nat.le_trans (List.length_filter_le ..) lz
  walk_at "wx"
  have wa : Wd 1 ("a" : Str) := ⟨by decide +kernel, by decide +kernel⟩
  refine W_forD (fun post r => (∀ d ∈ post, ∃ z, d = .str z ∧ Wd 1100 z) ∧ ∃ x6, r = [some (.fz (.scr ns)), some l, some (xF (ts.map bkD)), some (xF (us.map bkD)), x4, some (xF (zs.map D.str)), x6, none]) ⟨?_, _, rfl⟩ ?_ ?_
  · intro d hd
    rcases List.mem_append.mp hd with q | q
    · rcases List.mem_append.mp q with q | q
      · obtain ⟨z, hz, rfl⟩ := List.mem_map.mp q
        exact ⟨_, rfl, ((hnw z (List.mem_filter.mp hz).1).app wa).mono (by omega)⟩
      · obtain ⟨z, hz, rfl⟩ := List.mem_map.mp q
        exact ⟨_, rfl, ((hnw z (List.mem_filter.mp hz).1).cut).mono (by omega)⟩
    · simp only [List.mem_singleton] at q
      subst q
      exact ⟨_, rfl, w0.mono (by omega)⟩
  · rintro d post r _ ⟨hm, x6, rfl⟩
    obtain ⟨z, rfl, wz⟩ := hm d (List.mem_cons_self ..)
    have fin : (∀ d ∈ post, ∃ z, d = .str z ∧ Wd 1100 z) ∧ ∃ x6, [some (.fz (.scr ns)), some l, some (xF (ts.map bkD)), some (xF (us.map bkD)), x4, some (xF (zs.map D.str)), some (xS z), none] = [some (.fz (.scr ns)), some l, some (xF (ts.map bkD)), some (xF (us.map bkD)), x4, some (xF (zs.map D.str)), x6, none] := ⟨fun d hd => hm d (List.mem_cons_of_mem _ hd), _, rfl⟩
    have em : D.str z ∈ zs.map D.str ↔ z ∈ zs := by simp
    unfold L_13_2
    walk_at "wx"
    all_goals first | exact fin | skip
    refine W_inF1 SeqL.fs (List.all_eq_true.mpr fun d hd => by obtain ⟨q, _, rfl⟩ := List.mem_map.mp hd; rfl) ?_
    walk_at "wx"
    all_goals first | exact fin | skip
    rename_i q
    refine (nobook_ok h wz fun p hp e => q (em.mpr (by rw [← hzs, ← e]; exact List.mem_map.mpr ⟨p, hp, rfl⟩))).call ?_
    rintro _ _ ⟨rfl, rfl⟩
    walk_at "wx"
    exact fin
  · rintro r ⟨_, x6, rfl⟩
    walk_at "wx"
    rfl
end K03
set_option maxHeartbeats 0
namespace K03
open PySem L2 Dl
def spLaw (K : PySem.W.Frag) : L2.Sp := fun vs H Q _ => ∃ (a : Addr) (ns : List Int), vs = [.ref a] ∧ SqL K H a (ns.map V.int) ∧ ns.length ≤ 63 ∧ ∀ H', Q (.bl true) H'
theorem sp_law {K : PySem.W.Frag} {ct : Str → Option Addr} {vs : List V} {H : Hp} {Q : VK} {E : XK} (h : spLaw K vs H Q E) : dSp K ct 1 F_13 vs H Q E := by
  obtain ⟨a, ns, rfl, sq, hl, k⟩ := h
  exact sp_true (by obtain ⟨_, b, e, rfl⟩ := W.got (law_true hl); exact ⟨b, e⟩) sq k
theorem all_mk {l : PySem.W.OpenLaw} {w : World} {K : PySem.W.Frag} {h : Heap} {mg : Str → Option Value} {fa f_0 f_1 f_2 f_3 f_4 f_5 f_6 f_7 f_8 f_9 f_10 f_11 f_12 f_13 e_NoBook e_CopyError e_NoStem e_NoTable e_NotTwo e_TooMany : Addr} (X : K.In h) (G : h.Ns mainGlobals mg) (hfa : mg "law" = some (.ref fa))
    {od0 an0 : Option Addr} {sl0 : Array (Option Value)} {oc0 kV0 dc0 pm0 cd0 ct0 : Value}
    {od1 an1 : Option Addr} {sl1 : Array (Option Value)} {oc1 kV1 dc1 pm1 cd1 ct1 : Value}
    {od2 an2 : Option Addr} {sl2 : Array (Option Value)} {oc2 kV2 dc2 pm2 cd2 ct2 : Value}
    {od3 an3 : Option Addr} {sl3 : Array (Option Value)} {oc3 kV3 dc3 pm3 cd3 ct3 : Value}
    {od4 an4 : Option Addr} {sl4 : Array (Option Value)} {oc4 kV4 dc4 pm4 cd4 ct4 : Value}
    {od5 an5 : Option Addr} {sl5 : Array (Option Value)} {oc5 kV5 dc5 pm5 cd5 ct5 : Value}
    {od6 an6 : Option Addr} {sl6 : Array (Option Value)} {oc6 kV6 dc6 pm6 cd6 ct6 : Value}
    {od7 an7 : Option Addr} {sl7 : Array (Option Value)} {oc7 kV7 dc7 pm7 cd7 ct7 : Value}
    {od8 an8 : Option Addr} {sl8 : Array (Option Value)} {oc8 kV8 dc8 pm8 cd8 ct8 : Value}
    {od9 an9 : Option Addr} {sl9 : Array (Option Value)} {oc9 kV9 dc9 pm9 cd9 ct9 : Value}
    {od10 an10 : Option Addr} {sl10 : Array (Option Value)} {oc10 kV10 dc10 pm10 cd10 ct10 : Value}
    {od11 an11 : Option Addr} {sl11 : Array (Option Value)} {oc11 kV11 dc11 pm11 cd11 ct11 : Value}
    {od12 an12 : Option Addr} {sl12 : Array (Option Value)} {oc12 kV12 dc12 pm12 cd12 ct12 : Value}
    {od13 an13 : Option Addr} {sl13 : Array (Option Value)} {oc13 kV13 dc13 pm13 cd13 ct13 : Value}
    (a0 : PySem.W.nsIn K mainGlobals "row_of" = some (some (.ref f_0))) (l0 : K.lookup f_0 = some ⟨oc0, od0, .func (PySem.W.fnOf "row_of" "row_of" (defArgs s_0) (defBody s_0) (defScope s_0) .none kV0 dc0 pm0 an0 cd0 ct0), sl0⟩) (c0 : PySem.W.codeIn K cd0 "row_of" = true) (k0 : PySem.W.keepIn K (.ref f_0) = true)
    (a1 : PySem.W.nsIn K mainGlobals "readings_at" = some (some (.ref f_1))) (l1 : K.lookup f_1 = some ⟨oc1, od1, .func (PySem.W.fnOf "readings_at" "readings_at" (defArgs s_1) (defBody s_1) (defScope s_1) .none kV1 dc1 pm1 an1 cd1 ct1), sl1⟩) (c1 : PySem.W.codeIn K cd1 "readings_at" = true) (k1 : PySem.W.keepIn K (.ref f_1) = true)
    (a2 : PySem.W.nsIn K mainGlobals "unlike" = some (some (.ref f_2))) (l2 : K.lookup f_2 = some ⟨oc2, od2, .func (PySem.W.fnOf "unlike" "unlike" (defArgs s_2) (defBody s_2) (defScope s_2) .none kV2 dc2 pm2 an2 cd2 ct2), sl2⟩) (c2 : PySem.W.codeIn K cd2 "unlike" = true) (k2 : PySem.W.keepIn K (.ref f_2) = true)
    (a3 : PySem.W.nsIn K mainGlobals "_law_stream" = some (some (.ref f_3))) (l3 : K.lookup f_3 = some ⟨oc3, od3, .func (PySem.W.fnOf "_law_stream" "_law_stream" (defArgs s_3) (defBody s_3) (defScope s_3) .none kV3 dc3 pm3 an3 cd3 ct3), sl3⟩) (c3 : PySem.W.codeIn K cd3 "_law_stream" = true) (k3 : PySem.W.keepIn K (.ref f_3) = true)
    (a4 : PySem.W.nsIn K mainGlobals "_law_take" = some (some (.ref f_4))) (l4 : K.lookup f_4 = some ⟨oc4, od4, .func (PySem.W.fnOf "_law_take" "_law_take" (defArgs s_4) (defBody s_4) (defScope s_4) .none kV4 dc4 pm4 an4 cd4 ct4), sl4⟩) (c4 : PySem.W.codeIn K cd4 "_law_take" = true) (k4 : PySem.W.keepIn K (.ref f_4) = true)
    (a5 : PySem.W.nsIn K mainGlobals "_law_letters" = some (some (.ref f_5))) (l5 : K.lookup f_5 = some ⟨oc5, od5, .func (PySem.W.fnOf "_law_letters" "_law_letters" (defArgs s_5) (defBody s_5) (defScope s_5) .none kV5 dc5 pm5 an5 cd5 ct5), sl5⟩) (c5 : PySem.W.codeIn K cd5 "_law_letters" = true) (k5 : PySem.W.keepIn K (.ref f_5) = true)
    (a6 : PySem.W.nsIn K mainGlobals "_law_names" = some (some (.ref f_6))) (l6 : K.lookup f_6 = some ⟨oc6, od6, .func (PySem.W.fnOf "_law_names" "_law_names" (defArgs s_6) (defBody s_6) (defScope s_6) .none kV6 dc6 pm6 an6 cd6 ct6), sl6⟩) (c6 : PySem.W.codeIn K cd6 "_law_names" = true) (k6 : PySem.W.keepIn K (.ref f_6) = true)
    (a7 : PySem.W.nsIn K mainGlobals "_law_table" = some (some (.ref f_7))) (l7 : K.lookup f_7 = some ⟨oc7, od7, .func (PySem.W.fnOf "_law_table" "_law_table" (defArgs s_7) (defBody s_7) (defScope s_7) .none kV7 dc7 pm7 an7 cd7 ct7), sl7⟩) (c7 : PySem.W.codeIn K cd7 "_law_table" = true) (k7 : PySem.W.keepIn K (.ref f_7) = true)
    (a8 : PySem.W.nsIn K mainGlobals "_law_no_book" = some (some (.ref f_8))) (l8 : K.lookup f_8 = some ⟨oc8, od8, .func (PySem.W.fnOf "_law_no_book" "_law_no_book" (defArgs s_8) (defBody s_8) (defScope s_8) .none kV8 dc8 pm8 an8 cd8 ct8), sl8⟩) (c8 : PySem.W.codeIn K cd8 "_law_no_book" = true) (k8 : PySem.W.keepIn K (.ref f_8) = true)
    (a9 : PySem.W.nsIn K mainGlobals "_law_places" = some (some (.ref f_9))) (l9 : K.lookup f_9 = some ⟨oc9, od9, .func (PySem.W.fnOf "_law_places" "_law_places" (defArgs s_9) (defBody s_9) (defScope s_9) .none kV9 dc9 pm9 an9 cd9 ct9), sl9⟩) (c9 : PySem.W.codeIn K cd9 "_law_places" = true) (k9 : PySem.W.keepIn K (.ref f_9) = true)
    (a10 : PySem.W.nsIn K mainGlobals "_law_stand" = some (some (.ref f_10))) (l10 : K.lookup f_10 = some ⟨oc10, od10, .func (PySem.W.fnOf "_law_stand" "_law_stand" (defArgs s_10) (defBody s_10) (defScope s_10) .none kV10 dc10 pm10 an10 cd10 ct10), sl10⟩) (c10 : PySem.W.codeIn K cd10 "_law_stand" = true) (k10 : PySem.W.keepIn K (.ref f_10) = true)
    (a11 : PySem.W.nsIn K mainGlobals "_law_lists" = some (some (.ref f_11))) (l11 : K.lookup f_11 = some ⟨oc11, od11, .func (PySem.W.fnOf "_law_lists" "_law_lists" (defArgs s_11) (defBody s_11) (defScope s_11) .none kV11 dc11 pm11 an11 cd11 ct11), sl11⟩) (c11 : PySem.W.codeIn K cd11 "_law_lists" = true) (k11 : PySem.W.keepIn K (.ref f_11) = true)
    (a12 : PySem.W.nsIn K mainGlobals "_law_right" = some (some (.ref f_12))) (l12 : K.lookup f_12 = some ⟨oc12, od12, .func (PySem.W.fnOf "_law_right" "_law_right" (defArgs s_12) (defBody s_12) (defScope s_12) .none kV12 dc12 pm12 an12 cd12 ct12), sl12⟩) (c12 : PySem.W.codeIn K cd12 "_law_right" = true) (k12 : PySem.W.keepIn K (.ref f_12) = true)
    (a13 : PySem.W.nsIn K mainGlobals "law" = some (some (.ref f_13))) (l13 : K.lookup f_13 = some ⟨oc13, od13, .func (PySem.W.fnOf "law" "law" (defArgs s_13) (defBody s_13) (defScope s_13) .none kV13 dc13 pm13 an13 cd13 ct13), sl13⟩) (c13 : PySem.W.codeIn K cd13 "law" = true) (k13 : PySem.W.keepIn K (.ref f_13) = true)
    (z_ValueError : PySem.W.nsIn K mainGlobals "ValueError" = some none)
    (z_abs : PySem.W.nsIn K mainGlobals "abs" = some none)
    (z_int : PySem.W.nsIn K mainGlobals "int" = some none)
    (z_isinstance : PySem.W.nsIn K mainGlobals "isinstance" = some none)
    (z_len : PySem.W.nsIn K mainGlobals "len" = some none)
    (z_list : PySem.W.nsIn K mainGlobals "list" = some none)
    (z_range : PySem.W.nsIn K mainGlobals "range" = some none)
    (z_repr : PySem.W.nsIn K mainGlobals "repr" = some none)
    (z_sorted : PySem.W.nsIn K mainGlobals "sorted" = some none)
    (z_tuple : PySem.W.nsIn K mainGlobals "tuple" = some none)
    (z_zip : PySem.W.nsIn K mainGlobals "zip" = some none)
    {osy : PySem.Obj} (sy : K.lookup PySem.sysModules = some osy) (sc : osy.cls = .type "dict")
    (g_NoBook : PySem.W.nsIn K mainGlobals "NoBook" = some (some (.ref e_NoBook)))
    (g_CopyError : PySem.W.nsIn K mainGlobals "CopyError" = some (some (.ref e_CopyError)))
    (g_NoStem : PySem.W.nsIn K mainGlobals "NoStem" = some (some (.ref e_NoStem)))
    (g_NoTable : PySem.W.nsIn K mainGlobals "NoTable" = some (some (.ref e_NoTable)))
    (g_NotTwo : PySem.W.nsIn K mainGlobals "NotTwo" = some (some (.ref e_NotTwo)))
    (g_TooMany : PySem.W.nsIn K mainGlobals "TooMany" = some (some (.ref e_TooMany)))
    (kc_NoBook : PySem.W.keepIn K (.ref e_NoBook) = true)
    (xi_NoBook : PySem.W.excIn K e_NoBook [.type "ValueError", .type "Exception", .type "BaseException", .type "object"] "ValueError.__new__" = true)
    (xb_NoBook : PySem.W.subIn K (.ref e_NoBook) (.type "BaseException") = some true)
    (xt_NoBook : PySem.W.typeIn K (.ref e_NoBook) = some (.type "type"))
    (ex_NoBook : ExcC K e_NoBook)
    (kv_NoBook : PySem.W.kitOne K (.ref e_NoBook) (.type "ValueError") = some true)
    (em_NoBook_CopyError : PySem.W.exmOne K (.ref e_NoBook) (.ref e_CopyError) = some true)
    (ki_NoBook_NoStem : PySem.W.kitOne K (.ref e_NoBook) (.ref e_NoStem) = some false)
    (ki_NoBook_NoTable : PySem.W.kitOne K (.ref e_NoBook) (.ref e_NoTable) = some false)
    (ki_NoBook_NotTwo : PySem.W.kitOne K (.ref e_NoBook) (.ref e_NotTwo) = some false)
    (ki_NoBook_TooMany : PySem.W.kitOne K (.ref e_NoBook) (.ref e_TooMany) = some false)
    (ki_NoBook_NoBook : PySem.W.kitOne K (.ref e_NoBook) (.ref e_NoBook) = some true)
    : ∃ fd : FuncData, (∀ (s : Shared) (v : Value), BindsTo s fd ⟨[v], []⟩ [("_law_script", v)]) ∧ ∀ base : Heap, K.In base → base.Ns mainGlobals mg → FnG l.prog w K mg base CX0 5 fa fd ["_law_script"] (spLaw K) := by
  have e := hfa.symm.trans (PySem.W.mg_of X G a13)
  cases e
  have F0 := fun_mk (st := s_0) l0 c0 k0
  have b0 := F0.binds (ps := ["table", "name"]) fun _ _ _ _ _ _ us hl => match us, hl with | [_, _], _ => rfl
  have F1 := fun_mk (st := s_1) l1 c1 k1
  have b1 := F1.binds (ps := ["table", "place"]) fun _ _ _ _ _ _ us hl => match us, hl with | [_, _], _ => rfl
  have F2 := fun_mk (st := s_2) l2 c2 k2
  have b2 := F2.binds (ps := ["one", "other"]) fun _ _ _ _ _ _ us hl => match us, hl with | [_, _], _ => rfl
  have F3 := fun_mk (st := s_3) l3 c3 k3
  have b3 := F3.binds (ps := ["_law_script", "_law_k"]) fun _ _ _ _ _ _ us hl => match us, hl with | [_, _], _ => rfl
  have F4 := fun_mk (st := s_4) l4 c4 k4
  have b4 := F4.binds (ps := ["_law_stream_here", "_law_most"]) fun _ _ _ _ _ _ us hl => match us, hl with | [_, _], _ => rfl
  have F5 := fun_mk (st := s_5) l5 c5 k5
  have b5 := F5.binds (ps := ["_law_stream_here", "_law_many"]) fun _ _ _ _ _ _ us hl => match us, hl with | [_, _], _ => rfl
  have F6 := fun_mk (st := s_6) l6 c6 k6
  have b6 := F6.binds (ps := ["_law_stream_here", "_law_many"]) fun _ _ _ _ _ _ us hl => match us, hl with | [_, _], _ => rfl
  have F7 := fun_mk (st := s_7) l7 c7 k7
  have b7 := F7.binds (ps := ["_law_stream_here"]) fun _ _ _ _ _ _ us hl => match us, hl with | [_], _ => rfl
  have F8 := fun_mk (st := s_8) l8 c8 k8
  have b8 := F8.binds (ps := ["_law_table_here", "_law_name"]) fun _ _ _ _ _ _ us hl => match us, hl with | [_, _], _ => rfl
  have F9 := fun_mk (st := s_9) l9 c9 k9
  have b9 := F9.binds (ps := ["_law_one", "_law_other"]) fun _ _ _ _ _ _ us hl => match us, hl with | [_, _], _ => rfl
  have F10 := fun_mk (st := s_10) l10 c10 k10
  have b10 := F10.binds (ps := ["_law_table_here", "_law_place"]) fun _ _ _ _ _ _ us hl => match us, hl with | [_, _], _ => rfl
  have F11 := fun_mk (st := s_11) l11 c11 k11
  have b11 := F11.binds (ps := ["_law_found", "_law_due"]) fun _ _ _ _ _ _ us hl => match us, hl with | [_, _], _ => rfl
  have F12 := fun_mk (st := s_12) l12 c12 k12
  have b12 := F12.binds (ps := ["_law_stream_here", "_law_table_here"]) fun _ _ _ _ _ _ us hl => match us, hl with | [_, _], _ => rfl
  have F13 := fun_mk (st := s_13) l13 c13 k13
  have b13 := F13.binds (ps := ["_law_script"]) fun _ _ _ _ _ _ us hl => match us, hl with | [_], _ => rfl
  have T : Tx K (fun x => List.lookup x [("NoBook", e_NoBook), ("CopyError", e_CopyError), ("NoStem", e_NoStem), ("NoTable", e_NoTable), ("NotTwo", e_NotTwo), ("TooMany", e_TooMany)]) mg f_0 f_1 f_2 f_3 f_4 f_5 f_6 f_7 f_8 f_9 f_10 f_11 f_12 fa e_NoBook e_CopyError e_NoStem e_NoTable e_NotTwo e_TooMany _ _ _ _ _ _ _ _ _ _ _ _ _ _ := ⟨F0, b0, k0, PySem.W.mg_of X G a0, F1, b1, k1, PySem.W.mg_of X G a1, F2, b2, k2, PySem.W.mg_of X G a2, F3, b3, k3, PySem.W.mg_of X G a3, F4, b4, k4, PySem.W.mg_of X G a4, F5, b5, k5, PySem.W.mg_of X G a5, F6, b6, k6, PySem.W.mg_of X G a6, F7, b7, k7, PySem.W.mg_of X G a7, F8, b8, k8, PySem.W.mg_of X G a8, F9, b9, k9, PySem.W.mg_of X G a9, F10, b10, k10, PySem.W.mg_of X G a10, F11, b11, k11, PySem.W.mg_of X G a11, F12, b12, k12, PySem.W.mg_of X G a12, F13, b13, k13, PySem.W.mg_of X G a13, PySem.W.mg_none_of X G z_ValueError, PySem.W.mg_none_of X G z_abs, PySem.W.mg_none_of X G z_int, PySem.W.mg_none_of X G z_isinstance, PySem.W.mg_none_of X G z_len, PySem.W.mg_none_of X G z_list, PySem.W.mg_none_of X G z_range, PySem.W.mg_none_of X G z_repr, PySem.W.mg_none_of X G z_sorted, PySem.W.mg_none_of X G z_tuple, PySem.W.mg_none_of X G z_zip, ⟨osy, sy, fun z => absurd (sc.symm.trans z) (by decide)⟩, PySem.W.mg_of X G g_NoBook, rfl, PySem.W.mg_of X G g_CopyError, rfl, PySem.W.mg_of X G g_NoStem, rfl, PySem.W.mg_of X G g_NoTable, rfl, PySem.W.mg_of X G g_NotTwo, rfl, PySem.W.mg_of X G g_TooMany, rfl, kc_NoBook, xi_NoBook, xb_NoBook, xt_NoBook, ex_NoBook, kv_NoBook, em_NoBook_CopyError, ki_NoBook_NoStem, ki_NoBook_NoTable, ki_NoBook_NotTwo, ki_NoBook_TooMany, ki_NoBook_NoBook⟩
  exact ⟨PySem.W.fnOf "law" "law" (defArgs s_13) (defBody s_13) (defScope s_13) .none kV13 dc13 pm13 an13 cd13 ct13, fun s v => .of_eq rfl, fun base _ _ =>
    (ok_13 (ct := (fun x => List.lookup x [("NoBook", e_NoBook), ("CopyError", e_CopyError), ("NoStem", e_NoStem), ("NoTable", e_NoTable), ("NotTwo", e_NotTwo), ("TooMany", e_TooMany)])) T).imp fun vs H Q E h => sp_law h⟩
theorem walk {l : PySem.W.OpenLaw} {q : Program} {loose : List Str} {XP : (Str → Option Value) → Heap → Prop} {YP : World → Heap → Prop} {d : DefRec} {K : Params → PySem.W.Frag} (hn : l.most = some 63) (hdf : d.params.defaults = [])
    (hY : ∀ (w : World) (h : Heap), YP w h → (K w.params).In h)
    (F : ∀ (w : World) (mg : Str → Option Value) (fa : Addr) (h : Heap), (K w.params).In h → h.Ns mainGlobals mg → mg d.name = some (.ref fa) →
      ∃ fd : FuncData, (∀ (s : Shared) (u : Value), BindsTo s fd ⟨[u], []⟩ [("_law_script", u)]) ∧ ∀ base : Heap, (K w.params).In base → base.Ns mainGlobals mg → FnG l.prog w (K w.params) mg base CX0 5 fa fd ["_law_script"] (spLaw (K w.params))) :
    PySem.W.WalkO q loose XP YP l.row.toRowW d [] (fun f vs => PySem.call f vs) :=
  Dl.walk_ofG (n := 63) (k := 5) (x := "_law_script") (CX := fun _ => CX0) (sp := fun w => spLaw (K w.params)) hn (by decide) hdf ⟨rfl, by decide, by decide⟩ hY F (fun _ _ a ns hl _ hS => ⟨a, ns, rfl, hS, hl, fun _ => rfl⟩) fun _ _ _ _ _ z => z
end K03
open PySem PySem.W PyProof.Rows
set_option maxRecDepth 100000 in
set_option maxHeartbeats 0 in
theorem PySem.Challenge.cw_copystem_k03_rows_looked_at_holds : PySem.Challenge.rw_copystem_k03_rows_looked_at.Holds := by
  w_on; o_law; x_head; (case hw => w_witness2)
  k_fill
  refine K03.walk (l := PySem.Challenge.rw_copystem_k03_rows_looked_at) rfl rfl (fun w h Y => PySem.W.kIn_of Y) ?F
  case F =>
    intro w mg fa h KX G hmg
    refine' K03.all_mk KX G hmg ?a0 ?l0 ?c0 ?k0 ?a1 ?l1 ?c1 ?k1 ?a2 ?l2 ?c2 ?k2 ?a3 ?l3 ?c3 ?k3 ?a4 ?l4 ?c4 ?k4 ?a5 ?l5 ?c5 ?k5 ?a6 ?l6 ?c6 ?k6 ?a7 ?l7 ?c7 ?k7 ?a8 ?l8 ?c8 ?k8 ?a9 ?l9 ?c9 ?k9 ?a10 ?l10 ?c10 ?k10 ?a11 ?l11 ?c11 ?k11 ?a12 ?l12 ?c12 ?k12 ?a13 ?l13 ?c13 ?k13 ?z_ValueError ?z_abs ?z_int ?z_isinstance ?z_len ?z_list ?z_range ?z_repr ?z_sorted ?z_tuple ?z_zip ?sy ?sc ?g_NoBook ?g_CopyError ?g_NoStem ?g_NoTable ?g_NotTwo ?g_TooMany ?kc_NoBook ?xi_NoBook ?xb_NoBook ?xt_NoBook ?ex_NoBook ?kv_NoBook ?em_NoBook_CopyError ?ki_NoBook_NoStem ?ki_NoBook_NoTable ?ki_NoBook_NotTwo ?ki_NoBook_TooMany ?ki_NoBook_NoBook
    (case a0 => k_is)
    (case l0 => k_is)
    (case c0 => k_is)
    (case k0 => k_is)
    (case a1 => k_is)
    (case l1 => k_is)
    (case c1 => k_is)
    (case k1 => k_is)
    (case a2 => k_is)
    (case l2 => k_is)
    (case c2 => k_is)
    (case k2 => k_is)
    (case a3 => k_is)
    (case l3 => k_is)
    (case c3 => k_is)
    (case k3 => k_is)
    (case a4 => k_is)
    (case l4 => k_is)
    (case c4 => k_is)
    (case k4 => k_is)
    (case a5 => k_is)
    (case l5 => k_is)
    (case c5 => k_is)
    (case k5 => k_is)
    (case a6 => k_is)
    (case l6 => k_is)
    (case c6 => k_is)
    (case k6 => k_is)
    (case a7 => k_is)
    (case l7 => k_is)
    (case c7 => k_is)
    (case k7 => k_is)
    (case a8 => k_is)
    (case l8 => k_is)
    (case c8 => k_is)
    (case k8 => k_is)
    (case a9 => k_is)
    (case l9 => k_is)
    (case c9 => k_is)
    (case k9 => k_is)
    (case a10 => k_is)
    (case l10 => k_is)
    (case c10 => k_is)
    (case k10 => k_is)
    (case a11 => k_is)
    (case l11 => k_is)
    (case c11 => k_is)
    (case k11 => k_is)
    (case a12 => k_is)
    (case l12 => k_is)
    (case c12 => k_is)
    (case k12 => k_is)
    (case a13 => k_is)
    (case l13 => k_is)
    (case c13 => k_is)
    (case k13 => k_is)
    (case z_ValueError => k_is)
    (case z_abs => k_is)
    (case z_int => k_is)
    (case z_isinstance => k_is)
    (case z_len => k_is)
    (case z_list => k_is)
    (case z_range => k_is)
    (case z_repr => k_is)
    (case z_sorted => k_is)
    (case z_tuple => k_is)
    (case z_zip => k_is)
    (case sy => k_is)
    (case sc => rfl)
    (case g_NoBook => k_is)
    (case g_CopyError => k_is)
    (case g_NoStem => k_is)
    (case g_NoTable => k_is)
    (case g_NotTwo => k_is)
    (case g_TooMany => k_is)
    (case kc_NoBook => k_is)
    (case xi_NoBook => k_exc)
    (case xb_NoBook => k_is)
    (case xt_NoBook => k_is)
    (case ex_NoBook => exact ⟨by k_is, by k_is, by k_is, by k_is, by k_is, by k_is, by k_is, by k_is⟩)
    (case kv_NoBook => exact Dl.kitT_of (by k_is))
    (case em_NoBook_CopyError => exact Dl.exm_of (by k_is) (by k_is) (by k_is) (by k_is))
    (case ki_NoBook_NoStem => exact Dl.kit_of (by k_is) (by k_is) (by k_is) (by decide))
    (case ki_NoBook_NoTable => exact Dl.kit_of (by k_is) (by k_is) (by k_is) (by decide))
    (case ki_NoBook_NotTwo => exact Dl.kit_of (by k_is) (by k_is) (by k_is) (by decide))
    (case ki_NoBook_TooMany => exact Dl.kit_of (by k_is) (by k_is) (by k_is) (by decide))
    (case ki_NoBook_NoBook => exact Dl.kit_of (by k_is) (by k_is) (by k_is) (by decide))
