import PyProof.Rows.All
import HandS.ForMost
import HandS.ForExc
import HandS.SortInts
import HandS.SortKw
import HandS.IsInst
import HandS.StrMore
import HandS.More
import HandS.Conv
import HandS.ExcInit
import HandS.CallSlots
import HandS.TryMany
import HandS.Steps
import HandS.Style
import HandS.SetFor
import HandS.Replace
import HandS.Defaults
import KE.DataMinMax
import KE.DataCmp
import HandS.Zip
import PySem.Challenge.RW_storedfresh_k97_whole_quorums_heard
import HandS.Head0
import HandS.Head1
import HandS.Head2
import HandS.HeadEnd
import HandS.HeadHook1
import HandS.HeadHook2
import Wide.All
import OpenK.AllK
import Wide.FinOn
set_option Elab.async false
set_option linter.all false
section PDCore_
set_option maxRecDepth 100000
/-! PDCore: pure data over the hand layer: D (data), O (data of which parts are owned), what represents them, the state between two steps. -/
namespace PD
open PySem L2

/-- data -/
inductive D where
  | non | bl (b : Bool) | int (i : Int) | str (x : Str)
  | lst (xs : List D) | tup (xs : List D) | dct (kvs : List (Key × D)) | dctT (kvs : List (List Key × D))
  | ins (c : Str) (fs : List (Str × D))
  | feed
  | scr (a : Addr) (ns : List Int)
  | ty (n : String)
/-- data of which some parts are owned (may be changed in place) -/
inductive O where
  | fro (d : D)
  | lst (xs : List O) | tup (xs : List O) | dct (kvs : List (Key × O)) | dctT (kvs : List (List Key × O))
  | ins (c : Str) (fs : List (Str × O))

mutual
def O.toD : O → D
  | .fro d => d
  | .lst xs => .lst (toDL xs)
  | .tup xs => .tup (toDL xs)
  | .dct kvs => .dct (toDK kvs)
  | .dctT kvs => .dctT (toDT kvs)
  | .ins c fs => .ins c (toDF fs)
def toDL : List O → List D
  | [] => []
  | o :: os => o.toD :: toDL os
def toDK : List (Key × O) → List (Key × D)
  | [] => []
  | (k, o) :: os => (k, o.toD) :: toDK os
def toDT : List (List Key × O) → List (List Key × D)
  | [] => []
  | (k, o) :: os => (k, o.toD) :: toDT os
def toDF : List (Str × O) → List (Str × D)
  | [] => []
  | (k, o) :: os => (k, o.toD) :: toDF os
end
theorem toDL_map : ∀ os : List O, toDL os = os.map O.toD
  | [] => by rw [toDL]; rfl
  | o :: os => by rw [toDL, toDL_map os]; rfl
theorem toDK_map : ∀ os : List (Key × O), toDK os = os.map fun p => (p.1, p.2.toD)
  | [] => by rw [toDK]; rfl
  | (k, o) :: os => by rw [toDK, toDK_map os]; rfl
theorem toDT_map : ∀ os : List (List Key × O), toDT os = os.map fun p => (p.1, p.2.toD)
  | [] => by rw [toDT]; rfl
  | (k, o) :: os => by rw [toDT, toDT_map os]; rfl
theorem toDF_map : ∀ os : List (Str × O), toDF os = os.map fun p => (p.1, p.2.toD)
  | [] => by rw [toDF]; rfl
  | (k, o) :: os => by rw [toDF, toDF_map os]; rfl

def D.scal : D → Bool
  | .non => true
  | .bl _ => true
  | .int _ => true
  | .str _ => true
  | _ => false
/- nothing in it leans on what is frozen -/
mutual
def O.solid : O → Bool
  | .fro d => d.scal
  | .lst xs => solidL xs
  | .tup xs => solidL xs
  | .dct kvs => solidK kvs
  | .dctT kvs => false
  | .ins _ fs => solidF fs
def solidL : List O → Bool
  | [] => true
  | o :: os => o.solid && solidL os
def solidK : List (Key × O) → Bool
  | [] => true
  | (_, o) :: os => o.solid && solidK os
def solidF : List (Str × O) → Bool
  | [] => true
  | (_, o) :: os => o.solid && solidF os
end

/-- what is frozen: a part of the heap that stands for good; the feed's address -/
structure Fz where
  hp : Hp
  af : Addr → Bool
  /-- a feed's cells: where they stand, what they are -/
  fc : Addr → Addr × List Int

section
variable (K : PySem.W.Frag) (cn : Str → Option Addr)

mutual
/-- v represents d in what is frozen -/
inductive Fro (G : Fz) : D → V → Prop
  | non : Fro G .non .non
  | bl {b : Bool} : Fro G (.bl b) (.bl b)
  | int {i : Int} : Fro G (.int i) (.int i)
  | str {x : Str} : Fro G (.str x) (.str x)
  | lst {a : Addr} {vs : List V} {ds : List D} (h : G.hp a = some (.lst vs)) (hs : FroL G ds vs) : Fro G (.lst ds) (.ref a)
  | tup {a : Addr} {vs : List V} {ds : List D} (h : SqT K G.hp a vs) (hs : FroL G ds vs) : Fro G (.tup ds) (.ref a)
  | dct {a : Addr} {kvs : List (Key × V)} {kds : List (Key × D)} (h : G.hp a = some (.dK kvs)) (e : kvs.map Prod.fst = kds.map Prod.fst) (hs : FroL G (kds.map Prod.snd) (kvs.map Prod.snd)) : Fro G (.dct kds) (.ref a)
  | dctT {a : Addr} {kvs : List (List Key × V)} {kds : List (List Key × D)} (h : G.hp a = some (.dT kvs)) (e : kvs.map Prod.fst = kds.map Prod.fst) (hs : FroL G (kds.map Prod.snd) (kvs.map Prod.snd)) : Fro G (.dctT kds) (.ref a)
  | ins {a C dx : Addr} {c : Str} {fs : List (Str × V)} {fds : List (Str × D)} (hc : cn c = some C) (h : G.hp a = some (.ins C dx fs)) (hx : G.hp dx = some (.own a)) (e : fs.map Prod.fst = fds.map Prod.fst) (hs : FroL G (fds.map Prod.snd) (fs.map Prod.snd)) : Fro G (.ins c fds) (.ref a)
  | feed {a : Addr} (h : G.af a = true) : Fro G .feed (.ref a)
  | scr {a : Addr} {ns : List Int} (h : SqL K G.hp a (ns.map V.int)) : Fro G (.scr a ns) (.ref a)
  | ty {n : String} : Fro G (.ty n) (.ty n)
inductive FroL (G : Fz) : List D → List V → Prop
  | nil : FroL G [] []
  | cons {d : D} {v : V} {ds : List D} {vs : List V} (h : Fro G d v) (hs : FroL G ds vs) : FroL G (d :: ds) (v :: vs)
end

mutual
/-- v represents o: the owned parts stand at fp in H -/
inductive Rep (G : Fz) (H : Hp) : O → V → List Addr → Prop
  | fro {d : D} {v : V} (h : Fro K cn G d v) : Rep G H (.fro d) v []
  | lst {a : Addr} {vs : List V} {os : List O} {fp : List Addr} (h : H a = some (.lst vs)) (hs : RepL G H os vs fp) : Rep G H (.lst os) (.ref a) (a :: fp)
  | tup {a : Addr} {vs : List V} {os : List O} {fp : List Addr} (h : H a = some (.tup vs)) (hs : RepL G H os vs fp) : Rep G H (.tup os) (.ref a) (a :: fp)
  | dct {a : Addr} {kvs : List (Key × V)} {kos : List (Key × O)} {fp : List Addr} (h : H a = some (.dK kvs)) (e : kvs.map Prod.fst = kos.map Prod.fst) (hs : RepL G H (kos.map Prod.snd) (kvs.map Prod.snd) fp) : Rep G H (.dct kos) (.ref a) (a :: fp)
  | dctT {a : Addr} {kvs : List (List Key × V)} {kos : List (List Key × O)} {fp : List Addr} (h : H a = some (.dT kvs)) (e : kvs.map Prod.fst = kos.map Prod.fst) (hs : RepL G H (kos.map Prod.snd) (kvs.map Prod.snd) fp) : Rep G H (.dctT kos) (.ref a) (a :: fp)
  | ins {a C dx : Addr} {c : Str} {fs : List (Str × V)} {fos : List (Str × O)} {fp : List Addr} (hc : cn c = some C) (h : H a = some (.ins C dx fs)) (hx : H dx = some (.own a)) (e : fs.map Prod.fst = fos.map Prod.fst) (hs : RepL G H (fos.map Prod.snd) (fs.map Prod.snd) fp) : Rep G H (.ins c fos) (.ref a) (a :: dx :: fp)
inductive RepL (G : Fz) (H : Hp) : List O → List V → List Addr → Prop
  | nil : RepL G H [] [] []
  | cons {o : O} {v : V} {os : List O} {vs : List V} {fp fq : List Addr} (h : Rep G H o v fp) (hs : RepL G H os vs fq) : RepL G H (o :: os) (v :: vs) (fp ++ fq)
end
end

/-! ### what grows -/
structure FzLe (G G' : Fz) : Prop where
  hp : Same G.hp G'.hp
  af : ∀ a, G.af a = true → G'.af a = true ∧ G'.fc a = G.fc a
theorem FzLe.refl (G : Fz) : FzLe G G := ⟨Same.refl _, fun _ h => ⟨h, rfl⟩⟩
theorem FzLe.trans {G G1 G2 : Fz} (a : FzLe G G1) (b : FzLe G1 G2) : FzLe G G2 := ⟨a.hp.trans b.hp, fun x h => let p := a.af x h; let q := b.af x p.1; ⟨q.1, q.2.trans p.2⟩⟩
theorem Same.sqT {K : PySem.W.Frag} {H H' : Hp} {a : Addr} {xs : List V} (e : Same H H') (h : SqT K H a xs) : SqT K H' a xs := by
  rcases h with (h | ⟨o, h⟩) | h
  · exact .inl (.inl (e _ _ h))
  · exact .inl (.inr ⟨o, e _ _ h⟩)
  · exact .inr h

section
variable {K : PySem.W.Frag} {cn : Str → Option Addr}
mutual
theorem Fro.mono {G G' : Fz} (l : FzLe G G') : ∀ {d : D} {v : V}, Fro K cn G d v → Fro K cn G' d v
  | _, _, .non => .non
  | _, _, .bl => .bl
  | _, _, .int => .int
  | _, _, .str => .str
  | _, _, .lst h hs => .lst (l.hp _ _ h) (FroL.mono l hs)
  | _, _, .tup h hs => .tup (Same.sqT l.hp h) (FroL.mono l hs)
  | _, _, .dct h e hs => .dct (l.hp _ _ h) e (FroL.mono l hs)
  | _, _, .dctT h e hs => .dctT (l.hp _ _ h) e (FroL.mono l hs)
  | _, _, .ins hc h hx e hs => .ins hc (l.hp _ _ h) (l.hp _ _ hx) e (FroL.mono l hs)
  | _, _, .feed h => .feed (l.af _ h).1
  | _, _, .scr h => .scr (l.hp.seq h)
  | _, _, .ty => .ty
theorem FroL.mono {G G' : Fz} (l : FzLe G G') : ∀ {ds : List D} {vs : List V}, FroL K cn G ds vs → FroL K cn G' ds vs
  | _, _, .nil => .nil
  | _, _, .cons h hs => .cons (Fro.mono l h) (FroL.mono l hs)
end
mutual
theorem Rep.mono {G G' : Fz} {H H' : Hp} (l : FzLe G G') : ∀ {o : O} {v : V} {fp : List Addr}, Rep K cn G H o v fp → (∀ a ∈ fp, ∀ u, H a = some u → H' a = some u) → Rep K cn G' H' o v fp
  | _, _, _, .fro h, _ => .fro (h.mono l)
  | _, _, _, .lst h hs, k => .lst (k _ (by simp) _ h) (RepL.mono l hs fun a m => k a (by simp [m]))
  | _, _, _, .tup h hs, k => .tup (k _ (by simp) _ h) (RepL.mono l hs fun a m => k a (by simp [m]))
  | _, _, _, .dct h e hs, k => .dct (k _ (by simp) _ h) e (RepL.mono l hs fun a m => k a (by simp [m]))
  | _, _, _, .dctT h e hs, k => .dctT (k _ (by simp) _ h) e (RepL.mono l hs fun a m => k a (by simp [m]))
  | _, _, _, .ins hc h hx e hs, k => .ins hc (k _ (by simp) _ h) (k _ (by simp) _ hx) e (RepL.mono l hs fun a m => k a (by simp [m]))
theorem RepL.mono {G G' : Fz} {H H' : Hp} (l : FzLe G G') : ∀ {os : List O} {vs : List V} {fp : List Addr}, RepL K cn G H os vs fp → (∀ a ∈ fp, ∀ u, H a = some u → H' a = some u) → RepL K cn G' H' os vs fp
  | _, _, _, .nil, _ => .nil
  | _, _, _, .cons h hs, k => .cons (Rep.mono l h fun a m => k a (List.mem_append.mpr (.inl m))) (RepL.mono l hs fun a m => k a (List.mem_append.mpr (.inr m)))
end
/- all the owned parts stand in H -/
mutual
theorem Rep.there {G : Fz} {H : Hp} : ∀ {o : O} {v : V} {fp : List Addr}, Rep K cn G H o v fp → ∀ a ∈ fp, ∃ u, H a = some u
  | _, _, _, .fro _, _, m => nomatch m
  | _, _, _, .lst h hs, a, m => by
    rcases List.mem_cons.mp m with rfl | m
    · exact ⟨_, h⟩
    · exact RepL.there hs a m
  | _, _, _, .tup h hs, a, m => by
    rcases List.mem_cons.mp m with rfl | m
    · exact ⟨_, h⟩
    · exact RepL.there hs a m
  | _, _, _, .dct h e hs, a, m => by
    rcases List.mem_cons.mp m with rfl | m
    · exact ⟨_, h⟩
    · exact RepL.there hs a m
  | _, _, _, .dctT h e hs, a, m => by
    rcases List.mem_cons.mp m with rfl | m
    · exact ⟨_, h⟩
    · exact RepL.there hs a m
  | _, _, _, .ins hc h hx e hs, a, m => by
    rcases List.mem_cons.mp m with rfl | m
    · exact ⟨_, h⟩
    · rcases List.mem_cons.mp m with rfl | m
      · exact ⟨_, hx⟩
      · exact RepL.there hs a m
theorem RepL.there {G : Fz} {H : Hp} : ∀ {os : List O} {vs : List V} {fp : List Addr}, RepL K cn G H os vs fp → ∀ a ∈ fp, ∃ u, H a = some u
  | _, _, _, .nil, _, m => nomatch m
  | _, _, _, .cons h hs, a, m => by
    rcases List.mem_append.mp m with m | m
    · exact Rep.there h a m
    · exact RepL.there hs a m
end
/- frozen: where all owned parts stand as they are -/
mutual
theorem Rep.toFro {G G' : Fz} {H : Hp} (l : FzLe G G') : ∀ {o : O} {v : V} {fp : List Addr}, Rep K cn G H o v fp → (∀ a ∈ fp, ∀ u, H a = some u → G'.hp a = some u) → Fro K cn G' o.toD v
  | _, _, _, .fro h, _ => by rw [O.toD]; exact h.mono l
  | _, _, _, .lst h hs, k => by rw [O.toD]; exact .lst (k _ (by simp) _ h) (RepL.toFro l hs fun a m => k a (by simp [m]))
  | _, _, _, .tup h hs, k => by rw [O.toD]; exact .tup (.inl (.inl (k _ (by simp) _ h))) (RepL.toFro l hs fun a m => k a (by simp [m]))
  | _, _, _, .dct (kos := kos) h e hs, k => by
    rw [O.toD, toDK_map]
    refine .dct (k _ (by simp) _ h) (by rw [e, List.map_map]; rfl) ?_
    have := RepL.toFro l hs fun a m => k a (by simp [m])
    rw [toDL_map, List.map_map] at this
    rw [List.map_map]; exact this
  | _, _, _, .dctT (kos := kos) h e hs, k => by
    rw [O.toD, toDT_map]
    refine .dctT (k _ (by simp) _ h) (by rw [e, List.map_map]; rfl) ?_
    have := RepL.toFro l hs fun a m => k a (by simp [m])
    rw [toDL_map, List.map_map] at this
    rw [List.map_map]; exact this
  | _, _, _, .ins (fos := fos) hc h hx e hs, k => by
    rw [O.toD, toDF_map]
    refine .ins hc (k _ (by simp) _ h) (k _ (by simp) _ hx) (by rw [e, List.map_map]; rfl) ?_
    have := RepL.toFro l hs fun a m => k a (by simp [m])
    rw [toDL_map, List.map_map] at this
    rw [List.map_map]; exact this
theorem RepL.toFro {G G' : Fz} {H : Hp} (l : FzLe G G') : ∀ {os : List O} {vs : List V} {fp : List Addr}, RepL K cn G H os vs fp → (∀ a ∈ fp, ∀ u, H a = some u → G'.hp a = some u) → FroL K cn G' (toDL os) vs
  | _, _, _, .nil, _ => by rw [toDL]; exact .nil
  | _, _, _, .cons h hs, k => by rw [toDL]; exact .cons (Rep.toFro l h fun a m => k a (List.mem_append.mpr (.inl m))) (RepL.toFro l hs fun a m => k a (List.mem_append.mpr (.inr m)))
end
/-- what is solid leans on nothing frozen -/
theorem Fro.scal {G G' : Fz} {d : D} {v : V} (h : Fro K cn G d v) (s : d.scal = true) : Fro K cn G' d v := by
  cases h <;> first | exact .non | exact .bl | exact .int | exact .str | (simp [D.scal] at s)
mutual
theorem Rep.solid {G G' : Fz} {H : Hp} : ∀ {o : O} {v : V} {fp : List Addr}, Rep K cn G H o v fp → o.solid = true → Rep K cn G' H o v fp
  | _, _, _, .fro h, s => .fro (h.scal (by rw [O.solid] at s; exact s))
  | _, _, _, .lst h hs, s => .lst h (RepL.solid hs (by rw [O.solid] at s; exact s))
  | _, _, _, .tup h hs, s => .tup h (RepL.solid hs (by rw [O.solid] at s; exact s))
  | _, _, _, .dct h e hs, s => .dct h e (RepL.solid hs (by rw [O.solid, solidK_L] at s; exact s))
  | _, _, _, .dctT h e hs, s => by rw [O.solid] at s; cases s
  | _, _, _, .ins hc h hx e hs, s => .ins hc h hx e (RepL.solid hs (by rw [O.solid, solidF_L] at s; exact s))
theorem RepL.solid {G G' : Fz} {H : Hp} : ∀ {os : List O} {vs : List V} {fp : List Addr}, RepL K cn G H os vs fp → solidL os = true → RepL K cn G' H os vs fp
  | _, _, _, .nil, _ => .nil
  | _, _, _, .cons h hs, s => by
    rw [solidL, Bool.and_eq_true] at s
    exact .cons (Rep.solid h s.1) (RepL.solid hs s.2)
theorem solidK_L : ∀ kos : List (Key × O), solidK kos = solidL (kos.map Prod.snd)
  | [] => by rw [solidK]; rfl
  | (k, o) :: r => by rw [solidK, solidK_L r, List.map_cons, solidL]
theorem solidF_L : ∀ kos : List (Str × O), solidF kos = solidL (kos.map Prod.snd)
  | [] => by rw [solidF]; rfl
  | (k, o) :: r => by rw [solidF, solidF_L r, List.map_cons, solidL]
end

/-! ### lists of them -/
theorem FroL.length {G : Fz} : ∀ {ds : List D} {vs : List V}, FroL K cn G ds vs → vs.length = ds.length
  | _, _, .nil => rfl
  | _, _, .cons _ hs => by simp [FroL.length hs]
theorem FroL.get {G : Fz} : ∀ {ds : List D} {vs : List V} {i : Nat} {d : D}, FroL K cn G ds vs → ds[i]? = some d → ∃ v, vs[i]? = some v ∧ Fro K cn G d v
  | _, _, _, _, .nil, e => by simp at e
  | _, _, 0, d, .cons h _, e => by simp at e; subst e; exact ⟨_, rfl, h⟩
  | _, _, i + 1, d, .cons _ hs, e => by
    obtain ⟨v, h1, h2⟩ := FroL.get (i := i) hs (by simpa using e)
    exact ⟨v, by simpa using h1, h2⟩
theorem FroL.getV {G : Fz} : ∀ {ds : List D} {vs : List V} {i : Nat} {v : V}, FroL K cn G ds vs → vs[i]? = some v → ∃ d, ds[i]? = some d ∧ Fro K cn G d v
  | _, _, _, _, .nil, e => by simp at e
  | _, _, 0, d, .cons h _, e => by simp at e; subst e; exact ⟨_, rfl, h⟩
  | _, _, i + 1, d, .cons _ hs, e => by
    obtain ⟨v, h1, h2⟩ := FroL.getV (i := i) hs (by simpa using e)
    exact ⟨v, by simpa using h1, h2⟩
theorem FroL.append {G : Fz} : ∀ {ds es : List D} {vs us : List V}, FroL K cn G ds vs → FroL K cn G es us → FroL K cn G (ds ++ es) (vs ++ us)
  | _, _, _, _, .nil, k => k
  | _, _, _, _, .cons h hs, k => .cons h (FroL.append hs k)
theorem FroL.take {G : Fz} : ∀ {ds : List D} {vs : List V} (n : Nat), FroL K cn G ds vs → FroL K cn G (ds.take n) (vs.take n)
  | _, _, 0, _ => .nil
  | _, _, _ + 1, .nil => .nil
  | _, _, n + 1, .cons h hs => .cons h (FroL.take n hs)
theorem FroL.drop {G : Fz} : ∀ {ds : List D} {vs : List V} (n : Nat), FroL K cn G ds vs → FroL K cn G (ds.drop n) (vs.drop n)
  | _, _, 0, h => h
  | _, _, _ + 1, .nil => .nil
  | _, _, n + 1, .cons _ hs => FroL.drop n hs
theorem RepL.length {G : Fz} {H : Hp} : ∀ {os : List O} {vs : List V} {fp : List Addr}, RepL K cn G H os vs fp → vs.length = os.length
  | _, _, _, .nil => rfl
  | _, _, _, .cons _ hs => by simp [RepL.length hs]
theorem RepL.append {G : Fz} {H : Hp} : ∀ {os ps : List O} {vs us : List V} {fp fq : List Addr}, RepL K cn G H os vs fp → RepL K cn G H ps us fq → RepL K cn G H (os ++ ps) (vs ++ us) (fp ++ fq)
  | _, _, _, _, _, _, .nil, k => k
  | _, _, _, _, _, _, .cons h hs, k => by
    rw [List.append_assoc]
    exact .cons h (RepL.append hs k)
theorem RepL.fro {G : Fz} {H : Hp} : ∀ {ds : List D} {vs : List V}, FroL K cn G ds vs → RepL K cn G H (ds.map O.fro) vs []
  | _, _, .nil => .nil
  | _, _, .cons h hs => .cons (.fro h) (RepL.fro hs)
theorem FroL.of_map {G : Fz} : ∀ {ds : List D} {vs : List V} {H : Hp} {fp : List Addr}, RepL K cn G H (ds.map O.fro) vs fp → FroL K cn G ds vs
  | [], _, _, _, .nil => .nil
  | _ :: _, _, _, _, .cons (.fro h) hs => .cons h (FroL.of_map hs)
theorem RepL.fp_map {G : Fz} : ∀ {ds : List D} {vs : List V} {H : Hp} {fp : List Addr}, RepL K cn G H (ds.map O.fro) vs fp → fp = []
  | [], _, _, _, .nil => rfl
  | _ :: _, _, _, _, .cons (.fro h) hs => by rw [RepL.fp_map hs]; rfl
end

/-! ### the state between two steps -/
def SameX (G : Fz) (H H' : Hp) : Prop := ∀ b o, G.af b ≠ true → H b = some o → H' b = some o
/-- what is frozen stands in H; the feed (where there is one) is a feed -/
structure Ctx (G : Fz) (H : Hp) : Prop where
  sub : Same G.hp H
  feed : ∀ a, G.af a = true → G.hp a = none ∧ ∃ (i : Nat) (big seed : Int), H a = some (.lst [.ref (G.fc a).1, .int i, .int big, .int seed]) ∧ G.hp (G.fc a).1 = some (.lst ((G.fc a).2.map V.int)) ∧ i ≤ (G.fc a).2.length ∧ (G.fc a).2.length ≤ 63 ∧ 0 ≤ big ∧ 0 ≤ seed ∧ seed ≤ 2147483647
structure Stp (G : Fz) (H : Hp) (G' : Fz) (H' : Hp) : Prop where
  le : FzLe G G'
  same : SameX G H H'
  ctx : Ctx G' H'
  new : ∀ a u, G.hp a = none → G'.hp a = some u → H a = none
  newf : ∀ a, G'.af a = true → G.af a = true ∨ H a = none
theorem Stp.refl {G : Fz} {H : Hp} (c : Ctx G H) : Stp G H G H := ⟨FzLe.refl _, fun _ _ _ h => h, c, fun a u h k => (by rw [h] at k; cases k), fun _ h => .inl h⟩
theorem Stp.trans {G G1 G2 : Fz} {H H1 H2 : Hp} (a : Stp G H G1 H1) (b : Stp G1 H1 G2 H2) : Stp G H G2 H2 := by
  refine ⟨a.le.trans b.le, fun x o n h => ?_, b.ctx, fun x u h k => ?_, fun x h => ?_⟩
  · refine b.same x o (fun z => ?_) (a.same x o n h)
    rcases a.newf x z with q | q
    · exact n q
    · rw [h] at q; cases q
  · cases q : G1.hp x with
    | some o => exact a.new x o h q
    | none =>
      have z := b.new x u q k
      cases r : H x with
      | none => rfl
      | some o =>
        by_cases f : G.af x = true
        · have := (b.ctx.feed x (b.le.af x (a.le.af x f).1).1).1
          rw [this] at k; cases k
        · rw [a.same x o f r] at z; cases z
  · rcases b.newf x h with q | q
    · exact a.newf x q
    · cases r : H x with
      | none => exact .inr rfl
      | some o =>
        by_cases f : G.af x = true
        · exact .inl f
        · rw [a.same x o f r] at q; cases q
/-- a new object stands beside -/
theorem Ctx.upd {G : Fz} {H : Hp} {p : Addr} {o : HO} (c : Ctx G H) (n : H p = none) : Ctx G (upd H p o) := by
  refine ⟨fun b u h => ?_, fun a h => ?_⟩
  · rw [upd_ne (ne_of_none (c.sub b u h) n)]; exact c.sub b u h
  · obtain ⟨z, i, big, seed, e, r⟩ := c.feed a h
    refine ⟨z, i, big, seed, ?_, r⟩
    rw [upd_ne (ne_of_none e n)]; exact e
theorem Stp.upd {G : Fz} {H : Hp} {p : Addr} {o : HO} (c : Ctx G H) (n : H p = none) : Stp G H G (upd H p o) :=
  ⟨FzLe.refl _, fun b u _ h => (by rw [upd_ne (ne_of_none h n)]; exact h), c.upd n, fun a u h k => (by rw [h] at k; cases k), fun _ h => .inl h⟩
/-- a smaller base -/
theorem Stp.base {G G' : Fz} {H0 H H' : Hp} (s : Stp G H G' H') (k : Same H0 H) : Stp G H0 G' H' :=
  ⟨s.le, fun b o n h => s.same b o n (k b o h), s.ctx, fun a u h q => k.free (s.new a u h q), fun a h => (s.newf a h).elim .inl fun z => .inr (k.free z)⟩

section
variable (K : PySem.W.Frag) (cn : Str → Option Addr)
/-- owned by whoever holds it: its parts stand apart from each other, from what is frozen, from the base B -/
structure Own (B : Hp) (G : Fz) (H : Hp) (o : O) (v : V) (fp : List Addr) : Prop where
  rep : Rep K cn G H o v fp
  nd : fp.Nodup
  ap : ∀ a ∈ fp, G.hp a = none ∧ G.af a ≠ true ∧ B a = none
structure OwnL (B : Hp) (G : Fz) (H : Hp) (os : List O) (vs : List V) (fp : List Addr) : Prop where
  rep : RepL K cn G H os vs fp
  nd : fp.Nodup
  ap : ∀ a ∈ fp, G.hp a = none ∧ G.af a ≠ true ∧ B a = none
end
section
variable {K : PySem.W.Frag} {cn : Str → Option Addr} {B H H' : Hp} {G G' : Fz} {o : O} {os : List O} {v : V} {vs : List V} {fp fq : List Addr}
theorem Own.fro {d : D} (h : Fro K cn G d v) : Own K cn B G H (.fro d) v [] := ⟨.fro h, List.nodup_nil, fun _ m => nomatch m⟩
theorem ap_step (t : ∀ a ∈ fp, ∃ u, H a = some u) (ap : ∀ a ∈ fp, G.hp a = none ∧ G.af a ≠ true ∧ B a = none) (s : Stp G H G' H') : (∀ a ∈ fp, G'.hp a = none ∧ G'.af a ≠ true ∧ B a = none) ∧ ∀ a ∈ fp, ∀ u, H a = some u → H' a = some u := by
  refine ⟨fun a m => ⟨?_, fun h => ?_, (ap a m).2.2⟩, fun a m u h => s.same a u (ap a m).2.1 h⟩
  · cases q : G'.hp a with
    | none => rfl
    | some u =>
      obtain ⟨w, e⟩ := t a m
      rw [s.new a u (ap a m).1 q] at e; cases e
  · rcases s.newf a h with q | q
    · exact (ap a m).2.1 q
    · obtain ⟨w, e⟩ := t a m
      rw [q] at e; cases e
theorem Own.step (w : Own K cn B G H o v fp) (s : Stp G H G' H') : Own K cn B G' H' o v fp :=
  let k := ap_step w.rep.there w.ap s
  ⟨w.rep.mono s.le k.2, w.nd, k.1⟩
theorem OwnL.step (w : OwnL K cn B G H os vs fp) (s : Stp G H G' H') : OwnL K cn B G' H' os vs fp :=
  let k := ap_step w.rep.there w.ap s
  ⟨w.rep.mono s.le k.2, w.nd, k.1⟩
theorem Own.base {B' : Hp} (w : Own K cn B G H o v fp) (k : Same B' B) : Own K cn B' G H o v fp := ⟨w.rep, w.nd, fun a m => ⟨(w.ap a m).1, (w.ap a m).2.1, k.free (w.ap a m).2.2⟩⟩
theorem OwnL.base {B' : Hp} (w : OwnL K cn B G H os vs fp) (k : Same B' B) : OwnL K cn B' G H os vs fp := ⟨w.rep, w.nd, fun a m => ⟨(w.ap a m).1, (w.ap a m).2.1, k.free (w.ap a m).2.2⟩⟩
/-- new things stand apart from old ones -/
theorem disj_new (t : ∀ a ∈ fp, ∃ u, H a = some u) (n : ∀ a ∈ fq, H a = none) : ∀ a ∈ fp, ∀ b ∈ fq, a ≠ b := fun a m b k e => by
  obtain ⟨u, h⟩ := t a m
  rw [e, n b k] at h; cases h
theorem Own.cons (w : Own K cn B G H o v fp) (ws : OwnL K cn B G H os vs fq) (d : ∀ a ∈ fp, ∀ b ∈ fq, a ≠ b) : OwnL K cn B G H (o :: os) (v :: vs) (fp ++ fq) :=
  ⟨.cons w.rep ws.rep, List.nodup_append.mpr ⟨w.nd, ws.nd, d⟩, fun a m => (List.mem_append.mp m).elim (w.ap a) (ws.ap a)⟩
theorem OwnL.nil : OwnL K cn B G H [] [] [] := ⟨.nil, List.nodup_nil, fun _ m => nomatch m⟩
/-- what is owned is frozen -/
def Fz.add (G : Fz) (H : Hp) (fp : List Addr) : Fz := ⟨fun a => if a ∈ fp then H a else G.hp a, G.af, G.fc⟩
theorem Fz.add_in {a : Addr} (m : a ∈ fp) : (G.add H fp).hp a = H a := if_pos m
theorem Fz.add_out {a : Addr} (m : a ∉ fp) : (G.add H fp).hp a = G.hp a := if_neg m
theorem freeze_le (c : Ctx G H) (ap : ∀ a ∈ fp, G.hp a = none ∧ G.af a ≠ true) : FzLe G (G.add H fp) := by
  refine ⟨fun a u h => ?_, fun _ h => ⟨h, rfl⟩⟩
  by_cases m : a ∈ fp
  · rw [(ap a m).1] at h; cases h
  · rw [Fz.add_out m]; exact h
theorem freeze_ctx (c : Ctx G H) (ap : ∀ a ∈ fp, G.hp a = none ∧ G.af a ≠ true) : Ctx (G.add H fp) H := by
  refine ⟨fun a u h => ?_, fun a h => ?_⟩
  · by_cases m : a ∈ fp
    · rw [Fz.add_in m] at h; exact h
    · rw [Fz.add_out m] at h; exact c.sub a u h
  · obtain ⟨z, i, big, seed, e, hb, r⟩ := c.feed a h
    refine ⟨?_, i, big, seed, e, (freeze_le c ap).hp _ _ hb, r⟩
    rw [Fz.add_out fun m => (ap a m).2 h]; exact z
/-- freezing what is owned and apart from the base is a step over the base -/
theorem Stp.freeze {G0 : Fz} (s : Stp G0 B G H) (ap : ∀ a ∈ fp, G.hp a = none ∧ G.af a ≠ true ∧ B a = none) : Stp G0 B (G.add H fp) H := by
  refine ⟨s.le.trans (freeze_le s.ctx fun a m => ⟨(ap a m).1, (ap a m).2.1⟩), s.same, freeze_ctx s.ctx fun a m => ⟨(ap a m).1, (ap a m).2.1⟩, fun a u h k => ?_, s.newf⟩
  by_cases m : a ∈ fp
  · exact (ap a m).2.2
  · rw [Fz.add_out m] at k; exact s.new a u h k
theorem Own.freeze (c : Ctx G H) (w : Own K cn B G H o v fp) : Fro K cn (G.add H fp) o.toD v :=
  w.rep.toFro (freeze_le c fun a m => ⟨(w.ap a m).1, (w.ap a m).2.1⟩) fun a m u h => by rw [Fz.add_in m]; exact h
theorem OwnL.freeze (c : Ctx G H) (w : OwnL K cn B G H os vs fp) : FroL K cn (G.add H fp) (toDL os) vs :=
  w.rep.toFro (freeze_le c fun a m => ⟨(w.ap a m).1, (w.ap a m).2.1⟩) fun a m u h => by rw [Fz.add_in m]; exact h
end
end PD

end PDCore_

section PDExpr_
set_option maxRecDepth 100000
/-! PDExpr: readings of expressions (TE, TT, TA) as steps over data: RD, RA, RT, and one rule for each reading. -/
namespace PD
open PySem L2

abbrev OEnv := List (Option O)
abbrev DEnv := List (Option D)
/-- an exception: its class's name, its fields -/
structure Exn where
  c : Str
  fs : List (Str × D)
abbrev QX := DEnv → (O → Prop) → (Exn → Prop) → Prop
abbrev QA := DEnv → (List O → Prop) → (Exn → Prop) → Prop
abbrev QB := DEnv → (Bool → Prop) → (Exn → Prop) → Prop
abbrev QP := DEnv → (Option Int → Prop) → (Exn → Prop) → Prop

section
variable (K : PySem.W.Frag) (cn : Str → Option Addr)
/-- the slots that are read -/
def View (G : Fz) (σ : St) (env : DEnv) : Prop := σ.length = env.length ∧ ∀ (i : Nat) (d : D), env[i]? = some (some d) → ∃ v, σ[i]? = some (some v) ∧ Fro K cn G d v
def ExRep (G : Fz) (H : Hp) (e : Exn) (cls : Value) (d : Option Addr) : Prop := ∃ C, cn e.c = some C ∧ cls = .ref C ∧
  ((e.fs = [] ∧ d = none) ∨ ∃ dd vfs, d = some dd ∧ H dd = some (.xd vfs) ∧ vfs.map Prod.fst = e.fs.map Prod.fst ∧ (e.fs.all fun p => p.2.scal) = true ∧ FroL K cn G (e.fs.map Prod.snd) (vfs.map Prod.snd))
def Exs (W : WX) (G : Fz) (H : Hp) (σ : St) (X : Exn → Prop) : Prop := ∀ H' G' e cls d, Stp G H G' H' → ExRep K cn G' H' e cls d → X e → W cls d σ H'
def Out (G : Fz) (H : Hp) (Q : O → Prop) (R : VK) : Prop := ∀ v H' G' o fp, Stp G H G' H' → Own K cn H G' H' o v fp → Q o → R v H'
/-- .. of what is frozen -/
def OutF (G : Fz) (H : Hp) (Q : D → Prop) (R : VK) : Prop := ∀ v H' G' d, Stp G H G' H' → Fro K cn G' d v → Q d → R v H'
def OutL (G : Fz) (H : Hp) (Q : List O → Prop) (R : List V → Hp → Prop) : Prop := ∀ vs H' G' os fp, Stp G H G' H' → OwnL K cn H G' H' os vs fp → Q os → R vs H'
def OutLF (G : Fz) (H : Hp) (Q : List D → Prop) (R : List V → Hp → Prop) : Prop := ∀ vs H' G' ds, Stp G H G' H' → FroL K cn G' ds vs → Q ds → R vs H'
def OutB (G : Fz) (H : Hp) (Q : Bool → Prop) (R : Bool → Hp → Prop) : Prop := ∀ b H' G', Stp G H G' H' → Q b → R b H'
def OutP (G : Fz) (H : Hp) (Q : Option Int → Prop) (R : Option Int → Hp → Prop) : Prop := ∀ b H' G', Stp G H G' H' → Q b → R b H'

class RD (W : WX) (te : TE) (t : outParam QX) : Prop where
  run : ∀ G H σ env Q X R, Ctx G H → View K cn G σ env → Exs K cn W G H σ X → t env Q X → Out K cn G H Q R → te σ H R
class RA (W : WX) (ta : TA) (t : outParam QA) : Prop where
  run : ∀ G H σ env Q X R, Ctx G H → View K cn G σ env → Exs K cn W G H σ X → t env Q X → OutL K cn G H Q R → ta σ H R
class RT (W : WX) (tt : TT) (t : outParam QB) : Prop where
  run : ∀ G H σ env Q X R, Ctx G H → View K cn G σ env → Exs K cn W G H σ X → t env Q X → OutB G H Q R → tt σ H R
class RP (W : WX) (tp : TO) (t : outParam QP) : Prop where
  run : ∀ G H σ env Q X R, Ctx G H → View K cn G σ env → Exs K cn W G H σ X → t env Q X → OutP G H Q R → tp σ H R
/-- operations by values -/
abbrev Q1 := D → (O → Prop) → Prop
abbrev Q2 := D → D → (O → Prop) → Prop
abbrev QN := List D → (O → Prop) → Prop
abbrev QM := D → List D → (O → Prop) → Prop
class R1 (r : V → Hp → VK → Prop) (q : outParam Q1) : Prop where
  run : ∀ G H x dx Q R, Ctx G H → Fro K cn G dx x → q dx Q → Out K cn G H Q R → r x H R
class R2' (r : R2) (q : outParam Q2) : Prop where
  run : ∀ G H x y dx dy Q R, Ctx G H → Fro K cn G dx x → Fro K cn G dy y → q dx dy Q → Out K cn G H Q R → r x y H R
class RN (r : List V → Hp → VK → Prop) (q : outParam QN) : Prop where
  run : ∀ G H vs ds Q R, Ctx G H → FroL K cn G ds vs → q ds Q → Out K cn G H Q R → r vs H R
class RM (r : V → List V → Hp → VK → Prop) (q : outParam QM) : Prop where
  run : ∀ G H x dx vs ds Q R, Ctx G H → Fro K cn G dx x → FroL K cn G ds vs → q dx ds Q → Out K cn G H Q R → r x vs H R
end

section
variable {K : PySem.W.Frag} {cn : Str → Option Addr} {W : WX}

theorem FroL.scal {G G' : Fz} : ∀ {ds : List D} {vs : List V}, FroL K cn G ds vs → ds.all D.scal = true → FroL K cn G' ds vs
  | _, _, .nil, _ => .nil
  | _, _, .cons h hs, e => by
    rw [List.all_cons, Bool.and_eq_true] at e
    exact .cons (h.scal e.1) (FroL.scal hs e.2)
theorem ExRep.any {G G' : Fz} {H : Hp} {e : Exn} {cls : Value} {d : Option Addr} (h : ExRep K cn G H e cls d) : ExRep K cn G' H e cls d := by
  obtain ⟨C, h1, h2, h3⟩ := h
  refine ⟨C, h1, h2, h3.imp id ?_⟩
  rintro ⟨dd, vfs, a, b, c, s, f⟩
  exact ⟨dd, vfs, a, b, c, s, f.scal (by rw [List.all_map]; exact s)⟩
theorem View.le {G G' : Fz} {σ : St} {env : DEnv} (v : View K cn G σ env) (l : FzLe G G') : View K cn G' σ env := ⟨v.1, fun i d h =>
  let ⟨x, e, f⟩ := v.2 i d h
  ⟨x, e, f.mono l⟩⟩
theorem Exs.step {G G' : Fz} {H H' : Hp} {σ : St} {X : Exn → Prop} (x : Exs K cn W G H σ X) (s : Stp G H G' H') : Exs K cn W G' H' σ X := fun H2 G2 e cls d s2 r q => x H2 G2 e cls d (s.trans s2) r q
theorem Out.step {G G' : Fz} {H H' : Hp} {Q : O → Prop} {R : VK} (x : Out K cn G H Q R) (s : Stp G H G' H') : Out K cn G' H' Q R := fun v H2 G2 o fp s2 w q =>
  x v H2 G2 o fp (s.trans s2) ⟨w.rep, w.nd, fun a m => ⟨(w.ap a m).1, (w.ap a m).2.1, by
    cases e : H a with
    | none => rfl
    | some u =>
      by_cases f : G.af a = true
      · exact absurd ((s2.le.af a (s.le.af a f).1).1) (w.ap a m).2.1
      · have := s.same a u f e
        rw [(w.ap a m).2.2] at this; cases this⟩⟩ q
theorem OutL.step {G G' : Fz} {H H' : Hp} {Q : List O → Prop} {R : List V → Hp → Prop} (x : OutL K cn G H Q R) (s : Stp G H G' H') : OutL K cn G' H' Q R := fun v H2 G2 o fp s2 w q =>
  x v H2 G2 o fp (s.trans s2) ⟨w.rep, w.nd, fun a m => ⟨(w.ap a m).1, (w.ap a m).2.1, by
    cases e : H a with
    | none => rfl
    | some u =>
      by_cases f : G.af a = true
      · exact absurd ((s2.le.af a (s.le.af a f).1).1) (w.ap a m).2.1
      · have := s.same a u f e
        rw [(w.ap a m).2.2] at this; cases this⟩⟩ q
theorem OutB.step {G G' : Fz} {H H' : Hp} {Q : Bool → Prop} {R : Bool → Hp → Prop} (x : OutB G H Q R) (s : Stp G H G' H') : OutB G' H' Q R := fun b H2 G2 s2 q => x b H2 G2 (s.trans s2) q
theorem OutP.step {G G' : Fz} {H H' : Hp} {Q : Option Int → Prop} {R : Option Int → Hp → Prop} (x : OutP G H Q R) (s : Stp G H G' H') : OutP G' H' Q R := fun b H2 G2 s2 q => x b H2 G2 (s.trans s2) q
/-- the end with something frozen -/
theorem Out.fro {G : Fz} {H : Hp} {Q : O → Prop} {R : VK} (x : Out K cn G H Q R) {d : D} {v : V} (c : Ctx G H) (f : Fro K cn G d v) (q : Q (.fro d)) : R v H := x v H G (.fro d) [] (Stp.refl c) (Own.fro f) q
/-- the end with a new list of frozen items -/
theorem Out.lst {G : Fz} {H : Hp} {Q : O → Prop} {R : VK} (x : Out K cn G H Q R) {ds : List D} {vs : List V} {p : Addr} (c : Ctx G H) (f : FroL K cn G ds vs) (n : H p = none) (q : Q (.lst (ds.map O.fro))) : R (.ref p) (upd H p (.lst vs)) := by
  refine x (.ref p) _ G _ [p] (Stp.upd c n) ⟨.lst upd_same (RepL.fro f), by simp, fun a m => ?_⟩ q
  rw [List.mem_singleton] at m; subst m
  exact ⟨c.sub.free n, fun h => (by obtain ⟨_, i, big, seed, e, _⟩ := c.feed a h; rw [n] at e; cases e), n⟩
theorem Out.tup {G : Fz} {H : Hp} {Q : O → Prop} {R : VK} (x : Out K cn G H Q R) {ds : List D} {vs : List V} {p : Addr} (c : Ctx G H) (f : FroL K cn G ds vs) (n : H p = none) (q : Q (.tup (ds.map O.fro))) : R (.ref p) (upd H p (.tup vs)) := by
  refine x (.ref p) _ G _ [p] (Stp.upd c n) ⟨.tup upd_same (RepL.fro f), by simp, fun a m => ?_⟩ q
  rw [List.mem_singleton] at m; subst m
  exact ⟨c.sub.free n, fun h => (by obtain ⟨_, i, big, seed, e, _⟩ := c.feed a h; rw [n] at e; cases e), n⟩
/-- the value frozen -/
theorem RD.fro {te : TE} {t : QX} (h : RD K cn W te t) {G : Fz} {H : Hp} {σ : St} {env : DEnv} {Q : D → Prop} {X : Exn → Prop} {R : VK} (c : Ctx G H) (vw : View K cn G σ env) (ex : Exs K cn W G H σ X) (q : t env (fun o => Q o.toD) X)
    (r : OutF K cn G H Q R) : te σ H R :=
  h.run G H σ env _ X R c vw ex q fun v H' G' o fp s w z => r v H' (G'.add H' fp) o.toD (s.freeze w.ap) (w.freeze s.ctx) z
theorem RA.fro {ta : TA} {t : QA} (h : RA K cn W ta t) {G : Fz} {H : Hp} {σ : St} {env : DEnv} {Q : List D → Prop} {X : Exn → Prop} {R : List V → Hp → Prop} (c : Ctx G H) (vw : View K cn G σ env) (ex : Exs K cn W G H σ X) (q : t env (fun o => Q (toDL o)) X)
    (r : OutLF K cn G H Q R) : ta σ H R :=
  h.run G H σ env _ X R c vw ex q fun v H' G' o fp s w z => r v H' (G'.add H' fp) (toDL o) (s.freeze w.ap) (w.freeze s.ctx) z

/-! ### names, constants -/
@[simp] def qVar (i : Nat) : QX := fun env Q _ => match env[i]? with
  | some (some d) => Q (.fro d)
  | _ => False
instance rd_var {i : Nat} : RD K cn W (tVar i) (qVar i) := ⟨fun G H σ env Q X R c vw ex q r => by
  unfold qVar at q
  split at q
  · rename_i d e
    obtain ⟨v, e2, f⟩ := vw.2 i d e
    exact ⟨v, e2, r.fro c f q⟩
  · exact q.elim⟩
/-- scalars -/
def ofV : V → D
  | .bl b => .bl b
  | .int i => .int i
  | .str x => .str x
  | _ => .non
def isSc : V → Bool
  | .non => true
  | .bl _ => true
  | .int _ => true
  | .str _ => true
  | _ => false
@[simp] theorem ofV_non : ofV .non = .non := rfl
@[simp] theorem ofV_bl {b} : ofV (.bl b) = .bl b := rfl
@[simp] theorem ofV_int {b} : ofV (.int b) = .int b := rfl
@[simp] theorem ofV_str {b} : ofV (.str b) = .str b := rfl
@[simp] theorem isSc_non : isSc .non = true := rfl
@[simp] theorem isSc_bl {b} : isSc (.bl b) = true := rfl
@[simp] theorem isSc_int {b} : isSc (.int b) = true := rfl
@[simp] theorem isSc_str {b} : isSc (.str b) = true := rfl
theorem fro_sc {G : Fz} {v : V} (h : isSc v = true) : Fro K cn G (ofV v) v := by
  cases v <;> first | exact .non | exact .bl | exact .int | exact .str | (simp [isSc] at h)
@[simp] def qC (d : D) : QX := fun _ Q _ => Q (.fro d)
instance rd_c_non : RD K cn W (tC .non) (qC .non) := ⟨fun G H σ env Q X R c vw ex q r => r.fro c .non q⟩
instance rd_c_bl {b : Bool} : RD K cn W (tC (.bl b)) (qC (.bl b)) := ⟨fun G H σ env Q X R c vw ex q r => r.fro c .bl q⟩
instance rd_c_int {i : Int} : RD K cn W (tC (.int i)) (qC (.int i)) := ⟨fun G H σ env Q X R c vw ex q r => r.fro c .int q⟩
instance rd_c_ty {n : String} : RD K cn W (tC (.ty n)) (qC (.ty n)) := ⟨fun G H σ env Q X R c vw ex q r => r.fro c .ty q⟩
instance rd_c_str {x : Str} : RD K cn W (tC (.str x)) (qC (.str x)) := ⟨fun G H σ env Q X R c vw ex q r => r.fro c .str q⟩

/-! ### operations -/
@[simp] def qOp (q : Q2) (ta tb : QX) : QX := fun env Q X => ta env (fun a => tb env (fun b => q a.toD b.toD Q) X) X
instance rd_op {r : R2} {q : Q2} {ta tb : TE} {pa pb : QX} [h : R2' K cn r q] [ha : RD K cn W ta pa] [hb : RD K cn W tb pb] : RD K cn W (tOp r ta tb) (qOp q pa pb) := ⟨fun G H σ env Q X R c vw ex p z =>
  ha.fro (Q := fun a => pb env (fun b => q a b.toD Q) X) c vw ex p fun x H1 G1 dx s1 f1 p1 =>
  hb.fro (Q := fun b => q dx b Q) s1.ctx (vw.le s1.le) (ex.step s1) p1 fun y H2 G2 dy s2 f2 p2 =>
  h.run G2 H2 x y dx dy Q R s2.ctx (f1.mono s2.le) f2 p2 ((z.step s1).step s2)⟩
@[simp] def qUn (q : Q1) (ta : QX) : QX := fun env Q X => ta env (fun a => q a.toD Q) X
instance rd_un {r : V → Hp → VK → Prop} {q : Q1} {ta : TE} {pa : QX} [h : R1 K cn r q] [ha : RD K cn W ta pa] : RD K cn W (tUn r ta) (qUn q pa) := ⟨fun G H σ env Q X R c vw ex p z =>
  ha.fro (Q := fun a => q a Q) c vw ex p fun x H1 G1 dx s1 f1 p1 => h.run G1 H1 x dx Q R s1.ctx f1 p1 (z.step s1)⟩

@[simp] def D.isI (d : D) (k : Int → Prop) : Prop := match d with
  | .int i => k i
  | _ => False
@[simp] def D.isB (d : D) (k : Bool → Prop) : Prop := match d with
  | .bl i => k i
  | _ => False
@[simp] def D.isS (d : D) (k : Str → Prop) : Prop := match d with
  | .str i => k i
  | _ => False
@[simp] def D.isL (d : D) (k : List D → Prop) : Prop := match d with
  | .lst i => k i
  | _ => False
@[simp] def D.isT (d : D) (k : List D → Prop) : Prop := match d with
  | .tup i => k i
  | _ => False
@[simp] def D.isLT (d : D) (k : List D → Prop) : Prop := match d with
  | .lst i => k i
  | .tup i => k i
  | _ => False
theorem Fro.isI {G : Fz} {d : D} {v : V} {k : Int → Prop} (f : Fro K cn G d v) (h : d.isI k) : ∃ i, d = .int i ∧ v = .int i ∧ k i := by
  cases f <;> first | exact ⟨_, rfl, rfl, h⟩ | exact h.elim
theorem Fro.isB {G : Fz} {d : D} {v : V} {k : Bool → Prop} (f : Fro K cn G d v) (h : d.isB k) : ∃ i, d = .bl i ∧ v = .bl i ∧ k i := by
  cases f <;> first | exact ⟨_, rfl, rfl, h⟩ | exact h.elim
theorem Fro.isS {G : Fz} {d : D} {v : V} {k : Str → Prop} (f : Fro K cn G d v) (h : d.isS k) : ∃ i, d = .str i ∧ v = .str i ∧ k i := by
  cases f <;> first | exact ⟨_, rfl, rfl, h⟩ | exact h.elim
theorem Fro.isL {G : Fz} {d : D} {v : V} {k : List D → Prop} (f : Fro K cn G d v) (h : d.isL k) : ∃ ds a vs, d = .lst ds ∧ v = .ref a ∧ G.hp a = some (.lst vs) ∧ FroL K cn G ds vs ∧ k ds := by
  cases f with
  | lst e hs => exact ⟨_, _, _, rfl, rfl, e, hs, h⟩
  | _ => exact h.elim
theorem Fro.isT {G : Fz} {d : D} {v : V} {k : List D → Prop} (f : Fro K cn G d v) (h : d.isT k) : ∃ ds a vs, d = .tup ds ∧ v = .ref a ∧ SqT K G.hp a vs ∧ FroL K cn G ds vs ∧ k ds := by
  cases f with
  | tup e hs => exact ⟨_, _, _, rfl, rfl, e, hs, h⟩
  | _ => exact h.elim
theorem Fro.isLT {G : Fz} {d : D} {v : V} {k : List D → Prop} (f : Fro K cn G d v) (h : d.isLT k) : ∃ ds a vs, (d = .lst ds ∨ d = .tup ds) ∧ v = .ref a ∧ (SqL K G.hp a vs ∨ SqT K G.hp a vs) ∧ FroL K cn G ds vs ∧ k ds := by
  cases f with
  | lst e hs => exact ⟨_, _, _, .inl rfl, rfl, .inl (.inl (.inl e)), hs, h⟩
  | tup e hs => exact ⟨_, _, _, .inr rfl, rfl, .inr e, hs, h⟩
  | _ => exact h.elim
theorem sq_sub {G : Fz} {H : Hp} {a : Addr} {vs : List V} (c : Ctx G H) (h : SqL K G.hp a vs ∨ SqT K G.hp a vs) : SqL K H a vs ∨ SqT K H a vs := h.imp c.sub.seq (Same.sqT c.sub)

@[simp] def oI0 (g : Int → Int → V) : Q2 := fun a b Q => a.isI fun i => b.isI fun j => isSc (g i j) = true ∧ Q (.fro (ofV (g i j)))
instance r2_I0 {g : Int → Int → V} : R2' K cn (rI0 g) (oI0 g) := ⟨fun G H x y dx dy Q R c fx fy q z => by
  obtain ⟨i, rfl, rfl, q⟩ := fx.isI q
  obtain ⟨j, rfl, rfl, q⟩ := fy.isI q
  exact ⟨i, j, rfl, rfl, z.fro c (fro_sc q.1) q.2⟩⟩
@[simp] def oI (C : Int → Int → Prop) (g : Int → Int → V) : Q2 := fun a b Q => a.isI fun i => b.isI fun j => C i j ∧ isSc (g i j) = true ∧ Q (.fro (ofV (g i j)))
instance r2_I {C : Int → Int → Prop} {g : Int → Int → V} : R2' K cn (rI C g) (oI C g) := ⟨fun G H x y dx dy Q R c fx fy q z => by
  obtain ⟨i, rfl, rfl, q⟩ := fx.isI q
  obtain ⟨j, rfl, rfl, q⟩ := fy.isI q
  exact ⟨i, j, rfl, rfl, q.1, z.fro c (fro_sc q.2.1) q.2.2⟩⟩
@[simp] def oU (g : Int → V) : Q1 := fun a Q => a.isI fun i => isSc (g i) = true ∧ Q (.fro (ofV (g i)))
instance r1_U {g : Int → V} : R1 K cn (rU g) (oU g) := ⟨fun G H x dx Q R c fx q z => by
  obtain ⟨i, rfl, rfl, q⟩ := fx.isI q
  exact ⟨i, rfl, z.fro c (fro_sc q.1) q.2⟩⟩

/-! ### == of scalars -/
def eqD : D → D → Bool
  | .non, .non => true
  | .bl a, .bl b => a == b
  | .int a, .int b => a == b
  | .str a, .str b => a == b
  | _, _ => false
def scD : D → D → Bool
  | .non, .non => true | .non, .int _ => true | .int _, .non => true | .non, .bl _ => true | .bl _, .non => true | .non, .str _ => true | .str _, .non => true
  | .int _, .int _ => true | .bl _, .bl _ => true | .str _, .str _ => true
  | .int _, .str _ => true | .str _, .int _ => true | .bl _, .str _ => true | .str _, .bl _ => true
  | _, _ => false
theorem eq_sc {G : Fz} {dx dy : D} {x y : V} (fx : Fro K cn G dx x) (fy : Fro K cn G dy y) (h : scD dx dy = true) : L2.scal x y = true ∧ decide (x = y) = eqD dx dy := by
  cases fx <;> cases fy <;> first | (simp [scD] at h; done) | exact ⟨rfl, by simp [eqD, Bool.beq_eq_decide_eq]⟩
@[simp] def oEq : Q2 := fun a b Q => scD a b = true ∧ Q (.fro (.bl (eqD a b)))
@[simp] def oNe : Q2 := fun a b Q => scD a b = true ∧ Q (.fro (.bl (!eqD a b)))
instance r2_eq : R2' K cn rEq oEq := ⟨fun G H x y dx dy Q R c fx fy q z => by
  obtain ⟨e1, e2⟩ := eq_sc fx fy q.1
  refine ⟨e1, ?_⟩
  rw [e2]
  exact z.fro c .bl q.2⟩
instance r2_ne : R2' K cn rNe oNe := ⟨fun G H x y dx dy Q R c fx fy q z => by
  obtain ⟨e1, e2⟩ := eq_sc fx fy q.1
  refine ⟨e1, ?_⟩
  rw [e2]
  exact z.fro c .bl q.2⟩
@[simp] theorem eqD_int {a b : Int} : eqD (.int a) (.int b) = (a == b) := rfl
@[simp] theorem eqD_str {a b : Str} : eqD (.str a) (.str b) = (a == b) := rfl
@[simp] theorem eqD_bl {a b : Bool} : eqD (.bl a) (.bl b) = (a == b) := rfl
@[simp] theorem eqD_nn : eqD .non .non = true := rfl
@[simp] theorem eqD_ni {a : Int} : eqD .non (.int a) = false := rfl
@[simp] theorem eqD_in {a : Int} : eqD (.int a) .non = false := rfl
@[simp] theorem eqD_ns {a : Str} : eqD .non (.str a) = false := rfl
@[simp] theorem eqD_sn {a : Str} : eqD (.str a) .non = false := rfl
@[simp] theorem scD_int {a b : Int} : scD (.int a) (.int b) = true := rfl
@[simp] theorem scD_str {a b : Str} : scD (.str a) (.str b) = true := rfl
@[simp] theorem scD_bl {a b : Bool} : scD (.bl a) (.bl b) = true := rfl
@[simp] theorem scD_nn : scD .non .non = true := rfl
@[simp] theorem scD_ni {a : Int} : scD .non (.int a) = true := rfl
@[simp] theorem scD_in {a : Int} : scD (.int a) .non = true := rfl
@[simp] theorem scD_ns {a : Str} : scD .non (.str a) = true := rfl
@[simp] theorem scD_sn {a : Str} : scD (.str a) .non = true := rfl

/-! ### is None -/
def isNon : D → Bool
  | .non => true
  | _ => false
@[simp] theorem isNon_non : isNon .non = true := rfl
@[simp] theorem isNon_int {i} : isNon (.int i) = false := rfl
@[simp] theorem isNon_bl {i} : isNon (.bl i) = false := rfl
@[simp] theorem isNon_str {i} : isNon (.str i) = false := rfl
@[simp] theorem isNon_lst {i} : isNon (.lst i) = false := rfl
@[simp] theorem isNon_tup {i} : isNon (.tup i) = false := rfl
@[simp] theorem isNon_dct {i} : isNon (.dct i) = false := rfl
@[simp] theorem isNon_dctT {i} : isNon (.dctT i) = false := rfl
@[simp] theorem isNon_ins {i j} : isNon (.ins i j) = false := rfl
theorem Fro.isNon {G : Fz} {d : D} {v : V} (f : Fro K cn G d v) : decide (v = .non) = PD.isNon d := by
  cases f <;> simp [PD.isNon]
end
end PD

end PDExpr_

section PDOps_
set_option maxRecDepth 100000
set_option maxHeartbeats 1000000
/-! PDOps: operations by values, tests, argument lists, calls of built-ins, slices, methods, comprehensions. -/
namespace PD
open PySem L2

/-! ### one of two rules, by the values -/
def rOr (r1 r2 : R2) : R2 := fun x y H Q => r1 x y H Q ∨ r2 x y H Q
theorem opr_or {X : Cx} {f : Value → Value → Sem Value} {r1 r2 : R2} (h1 : OpR X f r1) (h2 : OpR X f r2) : OpR X f (rOr r1 r2) := fun pins s σ H x y v u Q I rx ry h =>
  h.elim (h1 pins s σ H x y v u Q I rx ry) (h2 pins s σ H x y v u Q I rx ry)
def rSlOr (r1 r2 : V → Option Int → Option Int → Hp → VK → Prop) : V → Option Int → Option Int → Hp → VK → Prop := fun x l u H Q => r1 x l u H Q ∨ r2 x l u H Q
theorem slr_or {X : Cx} {r1 r2 : V → Option Int → Option Int → Hp → VK → Prop} (h1 : SlR X r1) (h2 : SlR X r2) : SlR X (rSlOr r1 r2) := fun pins s σ H x v vl vu lo hi sl Q I rx hs pl pu h =>
  h.elim (h1 pins s σ H x v vl vu lo hi sl Q I rx hs pl pu) (h2 pins s σ H x v vl vu lo hi sl Q I rx hs pl pu)
def rCOr (r1 r2 : List V → Hp → VK → Prop) : List V → Hp → VK → Prop := fun x H Q => r1 x H Q ∨ r2 x H Q
theorem callr_or {X : Cx} {f : Value} {r1 r2 : List V → Hp → VK → Prop} (h1 : CallR X f r1) (h2 : CallR X f r2) : CallR X f (rCOr r1 r2) := fun pins s σ H xs us Q I r h =>
  h.elim (h1 pins s σ H xs us Q I r) (h2 pins s σ H xs us Q I r)

section
variable {K : PySem.W.Frag} {cn : Str → Option Addr} {W : WX}
@[simp] def oOr (q1 q2 : Q2) : Q2 := fun a b Q => q1 a b Q ∨ q2 a b Q
instance r2_or {r1 r2 : R2} {q1 q2 : Q2} [h1 : R2' K cn r1 q1] [h2 : R2' K cn r2 q2] : R2' K cn (rOr r1 r2) (oOr q1 q2) := ⟨fun G H x y dx dy Q R c fx fy q z =>
  q.elim (fun q => .inl (h1.run G H x y dx dy Q R c fx fy q z)) (fun q => .inr (h2.run G H x y dx dy Q R c fx fy q z))⟩
@[simp] def nOr (q1 q2 : QN) : QN := fun a Q => q1 a Q ∨ q2 a Q
instance rn_or {r1 r2 : List V → Hp → VK → Prop} {q1 q2 : QN} [h1 : RN K cn r1 q1] [h2 : RN K cn r2 q2] : RN K cn (rCOr r1 r2) (nOr q1 q2) := ⟨fun G H vs ds Q R c f q z =>
  q.elim (fun q => .inl (h1.run G H vs ds Q R c f q z)) (fun q => .inr (h2.run G H vs ds Q R c f q z))⟩

/-! ### None, bools: is -/
@[simp] def oIsN : Q2 := fun a b Q => isNon b = true ∧ Q (.fro (.bl (isNon a)))
@[simp] def oNotN : Q2 := fun a b Q => isNon b = true ∧ Q (.fro (.bl (!isNon a)))
instance r2_isN : R2' K cn rIsN oIsN := ⟨fun G H x y dx dy Q R c fx fy q z => by
  have e := fy.isNon
  rw [q.1] at e
  refine ⟨of_decide_eq_true e, ?_⟩
  rw [fx.isNon]
  exact z.fro c .bl q.2⟩
instance r2_notN : R2' K cn rNotN oNotN := ⟨fun G H x y dx dy Q R c fx fy q z => by
  have e := fy.isNon
  rw [q.1] at e
  refine ⟨of_decide_eq_true e, ?_⟩
  rw [fx.isNon]
  exact z.fro c .bl q.2⟩

/-! ### texts -/
def rAddStr : R2 := fun x y H Q => ∃ i j, x = .str i ∧ y = .str j ∧ i.length + j.length ≤ sizeLine ∧ Q (.str (i ++ j)) H
theorem op_addStr {X : Cx} : OpR X (binaryOp .Add) rAddStr := op_add_str
@[simp] def oAddStr : Q2 := fun a b Q => a.isS fun i => b.isS fun j => i.length + j.length ≤ 16777216 ∧ Q (.fro (.str (i ++ j)))
instance r2_addStr : R2' K cn rAddStr oAddStr := ⟨fun G H x y dx dy Q R c fx fy q z => by
  obtain ⟨i, rfl, rfl, q⟩ := fx.isS q
  obtain ⟨j, rfl, rfl, q⟩ := fy.isS q
  exact ⟨i, j, rfl, rfl, by rw [sizeLine_eq]; exact q.1, z.fro c .str q.2⟩⟩
/-- two texts compared -/
def rSS (p : Str → Str → Bool) : R2 := fun x y H Q => ∃ i j, x = .str i ∧ y = .str j ∧ Q (.bl (p i j)) H
@[simp] def oSS (p : Str → Str → Bool) : Q2 := fun a b Q => a.isS fun i => b.isS fun j => Q (.fro (.bl (p i j)))
instance r2_SS {p : Str → Str → Bool} : R2' K cn (rSS p) (oSS p) := ⟨fun G H x y dx dy Q R c fx fy q z => by
  obtain ⟨i, rfl, rfl, q⟩ := fx.isS q
  obtain ⟨j, rfl, rfl, q⟩ := fy.isS q
  exact ⟨i, j, rfl, rfl, z.fro c .bl q⟩⟩
theorem op_ltS {X : Cx} : OpR X (compareOp .Lt) (rSS fun i j => decide (i.cps.toList < j.cps.toList)) := op_lt_str
theorem op_leS {X : Cx} : OpR X (compareOp .LtE) (rSS fun i j => !decide (j.cps.toList < i.cps.toList)) := op_le_str
theorem op_gtS {X : Cx} : OpR X (compareOp .Gt) (rSS fun i j => decide (j.cps.toList < i.cps.toList)) := op_gt_str
theorem op_geS {X : Cx} : OpR X (compareOp .GtE) (rSS fun i j => !decide (i.cps.toList < j.cps.toList)) := op_ge_str
/-- text in text -/
def inS (i j : Str) : Bool := !(Builtin.Str.occurrences j i 0 j.length 1).isEmpty
theorem op_inS' {X : Cx} : OpR X (compareOp .In) (rSS inS) := op_in_str
theorem op_notInS' {X : Cx} : OpR X (compareOp .NotIn) (rSS fun i j => !inS i j) := op_notin_str

/-! ### subscripts -/
@[simp] def oIx : Q2 := fun a b Q => match a with
  | .lst ds => b.isI fun i => match atI ds i with
    | some d => Q (.fro d)
    | none => False
  | .tup ds => b.isI fun i => match atI ds i with
    | some d => Q (.fro d)
    | none => False
  | .str s => b.isI fun i => s.length ≤ 16777216 ∧ match atI s.cps.toList i with
    | some c => Q (.fro (.str ⟨#[c]⟩))
    | none => False
  | .scr _ ns => b.isI fun i => 0 ≤ i ∧ i < ns.length ∧ ∀ x, Q (.fro (.int x))
  | _ => False
theorem FroL.atI {G : Fz} {ds : List D} {vs : List V} {i : Int} {d : D} (h : FroL K cn G ds vs) (e : L2.atI ds i = some d) : ∃ v, L2.atI vs i = some v ∧ Fro K cn G d v := by
  unfold L2.atI at e ⊢
  rw [h.length]
  cases q : ixN ds.length i with
  | none => rw [q] at e; cases e
  | some j => rw [q] at e; exact h.get e
instance r2_ix : R2' K cn (rIx K) oIx := ⟨fun G H x y dx dy Q R c fx fy q z => by
  cases fx with
  | lst e hs =>
    obtain ⟨i, rfl, rfl, q⟩ := fy.isI q
    split at q
    · rename_i d ed
      obtain ⟨v, ev, fv⟩ := hs.atI ed
      exact .inl ⟨_, _, i, v, rfl, rfl, .inl (.inl (c.sub _ _ e)), ev, z.fro c fv q⟩
    · exact q.elim
  | tup e hs =>
    obtain ⟨i, rfl, rfl, q⟩ := fy.isI q
    split at q
    · rename_i d ed
      obtain ⟨v, ev, fv⟩ := hs.atI ed
      exact .inr (.inl ⟨_, _, i, v, rfl, rfl, Same.sqT c.sub e, ev, z.fro c fv q⟩)
    · exact q.elim
  | str =>
    obtain ⟨i, rfl, rfl, q⟩ := fy.isI q
    obtain ⟨q1, q⟩ := q
    split at q
    · rename_i d ed
      exact .inr (.inr ⟨_, i, d, rfl, rfl, by rw [sizeLine_eq]; exact q1, ed, z.fro c .str q⟩)
    · exact q.elim
  | @scr a ns e =>
    obtain ⟨i, rfl, rfl, q0, q1, q⟩ := fy.isI q
    have hi : i.toNat < ns.length := by omega
    refine .inl ⟨_, _, i, .int ns[i.toNat], rfl, rfl, c.sub.seq e, ?_, z.fro c .int (q _)⟩
    unfold L2.atI L2.ixN
    rw [List.length_map]
    simp [q0, q1, hi]
  | _ => exact q.elim⟩

/-! ### in, of flat items -/
def flatD : D → Bool
  | .non => true
  | .bl _ => true
  | .int _ => true
  | .str _ => true
  | _ => false
/-- == of flat data (True is 1) -/
def eqF : D → D → Bool
  | .non, .non => true
  | .bl a, .bl b => a == b
  | .bl a, .int b => (if a then 1 else 0) == b
  | .int a, .bl b => a == (if b then 1 else 0)
  | .int a, .int b => a == b
  | .str a, .str b => a == b
  | _, _ => false
theorem Fro.flat {G : Fz} {d : D} {v : V} (f : Fro K cn G d v) (h : flatD d = true) : flatV v = true := by
  cases f <;> first | rfl | (simp [flatD] at h)
theorem FroL.flat {G : Fz} : ∀ {ds : List D} {vs : List V}, FroL K cn G ds vs → ds.all flatD = true → vs.all flatV = true
  | _, _, .nil, _ => rfl
  | _, _, .cons h hs, e => by
    rw [List.all_cons, Bool.and_eq_true] at e ⊢
    exact ⟨h.flat e.1, FroL.flat hs e.2⟩
theorem eqF_V {G : Fz} {d e : D} {x y : V} (f : Fro K cn G d x) (g : Fro K cn G e y) (h : flatD d = true) (k : flatD e = true) : eqV x y = eqF d e := by
  cases f <;> cases g <;> first | rfl | (simp [flatD] at h; done) | (simp [flatD] at k; done)
theorem inF_V {G : Fz} {d : D} {x : V} (f : Fro K cn G d x) (h : flatD d = true) : ∀ {ds : List D} {vs : List V}, FroL K cn G ds vs → ds.all flatD = true → inV x vs = ds.any fun e => eqF e d
  | _, _, .nil, _ => rfl
  | _, _, .cons g hs, e => by
    rw [List.all_cons, Bool.and_eq_true] at e
    have := inF_V f h hs e.2
    unfold inV at this ⊢
    rw [List.any_cons, List.any_cons, this, eqF_V g f e.1 h]
@[simp] def oIn (neg : Bool) : Q2 := fun a b Q => b.isLT fun ds => flatD a = true ∧ ds.all flatD = true ∧ Q (.fro (.bl (if neg then !(ds.any fun e => eqF e a) else ds.any fun e => eqF e a)))
instance r2_in {neg : Bool} : R2' K cn (rIn K neg) (oIn neg) := ⟨fun G H x y dx dy Q R c fx fy q z => by
  obtain ⟨ds, a, vs, _, rfl, e, hs, q1, q2, q⟩ := fy.isLT q
  refine ⟨a, vs, rfl, sq_sub c e, fx.flat q1, hs.flat q2, ?_⟩
  rw [inF_V fx q1 hs q2]
  exact z.fro c .bl q⟩

/-! ### lists: +, * -/
@[simp] def oCat : Q2 := fun a b Q => a.isL fun xs => b.isL fun ys => xs.length + ys.length ≤ 16777216 ∧ Q (.lst ((xs ++ ys).map .fro))
instance r2_cat : R2' K cn rCat oCat := ⟨fun G H x y dx dy Q R c fx fy q z => by
  obtain ⟨xs, a, vs, rfl, rfl, e, hs, q⟩ := fx.isL q
  obtain ⟨ys, b, us, rfl, rfl, e', hs', q⟩ := fy.isL q
  exact ⟨a, b, vs, us, rfl, rfl, c.sub _ _ e, c.sub _ _ e', by rw [hs.length, hs'.length, sizeLine_eq]; exact q.1, fun p hp => z.lst c (hs.append hs') hp q.2⟩⟩
theorem FroL.rep {G : Fz} {ds : List D} {vs : List V} (h : FroL K cn G ds vs) : ∀ n : Nat, FroL K cn G (List.replicate n ds).flatten (List.replicate n vs).flatten
  | 0 => .nil
  | n + 1 => by
    rw [List.replicate_succ, List.flatten_cons, List.replicate_succ, List.flatten_cons]
    exact h.append (FroL.rep h n)
@[simp] def oRep : Q2 := fun a b Q => a.isL fun xs => b.isI fun k => -(2 ^ 63) ≤ k ∧ k < 2 ^ 63 ∧ xs.length * k.toNat ≤ 16777216 ∧ Q (.lst ((List.replicate k.toNat xs).flatten.map .fro))
instance r2_rep : R2' K cn rRep oRep := ⟨fun G H x y dx dy Q R c fx fy q z => by
  obtain ⟨xs, a, vs, rfl, rfl, e, hs, q⟩ := fx.isL q
  obtain ⟨k, rfl, rfl, q⟩ := fy.isI q
  exact ⟨a, k, vs, rfl, rfl, c.sub _ _ e, q.1, q.2.1, by rw [hs.length, sizeLine_eq]; exact q.2.2.1, fun p hp => z.lst c (hs.rep _) hp q.2.2.2⟩⟩

/-! ### == at any depth -/
mutual
def D.toPy : D → PyData
  | .non => .none
  | .bl b => .bool b
  | .int i => .int i
  | .str x => .str x
  | .lst xs => .list (toPyL xs)
  | .tup xs => .tuple (toPyL xs)
  | _ => .none
def toPyL : List D → List PyData
  | [] => []
  | d :: ds => d.toPy :: toPyL ds
end
mutual
def D.plain : D → Bool
  | .non => true
  | .bl b => true
  | .int i => true
  | .str x => true
  | .lst xs => plainL xs
  | .tup xs => plainL xs
  | _ => false
def plainL : List D → Bool
  | [] => true
  | d :: ds => d.plain && plainL ds
end
mutual
theorem Fro.dp {G : Fz} {H : Hp} (s : Same G.hp H) : ∀ {d : D} {v : V}, Fro K cn G d v → d.plain = true → Dp K H v d.toPy
  | _, _, .non, _ => by rw [D.toPy]; exact .non
  | _, _, .bl, _ => by rw [D.toPy]; exact .bl _
  | _, _, .int, _ => by rw [D.toPy]; exact .int _
  | _, _, .str, _ => by rw [D.toPy]; exact .str _
  | _, _, .lst h hs, p => by rw [D.toPy]; exact .lst (.inl (.inl (s _ _ h))) (FroL.dp s hs (by rw [D.plain] at p; exact p))
  | _, _, .tup h hs, p => by rw [D.toPy]; exact .tup (Same.sqT s h) (FroL.dp s hs (by rw [D.plain] at p; exact p))
  | _, _, .dct _ _ _, p => by rw [D.plain] at p <;> first | cases p | (intros; rintro ⟨⟩)
  | _, _, .dctT _ _ _, p => by rw [D.plain] at p <;> first | cases p | (intros; rintro ⟨⟩)
  | _, _, .ins _ _ _ _ _, p => by rw [D.plain] at p <;> first | cases p | (intros; rintro ⟨⟩)
  | _, _, .feed _, p => by rw [D.plain] at p <;> first | cases p | (intros; rintro ⟨⟩)
  | _, _, .scr _, p => by rw [D.plain] at p <;> first | cases p | (intros; rintro ⟨⟩)
  | _, _, .ty, p => by rw [D.plain] at p <;> first | cases p | (intros; rintro ⟨⟩)
theorem FroL.dp {G : Fz} {H : Hp} (s : Same G.hp H) : ∀ {ds : List D} {vs : List V}, FroL K cn G ds vs → plainL ds = true → DpAll K H vs (toPyL ds)
  | _, _, .nil, _ => by rw [toPyL]; exact .nil
  | _, _, .cons h hs, p => by
    rw [plainL, Bool.and_eq_true] at p
    rw [toPyL]
    exact .cons (Fro.dp s h p.1) (FroL.dp s hs p.2)
end
@[simp] def oEqD : Q2 := fun a b Q => a.plain = true ∧ b.plain = true ∧ SeqAt.shaped a.toPy = true ∧ SeqAt.shaped b.toPy = true ∧ Q (.fro (.bl (PyData.eqv a.toPy b.toPy)))
@[simp] def oNeD : Q2 := fun a b Q => a.plain = true ∧ b.plain = true ∧ SeqAt.shaped a.toPy = true ∧ SeqAt.shaped b.toPy = true ∧ Q (.fro (.bl (!PyData.eqv a.toPy b.toPy)))
instance r2_eqD : R2' K cn (rEqD K) oEqD := ⟨fun G H x y dx dy Q R c fx fy q z =>
  ⟨_, _, fx.dp c.sub q.1, fy.dp c.sub q.2.1, q.2.2.1, q.2.2.2.1, z.fro c .bl q.2.2.2.2⟩⟩
instance r2_neD : R2' K cn (rNeD K) oNeD := ⟨fun G H x y dx dy Q R c fx fy q z =>
  ⟨_, _, fx.dp c.sub q.1, fy.dp c.sub q.2.1, q.2.2.1, q.2.2.2.1, z.fro c .bl q.2.2.2.2⟩⟩

/-! ### tests -/
@[simp] def qTest (t : QX) : QB := fun env Q X => t env (fun o => o.toD.isB Q) X
instance rt_test {te : TE} {t : QX} [h : RD K cn W te t] : RT K cn W (tTest te) (qTest t) := ⟨fun G H σ env Q X R c vw ex q z =>
  h.fro (Q := fun d => d.isB Q) c vw ex q fun v H' G' d s f q => by
    obtain ⟨k, rfl, rfl, q⟩ := f.isB q
    exact ⟨k, rfl, z k H' G' s q⟩⟩
instance rt_B {te : TE} {t : QX} [h : RD K cn W te t] : RT K cn W (tB te) (qTest t) := ⟨fun G H σ env Q X R c vw ex q z =>
  h.fro (Q := fun d => d.isB Q) c vw ex q fun v H' G' d s f q => by
    obtain ⟨k, rfl, rfl, q⟩ := f.isB q
    exact ⟨k, rfl, z k H' G' s q⟩⟩
/-- truth -/
def truD : D → Option Bool
  | .non => some false
  | .bl b => some b
  | .int i => some (i != 0)
  | .str x => if x.length ≤ 16777216 then some ((x.length : Int) != 0) else none
  | .lst xs => some (!xs.isEmpty)
  | .tup xs => some (!xs.isEmpty)
  | .dct kvs => some (!kvs.isEmpty)
  | _ => none
@[simp] theorem truD_non : truD .non = some false := rfl
@[simp] theorem truD_bl {b} : truD (.bl b) = some b := rfl
@[simp] theorem truD_int {b} : truD (.int b) = some (b != 0) := rfl
@[simp] theorem truD_lst {b} : truD (.lst b) = some (!b.isEmpty) := rfl
@[simp] theorem truD_tup {b} : truD (.tup b) = some (!b.isEmpty) := rfl
@[simp] theorem truD_dct {b} : truD (.dct b) = some (!b.isEmpty) := rfl
theorem FroL.empty {G : Fz} {ds : List D} {vs : List V} (h : FroL K cn G ds vs) : (!ds.isEmpty) = !vs.isEmpty := by cases h <;> rfl
theorem Fro.tru {G : Fz} {H : Hp} {d : D} {v : V} {k : Bool} (s : Same G.hp H) (f : Fro K cn G d v) (h : truD d = some k) : TruV K v H k := by
  cases f with
  | non => exact (Option.some.inj h).symm
  | bl => exact (Option.some.inj h).symm
  | int => exact (Option.some.inj h).symm
  | str =>
    unfold truD at h
    simp only at h
    split at h
    · rename_i l
      exact ⟨by rw [sizeLine_eq]; exact l, (Option.some.inj h).symm⟩
    · cases h
  | lst e hs => exact .inl ⟨_, .inl (.inl (s _ _ e)), (Option.some.inj h).symm.trans hs.empty⟩
  | tup e hs => exact .inr (.inl ⟨_, Same.sqT s e, (Option.some.inj h).symm.trans hs.empty⟩)
  | dct e e2 hs =>
    refine .inr (.inr ⟨_, s _ _ e, (Option.some.inj h).symm.trans ?_⟩)
    have := congrArg List.isEmpty e2
    rw [List.isEmpty_map, List.isEmpty_map] at this
    rw [this]
  | _ => cases h
def tTru (K : PySem.W.Frag) (ta : TE) : TT := fun σ H Q => ta σ H fun x H' => ∃ k, TruV K x H' k ∧ Q k H'
theorem pt_tru {X : Cx} {a : Expr} {ta : TE} (ha : PE X a ta) (he : ∀ whole, isTrue a X.env whole = (do let v ← whole; standAt a.pos; PySem.holding [v] (truthy v))) : PT X a (tTru X.K ta) := pt_truth ha he
@[simp] def qTru (t : QX) : QB := fun env Q X => t env (fun o => match truD o.toD with
  | some k => Q k
  | none => False) X
instance rt_tru {te : TE} {t : QX} [h : RD K cn W te t] : RT K cn W (tTru K te) (qTru t) := ⟨fun G H σ env Q X R c vw ex q z =>
  h.fro (Q := fun d => match truD d with
    | some k => Q k
    | none => False) c vw ex q fun v H' G' d s f q => by
    dsimp only at q
    split at q
    · rename_i k e
      exact ⟨k, f.tru s.ctx.sub e, z k H' G' s q⟩
    · exact q.elim⟩
@[simp] def qAnd (t u : QB) : QB := fun env Q X => t env (fun c => if c = true then u env Q X else Q false) X
instance rt_and {t u : TT} {p q : QB} [h : RT K cn W t p] [k : RT K cn W u q] : RT K cn W (tAnd t u) (qAnd p q) := ⟨fun G H σ env Q X R c vw ex q' z =>
  h.run G H σ env (fun c => if c = true then q env Q X else Q false) X _ c vw ex q' fun b H' G' s q2 => by
    cases b with
    | true => exact k.run G' H' σ env Q X R s.ctx (vw.le s.le) (ex.step s) q2 (z.step s)
    | false => exact z false H' G' s q2⟩
@[simp] def qOr (t u : QB) : QB := fun env Q X => t env (fun c => if c = true then Q true else u env Q X) X
instance rt_or {t u : TT} {p q : QB} [h : RT K cn W t p] [k : RT K cn W u q] : RT K cn W (tOr t u) (qOr p q) := ⟨fun G H σ env Q X R c vw ex q' z =>
  h.run G H σ env (fun c => if c = true then Q true else q env Q X) X _ c vw ex q' fun b H' G' s q2 => by
    cases b with
    | true => exact z true H' G' s q2
    | false => exact k.run G' H' σ env Q X R s.ctx (vw.le s.le) (ex.step s) q2 (z.step s)⟩
@[simp] def qNot (t : QB) : QB := fun env Q X => t env (fun c => Q (!c)) X
instance rt_not {t : TT} {p : QB} [h : RT K cn W t p] : RT K cn W (tNot t) (qNot p) := ⟨fun G H σ env Q X R c vw ex q' z =>
  h.run G H σ env (fun c => Q (!c)) X _ c vw ex q' fun b H' G' s q2 => z (!b) H' G' s q2⟩
@[simp] def qYes : QB := fun _ Q _ => Q true
instance rt_yes : RT K cn W tYes qYes := ⟨fun G H σ env Q X R c vw ex q z => z true H G (Stp.refl c) q⟩
/-- and, or, not as values -/
@[simp] def qAndV (t u : QX) : QX := fun env Q X => t env (fun o => o.toD.isB fun c => if c = true then u env Q X else Q (.fro (.bl false))) X
instance rd_andV {t u : TE} {p q : QX} [h : RD K cn W t p] [k : RD K cn W u q] : RD K cn W (tAndV t u) (qAndV p q) := ⟨fun G H σ env Q X R c vw ex q' z =>
  h.fro (Q := fun d => d.isB fun c => if c = true then q env Q X else Q (.fro (.bl false))) c vw ex q' fun v H' G' d s f q2 => by
    obtain ⟨b, rfl, rfl, q2⟩ := f.isB q2
    refine ⟨b, rfl, ?_⟩
    cases b with
    | true => exact k.run G' H' σ env Q X R s.ctx (vw.le s.le) (ex.step s) q2 (z.step s)
    | false => exact (z.step s).fro s.ctx .bl q2⟩
@[simp] def qOrV (t u : QX) : QX := fun env Q X => t env (fun o => o.toD.isB fun c => if c = true then Q (.fro (.bl true)) else u env Q X) X
instance rd_orV {t u : TE} {p q : QX} [h : RD K cn W t p] [k : RD K cn W u q] : RD K cn W (tOrV t u) (qOrV p q) := ⟨fun G H σ env Q X R c vw ex q' z =>
  h.fro (Q := fun d => d.isB fun c => if c = true then Q (.fro (.bl true)) else q env Q X) c vw ex q' fun v H' G' d s f q2 => by
    obtain ⟨b, rfl, rfl, q2⟩ := f.isB q2
    refine ⟨b, rfl, ?_⟩
    cases b with
    | true => exact (z.step s).fro s.ctx .bl q2
    | false => exact k.run G' H' σ env Q X R s.ctx (vw.le s.le) (ex.step s) q2 (z.step s)⟩
@[simp] def qNotV (t : QX) : QX := fun env Q X => t env (fun o => o.toD.isB fun c => Q (.fro (.bl (!c)))) X
instance rd_notV {t : TE} {p : QX} [h : RD K cn W t p] : RD K cn W (tNotV t) (qNotV p) := ⟨fun G H σ env Q X R c vw ex q' z =>
  h.fro (Q := fun d => d.isB fun c => Q (.fro (.bl (!c)))) c vw ex q' fun v H' G' d s f q2 => by
    obtain ⟨b, rfl, rfl, q2⟩ := f.isB q2
    exact ⟨b, rfl, (z.step s).fro s.ctx .bl q2⟩⟩
@[simp] def qIf (t : QB) (a b : QX) : QX := fun env Q X => t env (fun c => if c = true then a env Q X else b env Q X) X
instance rd_if {t : TT} {a b : TE} {p : QB} {q r : QX} [h : RT K cn W t p] [k : RD K cn W a q] [l : RD K cn W b r] : RD K cn W (tIf t a b) (qIf p q r) := ⟨fun G H σ env Q X R c vw ex q' z =>
  h.run G H σ env (fun c => if c = true then q env Q X else r env Q X) X _ c vw ex q' fun b H' G' s q2 => by
    cases b with
    | true => exact k.run G' H' σ env Q X R s.ctx (vw.le s.le) (ex.step s) q2 (z.step s)
    | false => exact l.run G' H' σ env Q X R s.ctx (vw.le s.le) (ex.step s) q2 (z.step s)⟩
/-- a op b op c: the answers of the ops are bools -/
@[simp] def qChain (p q : Q2) (ta tb tc : QX) : QX := fun env Q X => ta env (fun a => tb env (fun b => p a.toD b.toD fun o => o.toD.isB fun k => if k = true then tc env (fun c => q b.toD c.toD Q) X else Q (.fro (.bl false))) X) X
instance rd_chain {r r' : R2} {p q : Q2} {ta tb tc : TE} {pa pb pc : QX} [h : R2' K cn r p] [h' : R2' K cn r' q] [ha : RD K cn W ta pa] [hb : RD K cn W tb pb] [hc : RD K cn W tc pc] : RD K cn W (tChain r r' ta tb tc) (qChain p q pa pb pc) := ⟨fun G H σ env Q X R c vw ex w z =>
  ha.fro (Q := fun a => pb env (fun b => p a b.toD fun o => o.toD.isB fun k => if k = true then pc env (fun c => q b.toD c.toD Q) X else Q (.fro (.bl false))) X) c vw ex w fun x H1 G1 dx s1 f1 w1 =>
  hb.fro (Q := fun b => p dx b fun o => o.toD.isB fun k => if k = true then pc env (fun c => q b c.toD Q) X else Q (.fro (.bl false))) s1.ctx (vw.le s1.le) (ex.step s1) w1 fun y H2 G2 dy s2 f2 w2 =>
  h.run G2 H2 x y dx dy (fun o => o.toD.isB fun k => if k = true then pc env (fun c => q dy c.toD Q) X else Q (.fro (.bl false))) _ s2.ctx (f1.mono s2.le) f2 w2 fun v H3 G3 o fp s3 w3 q3 => by
    obtain ⟨k, ek, ev, q4⟩ := (w3.freeze s3.ctx).isB q3
    subst ev
    refine ⟨k, rfl, ?_⟩
    have s123 := (s1.trans s2).trans s3
    cases k with
    | true =>
      refine hc.fro (Q := fun c => q dy c Q) s3.ctx (vw.le s123.le) (ex.step s123) q4 fun w H4 G4 dw s4 f4 q5 => ?_
      exact h'.run G4 H4 y w dy dw Q R s4.ctx (f2.mono (s3.le.trans s4.le)) f4 q5 ((z.step s123).step s4)
    | false => exact (z.step s123).fro s3.ctx .bl q4⟩

/-! ### argument lists, displays -/
@[simp] def qNil : QA := fun _ Q _ => Q []
@[simp] def qCons (t : QX) (u : QA) : QA := fun env Q X => t env (fun o => u env (fun os => Q (o :: os)) X) X
instance ra_nil : RA K cn W tNil qNil := ⟨fun G H σ env Q X R c vw ex q z => z [] H G [] [] (Stp.refl c) OwnL.nil q⟩
instance ra_cons {t : TE} {u : TA} {p : QX} {q : QA} [h : RD K cn W t p] [k : RA K cn W u q] : RA K cn W (tCons t u) (qCons p q) := ⟨fun G H σ env Q X R c vw ex w z =>
  h.run G H σ env (fun o => q env (fun os => Q (o :: os)) X) X _ c vw ex w fun v H1 G1 o fp s1 w1 q1 =>
  k.run G1 H1 σ env (fun os => Q (o :: os)) X _ s1.ctx (vw.le s1.le) (ex.step s1) q1 fun vs H2 G2 os fq s2 w2 q2 => by
    have w1' := w1.step s2
    have back : ∀ a ∈ fq, H a = none := fun a m => by
      cases e : H a with
      | none => rfl
      | some u =>
        by_cases f : G.af a = true
        · exact absurd ((s2.le.af a (s1.le.af a f).1).1) (w2.ap a m).2.1
        · have := s1.same a u f e
          rw [(w2.ap a m).2.2] at this; cases this
    exact z (v :: vs) H2 G2 (o :: os) (fp ++ fq) (s1.trans s2) (w1'.cons ⟨w2.rep, w2.nd, fun a m => ⟨(w2.ap a m).1, (w2.ap a m).2.1, back a m⟩⟩ (disj_new w1.rep.there fun a m => (w2.ap a m).2.2)) q2⟩
theorem Stp.lay {G0 G : Fz} {B H : Hp} {p : Addr} {o : HO} (s : Stp G0 B G H) (n : H p = none) : Stp G0 B G (L2.upd H p o) :=
  ⟨s.le, fun b u f h => (by
    have e := s.same b u f h
    rw [upd_ne (ne_of_none e n)]; exact e), s.ctx.upd n, s.new, s.newf⟩
@[simp] def qLst (t : QA) : QX := fun env Q X => t env (fun os => os.length ≤ 16777216 ∧ Q (.lst os)) X
instance rd_lst {t : TA} {p : QA} [h : RA K cn W t p] : RD K cn W (tLst t) (qLst p) := ⟨fun G H σ env Q X R c vw ex w z =>
  h.run G H σ env (fun os => os.length ≤ 16777216 ∧ Q (.lst os)) X _ c vw ex w fun vs H1 G1 os fp s1 w1 q1 => by
    refine ⟨by rw [w1.rep.length, sizeLine_eq]; exact q1.1, fun a n => ?_⟩
    have na : a ∉ fp := fun m => by obtain ⟨u, e⟩ := w1.rep.there a m; rw [n] at e; cases e
    have nf : G1.af a ≠ true := fun h => by obtain ⟨_, i, big, seed, e, _⟩ := s1.ctx.feed a h; rw [n] at e; cases e
    have nb : H a = none := by
      cases e : H a with
      | none => rfl
      | some u =>
        by_cases f : G.af a = true
        · exact absurd (s1.le.af a f).1 nf
        · rw [s1.same a u f e] at n; cases n
    refine z (.ref a) _ G1 (.lst os) (a :: fp) (s1.lay n) ⟨.lst upd_same (w1.rep.mono (FzLe.refl _) fun b m u e => by rw [upd_ne (ne_of_none e n)]; exact e), List.nodup_cons.mpr ⟨na, w1.nd⟩, fun b m => ?_⟩ q1.2
    rcases List.mem_cons.mp m with rfl | m
    · exact ⟨s1.ctx.sub.free n, nf, nb⟩
    · exact w1.ap b m⟩
@[simp] def qTup (t : QA) : QX := fun env Q X => t env (fun os => os.length ≤ 16777216 ∧ Q (.tup os)) X
instance rd_tup {t : TA} {p : QA} [h : RA K cn W t p] : RD K cn W (tTup t) (qTup p) := ⟨fun G H σ env Q X R c vw ex w z =>
  h.run G H σ env (fun os => os.length ≤ 16777216 ∧ Q (.tup os)) X _ c vw ex w fun vs H1 G1 os fp s1 w1 q1 => by
    refine ⟨by rw [w1.rep.length, sizeLine_eq]; exact q1.1, fun a n => ?_⟩
    have na : a ∉ fp := fun m => by obtain ⟨u, e⟩ := w1.rep.there a m; rw [n] at e; cases e
    have nf : G1.af a ≠ true := fun h => by obtain ⟨_, i, big, seed, e, _⟩ := s1.ctx.feed a h; rw [n] at e; cases e
    have nb : H a = none := by
      cases e : H a with
      | none => rfl
      | some u =>
        by_cases f : G.af a = true
        · exact absurd (s1.le.af a f).1 nf
        · rw [s1.same a u f e] at n; cases n
    refine z (.ref a) _ G1 (.tup os) (a :: fp) (s1.lay n) ⟨.tup upd_same (w1.rep.mono (FzLe.refl _) fun b m u e => by rw [upd_ne (ne_of_none e n)]; exact e), List.nodup_cons.mpr ⟨na, w1.nd⟩, fun b m => ?_⟩ q1.2
    rcases List.mem_cons.mp m with rfl | m
    · exact ⟨s1.ctx.sub.free n, nf, nb⟩
    · exact w1.ap b m⟩

/-! ### built-ins by their values -/
@[simp] def qCB (q : QN) (t : QA) : QX := fun env Q X => t env (fun os => q (toDL os) Q) X
instance rd_CB {r : List V → Hp → VK → Prop} {q : QN} {t : TA} {p : QA} [h : RN K cn r q] [k : RA K cn W t p] : RD K cn W (tCB r t) (qCB q p) := ⟨fun G H σ env Q X R c vw ex w z =>
  k.fro (Q := fun ds => q ds Q) c vw ex w fun vs H1 G1 ds s1 f1 q1 => h.run G1 H1 vs ds Q R s1.ctx f1 q1 (z.step s1)⟩
@[simp] def qBM0 (T : String) (q : QM) (to : QX) : QX := fun env Q X => to env (fun o => tyD T o.toD = true ∧ q o.toD [] Q) X
where tyD (T : String) : D → Bool
  | .str _ => T == "str"
  | .int _ => T == "int"
  | .lst _ => T == "list"
  | .dct _ => T == "dict"
  | .dctT _ => T == "dict"
  | _ => false
abbrev tyD := qBM0.tyD
theorem Fro.hasTy {G : Fz} {H : Hp} {T : String} {d : D} {v : V} (s : Same G.hp H) (f : Fro K cn G d v) (h : tyD T d = true) : tyV K T v H := by
  cases f with
  | str => exact beq_iff_eq.mp h
  | int => exact beq_iff_eq.mp h
  | lst e hs => exact .inl ⟨beq_iff_eq.mp h, _, .inl (.inl (s _ _ e))⟩
  | dct e e2 hs => exact .inr (.inr (.inl ⟨beq_iff_eq.mp h, .inl ⟨_, s _ _ e⟩⟩))
  | dctT e e2 hs => exact .inr (.inr (.inl ⟨beq_iff_eq.mp h, .inr ⟨_, s _ _ e⟩⟩))
  | _ => cases h
instance rd_BM0 {T : String} {r : V → List V → Hp → VK → Prop} {q : QM} {to : TE} {po : QX} [h : RM K cn r q] [k : RD K cn W to po] : RD K cn W (tBM0 K T r to) (qBM0 T q po) := ⟨fun G H σ env Q X R c vw ex w z =>
  k.fro (Q := fun d => tyD T d = true ∧ q d [] Q) c vw ex w fun v H1 G1 d s1 f1 q1 => ⟨f1.hasTy s1.ctx.sub q1.1, h.run G1 H1 v d [] [] Q R s1.ctx f1 .nil q1.2 (z.step s1)⟩⟩
@[simp] def qBM (T : String) (q : QM) (to : QX) (t : QA) : QX := fun env Q X => to env (fun o => tyD T o.toD = true ∧ t env (fun os => q o.toD (toDL os) Q) X) X
instance rd_BM {T : String} {r : V → List V → Hp → VK → Prop} {q : QM} {to : TE} {t : TA} {po : QX} {p : QA} [h : RM K cn r q] [k : RD K cn W to po] [l : RA K cn W t p] : RD K cn W (tBM K T r to t) (qBM T q po p) := ⟨fun G H σ env Q X R c vw ex w z =>
  k.fro (Q := fun d => tyD T d = true ∧ p env (fun os => q d (toDL os) Q) X) c vw ex w fun v H1 G1 d s1 f1 q1 => ⟨f1.hasTy s1.ctx.sub q1.1,
    l.fro (Q := fun ds => q d ds Q) s1.ctx (vw.le s1.le) (ex.step s1) q1.2 fun vs H2 G2 ds s2 f2 q2 => h.run G2 H2 v d vs ds Q R s2.ctx (f1.mono s2.le) f2 q2 ((z.step s1).step s2)⟩⟩
end
end PD

end PDOps_

section PDCalls_
set_option maxRecDepth 100000
set_option maxHeartbeats 1000000
/-! PDCalls: built-ins, slices, methods that read, targets, iterators, comprehensions. -/
namespace PD
open PySem L2

section
variable {K : PySem.W.Frag} {cn : Str → Option Addr} {W : WX}

theorem FroL.one {G : Fz} {ds : List D} {vs : List V} {d : D} (h : FroL K cn G ds vs) (e : ds = [d]) : ∃ v, vs = [v] ∧ Fro K cn G d v := by
  subst e
  cases h with
  | cons h hs => cases hs; exact ⟨_, rfl, h⟩
theorem FroL.two {G : Fz} {ds : List D} {vs : List V} {d e : D} (h : FroL K cn G ds vs) (q : ds = [d, e]) : ∃ v u, vs = [v, u] ∧ Fro K cn G d v ∧ Fro K cn G e u := by
  subst q
  cases h with
  | cons h hs =>
    obtain ⟨u, rfl, k⟩ := hs.one rfl
    exact ⟨_, u, rfl, h, k⟩
theorem FroL.three {G : Fz} {ds : List D} {vs : List V} {d e f : D} (h : FroL K cn G ds vs) (q : ds = [d, e, f]) : ∃ v u w, vs = [v, u, w] ∧ Fro K cn G d v ∧ Fro K cn G e u ∧ Fro K cn G f w := by
  subst q
  cases h with
  | cons h hs =>
    obtain ⟨u, w, rfl, k, l⟩ := hs.two rfl
    exact ⟨_, u, w, rfl, h, k, l⟩
def is1 (ds : List D) (k : D → Prop) : Prop := match ds with
  | [a] => k a
  | _ => False
def is2 (ds : List D) (k : D → D → Prop) : Prop := match ds with
  | [a, b] => k a b
  | _ => False
def is3 (ds : List D) (k : D → D → D → Prop) : Prop := match ds with
  | [a, b, c] => k a b c
  | _ => False
@[simp] theorem is1_eq {a : D} {k : D → Prop} : is1 [a] k = k a := rfl
@[simp] theorem is2_eq {a b : D} {k : D → D → Prop} : is2 [a, b] k = k a b := rfl
@[simp] theorem is3_eq {a b c : D} {k : D → D → D → Prop} : is3 [a, b, c] k = k a b c := rfl
theorem is1_of {ds : List D} {k : D → Prop} (h : is1 ds k) : ∃ a, ds = [a] ∧ k a := by
  unfold is1 at h
  split at h
  · exact ⟨_, rfl, h⟩
  · exact h.elim
theorem is2_of {ds : List D} {k : D → D → Prop} (h : is2 ds k) : ∃ a b, ds = [a, b] ∧ k a b := by
  unfold is2 at h
  split at h
  · exact ⟨_, _, rfl, h⟩
  · exact h.elim
theorem is3_of {ds : List D} {k : D → D → D → Prop} (h : is3 ds k) : ∃ a b c, ds = [a, b, c] ∧ k a b c := by
  unfold is3 at h
  split at h
  · exact ⟨_, _, _, rfl, h⟩
  · exact h.elim
/-- a list of intsOf, of texts, of boolsOf as it is -/
def intsOf : List D → Option (List Int)
  | [] => some []
  | .int i :: ds => (intsOf ds).map (i :: ·)
  | _ => none
def strsOf : List D → Option (List Str)
  | [] => some []
  | .str i :: ds => (strsOf ds).map (i :: ·)
  | _ => none
def boolsOf : List D → Option (List Bool)
  | [] => some []
  | .bl i :: ds => (boolsOf ds).map (i :: ·)
  | _ => none
@[simp] theorem ints_map : ∀ ns : List Int, intsOf (ns.map D.int) = some ns
  | [] => rfl
  | n :: ns => by rw [List.map_cons, intsOf, ints_map ns]; rfl
@[simp] theorem strs_map : ∀ ns : List Str, strsOf (ns.map D.str) = some ns
  | [] => rfl
  | n :: ns => by rw [List.map_cons, strsOf, strs_map ns]; rfl
@[simp] theorem bools_map : ∀ ns : List Bool, boolsOf (ns.map D.bl) = some ns
  | [] => rfl
  | n :: ns => by rw [List.map_cons, boolsOf, bools_map ns]; rfl
@[simp] theorem ints_nil : intsOf [] = some [] := rfl
@[simp] theorem ints_cons {i : Int} {ds : List D} : intsOf (.int i :: ds) = (intsOf ds).map (i :: ·) := rfl
@[simp] theorem strs_nil : strsOf [] = some [] := rfl
@[simp] theorem strs_cons {i : Str} {ds : List D} : strsOf (.str i :: ds) = (strsOf ds).map (i :: ·) := rfl
@[simp] theorem bools_nil : boolsOf [] = some [] := rfl
@[simp] theorem bools_cons {i : Bool} {ds : List D} : boolsOf (.bl i :: ds) = (boolsOf ds).map (i :: ·) := rfl
theorem ints_of : ∀ {ds : List D} {ns : List Int}, intsOf ds = some ns → ds = ns.map D.int
  | [], ns, h => by cases h; rfl
  | .int i :: ds, ns, h => by
    rw [intsOf] at h
    cases e : intsOf ds with
    | none => rw [e] at h; cases h
    | some ms => rw [e] at h; cases h; rw [ints_of e]; rfl
  | .non :: _, _, h => by cases h
  | .bl _ :: _, _, h => by cases h
  | .str _ :: _, _, h => by cases h
  | .lst _ :: _, _, h => by cases h
  | .tup _ :: _, _, h => by cases h
  | .dct _ :: _, _, h => by cases h
  | .dctT _ :: _, _, h => by cases h
  | .ins _ _ :: _, _, h => by cases h
  | .feed :: _, _, h => by cases h
  | .scr _ _ :: _, _, h => by cases h
  | .ty _ :: _, _, h => by cases h
theorem strs_of : ∀ {ds : List D} {ns : List Str}, strsOf ds = some ns → ds = ns.map D.str
  | [], ns, h => by cases h; rfl
  | .str i :: ds, ns, h => by
    rw [strsOf] at h
    cases e : strsOf ds with
    | none => rw [e] at h; cases h
    | some ms => rw [e] at h; cases h; rw [strs_of e]; rfl
  | .non :: _, _, h => by cases h
  | .bl _ :: _, _, h => by cases h
  | .int _ :: _, _, h => by cases h
  | .lst _ :: _, _, h => by cases h
  | .tup _ :: _, _, h => by cases h
  | .dct _ :: _, _, h => by cases h
  | .dctT _ :: _, _, h => by cases h
  | .ins _ _ :: _, _, h => by cases h
  | .feed :: _, _, h => by cases h
  | .scr _ _ :: _, _, h => by cases h
  | .ty _ :: _, _, h => by cases h
theorem bools_of : ∀ {ds : List D} {ns : List Bool}, boolsOf ds = some ns → ds = ns.map D.bl
  | [], ns, h => by cases h; rfl
  | .bl i :: ds, ns, h => by
    rw [boolsOf] at h
    cases e : boolsOf ds with
    | none => rw [e] at h; cases h
    | some ms => rw [e] at h; cases h; rw [bools_of e]; rfl
  | .non :: _, _, h => by cases h
  | .int _ :: _, _, h => by cases h
  | .str _ :: _, _, h => by cases h
  | .lst _ :: _, _, h => by cases h
  | .tup _ :: _, _, h => by cases h
  | .dct _ :: _, _, h => by cases h
  | .dctT _ :: _, _, h => by cases h
  | .ins _ _ :: _, _, h => by cases h
  | .feed :: _, _, h => by cases h
  | .scr _ _ :: _, _, h => by cases h
  | .ty _ :: _, _, h => by cases h
theorem FroL.isInts {G : Fz} : ∀ {ns : List Int} {vs : List V}, FroL K cn G (ns.map D.int) vs → vs = ns.map V.int
  | [], _, .nil => rfl
  | _ :: _, _, .cons h hs => by cases h; rw [FroL.isInts hs]; rfl
theorem FroL.isStrs {G : Fz} : ∀ {ns : List Str} {vs : List V}, FroL K cn G (ns.map D.str) vs → vs = ns.map V.str
  | [], _, .nil => rfl
  | _ :: _, _, .cons h hs => by cases h; rw [FroL.isStrs hs]; rfl
theorem FroL.isBools {G : Fz} : ∀ {ns : List Bool} {vs : List V}, FroL K cn G (ns.map D.bl) vs → vs = ns.map V.bl
  | [], _, .nil => rfl
  | _ :: _, _, .cons h hs => by cases h; rw [FroL.isBools hs]; rfl
theorem FroL.ofInts {G : Fz} : ∀ ns : List Int, FroL K cn G (ns.map D.int) (ns.map V.int)
  | [] => .nil
  | _ :: ns => .cons .int (FroL.ofInts ns)
theorem FroL.ofStrs {G : Fz} : ∀ ns : List Str, FroL K cn G (ns.map D.str) (ns.map V.str)
  | [] => .nil
  | _ :: ns => .cons .str (FroL.ofStrs ns)
/-- a list of intsOf given to a built-in -/
def D.isIs (d : D) (k : List Int → Prop) : Prop := d.isL fun ds => match intsOf ds with
  | some ns => k ns
  | none => False
@[simp] theorem isIs_map {ns : List Int} {k : List Int → Prop} : (D.lst (ns.map .int)).isIs k = k ns := by
  simp [D.isIs]
@[simp] theorem isIs_lst {ds : List D} {k : List Int → Prop} : (D.lst ds).isIs k = match intsOf ds with
  | some ns => k ns
  | none => False := rfl
theorem Fro.isIs {G : Fz} {d : D} {v : V} {k : List Int → Prop} (f : Fro K cn G d v) (h : d.isIs k) : ∃ ns a, d = .lst (ns.map .int) ∧ v = .ref a ∧ G.hp a = some (.lst (ns.map V.int)) ∧ k ns := by
  obtain ⟨ds, a, vs, rfl, rfl, e, hs, q⟩ := f.isL h
  split at q
  · rename_i ns en
    have := ints_of en
    subst this
    have := hs.isInts
    subst this
    exact ⟨ns, a, rfl, rfl, e, q⟩
  · exact q.elim

/-! ### len, abs, int, str, min, max, list, tuple, sum .. -/
def rLen (K : PySem.W.Frag) : List V → Hp → VK → Prop := fun xs H Q => ∃ x n, xs = [x] ∧ LenV K x H n ∧ Q (.int n) H
theorem cb_len {X : Cx} : CallR X (.builtin "len") (rLen X.K) := call_len
@[simp] def nLen : QN := fun ds Q => is1 ds fun d => match d with
  | .str s => s.length ≤ 16777216 ∧ Q (.fro (.int s.length))
  | .lst xs => Q (.fro (.int xs.length))
  | .tup xs => Q (.fro (.int xs.length))
  | .scr _ ns => Q (.fro (.int ns.length))
  | _ => False
instance rn_len : RN K cn (rLen K) nLen := ⟨fun G H vs ds Q R c f q z => by
  obtain ⟨d, rfl, q⟩ := is1_of q
  have f0 := f; clear f; obtain ⟨v, rfl, f⟩ := f0.one rfl
  cases f with
  | str => exact ⟨_, _, rfl, ⟨by rw [sizeLine_eq]; exact q.1, rfl⟩, z.fro c .int q.2⟩
  | lst e hs => exact ⟨_, _, rfl, .inl ⟨_, .inl (.inl (c.sub _ _ e)), rfl⟩, z.fro c .int (by rw [hs.length]; exact q)⟩
  | tup e hs => exact ⟨_, _, rfl, .inr ⟨_, Same.sqT c.sub e, rfl⟩, z.fro c .int (by rw [hs.length]; exact q)⟩
  | scr e => exact ⟨_, _, rfl, .inl ⟨_, c.sub.seq e, rfl⟩, z.fro c .int (by rw [List.length_map]; exact q)⟩
  | _ => exact q.elim⟩
def rLenD : List V → Hp → VK → Prop := fun xs H Q => ∃ (d : Addr) (kvs : List (Key × V)), xs = [.ref d] ∧ H d = some (.dK kvs) ∧ Q (.int kvs.length) H
def rAbs : List V → Hp → VK → Prop := fun xs H Q => ∃ i, xs = [.int i] ∧ Q (.int (if i < 0 then -i else i)) H
theorem cb_abs {X : Cx} : CallR X (.builtin "abs") rAbs := call_abs
@[simp] def nAbs : QN := fun ds Q => is1 ds fun d => d.isI fun i => Q (.fro (.int (if i < 0 then -i else i)))
instance rn_abs : RN K cn rAbs nAbs := ⟨fun G H vs ds Q R c f q z => by
  obtain ⟨d, rfl, q⟩ := is1_of q
  have f0 := f; clear f; obtain ⟨v, rfl, f⟩ := f0.one rfl
  obtain ⟨i, rfl, rfl, q⟩ := f.isI q
  exact ⟨i, rfl, z.fro c .int q⟩⟩
def rInt1 : List V → Hp → VK → Prop := fun xs H Q => (∃ i, xs = [.int i] ∧ Q (.int i) H) ∨ ∃ k, xs = [.bl k] ∧ Q (.int (if k then 1 else 0)) H
theorem cb_int1 {X : Cx} : CallR X (.type "int") rInt1 := call_int1
def rIntS : List V → Hp → VK → Prop := fun xs H Q => ∃ a n, xs = [.str a] ∧ PySem.intText? a = some n ∧ a.length ≤ 640 ∧ Q (.int n) H
theorem cb_intS {X : Cx} : CallR X (.type "int") rIntS := call_int_str
@[simp] def nInt1 : QN := fun ds Q => is1 ds fun d => match d with
  | .int i => Q (.fro (.int i))
  | .bl k => Q (.fro (.int (if k then 1 else 0)))
  | _ => False
instance rn_int1 : RN K cn rInt1 nInt1 := ⟨fun G H vs ds Q R c f q z => by
  obtain ⟨d, rfl, q⟩ := is1_of q
  have f0 := f; clear f; obtain ⟨v, rfl, f⟩ := f0.one rfl
  cases f with
  | int => exact .inl ⟨_, rfl, z.fro c .int q⟩
  | bl => exact .inr ⟨_, rfl, z.fro c .int q⟩
  | _ => exact q.elim⟩
@[simp] def nIntS : QN := fun ds Q => is1 ds fun d => d.isS fun a => a.length ≤ 640 ∧ match PySem.intText? a with
  | some n => Q (.fro (.int n))
  | none => False
instance rn_intS : RN K cn rIntS nIntS := ⟨fun G H vs ds Q R c f q z => by
  obtain ⟨d, rfl, q⟩ := is1_of q
  have f0 := f; clear f; obtain ⟨v, rfl, f⟩ := f0.one rfl
  obtain ⟨i, rfl, rfl, q1, q⟩ := f.isS q
  split at q
  · rename_i n e
    exact ⟨i, n, rfl, e, q1, z.fro c .int q⟩
  · exact q.elim⟩
def rStrI : List V → Hp → VK → Prop := fun xs H Q => ∃ i, xs = [.int i] ∧ i.natAbs.log2 < 1920 ∧ Q (.str (toString i)) H
theorem cb_strI {X : Cx} : CallR X (.type "str") rStrI := call_str_int
@[simp] def nStrI : QN := fun ds Q => is1 ds fun d => d.isI fun i => i.natAbs.log2 < 1920 ∧ Q (.fro (.str (toString i)))
instance rn_strI : RN K cn rStrI nStrI := ⟨fun G H vs ds Q R c f q z => by
  obtain ⟨d, rfl, q⟩ := is1_of q
  have f0 := f; clear f; obtain ⟨v, rfl, f⟩ := f0.one rfl
  obtain ⟨i, rfl, rfl, q1, q⟩ := f.isI q
  exact ⟨i, rfl, q1, z.fro c .str q⟩⟩
def rMx2 : List V → Hp → VK → Prop := fun xs H Q => ∃ i j, xs = [.int i, .int j] ∧ Q (.int (if j > i then j else i)) H
def rMn2 : List V → Hp → VK → Prop := fun xs H Q => ∃ i j, xs = [.int i, .int j] ∧ Q (.int (if j < i then j else i)) H
theorem cb_max2 {X : Cx} (hc : X.calm = true) : CallR X (.builtin "max") rMx2 := call_max2 hc
theorem cb_min2 {X : Cx} (hc : X.calm = true) : CallR X (.builtin "min") rMn2 := call_min2 hc
@[simp] def nMax2 : QN := fun ds Q => is2 ds fun a b => a.isI fun i => b.isI fun j => Q (.fro (.int (max i j)))
@[simp] def nMin2 : QN := fun ds Q => is2 ds fun a b => a.isI fun i => b.isI fun j => Q (.fro (.int (min i j)))
instance rn_max2 : RN K cn rMx2 nMax2 := ⟨fun G H vs ds Q R c f q z => by
  obtain ⟨d, e, rfl, q⟩ := is2_of q
  have f0 := f; clear f; obtain ⟨v, u, rfl, f, g⟩ := f0.two rfl
  obtain ⟨i, rfl, rfl, q⟩ := f.isI q
  obtain ⟨j, rfl, rfl, q⟩ := g.isI q
  refine ⟨i, j, rfl, ?_⟩
  rw [show (if j > i then j else i) = max i j by rw [Int.max_def]; split <;> split <;> omega]
  exact z.fro c .int q⟩
instance rn_min2 : RN K cn rMn2 nMin2 := ⟨fun G H vs ds Q R c f q z => by
  obtain ⟨d, e, rfl, q⟩ := is2_of q
  have f0 := f; clear f; obtain ⟨v, u, rfl, f, g⟩ := f0.two rfl
  obtain ⟨i, rfl, rfl, q⟩ := f.isI q
  obtain ⟨j, rfl, rfl, q⟩ := g.isI q
  refine ⟨i, j, rfl, ?_⟩
  rw [show (if j < i then j else i) = min i j by rw [Int.min_def]; split <;> split <;> omega]
  exact z.fro c .int q⟩
def rLstOf (K : PySem.W.Frag) : List V → Hp → VK → Prop := fun xs H Q => ∃ p ys, xs = [.ref p] ∧ (SqL K H p ys ∨ SqT K H p ys) ∧ ∀ l, H l = none → Q (.ref l) (L2.upd H l (.lst ys))
theorem cb_list {X : Cx} : CallR X (.type "list") (rLstOf X.K) := call_list_of
@[simp] def nList : QN := fun ds Q => is1 ds fun d => match d with
  | .lst xs => Q (.lst (xs.map .fro))
  | .tup xs => Q (.lst (xs.map .fro))
  | .scr _ ns => Q (.lst (ns.map fun n => .fro (.int n)))
  | _ => False
instance rn_list : RN K cn (rLstOf K) nList := ⟨fun G H vs ds Q R c f q z => by
  obtain ⟨d, rfl, q⟩ := is1_of q
  have f0 := f; clear f; obtain ⟨v, rfl, f⟩ := f0.one rfl
  cases f with
  | lst e hs => exact ⟨_, _, rfl, .inl (.inl (.inl (c.sub _ _ e))), fun l n => z.lst c hs n q⟩
  | tup e hs => exact ⟨_, _, rfl, .inr (Same.sqT c.sub e), fun l n => z.lst c hs n q⟩
  | scr e => exact ⟨_, _, rfl, .inl (c.sub.seq e), fun l n => z.lst c (FroL.ofInts _) n (by rw [List.map_map]; exact q)⟩
  | _ => exact q.elim⟩
def rTupOf (K : PySem.W.Frag) : List V → Hp → VK → Prop := fun xs H Q => ∃ p ys, xs = [.ref p] ∧ ((SqL K H p ys ∧ ∀ l, H l = none → Q (.ref l) (L2.upd H l (.tup ys))) ∨ (SqT K H p ys ∧ Q (.ref p) H))
theorem cb_tuple {X : Cx} : CallR X (.type "tuple") (rTupOf X.K) := call_tuple_of
@[simp] def nTuple : QN := fun ds Q => is1 ds fun d => match d with
  | .lst xs => Q (.tup (xs.map .fro))
  | .tup xs => Q (.fro (.tup xs))
  | _ => False
instance rn_tuple : RN K cn (rTupOf K) nTuple := ⟨fun G H vs ds Q R c f q z => by
  obtain ⟨d, rfl, q⟩ := is1_of q
  have f0 := f; clear f; obtain ⟨v, rfl, f⟩ := f0.one rfl
  cases f with
  | lst e hs => exact ⟨_, _, rfl, .inl ⟨.inl (.inl (c.sub _ _ e)), fun l n => z.tup c hs n q⟩⟩
  | tup e hs => exact ⟨_, _, rfl, .inr ⟨Same.sqT c.sub e, z.fro c (.tup e hs) q⟩⟩
  | _ => exact q.elim⟩
@[simp] def nSum : QN := fun ds Q => is1 ds fun d => d.isIs fun ns => Q (.fro (.int ns.sum))
instance rn_sum : RN K cn (rSum K) nSum := ⟨fun G H vs ds Q R c f q z => by
  obtain ⟨d, rfl, q⟩ := is1_of q
  have f0 := f; clear f; obtain ⟨v, rfl, f⟩ := f0.one rfl
  obtain ⟨ns, a, rfl, rfl, e, q⟩ := f.isIs q
  exact ⟨a, ns, rfl, .inl (.inl (c.sub _ _ e)), z.fro c .int q⟩⟩
/-- the greatest, the least -/
def maxL : List Int → Int
  | [] => 0
  | [x] => x
  | x :: y :: r => max x (maxL (y :: r))
def minL : List Int → Int
  | [] => 0
  | [x] => x
  | x :: y :: r => min x (minL (y :: r))
theorem maxL_mem : ∀ {ns : List Int}, ns ≠ [] → maxL ns ∈ ns
  | [], h => absurd rfl h
  | [x], _ => by simp [maxL]
  | x :: y :: r, _ => by
    have ih := maxL_mem (ns := y :: r) (by simp)
    rw [maxL, Int.max_def]
    split
    · exact List.mem_cons_of_mem _ ih
    · exact List.mem_cons_self
theorem le_maxL : ∀ {ns : List Int} {x : Int}, x ∈ ns → x ≤ maxL ns
  | [], _, h => nomatch h
  | [y], x, h => by rw [List.mem_singleton] at h; rw [h]; exact Int.le_refl _
  | a :: y :: r, x, h => by
    rw [maxL]
    rcases List.mem_cons.mp h with rfl | h
    · exact Int.le_max_left _ _
    · exact Int.le_trans (le_maxL h) (Int.le_max_right _ _)
theorem minL_mem : ∀ {ns : List Int}, ns ≠ [] → minL ns ∈ ns
  | [], h => absurd rfl h
  | [x], _ => by simp [minL]
  | x :: y :: r, _ => by
    have ih := minL_mem (ns := y :: r) (by simp)
    rw [minL, Int.min_def]
    split
    · exact List.mem_cons_self
    · exact List.mem_cons_of_mem _ ih
theorem minL_le : ∀ {ns : List Int} {x : Int}, x ∈ ns → minL ns ≤ x
  | [], _, h => nomatch h
  | [y], x, h => by rw [List.mem_singleton] at h; rw [h]; exact Int.le_refl _
  | a :: y :: r, x, h => by
    rw [minL]
    rcases List.mem_cons.mp h with rfl | h
    · exact Int.min_le_left _ _
    · exact Int.le_trans (Int.min_le_right _ _) (minL_le h)
theorem maxL_eq {ns : List Int} {m : Int} (h : m ∈ ns) (k : ∀ y, y ∈ ns → y ≤ m) : maxL ns = m := by
  have h1 := le_maxL h
  have h2 := k _ (maxL_mem (List.ne_nil_of_mem h))
  omega
theorem minL_eq {ns : List Int} {m : Int} (h : m ∈ ns) (k : ∀ y, y ∈ ns → m ≤ y) : minL ns = m := by
  have h1 := minL_le h
  have h2 := k _ (minL_mem (List.ne_nil_of_mem h))
  omega
@[simp] def nMax : QN := fun ds Q => is1 ds fun d => d.isIs fun ns => ns ≠ [] ∧ Q (.fro (.int (maxL ns)))
@[simp] def nMin : QN := fun ds Q => is1 ds fun d => d.isIs fun ns => ns ≠ [] ∧ Q (.fro (.int (minL ns)))
instance rn_max : RN K cn (rMax K) nMax := ⟨fun G H vs ds Q R c f q z => by
  obtain ⟨d, rfl, q⟩ := is1_of q
  have f0 := f; clear f; obtain ⟨v, rfl, f⟩ := f0.one rfl
  obtain ⟨ns, a, rfl, rfl, e, q⟩ := f.isIs q
  refine ⟨a, ns, rfl, .inl (.inl (c.sub _ _ e)), List.length_pos_iff.mpr q.1, fun m h k => ?_⟩
  rw [← maxL_eq h k]
  exact z.fro c .int q.2⟩
instance rn_min : RN K cn (rMin K) nMin := ⟨fun G H vs ds Q R c f q z => by
  obtain ⟨d, rfl, q⟩ := is1_of q
  have f0 := f; clear f; obtain ⟨v, rfl, f⟩ := f0.one rfl
  obtain ⟨ns, a, rfl, rfl, e, q⟩ := f.isIs q
  refine ⟨a, ns, rfl, .inl (.inl (c.sub _ _ e)), List.length_pos_iff.mpr q.1, fun m h k => ?_⟩
  rw [← minL_eq h k]
  exact z.fro c .int q.2⟩
def D.isBs (d : D) (k : List Bool → Prop) : Prop := d.isL fun ds => match boolsOf ds with
  | some ns => k ns
  | none => False
@[simp] theorem isBs_map {ns : List Bool} {k : List Bool → Prop} : (D.lst (ns.map .bl)).isBs k = k ns := by
  simp [D.isBs]
theorem Fro.isBs {G : Fz} {d : D} {v : V} {k : List Bool → Prop} (f : Fro K cn G d v) (h : d.isBs k) : ∃ ns a, d = .lst (ns.map .bl) ∧ v = .ref a ∧ G.hp a = some (.lst (ns.map V.bl)) ∧ k ns := by
  obtain ⟨ds, a, vs, rfl, rfl, e, hs, q⟩ := f.isL h
  split at q
  · rename_i ns en
    have := bools_of en
    subst this
    have := hs.isBools
    subst this
    exact ⟨ns, a, rfl, rfl, e, q⟩
  · exact q.elim
@[simp] def nAny : QN := fun ds Q => is1 ds fun d => d.isBs fun ns => Q (.fro (.bl (ns.any id)))
@[simp] def nAll : QN := fun ds Q => is1 ds fun d => d.isBs fun ns => Q (.fro (.bl (ns.all id)))
instance rn_any : RN K cn (rAny K) nAny := ⟨fun G H vs ds Q R c f q z => by
  obtain ⟨d, rfl, q⟩ := is1_of q
  have f0 := f; clear f; obtain ⟨v, rfl, f⟩ := f0.one rfl
  obtain ⟨ns, a, rfl, rfl, e, q⟩ := f.isBs q
  exact ⟨a, ns, rfl, .inl (.inl (c.sub _ _ e)), z.fro c .bl q⟩⟩
instance rn_all : RN K cn (rAll K) nAll := ⟨fun G H vs ds Q R c f q z => by
  obtain ⟨d, rfl, q⟩ := is1_of q
  have f0 := f; clear f; obtain ⟨v, rfl, f⟩ := f0.one rfl
  obtain ⟨ns, a, rfl, rfl, e, q⟩ := f.isBs q
  exact ⟨a, ns, rfl, .inl (.inl (c.sub _ _ e)), z.fro c .bl q⟩⟩
/-- sorted, intsOf -/
def sortI (ns : List Int) : List Int := ns.mergeSort fun a b => decide (a ≤ b)
theorem sortI_perm (ns : List Int) : (sortI ns).Perm ns := List.mergeSort_perm _ _
theorem sortI_sorted (ns : List Int) : (sortI ns).Pairwise (· ≤ ·) := by
  have h := List.pairwise_mergeSort (le := fun a b : Int => decide (a ≤ b)) (fun a b c h1 h2 => by simp only [decide_eq_true_eq] at *; omega) (fun a b => by simp only [Bool.or_eq_true, decide_eq_true_eq]; omega) ns
  exact h.imp fun h => of_decide_eq_true h
theorem sorted_uniq : ∀ {xs ys : List Int}, xs.Perm ys → xs.Pairwise (· ≤ ·) → ys.Pairwise (· ≤ ·) → xs = ys := fun {xs ys} p h k => List.Perm.eq_of_pairwise (le := (· ≤ ·)) (fun a b _ _ h1 h2 => by omega) h k p
@[simp] def nSortI : QN := fun ds Q => is1 ds fun d => d.isIs fun ns => Q (.lst ((sortI ns).map fun n => .fro (.int n)))
instance rn_sortI : RN K cn (rSortedI K) nSortI := ⟨fun G H vs ds Q R c f q z => by
  obtain ⟨d, rfl, q⟩ := is1_of q
  have f0 := f; clear f; obtain ⟨v, rfl, f⟩ := f0.one rfl
  obtain ⟨ns, a, rfl, rfl, e, q⟩ := f.isIs q
  refine ⟨a, ns, rfl, .inl (.inl (c.sub _ _ e)), fun ns' p pm so np => ?_⟩
  have : ns' = sortI ns := sorted_uniq (pm.trans (sortI_perm ns).symm) so (sortI_sorted ns)
  subst this
  exact z.lst c (FroL.ofInts _) np (by rw [List.map_map]; exact q)⟩

/-! ### isinstance of a built-in class -/
def tyOf : D → Option String
  | .non => some "NoneType"
  | .bl _ => some "bool"
  | .int _ => some "int"
  | .str _ => some "str"
  | .lst _ => some "list"
  | .tup _ => some "tuple"
  | .dct _ => some "dict"
  | .dctT _ => some "dict"
  | _ => none

/-! ### methods that read -/
def rMSS (p : Str → Str → V) : V → List V → Hp → VK → Prop := fun x xs H Q => ∃ a b, x = .str a ∧ xs = [.str b] ∧ Q (p a b) H
@[simp] def mSS (p : Str → Str → V) : QM := fun d ds Q => d.isS fun a => is1 ds fun e => e.isS fun b => isSc (p a b) = true ∧ Q (.fro (ofV (p a b)))
instance rm_SS {p : Str → Str → V} : RM K cn (rMSS p) (mSS p) := ⟨fun G H x dx vs ds Q R c fx f q z => by
  obtain ⟨a, rfl, rfl, q⟩ := fx.isS q
  obtain ⟨e, rfl, q⟩ := is1_of q
  have f0 := f; clear f; obtain ⟨v, rfl, f⟩ := f0.one rfl
  obtain ⟨b, rfl, rfl, q⟩ := f.isS q
  exact ⟨a, b, rfl, rfl, z.fro c (fro_sc q.1) q.2⟩⟩
theorem mb_startswith {X : Cx} : MtR X "str.startswith" (rMSS fun a b => .bl (Txt.startswith a b)) := mt_startswith
theorem mb_endswith {X : Cx} : MtR X "str.endswith" (rMSS fun a b => .bl (Txt.endswith a b)) := mt_endswith
theorem mb_find {X : Cx} : MtR X "str.find" (rMSS fun a b => .int (Txt.find a b)) := mt_find
theorem mb_rfind {X : Cx} : MtR X "str.rfind" (rMSS fun a b => .int (Txt.rfind a b)) := mt_rfind
theorem mb_scount {X : Cx} : MtR X "str.count" (rMSS fun a b => .int (Txt.count a b)) := mt_count
def rMStrip : V → List V → Hp → VK → Prop := fun x xs H Q => ∃ a b, x = .str a ∧ xs = [.str b] ∧ a.length ≤ sizeLine ∧ Q (.str (Txt.stripChars a b)) H
theorem mb_stripC {X : Cx} : MtR X "str.strip" rMStrip := mt_stripChars
@[simp] def mStrip : QM := fun d ds Q => d.isS fun a => is1 ds fun e => e.isS fun b => a.length ≤ 16777216 ∧ Q (.fro (.str (Txt.stripChars a b)))
instance rm_strip : RM K cn rMStrip mStrip := ⟨fun G H x dx vs ds Q R c fx f q z => by
  obtain ⟨a, rfl, rfl, q⟩ := fx.isS q
  obtain ⟨e, rfl, q⟩ := is1_of q
  have f0 := f; clear f; obtain ⟨v, rfl, f⟩ := f0.one rfl
  obtain ⟨b, rfl, rfl, q⟩ := f.isS q
  exact ⟨a, b, rfl, rfl, by rw [sizeLine_eq]; exact q.1, z.fro c .str q.2⟩⟩
def rMJoin (K : PySem.W.Frag) : V → List V → Hp → VK → Prop := fun x xs H Q => ∃ a p, ∃ ys : List Str, x = .str a ∧ xs = [.ref p] ∧ (SqL K H p (ys.map V.str) ∨ SqT K H p (ys.map V.str)) ∧
    (ys.map (·.length)).sum + ys.length * a.length ≤ 16777216 ∧ Q (.str (Txt.join a ys)) H
theorem mb_join {X : Cx} : MtR X "str.join" (rMJoin X.K) := mt_join
@[simp] def mJoin : QM := fun d ds Q => d.isS fun a => is1 ds fun e => e.isLT fun xs => match strsOf xs with
  | some ys => (ys.map (·.length)).sum + ys.length * a.length ≤ 16777216 ∧ Q (.fro (.str (Txt.join a ys)))
  | none => False
instance rm_join : RM K cn (rMJoin K) mJoin := ⟨fun G H x dx vs ds Q R c fx f q z => by
  obtain ⟨a, rfl, rfl, q⟩ := fx.isS q
  obtain ⟨e, rfl, q⟩ := is1_of q
  have f0 := f; clear f; obtain ⟨v, rfl, f⟩ := f0.one rfl
  obtain ⟨xs, p, us, _, rfl, e, hs, q⟩ := f.isLT q
  split at q
  · rename_i ys ey
    have := strs_of ey
    subst this
    have := hs.isStrs
    subst this
    exact ⟨a, p, ys, rfl, rfl, sq_sub c e, q.1, z.fro c .str q.2⟩
  · exact q.elim⟩
def rMSplit : V → List V → Hp → VK → Prop := fun x xs H Q => ∃ a b, x = .str a ∧ xs = [.str b] ∧ (b.length == 0) = false ∧ a.length + 2 ≤ sizeLine ∧ rNewStrs (Txt.split a b) H Q
theorem mb_split {X : Cx} : MtR X "str.split" rMSplit := mt_split
@[simp] def mSplit : QM := fun d ds Q => d.isS fun a => is1 ds fun e => e.isS fun b => (b.length == 0) = false ∧ a.length + 2 ≤ 16777216 ∧ Q (.lst ((Txt.split a b).map fun s => .fro (.str s)))
instance rm_split : RM K cn rMSplit mSplit := ⟨fun G H x dx vs ds Q R c fx f q z => by
  obtain ⟨a, rfl, rfl, q⟩ := fx.isS q
  obtain ⟨e, rfl, q⟩ := is1_of q
  have f0 := f; clear f; obtain ⟨v, rfl, f⟩ := f0.one rfl
  obtain ⟨b, rfl, rfl, q⟩ := f.isS q
  exact ⟨a, b, rfl, rfl, q.1, by rw [sizeLine_eq]; exact q.2.1, fun p n => z.lst c (FroL.ofStrs _) n (by rw [List.map_map]; exact q.2.2)⟩⟩
@[simp] def mIndex : QM := fun d ds Q => d.isL fun xs => is1 ds fun e => flatD e = true ∧ xs.all flatD = true ∧ match xs.findIdx? fun x => eqF x e with
  | some j => Q (.fro (.int j))
  | none => False
theorem FroL.getD {G : Fz} {ds : List D} {vs : List V} {i : Nat} {v : V} {d : D} (h : FroL K cn G ds vs) (e : vs[i]? = some v) (k : ds[i]? = some d) : Fro K cn G d v := by
  obtain ⟨d', h1, h2⟩ := h.getV e
  rw [k] at h1
  cases h1
  exact h2
end
end PD

end PDCalls_

section PDComp_
set_option maxRecDepth 100000
set_option maxHeartbeats 1000000
/-! PDComp: slices, targets, what is walked, list comprehensions, isinstance, index. -/
namespace PD
open PySem L2

section
variable {K : PySem.W.Frag} {cn : Str → Option Addr} {W : WX}

/-! ### slices -/
def cutL {α : Type} (xs : List α) (lo hi : Option Int) : List α := (xs.drop (HT.sIx xs.length 0 lo)).take (HT.sIx xs.length xs.length hi - HT.sIx xs.length 0 lo)
theorem FroL.cut {G : Fz} {ds : List D} {vs : List V} (h : FroL K cn G ds vs) (lo hi : Option Int) : FroL K cn G (cutL ds lo hi) (cutV vs lo hi) := by
  unfold cutL cutV
  rw [h.length]
  exact (h.drop _).take _
variable (K) (cn) in
class R3 (r : V → Option Int → Option Int → Hp → VK → Prop) (q : outParam (D → Option Int → Option Int → (O → Prop) → Prop)) : Prop where
  run : ∀ G H x dx lo hi Q R, Ctx G H → Fro K cn G dx x → q dx lo hi Q → Out K cn G H Q R → r x lo hi H R
def rSlA (K : PySem.W.Frag) := rSlOr (rSlL K) rSlS
theorem sl_any {X : Cx} : SlR X (rSlA X.K) := slr_or sl_list sl_str
@[simp] def oSl : D → Option Int → Option Int → (O → Prop) → Prop := fun d lo hi Q => match d with
  | .lst ds => Q (.lst ((cutL ds lo hi).map .fro))
  | .str z => z.length ≤ 16777216 ∧ Q (.fro (.str (cutS z lo hi)))
  | _ => False
instance r3_sl : R3 K cn (rSlA K) oSl := ⟨fun G H x dx lo hi Q R c f q z => by
  cases f with
  | lst e hs => exact .inl ⟨_, _, rfl, .inl (.inl (c.sub _ _ e)), fun p n => z.lst c (hs.cut lo hi) n q⟩
  | str => exact .inr ⟨_, rfl, by rw [sizeLine_eq]; exact q.1, z.fro c .str q.2⟩
  | _ => exact q.elim⟩
@[simp] def qNoPart : QP := fun _ Q _ => Q none
@[simp] def qPart (t : QX) : QP := fun env Q X => t env (fun o => o.toD.isI fun i => Q (some i)) X
instance rp_no : RP K cn W tNoPart qNoPart := ⟨fun G H σ env Q X R c vw ex q z => z none H G (Stp.refl c) q⟩
instance rp_part {te : TE} {t : QX} [h : RD K cn W te t] : RP K cn W (tPart te) (qPart t) := ⟨fun G H σ env Q X R c vw ex q z =>
  h.fro (Q := fun d => d.isI fun i => Q (some i)) c vw ex q fun v H' G' d s f q => by
    obtain ⟨i, rfl, rfl, q⟩ := f.isI q
    exact ⟨i, rfl, z (some i) H' G' s q⟩⟩
@[simp] def qSl (q : D → Option Int → Option Int → (O → Prop) → Prop) (t : QX) (lo hi : QP) : QX := fun env Q X => t env (fun o => lo env (fun l => hi env (fun u => q o.toD l u Q) X) X) X
instance rd_sl {r : V → Option Int → Option Int → Hp → VK → Prop} {q : D → Option Int → Option Int → (O → Prop) → Prop} {te : TE} {tl th : TO} {t : QX} {lo hi : QP} [h : R3 K cn r q] [ha : RD K cn W te t] [hl : RP K cn W tl lo] [hh : RP K cn W th hi] :
    RD K cn W (tSl r te tl th) (qSl q t lo hi) := ⟨fun G H σ env Q X R c vw ex w z =>
  ha.fro (Q := fun d => lo env (fun l => hi env (fun u => q d l u Q) X) X) c vw ex w fun x H1 G1 d s1 f1 q1 =>
  hl.run G1 H1 σ env (fun l => hi env (fun u => q d l u Q) X) X _ s1.ctx (vw.le s1.le) (ex.step s1) q1 fun l H2 G2 s2 q2 =>
  hh.run G2 H2 σ env (fun u => q d l u Q) X _ s2.ctx (vw.le (s1.le.trans s2.le)) ((ex.step s1).step s2) q2 fun u H3 G3 s3 q3 =>
  h.run G3 H3 x d l u Q R s3.ctx ((f1.mono s2.le).mono s3.le) q3 (((z.step s1).step s2).step s3)⟩

/-! ### targets: names, tuples of names -/
/-- what a target stores: slots and data -/
abbrev QG := D → Option (List (Nat × D))
def setD (env : DEnv) : List (Nat × D) → DEnv
  | [] => env
  | p :: r => setD (env.set p.1 (some p.2)) r
def setV (σ : St) : List (Nat × V) → St
  | [] => σ
  | p :: r => setV (σ.set p.1 (some p.2)) r
@[simp] theorem setD_nil {env : DEnv} : setD env [] = env := rfl
@[simp] theorem setD_cons {env : DEnv} {p : Nat × D} {r : List (Nat × D)} : setD env (p :: r) = setD (env.set p.1 (some p.2)) r := rfl
variable (K) (cn) in
inductive Sets (G : Fz) : List (Nat × D) → List (Nat × V) → Prop
  | nil : Sets G [] []
  | cons {i : Nat} {d : D} {v : V} {r : List (Nat × D)} {s : List (Nat × V)} : Fro K cn G d v → Sets G r s → Sets G ((i, d) :: r) ((i, v) :: s)
theorem View.set {G : Fz} {σ : St} {env : DEnv} {i : Nat} {d : D} {v : V} (w : View K cn G σ env) (f : Fro K cn G d v) : View K cn G (σ.set i (some v)) (env.set i (some d)) := by
  refine ⟨by rw [List.length_set, List.length_set]; exact w.1, fun j e h => ?_⟩
  by_cases hj : i = j
  · subst hj
    by_cases hl : i < env.length
    · rw [List.getElem?_set_self hl] at h
      cases h
      exact ⟨v, by rw [List.getElem?_set_self (by rw [w.1]; exact hl)], f⟩
    · rw [List.getElem?_eq_none (by rw [List.length_set]; omega)] at h
      cases h
  · rw [List.getElem?_set_ne hj] at h ⊢
    exact w.2 j e h
theorem View.sets {G : Fz} {us : List (Nat × D)} {ws : List (Nat × V)} (h : Sets K cn G us ws) : ∀ {σ : St} {env : DEnv}, View K cn G σ env → View K cn G (setV σ ws) (setD env us) := by
  induction h with
  | nil => exact fun w => w
  | cons f s ih => exact fun w => ih (w.set f)
variable (K) (cn) in
class RG (g : TG) (t : outParam QG) : Prop where
  run : ∀ G H x d us σ (Q : St → Hp → Prop), Ctx G H → Fro K cn G d x → t d = some us → (∀ ws, Sets K cn G us ws → Q (setV σ ws) H) → g x σ H Q
variable (K) (cn) in
class RGs (g : TGs) (t : outParam (List D → Option (List (Nat × D)))) : Prop where
  run : ∀ G H xs ds us σ (Q : St → Hp → Prop), Ctx G H → FroL K cn G ds xs → t ds = some us → (∀ ws, Sets K cn G us ws → Q (setV σ ws) H) → g xs σ H Q
def gN (i : Nat) : QG := fun d => some [(i, d)]
@[simp] theorem gN_eq {i : Nat} {d : D} : gN i d = some [(i, d)] := rfl
instance rg_name {i : Nat} : RG K cn (gName i) (gN i) := ⟨fun G H x d us σ Q c f e q => by
  cases e
  exact q [(i, x)] (.cons f .nil)⟩
def gsNil : List D → Option (List (Nat × D)) := fun ds => match ds with
  | [] => some []
  | _ => none
def gsCons (t : QG) (u : List D → Option (List (Nat × D))) : List D → Option (List (Nat × D)) := fun ds => match ds with
  | [] => none
  | d :: r => match t d, u r with
    | some a, some b => some (a ++ b)
    | _, _ => none
@[simp] theorem gsNil_eq : gsNil [] = some [] := rfl
@[simp] theorem gsCons_eq {t : QG} {u : List D → Option (List (Nat × D))} {d : D} {r : List D} : gsCons t u (d :: r) = match t d, u r with
    | some a, some b => some (a ++ b)
    | _, _ => none := rfl
theorem Sets.append {G : Fz} : ∀ {a b : List (Nat × D)} {s t : List (Nat × V)}, Sets K cn G a s → Sets K cn G b t → Sets K cn G (a ++ b) (s ++ t)
  | _, _, _, _, .nil, h => h
  | _, _, _, _, .cons f g, h => .cons f (Sets.append g h)
theorem setV_append (s t : List (Nat × V)) : ∀ σ : St, setV σ (s ++ t) = setV (setV σ s) t := by
  induction s with
  | nil => exact fun σ => rfl
  | cons p r ih => exact fun σ => ih (σ.set p.1 (some p.2))
instance rgs_nil : RGs K cn gNil gsNil := ⟨fun G H xs ds us σ Q c f e q => by
  cases f with
  | nil => cases e; exact ⟨rfl, q [] .nil⟩
  | cons _ _ => cases e⟩
instance rgs_cons {g : TG} {gs : TGs} {t : QG} {u : List D → Option (List (Nat × D))} [h : RG K cn g t] [k : RGs K cn gs u] : RGs K cn (gCons g gs) (gsCons t u) := ⟨fun G H xs ds us σ Q c f e q => by
  cases f with
  | nil => cases e
  | cons f fs =>
    rename_i d v ds vs
    unfold gsCons at e
    simp only at e
    split at e
    · rename_i a b ea eb
      cases e
      exact ⟨_, _, rfl, h.run G H _ d a σ _ c f ea fun s hs => k.run G H vs ds b _ _ c fs eb fun t ht => by
        rw [← setV_append]; exact q (s ++ t) (hs.append ht)⟩
    · cases e⟩
def gT (n : Nat) (t : List D → Option (List (Nat × D))) : QG := fun d => match d with
  | .tup ds => if ds.length = n then t ds else none
  | _ => none
@[simp] theorem gT_eq {n : Nat} {t : List D → Option (List (Nat × D))} {ds : List D} : gT n t (.tup ds) = if ds.length = n then t ds else none := rfl
instance rg_tup {n : Nat} {gs : TGs} {u : List D → Option (List (Nat × D))} [k : RGs K cn gs u] : RG K cn (gTup K n gs) (gT n u) := ⟨fun G H x d us σ Q c f e q => by
  cases f with
  | tup h hs =>
    unfold gT at e
    simp only at e
    split at e
    · rename_i l
      exact ⟨_, _, rfl, Same.sqT c.sub h, by rw [hs.length]; exact l, k.run G H _ _ us σ Q c hs e q⟩
    · cases e
  | _ => cases e⟩

/-! ### what is walked -/
variable (K) (cn) in
/-- the items, whatever else comes to stand -/
def Yields (J : It) (G : Fz) (ds : List D) : Prop := ∀ G1 H1, FzLe G G1 → Ctx G1 H1 → ∀ i : Nat, (∀ d, ds[i]? = some d → J.go i H1 ∧ ∀ x H2, J.yld i H1 x H2 → ∃ G2, Stp G1 H1 G2 H2 ∧ Fro K cn G2 d x) ∧ (ds.length ≤ i → J.stop i H1)
abbrev QI := DEnv → (List D → Prop) → (Exn → Prop) → Prop
variable (K) (cn) in
class RI (W : WX) (wi : TI) (t : outParam QI) : Prop where
  run : ∀ G H σ env Q X (R : It → Hp → Prop), Ctx G H → View K cn G σ env → Exs K cn W G H σ X → t env Q X → (∀ J H' G' ds, Stp G H G' H' → Yields K cn J G' ds → Q ds → R J H') → wi σ H R
theorem yields_list {G : Fz} {a : Addr} {vs : List V} {ds : List D} (e : G.hp a = some (.lst vs)) (hs : FroL K cn G ds vs) : Yields K cn (Itl K a) G ds := fun G1 H1 l c i => by
  have sq : SqL K H1 a vs := .inl (.inl (c.sub _ _ (l.hp _ _ e)))
  refine ⟨fun d hd => ?_, fun h => ⟨vs, sq, by rw [hs.length]; exact h⟩⟩
  obtain ⟨v, ev, fv⟩ := hs.get hd
  refine ⟨⟨vs, v, sq, ev⟩, fun x H2 ⟨e2, hx⟩ => ?_⟩
  subst e2
  have := hx vs sq
  rw [ev] at this
  cases this
  exact ⟨G1, Stp.refl c, fv.mono l⟩
theorem yields_tup {G : Fz} {a : Addr} {vs : List V} {ds : List D} (e : SqT K G.hp a vs) (hs : FroL K cn G ds vs) : Yields K cn (Itt K a) G ds := fun G1 H1 l c i => by
  have sq : SqT K H1 a vs := Same.sqT c.sub (Same.sqT l.hp e)
  refine ⟨fun d hd => ?_, fun h => ⟨vs, sq, by rw [hs.length]; exact h⟩⟩
  obtain ⟨v, ev, fv⟩ := hs.get hd
  refine ⟨⟨vs, v, sq, ev⟩, fun x H2 ⟨e2, hx⟩ => ?_⟩
  subst e2
  have := hx vs sq
  rw [ev] at this
  cases this
  exact ⟨G1, Stp.refl c, fv.mono l⟩
/-- lo, lo + 1, .. -/
def rgD (lo : Int) (n : Nat) : List D := (List.range n).map fun i : Nat => D.int (lo + (i : Int))
theorem yields_range {G : Fz} {lo : Int} {n : Nat} : Yields K cn (Itr lo n) G (rgD lo n) := fun G1 H1 l c i => by
  unfold rgD
  refine ⟨fun d hd => ?_, fun h => by rw [List.length_map, List.length_range] at h; exact h⟩
  rw [List.getElem?_map] at hd
  by_cases hi : i < n
  · rw [List.getElem?_range hi] at hd
    cases hd
    refine ⟨hi, fun x H2 ⟨e2, hx⟩ => ?_⟩
    subst e2; subst hx
    exact ⟨G1, Stp.refl c, .int⟩
  · rw [List.getElem?_eq_none (by rw [List.length_range]; omega)] at hd
    cases hd
def rgC (lo c : Int) (n : Nat) : List D := (List.range n).map fun i : Nat => D.int (lo + (i : Int) * c)
@[simp] def qIList (t : QX) : QI := fun env Q X => t env (fun o => o.toD.isL Q) X
instance ri_list {tl : TE} {t : QX} [h : RD K cn W tl t] : RI K cn W (iList K tl) (qIList t) := ⟨fun G H σ env Q X R c vw ex w z =>
  h.fro (Q := fun d => d.isL Q) c vw ex w fun v H' G' d s f q => by
    obtain ⟨ds, a, vs, rfl, rfl, e, hs, q⟩ := f.isL q
    exact ⟨a, rfl, ⟨vs, .inl (.inl (s.ctx.sub _ _ e))⟩, z _ H' G' ds s (yields_list e hs) q⟩⟩
@[simp] def qITup (t : QX) : QI := fun env Q X => t env (fun o => o.toD.isT Q) X
instance ri_tup {tl : TE} {t : QX} [h : RD K cn W tl t] : RI K cn W (iTup K tl) (qITup t) := ⟨fun G H σ env Q X R c vw ex w z =>
  h.fro (Q := fun d => d.isT Q) c vw ex w fun v H' G' d s f q => by
    obtain ⟨ds, a, vs, rfl, rfl, e, hs, q⟩ := f.isT q
    exact ⟨a, rfl, ⟨vs, Same.sqT s.ctx.sub e⟩, z _ H' G' ds s (yields_tup e hs) q⟩⟩
@[simp] def qIRng1 (t : QA) : QI := fun env Q X => t env (fun os => is1 (toDL os) fun d => d.isI fun j => -(2 ^ 62) ≤ j ∧ j < 2 ^ 62 ∧ Q (rgD 0 j.toNat)) X
instance ri_rng1 {ta : TA} {t : QA} [h : RA K cn W ta t] : RI K cn W (iRng1 ta) (qIRng1 t) := ⟨fun G H σ env Q X R c vw ex w z =>
  h.fro (Q := fun ds => is1 ds fun d => d.isI fun j => -(2 ^ 62) ≤ j ∧ j < 2 ^ 62 ∧ Q (rgD 0 j.toNat)) c vw ex w fun vs H' G' ds s f q => by
    obtain ⟨d, rfl, q⟩ := is1_of q
    obtain ⟨v, rfl, g⟩ := f.one rfl
    obtain ⟨j, rfl, rfl, q1, q2, q⟩ := g.isI q
    exact ⟨j, rfl, q1, q2, z _ H' G' _ s yields_range q⟩⟩
@[simp] def qIRng2 (t : QA) : QI := fun env Q X => t env (fun os => is2 (toDL os) fun d e => d.isI fun i => e.isI fun j => (-(2 ^ 62) ≤ i ∧ i < 2 ^ 62 ∧ -(2 ^ 62) ≤ j ∧ j < 2 ^ 62) ∧ Q (rgD i (j - i).toNat)) X
instance ri_rng2 {ta : TA} {t : QA} [h : RA K cn W ta t] : RI K cn W (iRng2 ta) (qIRng2 t) := ⟨fun G H σ env Q X R c vw ex w z =>
  h.fro (Q := fun ds => is2 ds fun d e => d.isI fun i => e.isI fun j => (-(2 ^ 62) ≤ i ∧ i < 2 ^ 62 ∧ -(2 ^ 62) ≤ j ∧ j < 2 ^ 62) ∧ Q (rgD i (j - i).toNat)) c vw ex w fun vs H' G' ds s f q => by
    obtain ⟨d, e, rfl, q⟩ := is2_of q
    obtain ⟨v, u, rfl, g, k⟩ := f.two rfl
    obtain ⟨i, rfl, rfl, q⟩ := g.isI q
    obtain ⟨j, rfl, rfl, q1, q⟩ := k.isI q
    exact ⟨i, j, rfl, q1, z _ H' G' _ s yields_range q⟩⟩
theorem yields_rangeC {G : Fz} {lo c : Int} {n : Nat} (hg : ∀ i H, i < n → (Itc lo c n).go i H) (hy : ∀ i H x H2, (Itc lo c n).yld i H x H2 → H2 = H ∧ x = .int (lo + (i : Int) * c)) (hst : ∀ (i : Nat) H, n ≤ i → (Itc lo c n).stop i H) : Yields K cn (Itc lo c n) G (rgC lo c n) := fun G1 H1 l cc i => by
  unfold rgC
  refine ⟨fun d hd => ?_, fun h => hst i H1 (by rw [List.length_map, List.length_range] at h; exact h)⟩
  rw [List.getElem?_map] at hd
  by_cases hi : i < n
  · rw [List.getElem?_range hi] at hd
    cases hd
    refine ⟨hg i H1 hi, fun x H2 y => ?_⟩
    obtain ⟨e2, hx⟩ := hy i H1 x H2 y
    subst e2; subst hx
    exact ⟨G1, Stp.refl cc, .int⟩
  · rw [List.getElem?_eq_none (by rw [List.length_range]; omega)] at hd
    cases hd
@[simp] def qIRng3 (t : QA) : QI := fun env Q X => t env (fun os => is3 (toDL os) fun d e f => d.isI fun i => e.isI fun j => f.isI fun c => c = -1 ∧ (-(2 ^ 62) ≤ i ∧ i < 2 ^ 62 ∧ -(2 ^ 62) ≤ j ∧ j < 2 ^ 62) ∧ Q (rgC i (-1) (i - j).toNat)) X
instance ri_rng3 {ta : TA} {t : QA} [h : RA K cn W ta t] : RI K cn W (iRng3 ta) (qIRng3 t) := ⟨fun G H σ env Q X R c vw ex w z =>
  h.fro (Q := fun ds => is3 ds fun d e f => d.isI fun i => e.isI fun j => f.isI fun c => c = -1 ∧ (-(2 ^ 62) ≤ i ∧ i < 2 ^ 62 ∧ -(2 ^ 62) ≤ j ∧ j < 2 ^ 62) ∧ Q (rgC i (-1) (i - j).toNat)) c vw ex w fun vs H' G' ds s f q => by
    obtain ⟨d, e, f', rfl, q⟩ := is3_of q
    obtain ⟨v, u, x, rfl, g, k, l⟩ := f.three rfl
    obtain ⟨i, rfl, rfl, q⟩ := g.isI q
    obtain ⟨j, rfl, rfl, q⟩ := k.isI q
    obtain ⟨c', rfl, rfl, rfl, q1, q⟩ := l.isI q
    exact ⟨i, j, -1, _, rfl, RgC.neg q1.1 q1.2.1 q1.2.2.1 q1.2.2.2, z _ H' G' _ s (yields_rangeC (fun i H h => h) (fun i H x H2 y => y) (fun i H h => h)) q⟩⟩
@[simp] def qIStr (t : QX) : QI := fun env Q X => t env (fun o => o.toD.isS fun x => Q (x.cps.toList.map fun c => .str ⟨#[c]⟩)) X
instance ri_str {tl : TE} {t : QX} [h : RD K cn W tl t] : RI K cn W (iStr tl) (qIStr t) := ⟨fun G H σ env Q X R c vw ex w z =>
  h.fro (Q := fun d => d.isS fun x => Q (x.cps.toList.map fun c => .str ⟨#[c]⟩)) c vw ex w fun v H' G' d s f q => by
    obtain ⟨x, rfl, rfl, q⟩ := f.isS q
    refine ⟨x, rfl, z _ H' G' _ s (fun G1 H1 l c i => ?_) q⟩
    refine ⟨fun d hd => ?_, fun h => by rw [List.length_map, Array.length_toList] at h; exact h⟩
    rw [List.getElem?_map, Array.getElem?_toList] at hd
    cases e : x.cps[i]? with
    | none => rw [e] at hd; cases hd
    | some u =>
      rw [e] at hd
      cases hd
      obtain ⟨hl, _⟩ := Array.getElem?_eq_some_iff.mp e
      refine ⟨hl, fun y H2 ⟨e2, cc, hc, hy⟩ => ?_⟩
      subst e2; subst hy
      rw [e] at hc
      cases hc
      exact ⟨G1, Stp.refl c, .str⟩⟩
theorem stp_tup {G1 : Fz} {H1 : Hp} {T : Addr} {xs : List V} {ds : List D} (c : Ctx G1 H1) (n : H1 T = none) (f : FroL K cn G1 ds xs) : ∃ G2, Stp G1 H1 G2 (L2.upd H1 T (.tup xs)) ∧ Fro K cn G2 (.tup ds) (.ref T) := by
  have s := Stp.upd (o := .tup xs) c n
  have ap : ∀ a ∈ [T], G1.hp a = none ∧ G1.af a ≠ true ∧ H1 a = none := fun a m => by
    rw [List.mem_singleton] at m; subst m
    exact ⟨c.sub.free n, fun h => (by obtain ⟨_, i, big, seed, e, _⟩ := c.feed a h; rw [n] at e; cases e), n⟩
  have s2 := s.freeze ap
  refine ⟨_, s2, .tup (.inl (.inl ?_)) (f.mono s2.le)⟩
  rw [Fz.add_in (by simp), upd_same]
@[simp] def qIEnum (t : QA) : QI := fun env Q X => t env (fun os => is1 (toDL os) fun d => d.isL fun ds => Q (ds.zipIdx.map fun (p : D × Nat) => D.tup [D.int p.2, p.1])) X
instance ri_enum {ta : TA} {t : QA} [h : RA K cn W ta t] : RI K cn W (iEnum K ta) (qIEnum t) := ⟨fun G H σ env Q X R c vw ex w z =>
  h.fro (Q := fun ds => is1 ds fun d => d.isL fun ds => Q (ds.zipIdx.map fun (p : D × Nat) => D.tup [D.int p.2, p.1])) c vw ex w fun vs H' G' ds s f q => by
    obtain ⟨d, rfl, q⟩ := is1_of q
    obtain ⟨v, rfl, g⟩ := f.one rfl
    obtain ⟨ds, a, vs, rfl, rfl, e, hs, q⟩ := g.isL q
    refine ⟨a, vs, rfl, .inl (.inl (s.ctx.sub _ _ e)), z _ H' G' _ s (fun G1 H1 l c i => ?_) q⟩
    have sq : SqL K H1 a vs := .inl (.inl (c.sub _ _ (l.hp _ _ e)))
    refine ⟨fun d hd => ?_, fun h => ⟨vs, sq, by rw [hs.length]; simpa using h⟩⟩
    rw [List.getElem?_map, List.getElem?_zipIdx] at hd
    cases e2 : ds[i]? with
    | none => rw [e2] at hd; cases hd
    | some u =>
      rw [e2] at hd
      cases hd
      obtain ⟨y, ey, fy⟩ := hs.get e2
      refine ⟨⟨vs, y, sq, ey⟩, fun x H2 ⟨T, x', hx, n, e3, ha⟩ => ?_⟩
      subst hx; subst e3
      have := ha vs sq
      rw [ey] at this
      cases this
      exact stp_tup c n (.cons (by rw [Nat.zero_add]; exact .int) (.cons (fy.mono l) .nil))⟩
@[simp] def qIZip (t : QA) : QI := fun env Q X => t env (fun os => is2 (toDL os) fun a b => a.isL fun xs => b.isL fun ys => Q ((xs.zip ys).map fun (p : D × D) => D.tup [p.1, p.2])) X
instance ri_zip {ta : TA} {t : QA} [h : RA K cn W ta t] : RI K cn W (iZip K ta) (qIZip t) := ⟨fun G H σ env Q X R c vw ex w z =>
  h.fro (Q := fun ds => is2 ds fun a b => a.isL fun xs => b.isL fun ys => Q ((xs.zip ys).map fun (p : D × D) => D.tup [p.1, p.2])) c vw ex w fun vs H' G' ds s f q => by
    obtain ⟨d, d', rfl, q⟩ := is2_of q
    obtain ⟨v, v', rfl, g, g'⟩ := f.two rfl
    obtain ⟨xs, a, vs, rfl, rfl, e, hs, q⟩ := g.isL q
    obtain ⟨ys, b, us, rfl, rfl, e', hs', q⟩ := g'.isL q
    refine ⟨a, b, vs, us, rfl, .inl (.inl (s.ctx.sub _ _ e)), .inl (.inl (s.ctx.sub _ _ e')), z _ H' G' _ s (fun G1 H1 l c i => ?_) q⟩
    have sq : SqL K H1 a vs := .inl (.inl (c.sub _ _ (l.hp _ _ e)))
    have sq' : SqL K H1 b us := .inl (.inl (c.sub _ _ (l.hp _ _ e')))
    refine ⟨fun d hd => ?_, fun h => ⟨vs, us, sq, sq', by rw [hs.length, hs'.length]; rw [List.length_map, List.length_zip] at h; omega⟩⟩
    rw [List.getElem?_map] at hd
    cases e2 : (xs.zip ys)[i]? with
    | none => rw [e2] at hd; cases hd
    | some u =>
      rw [e2] at hd
      cases hd
      obtain ⟨h1, h2⟩ := List.getElem?_zip_eq_some.mp e2
      obtain ⟨y, ey, fy⟩ := hs.get h1
      obtain ⟨y', ey', fy'⟩ := hs'.get h2
      refine ⟨⟨vs, us, y, y', sq, sq', ey, ey'⟩, fun x H2 ⟨T, x', y2, hx, n, e3, ha, hb⟩ => ?_⟩
      subst hx; subst e3
      have t1 := ha vs sq
      have t2 := hb us sq'
      rw [ey] at t1
      rw [ey'] at t2
      cases t1; cases t2
      exact stp_tup c n (.cons (fy.mono l) (.cons (fy'.mono l) .nil))⟩

/-! ### list comprehensions -/
def wipeD (env : DEnv) : List Nat → DEnv
  | [] => env
  | v :: vs => (wipeD env vs).set v none
@[simp] theorem wipeD_nil {env : DEnv} : wipeD env [] = env := rfl
@[simp] theorem wipeD_cons {env : DEnv} {v : Nat} {vs : List Nat} : wipeD env (v :: vs) = (wipeD env vs).set v none := rfl
theorem View.wipe {G : Fz} {σ : St} {env : DEnv} (w : View K cn G σ env) : ∀ vs : List Nat, View K cn G (L2.wipe σ vs) (wipeD env vs)
  | [] => w
  | v :: vs => by
    have ih := View.wipe w vs
    refine ⟨by show ((L2.wipe σ vs).set v none).length = ((wipeD env vs).set v none).length; rw [List.length_set, List.length_set]; exact ih.1, fun j e h => ?_⟩
    change ((wipeD env vs).set v none)[j]? = some (some e) at h
    show ∃ x, ((L2.wipe σ vs).set v none)[j]? = some (some x) ∧ _
    by_cases hj : v = j
    · subst hj
      by_cases hl : v < (wipeD env vs).length
      · rw [List.getElem?_set_self hl] at h; cases h
      · rw [List.getElem?_eq_none (by rw [List.length_set]; omega)] at h; cases h
    · rw [List.getElem?_set_ne hj] at h ⊢
      exact ih.2 j e h
theorem wipe_get (σ : St) : ∀ (vs : List Nat) (j : Nat), (L2.wipe σ vs)[j]? = if j ∈ vs then (if j < σ.length then some none else none) else σ[j]?
  | [], j => by simp [L2.wipe]
  | v :: vs, j => by
    show ((L2.wipe σ vs).set v none)[j]? = _
    rw [List.getElem?_set, wipe_get σ vs j, wipe_length]
    by_cases h : v = j
    · subst h; simp
    · rw [if_neg h]
      by_cases k : j ∈ vs
      · rw [if_pos k, if_pos (List.mem_cons_of_mem _ k)]
      · rw [if_neg k, if_neg (fun z => (List.mem_cons.mp z).elim (fun e => h e.symm) k)]
theorem setV_get : ∀ (ws : List (Nat × V)) (σ : St) (j : Nat), j ∉ ws.map Prod.fst → (setV σ ws)[j]? = σ[j]?
  | [], _, _, _ => rfl
  | p :: r, σ, j, h => by
    rw [List.map_cons, List.mem_cons, not_or] at h
    show (setV (σ.set p.1 (some p.2)) r)[j]? = _
    rw [setV_get r _ j h.2, List.getElem?_set_ne (Ne.symm h.1)]
theorem setV_length : ∀ (ws : List (Nat × V)) (σ : St), (setV σ ws).length = σ.length
  | [], _ => rfl
  | p :: r, σ => by
    show (setV (σ.set p.1 (some p.2)) r).length = _
    rw [setV_length r, List.length_set]
theorem Sets.fst {G : Fz} : ∀ {us : List (Nat × D)} {ws : List (Nat × V)}, Sets K cn G us ws → ws.map Prod.fst = us.map Prod.fst
  | _, _, .nil => rfl
  | _, _, .cons _ s => by rw [List.map_cons, List.map_cons, Sets.fst s]
theorem wipe_setV {σ : St} {vs : List Nat} {ws : List (Nat × V)} (h : ∀ j ∈ ws.map Prod.fst, j ∈ vs) : L2.wipe (setV (L2.wipe σ vs) ws) vs = L2.wipe σ vs := by
  refine List.ext_getElem? fun j => ?_
  rw [wipe_get, wipe_get, setV_length, wipe_length]
  by_cases k : j ∈ vs
  · rw [if_pos k, if_pos k]
  · rw [if_neg k, if_neg k, setV_get ws _ j (fun m => k (h j m)), wipe_get, if_neg k]
/-- nothing is wished for of exceptions -/
abbrev WF : WX := fun _ _ _ _ => False
/-- the items one by one: acc what is made so far -/
def compQ (g : QG) (vs : List Nat) (tt : QB) (te : QX) (env : DEnv) (Q : O → Prop) : List D → List O → Prop
  | [], acc => Q (.lst acc)
  | d :: ds, acc => match g d with
    | some us => (us.all fun p => vs.contains p.1) = true ∧ tt (setD env us) (fun b => if b = true then te (setD env us) (fun o => compQ g vs tt te env Q ds (acc ++ [o])) (fun _ => False) else compQ g vs tt te env Q ds acc) (fun _ => False)
    | none => False
@[simp] def qLc (ti : QI) (g : QG) (tt : QB) (te : QX) (vs : List Nat) : QX := fun env Q X => ti env (fun ds => ds.length ≤ 16777216 ∧ compQ g vs tt te (wipeD env vs) Q ds []) X
theorem exs_false {G : Fz} {H : Hp} {σ : St} {W : WX} : Exs K cn W G H σ fun _ => False := fun _ _ _ _ _ _ _ h => h.elim
theorem Stp.poke {G0 G : Fz} {B H : Hp} {p : Addr} {o : HO} (s : Stp G0 B G H) (hb : B p = none) (hg : G.hp p = none) (hf : G.af p ≠ true) : Stp G0 B G (L2.upd H p o) := by
  refine ⟨s.le, fun b u f h => ?_, ⟨fun b u h => ?_, fun a h => ?_⟩, s.new, s.newf⟩
  · rw [upd_ne (ne_of_none h hb)]; exact s.same b u f h
  · rw [upd_ne (ne_of_none h hg)]; exact s.ctx.sub b u h
  · obtain ⟨z, i, big, seed, e, r⟩ := s.ctx.feed a h
    refine ⟨z, i, big, seed, ?_, r⟩
    rw [upd_ne (fun q => hf (by rw [← q]; exact h))]; exact e
theorem Same.poke {B H : Hp} {p : Addr} {o : HO} (s : Same B H) (h : B p = none) : Same B (L2.upd H p o) := fun b u e => by rw [upd_ne (ne_of_none e h)]; exact s b u e
instance rd_lc {wi : TI} {g : TG} {tt : TT} {te : TE} {vs : List Nat} {ti : QI} {qg : QG} {qt : QB} {qe : QX} [hi : RI K cn W wi ti] [hg : RG K cn g qg] [ht : RT K cn WF tt qt] [he : RD K cn WF te qe] : RD K cn W (tLc wi g tt te vs) (qLc ti qg qt qe vs) := ⟨fun G H σ env Q X R c vw ex w z =>
  hi.run G H σ env (fun ds => ds.length ≤ 16777216 ∧ compQ qg vs qt qe (wipeD env vs) Q ds []) X _ c vw ex w fun J H1 G1 ds s1 yl q1 Dl nD => by
    obtain ⟨hlen, q1⟩ := q1
    have nf1 : G1.af Dl ≠ true := fun h => by obtain ⟨_, i, big, seed, e, _⟩ := s1.ctx.feed Dl h; rw [nD] at e; cases e
    have nB : H Dl = none := by
      cases e : H Dl with
      | none => rfl
      | some u =>
        by_cases f : G.af Dl = true
        · exact absurd (s1.le.af Dl f).1 nf1
        · rw [s1.same Dl u f e] at nD; cases nD
    refine ⟨fun i m H2 => m = ds.length - i ∧ i ≤ ds.length ∧ ∃ G2 acc avs fp, FzLe G1 G2 ∧ Stp G H G2 H2 ∧ H2 Dl = some (.lst avs) ∧ RepL K cn G2 H2 acc avs fp ∧ (Dl :: fp).Nodup ∧ (∀ a ∈ Dl :: fp, G2.hp a = none ∧ G2.af a ≠ true ∧ H a = none) ∧ acc.length ≤ i ∧ compQ qg vs qt qe (wipeD env vs) Q (ds.drop i) acc, ⟨_, rfl, Nat.zero_le _, G1, [], [], [], FzLe.refl _, s1.lay nD, upd_same, .nil, by simp, fun a m => ?_, Nat.le_refl _, q1⟩, ?_⟩
    · rw [List.mem_singleton] at m; subst m
      exact ⟨s1.ctx.sub.free nD, nf1, nB⟩
    rintro i m H2 ⟨rfl, hi', G2, acc, avs, fp, l2, s2, eD, rp, nd, ap, hacc, q2⟩
    by_cases hlt : i < ds.length
    · have hd : ds[i]? = some ds[i] := List.getElem?_eq_getElem hlt
      obtain ⟨y1, y2⟩ := yl G2 H2 l2 s2.ctx i
      obtain ⟨go, yy⟩ := y1 _ hd
      rw [List.drop_eq_getElem_cons hlt] at q2
      unfold compQ at q2
      split at q2
      · rename_i us eu
        obtain ⟨q2a, q2⟩ := q2
        refine .inr ⟨go, fun H3 => ∃ G2 acc avs fp, FzLe G1 G2 ∧ Stp G H G2 H3 ∧ H3 Dl = some (.lst avs) ∧ RepL K cn G2 H3 acc avs fp ∧ (Dl :: fp).Nodup ∧ (∀ a ∈ Dl :: fp, G2.hp a = none ∧ G2.af a ≠ true ∧ H a = none) ∧ acc.length ≤ i + 1 ∧ compQ qg vs qt qe (wipeD env vs) Q (ds.drop (i + 1)) acc, fun H' ⟨G2, acc, avs, fp, h⟩ => ⟨ds.length - (i + 1), by omega, rfl, hlt, G2, acc, avs, fp, h⟩, fun x H3 yx => ?_⟩
        obtain ⟨G3, s3, fx⟩ := yy x H3 yx
        refine hg.run G3 H3 x _ us _ _ s3.ctx fx eu fun ws hw => ?_
        have sub : ∀ j ∈ ws.map Prod.fst, j ∈ vs := fun j hj => by
          rw [hw.fst] at hj
          obtain ⟨p, hp, e⟩ := List.mem_map.mp hj
          have := List.all_eq_true.mp q2a p hp
          subst e
          exact List.contains_iff_mem.mp this
        refine ⟨wipe_setV sub, ?_⟩
        have vw3 : View K cn G3 (setV (L2.wipe σ vs) ws) (setD (wipeD env vs) us) := View.sets hw ((vw.le ((s1.le.trans l2).trans s3.le)).wipe vs)
        refine ht.run G3 H3 _ _ _ (fun _ => False) _ s3.ctx vw3 exs_false q2 fun b H4 G4 s4 q4 => ?_
        have own4 := ((⟨.lst eD rp, nd, ap⟩ : Own K cn H G2 H2 (.lst acc) (.ref Dl) (Dl :: fp)).step s3).step s4
        have s24 := (s2.trans s3).trans s4
        cases b with
        | false =>
          show ∃ G2 acc avs fp, _
          rw [if_neg Bool.false_ne_true] at q4
          obtain ⟨rp4, nd4, ap4⟩ := own4
          cases rp4 with
          | lst eD4 rp4 => exact ⟨G4, acc, _, fp, (l2.trans s3.le).trans s4.le, s24, eD4, rp4, nd4, ap4, by omega, q4⟩
        | true =>
          rw [if_pos rfl] at q4
          refine he.run G4 H4 _ _ _ (fun _ => False) _ s4.ctx (vw3.le s4.le) exs_false q4 fun y H5 G5 o fq s5 w5 q5 => ?_
          have own5 := own4.step s5
          obtain ⟨rp5, nd5, ap5⟩ := own5
          cases rp5 with
          | lst eD5 rp5 =>
            rename_i avs5
            have dj := disj_new own4.rep.there fun a m => (w5.ap a m).2.2
            have back : ∀ a ∈ fq, H a = none := fun a m => by
              cases e : H a with
              | none => rfl
              | some u =>
                by_cases f : G.af a = true
                · exact absurd ((s5.le.af a (s24.le.af a f).1).1) (w5.ap a m).2.1
                · have := s24.same a u f e
                  rw [(w5.ap a m).2.2] at this; cases this
            have nDfp : Dl ∉ fp := (List.nodup_cons.mp nd5).1
            have nDfq : Dl ∉ fq := fun m => dj Dl List.mem_cons_self Dl m rfl
            refine ⟨avs5, eD5, by rw [rp5.length]; have := sizeLine_eq; omega, G5, acc ++ [o], _, fp ++ fq, ((l2.trans s3.le).trans s4.le).trans s5.le, (s24.trans s5).poke (ap5 Dl List.mem_cons_self).2.2 (ap5 Dl List.mem_cons_self).1 (ap5 Dl List.mem_cons_self).2.1, upd_same, ?_, ?_, ?_, by rw [List.length_append, List.length_singleton]; omega, q5⟩
            · have r1 : RepL K cn G5 (L2.upd H5 Dl (.lst (avs5 ++ [y]))) acc avs5 fp := rp5.mono (FzLe.refl _) fun a m u e => by rw [upd_ne (fun q => nDfp (by rw [← q]; exact m))]; exact e
              have r2 : Rep K cn G5 (L2.upd H5 Dl (.lst (avs5 ++ [y]))) o y fq := w5.rep.mono (FzLe.refl _) fun a m u e => by rw [upd_ne (fun q => nDfq (by rw [← q]; exact m))]; exact e
              have := r1.append (.cons r2 .nil)
              rw [List.append_nil] at this
              exact this
            · rw [← List.cons_append]
              exact List.nodup_append.mpr ⟨nd5, w5.nd, fun a m b k => dj a m b k⟩
            · intro a m
              rw [← List.cons_append] at m
              rcases List.mem_append.mp m with m | m
              · exact ap5 a m
              · exact ⟨(w5.ap a m).1, (w5.ap a m).2.1, back a m⟩
      · exact q2.elim
    · have : i = ds.length := by omega
      subst this
      rw [List.drop_length] at q2
      unfold compQ at q2
      exact .inl ⟨(yl G2 H2 l2 s2.ctx _).2 (Nat.le_refl _), z (.ref Dl) H2 G2 (.lst acc) (Dl :: fp) s2 ⟨.lst eD rp, nd, ap⟩ q2⟩⟩
end
end PD

end PDComp_

section PDStmt_
set_option maxRecDepth 100000
set_option maxHeartbeats 1000000
/-! PDStmt: statements over data: the slots, what they own, one rule for each reading. -/
namespace PD
open PySem L2

/-! ### pairs that are owned, in any order -/
variable (K : PySem.W.Frag) (cn : Str → Option Addr) in
def OwnP (B : Hp) (G : Fz) (H : Hp) (ps : List (V × O)) : Prop := ∃ fp, OwnL K cn B G H (ps.map Prod.snd) (ps.map Prod.fst) fp
section
variable {K : PySem.W.Frag} {cn : Str → Option Addr} {B H H' : Hp} {G G' : Fz}

theorem RepL.mid {o : O} {v : V} : ∀ {a b : List (V × O)} {fp : List Addr}, RepL K cn G H ((a ++ (v, o) :: b).map Prod.snd) ((a ++ (v, o) :: b).map Prod.fst) fp →
    ∃ f g, Rep K cn G H o v f ∧ RepL K cn G H ((a ++ b).map Prod.snd) ((a ++ b).map Prod.fst) g ∧ (f ++ g).Perm fp
  | [], b, fp, h => by
    cases h with
    | cons h hs => exact ⟨_, _, h, hs, List.Perm.refl _⟩
  | p :: a, b, fp, h => by
    cases h with
    | @cons _ _ _ _ fp1 fq1 h hs =>
      obtain ⟨f, g, r, rs, pm⟩ := RepL.mid (a := a) (b := b) hs
      refine ⟨f, fp1 ++ g, r, .cons h rs, ?_⟩
      rw [← List.append_assoc]
      refine (List.perm_append_comm.append_right _).trans ?_
      rw [List.append_assoc]
      exact pm.append_left _
theorem OwnP.mid {o : O} {v : V} {a b : List (V × O)} (h : OwnP K cn B G H (a ++ (v, o) :: b)) : ∃ f g, Own K cn B G H o v f ∧ OwnL K cn B G H ((a ++ b).map Prod.snd) ((a ++ b).map Prod.fst) g ∧ ∀ x ∈ f, ∀ y ∈ g, x ≠ y := by
  obtain ⟨fp, r, nd, ap⟩ := h
  obtain ⟨f, g, r1, r2, pm⟩ := r.mid
  have nd' := pm.symm.nodup nd
  rw [List.nodup_append] at nd'
  exact ⟨f, g, ⟨r1, nd'.1, fun x m => ap x (pm.subset (List.mem_append.mpr (.inl m)))⟩, ⟨r2, nd'.2.1, fun x m => ap x (pm.subset (List.mem_append.mpr (.inr m)))⟩, nd'.2.2⟩
theorem OwnP.cons {o : O} {v : V} {f g : List Addr} {ps : List (V × O)} (h : Own K cn B G H o v f) (hs : OwnL K cn B G H (ps.map Prod.snd) (ps.map Prod.fst) g) (d : ∀ x ∈ f, ∀ y ∈ g, x ≠ y) : OwnP K cn B G H ((v, o) :: ps) := ⟨f ++ g, h.cons hs d⟩
theorem OwnP.uncons {o : O} {v : V} {ps : List (V × O)} (h : OwnP K cn B G H ((v, o) :: ps)) : ∃ f g, Own K cn B G H o v f ∧ OwnL K cn B G H (ps.map Prod.snd) (ps.map Prod.fst) g ∧ ∀ x ∈ f, ∀ y ∈ g, x ≠ y := OwnP.mid (a := []) h
theorem OwnP.tail {p : V × O} {ps : List (V × O)} (h : OwnP K cn B G H (p :: ps)) : OwnP K cn B G H ps := by
  obtain ⟨f, g, _, hs, _⟩ := OwnP.uncons h
  exact ⟨g, hs⟩
theorem OwnP.perm {ps qs : List (V × O)} (p : ps.Perm qs) : OwnP K cn B G H ps → OwnP K cn B G H qs := by
  induction p with
  | nil => exact id
  | cons x p ih =>
    intro h
    obtain ⟨f, g, a, b, d⟩ := OwnP.uncons (o := x.2) (v := x.1) h
    obtain ⟨g', b'⟩ := ih ⟨g, b⟩
    -- the footprints of the rest may stand in another order
    obtain ⟨fp, r, nd, ap⟩ := h
    rename_i l1 l2
    have key : ∀ {l1 l2 : List (V × O)}, l1.Perm l2 → ∀ {g : List Addr}, RepL K cn G H (l1.map Prod.snd) (l1.map Prod.fst) g → ∃ g', RepL K cn G H (l2.map Prod.snd) (l2.map Prod.fst) g' ∧ g.Perm g' := by
      intro l1 l2 p
      induction p with
      | nil => exact fun h => ⟨_, h, List.Perm.refl _⟩
      | cons x _ ih =>
        intro g h
        cases h with
        | cons h hs =>
          obtain ⟨g', r, pm⟩ := ih hs
          exact ⟨_, .cons h r, pm.append_left _⟩
      | swap x y l =>
        intro g h
        cases h with
        | cons h hs =>
          cases hs with
          | cons h2 hs2 =>
            refine ⟨_, .cons h2 (.cons h hs2), ?_⟩
            rw [← List.append_assoc, ← List.append_assoc]
            exact List.perm_append_comm.append_right _
      | trans _ _ ih1 ih2 =>
        intro g h
        obtain ⟨g1, r1, p1⟩ := ih1 h
        obtain ⟨g2, r2, p2⟩ := ih2 r1
        exact ⟨g2, r2, p1.trans p2⟩
    obtain ⟨g2, r2, p2⟩ := key p b.rep
    exact OwnP.cons a ⟨r2, p2.nodup b.nd, fun z m => b.ap z (p2.symm.subset m)⟩ fun z m y n => d z m y (p2.symm.subset n)
  | swap x y l =>
    rintro ⟨fp, r, nd, ap⟩
    cases r with
    | @cons _ _ _ _ f1 _ h hs =>
      cases hs with
      | @cons _ _ _ _ f2 f3 h2 hs2 =>
        have pm : (f1 ++ (f2 ++ f3)).Perm (f2 ++ (f1 ++ f3)) := by
          rw [← List.append_assoc, ← List.append_assoc]
          exact List.perm_append_comm.append_right _
        exact ⟨_, .cons h2 (.cons h hs2), pm.nodup nd, fun z m => ap z (pm.symm.subset m)⟩
  | trans _ _ ih1 ih2 => exact fun h => ih2 (ih1 h)
theorem OwnP.sub {ps qs : List (V × O)} (s : List.Sublist qs ps) : OwnP K cn B G H ps → OwnP K cn B G H qs := by
  induction s with
  | slnil => exact id
  | cons a s ih => exact fun h => ih h.tail
  | cons_cons a s ih =>
    intro h
    rename_i l1 l2
    obtain ⟨f, g, x, y, d⟩ := OwnP.uncons (o := a.2) (v := a.1) h
    have key : ∀ {l1 l2 : List (V × O)}, List.Sublist l1 l2 → ∀ {g : List Addr}, RepL K cn G H (l2.map Prod.snd) (l2.map Prod.fst) g → ∃ g', RepL K cn G H (l1.map Prod.snd) (l1.map Prod.fst) g' ∧ List.Sublist g' g := by
      intro l1 l2 s
      induction s with
      | slnil => exact fun h => ⟨_, h, List.Sublist.refl _⟩
      | cons a s ih =>
        intro g h
        cases h with
        | cons h hs =>
          obtain ⟨g', r, s'⟩ := ih hs
          exact ⟨g', r, s'.trans (List.sublist_append_right _ _)⟩
      | cons_cons a s ih =>
        intro g h
        cases h with
        | cons h hs =>
          obtain ⟨g', r, s'⟩ := ih hs
          exact ⟨_, .cons h r, List.Sublist.append (List.Sublist.refl _) s'⟩
    obtain ⟨g', r, s'⟩ := key s y.rep
    exact OwnP.cons x ⟨r, y.nd.sublist s', fun z m => y.ap z (s'.subset m)⟩ fun z m w n => d z m w (s'.subset n)
theorem OwnP.step {ps : List (V × O)} (h : OwnP K cn B G H ps) (s : Stp G H G' H') : OwnP K cn B G' H' ps := let ⟨fp, w⟩ := h; ⟨fp, w.step s⟩
theorem OwnP.nil : OwnP K cn B G H [] := ⟨[], OwnL.nil⟩
/-- something new beside what was owned -/
theorem OwnP.new {ps : List (V × O)} {o : O} {v : V} {f : List Addr} {G0 : Fz} {H0 : Hp} (h : OwnP K cn H0 G H ps) (s0 : Stp G0 H0 G H) (s : Stp G H G' H') (w : Own K cn H G' H' o v f) : OwnP K cn H0 G' H' ((v, o) :: ps) := by
  obtain ⟨g, y⟩ := h
  have y' := y.step s
  refine OwnP.cons ⟨w.rep, w.nd, fun a m => ⟨(w.ap a m).1, (w.ap a m).2.1, ?_⟩⟩ y' fun a m b n e => ?_
  · cases e : H0 a with
    | none => rfl
    | some u =>
      by_cases f : G0.af a = true
      · exact absurd ((s.le.af a (s0.le.af a f).1).1) (w.ap a m).2.1
      · have := s0.same a u f e
        rw [(w.ap a m).2.2] at this; cases this
  · obtain ⟨u, hu⟩ := y.rep.there b n
    rw [← e, (w.ap a m).2.2] at hu; cases hu
end

/-! ### slots -/
def slots : L2.St → OEnv → List (V × O)
  | some v :: σ, some o :: env => (v, o) :: slots σ env
  | _ :: σ, _ :: env => slots σ env
  | _, _ => []
theorem slots_none_sub : ∀ (σ : L2.St) (env : OEnv) (i : Nat), List.Sublist (slots σ (env.set i none)) (slots σ env)
  | [], env, i => by cases env <;> cases i <;> exact List.Sublist.refl _
  | _ :: _, [], i => by cases i <;> exact List.Sublist.refl _
  | none :: σ, none :: env, 0 => List.Sublist.refl _
  | none :: σ, some o :: env, 0 => List.Sublist.refl _
  | some v :: σ, none :: env, 0 => List.Sublist.refl _
  | some v :: σ, some o :: env, 0 => List.sublist_cons_self _ _
  | none :: σ, none :: env, i + 1 => slots_none_sub σ env i
  | none :: σ, some o :: env, i + 1 => slots_none_sub σ env i
  | some v :: σ, none :: env, i + 1 => slots_none_sub σ env i
  | some v :: σ, some o :: env, i + 1 => (slots_none_sub σ env i).cons_cons _
theorem slots_get : ∀ {σ : L2.St} {env : OEnv} {i : Nat} {v : V} {o : O}, σ[i]? = some (some v) → env[i]? = some (some o) → (slots σ env).Perm ((v, o) :: slots σ (env.set i none))
  | [], _, _, _, _, h, _ => by simp at h
  | _ :: _, [], _, _, _, _, h => by simp at h
  | s :: σ, e :: env, 0, v, o, h, k => by
    simp at h k
    subst h; subst k
    exact List.Perm.refl _
  | none :: σ, none :: env, i + 1, v, o, h, k => slots_get (σ := σ) (env := env) (i := i) (by simpa using h) (by simpa using k)
  | none :: σ, some x :: env, i + 1, v, o, h, k => slots_get (σ := σ) (env := env) (i := i) (by simpa using h) (by simpa using k)
  | some x :: σ, none :: env, i + 1, v, o, h, k => slots_get (σ := σ) (env := env) (i := i) (by simpa using h) (by simpa using k)
  | some x :: σ, some y :: env, i + 1, v, o, h, k => by
    have ih := slots_get (σ := σ) (env := env) (i := i) (by simpa using h) (by simpa using k)
    exact (ih.cons (x, y)).trans (List.Perm.swap _ _ _)
theorem slots_set : ∀ {σ : L2.St} {env : OEnv} {i : Nat} (v : V) (o : O), i < σ.length → σ.length = env.length → (slots (σ.set i (some v)) (env.set i (some o))).Perm ((v, o) :: slots σ (env.set i none))
  | [], _, _, _, _, h, _ => by simp at h
  | _ :: _, [], _, _, _, _, h => by simp at h
  | s :: σ, e :: env, 0, v, o, h, k => by
    cases s <;> exact List.Perm.refl _
  | none :: σ, none :: env, i + 1, v, o, h, k => slots_set (σ := σ) (env := env) (i := i) v o (by simpa using h) (by simpa using k)
  | none :: σ, some x :: env, i + 1, v, o, h, k => slots_set (σ := σ) (env := env) (i := i) v o (by simpa using h) (by simpa using k)
  | some x :: σ, none :: env, i + 1, v, o, h, k => slots_set (σ := σ) (env := env) (i := i) v o (by simpa using h) (by simpa using k)
  | some x :: σ, some y :: env, i + 1, v, o, h, k => by
    have ih := slots_set (σ := σ) (env := env) (i := i) v o (by simpa using h) (by simpa using k)
    exact (ih.cons (x, y)).trans (List.Perm.swap _ _ _)
/-- the slot's value does not matter where nothing is known of it -/
theorem slots_keep : ∀ {σ : L2.St} {env : OEnv} {i : Nat} {v : V} (o : O), σ[i]? = some (some v) → i < env.length → (slots σ (env.set i (some o))).Perm ((v, o) :: slots σ (env.set i none)) := fun {σ env i v} o h k => by
  have := slots_get (σ := σ) (env := env.set i (some o)) (i := i) (v := v) (o := o) h (by rw [List.getElem?_set_self k])
  rw [List.set_set] at this
  exact this

/-! ### the state at a statement -/
section
variable (K : PySem.W.Frag) (cn : Str → Option Addr)
/-- G0, H0: the entry (what is preserved); P: the first slots' values, never stored to; rest: what is owned besides -/
structure Ok (G0 : Fz) (H0 : Hp) (P : List V) (rest : List (V × O)) (G : Fz) (H : Hp) (σ : L2.St) (env : OEnv) : Prop where
  stp : Stp G0 H0 G H
  pin : ∀ (i : Nat) v, P[i]? = some v → σ[i]? = some (some v)
  len : σ.length = env.length
  val : ∀ (i : Nat) o, env[i]? = some (some o) → ∃ v, σ[i]? = some (some v)
  own : OwnP K cn H0 G H (slots σ env ++ rest)
end
/-- what is wanted behind a statement -/
structure Kont where
  nx : OEnv → Prop
  rt : O → OEnv → Prop
  bk : OEnv → Prop := fun _ => False
  ct : OEnv → Prop := fun _ => False
  ex : Exn → OEnv → Prop := fun _ _ => False
abbrev QS := Kont → OEnv → Prop
/-- an expression over the slots: what it gives, the slots behind it -/
abbrev QV := OEnv → (O → OEnv → Prop) → (Exn → OEnv → Prop) → Prop
section
variable (K : PySem.W.Frag) (cn : Str → Option Addr)
structure Lift (W : WX) (G0 : Fz) (H0 : Hp) (P : List V) (rest : List (V × O)) (k : Kont) (D : Ends) : Prop where
  nx : ∀ G H σ env, Ok K cn G0 H0 P rest G H σ env → k.nx env → D.nx σ H
  rt : ∀ G H σ env v o, Ok K cn G0 H0 P ((v, o) :: rest) G H σ env → k.rt o env → D.rt v H
  bk : ∀ G H σ env, Ok K cn G0 H0 P rest G H σ env → k.bk env → D.bk σ H
  ct : ∀ G H σ env, Ok K cn G0 H0 P rest G H σ env → k.ct env → D.ct σ H
  ex : ∀ G H σ env e cls d, Ok K cn G0 H0 P rest G H σ env → ExRep K cn G H e cls d → k.ex e env → W cls d σ H
/-- n: the number of pinned slots -/
def RS (n : Nat) (W : WX) (ts : TS) (t : QS) : Prop := ∀ G0 H0 P rest G H σ env k D, P.length = n → Ok K cn G0 H0 P rest G H σ env → Lift K cn W G0 H0 P rest k D → t k env → ts D σ H
def ExsV (W : WX) (G0 : Fz) (H0 : Hp) (P : List V) (rest : List (V × O)) (σ : L2.St) (X : Exn → OEnv → Prop) : Prop :=
  ∀ G H env e cls d, Ok K cn G0 H0 P rest G H σ env → ExRep K cn G H e cls d → X e env → W cls d σ H
def RV (W : WX) (te : TE) (t : QV) : Prop := ∀ G0 H0 P rest G H σ env Q X (R : VK), Ok K cn G0 H0 P rest G H σ env → ExsV K cn W G0 H0 P rest σ X → t env Q X →
  (∀ v H' G' env' o, Ok K cn G0 H0 P ((v, o) :: rest) G' H' σ env' → Q o env' → R v H') → te σ H R
end
section
variable {K : PySem.W.Frag} {cn : Str → Option Addr} {W : WX} {G0 G G' : Fz} {H0 H H' : Hp} {P : List V} {rest : List (V × O)} {σ : L2.St} {env : OEnv}

/-- all slots as data -/
def allV (env : OEnv) : DEnv := env.map fun o => o.map O.toD
/-- the frozen ones -/
def froD : Option O → Option D
  | some (.fro d) => some d
  | _ => none
def froV (env : OEnv) : DEnv := env.map froD
@[simp] theorem allV_nil : allV [] = [] := rfl
@[simp] theorem allV_cons {o : Option O} {env : OEnv} : allV (o :: env) = o.map O.toD :: allV env := rfl
@[simp] theorem froV_nil : froV [] = [] := rfl
@[simp] theorem froV_cons {o : Option O} {env : OEnv} : froV (o :: env) = froD o :: froV env := rfl
@[simp] theorem froD_fro {d : D} : froD (some (.fro d)) = some d := rfl
@[simp] theorem froD_none : froD none = none := rfl
@[simp] theorem froD_lst {d : List O} : froD (some (.lst d)) = none := rfl
@[simp] theorem froD_tup {d : List O} : froD (some (.tup d)) = none := rfl
@[simp] theorem froD_dct {d : List (Key × O)} : froD (some (.dct d)) = none := rfl
@[simp] theorem froD_dctT {d : List (List Key × O)} : froD (some (.dctT d)) = none := rfl
@[simp] theorem froD_ins {c : Str} {d : List (Str × O)} : froD (some (.ins c d)) = none := rfl
@[simp] theorem toD_fro {d : D} : O.toD (.fro d) = d := by rw [O.toD]
@[simp] theorem toD_lst {d : List O} : O.toD (.lst d) = .lst (d.map O.toD) := by rw [O.toD, toDL_map]
@[simp] theorem toD_tup {d : List O} : O.toD (.tup d) = .tup (d.map O.toD) := by rw [O.toD, toDL_map]
@[simp] theorem toDL_eq {d : List O} : toDL d = d.map O.toD := toDL_map d
@[simp] theorem toD_dct {d : List (Key × O)} : O.toD (.dct d) = .dct (d.map fun p => (p.1, p.2.toD)) := by rw [O.toD, toDK_map]
@[simp] theorem toD_dctT {d : List (List Key × O)} : O.toD (.dctT d) = .dctT (d.map fun p => (p.1, p.2.toD)) := by rw [O.toD, toDT_map]
@[simp] theorem toD_ins {c : Str} {d : List (Str × O)} : O.toD (.ins c d) = .ins c (d.map fun p => (p.1, p.2.toD)) := by rw [O.toD, toDF_map]
theorem mem_slots : ∀ {σ : L2.St} {env : OEnv} {i : Nat} {v : V} {o : O}, σ[i]? = some (some v) → env[i]? = some (some o) → (v, o) ∈ slots σ env := fun h k => (slots_get h k).symm.subset List.mem_cons_self
theorem FroL.mem {G : Fz} {ps : List (V × O)} {v : V} {o : O} (h : FroL K cn G (toDL (ps.map Prod.snd)) (ps.map Prod.fst)) (m : (v, o) ∈ ps) : Fro K cn G o.toD v := by
  induction ps with
  | nil => cases m
  | cons p ps ih =>
    rw [List.map_cons, List.map_cons, toDL] at h
    cases h with
    | cons h hs =>
      rcases List.mem_cons.mp m with e | m
      · subst e; exact h
      · exact ih hs m
/-- reading all slots: what is owned counts as frozen meanwhile -/
theorem Ok.borrow (ok : Ok K cn G0 H0 P rest G H σ env) : ∃ G1, FzLe G G1 ∧ Ctx G1 H ∧ View K cn G1 σ (allV env) ∧ G1.af = G.af := by
  obtain ⟨fp, w⟩ := ok.own
  refine ⟨G.add H fp, freeze_le ok.stp.ctx fun a m => ⟨(w.ap a m).1, (w.ap a m).2.1⟩, freeze_ctx ok.stp.ctx fun a m => ⟨(w.ap a m).1, (w.ap a m).2.1⟩, ⟨by unfold allV; rw [List.length_map]; exact ok.len, fun i d h => ?_⟩, rfl⟩
  unfold allV at h
  rw [List.getElem?_map] at h
  cases e : env[i]? with
  | none => rw [e] at h; cases h
  | some q =>
    rw [e] at h
    cases q with
    | none => cases h
    | some o =>
      cases h
      obtain ⟨v, ev⟩ := ok.val i o e
      exact ⟨v, ev, (w.freeze ok.stp.ctx).mem (List.mem_append.mpr (.inl (mem_slots ev e)))⟩
/-- reading the frozen slots -/
theorem Ok.view (ok : Ok K cn G0 H0 P rest G H σ env) : View K cn G σ (froV env) := by
  refine ⟨by unfold froV; rw [List.length_map]; exact ok.len, fun i d h => ?_⟩
  unfold froV at h
  rw [List.getElem?_map] at h
  cases e : env[i]? with
  | none => rw [e] at h; cases h
  | some q =>
    rw [e] at h
    have hq : q = some (.fro d) := by
      cases q with
      | none => cases h
      | some o => cases o <;> first | (cases h; rfl) | cases h
    subst hq
    obtain ⟨v, ev⟩ := ok.val i _ e
    refine ⟨v, ev, ?_⟩
    obtain ⟨f, g, w, _, _⟩ := OwnP.uncons (ok.own.perm ((slots_get ev e).append_right rest))
    cases w.rep with
    | fro h => exact h
theorem Ok.step (ok : Ok K cn G0 H0 P rest G H σ env) (s : Stp G H G' H') : Ok K cn G0 H0 P rest G' H' σ env := ⟨ok.stp.trans s, ok.pin, ok.len, ok.val, ok.own.step s⟩
/-- a slot is frozen -/
theorem Ok.freeze {i : Nat} {o : O} (ok : Ok K cn G0 H0 P rest G H σ env) (h : env[i]? = some (some o)) : ∃ G', FzLe G G' ∧ Ok K cn G0 H0 P rest G' H σ (env.set i (some (.fro o.toD))) := by
  obtain ⟨v, ev⟩ := ok.val i o h
  obtain ⟨f, g, w, ws, d⟩ := OwnP.uncons (ok.own.perm ((slots_get ev h).append_right rest))
  have le := freeze_le ok.stp.ctx fun a m => ⟨(w.ap a m).1, (w.ap a m).2.1⟩
  have hl : i < env.length := (List.getElem?_eq_some_iff.mp h).1
  refine ⟨G.add H f, le, ok.stp.freeze w.ap, ok.pin, by rw [List.length_set]; exact ok.len, fun j o' e => ?_, ?_⟩
  · by_cases hj : i = j
    · subst hj; exact ⟨v, ev⟩
    · rw [List.getElem?_set_ne hj] at e; exact ok.val j o' e
  · refine OwnP.perm ((slots_keep _ ev hl).append_right rest).symm ?_
    refine OwnP.cons (Own.fro (w.freeze ok.stp.ctx)) (g := g) ⟨ws.rep.mono le fun a m u e => e, ws.nd, fun a m => ⟨?_, (ws.ap a m).2.1, (ws.ap a m).2.2⟩⟩ fun a m => nomatch m
    rw [Fz.add_out fun n => d a n a m rfl]
    exact (ws.ap a m).1
/-- the slots rs are frozen -/
def frz (env : OEnv) : List Nat → OEnv
  | [] => env
  | i :: rs => frz (match env[i]? with
    | some (some o) => env.set i (some (.fro o.toD))
    | _ => env) rs
@[simp] theorem frz_nil {env : OEnv} : frz env [] = env := rfl
@[simp] theorem frz_cons {env : OEnv} {i : Nat} {rs : List Nat} : frz env (i :: rs) = frz (match env[i]? with
    | some (some o) => env.set i (some (.fro o.toD))
    | _ => env) rs := rfl
theorem Ok.frz {rs : List Nat} : ∀ {G : Fz} {env : OEnv}, Ok K cn G0 H0 P rest G H σ env → ∃ G', FzLe G G' ∧ Ok K cn G0 H0 P rest G' H σ (PD.frz env rs) := by
  induction rs with
  | nil => exact fun {G env} ok => ⟨G, FzLe.refl _, ok⟩
  | cons i rs ih =>
    intro G env ok
    rw [frz_cons]
    split
    · rename_i o h
      obtain ⟨G1, l1, ok1⟩ := ok.freeze h
      obtain ⟨G2, l2, ok2⟩ := ih ok1
      exact ⟨G2, l1.trans l2, ok2⟩
    · exact ih ok
theorem Ok.push {o : O} {v : V} {f : List Addr} (ok : Ok K cn G0 H0 P rest G H σ env) (s : Stp G H G' H') (w : Own K cn H G' H' o v f) : Ok K cn G0 H0 P ((v, o) :: rest) G' H' σ env :=
  ⟨ok.stp.trans s, ok.pin, ok.len, ok.val, (ok.own.new ok.stp s w).perm List.perm_middle.symm⟩

/-! ### expressions over the slots -/
/-- borrowed: what it gives leans on nothing -/
@[simp] def vB (t : QX) : QV := fun env Q X => t (allV env) (fun o => o.solid = true ∧ Q o env) (fun e => X e env)
/-- what was borrowed is given back -/
theorem Stp.thaw {G1 G2 : Fz} {H2 : Hp} (c : Ctx G H) (l1 : FzLe G G1) (af : G1.af = G.af) (s : Stp G1 H G2 H2) : Stp G H G H2 := by
  refine ⟨FzLe.refl _, fun b u f e => s.same b u (fun z => f (by rw [← af]; exact z)) e, ⟨fun b u e => s.ctx.sub b u (s.le.hp b u (l1.hp b u e)), fun a h => ?_⟩, fun a u h k => (by rw [h] at k; cases k), fun a h => .inl h⟩
  obtain ⟨h1, c1⟩ := l1.af a h
  obtain ⟨h2, c3⟩ := s.le.af a h1
  obtain ⟨z, i, big, seed, e, hb, r⟩ := s.ctx.feed a h2
  obtain ⟨z', _, _, _, _, hb', _⟩ := c.feed a h
  rw [c3, c1] at e r
  exact ⟨z', i, big, seed, e, hb', r⟩
theorem rv_B {te : TE} {t : QX} (h : RD K cn W te t) : RV K cn W te (vB t) := fun G0 H0 P rest G H σ env Q X R ok ex q z => by
  obtain ⟨G1, l1, c1, vw, af⟩ := ok.borrow
  refine h.run G1 H σ (allV env) _ _ R c1 vw (fun H' G' e cls d s r x => ?_) q fun v H' G' o fp s w q => ?_
  · exact ex G H' env e cls d (ok.step (Stp.thaw ok.stp.ctx l1 af s)) r.any x
  · have s' := Stp.thaw ok.stp.ctx l1 af s
    refine z v H' G env o (ok.push s' ⟨w.rep.solid q.1, w.nd, fun a m => ⟨?_, fun f => (w.ap a m).2.1 (s.le.af a (l1.af a f).1).1, (w.ap a m).2.2⟩⟩) q.2
    cases e : G.hp a with
    | none => rfl
    | some u =>
      have := s.le.hp a u (l1.hp a u e)
      rw [(w.ap a m).1] at this
      cases this
/-- frozen: the slots rs are frozen first, then the frozen slots are read -/
@[simp] def vF (rs : List Nat) (t : QX) : QV := fun env Q X => t (froV (frz env rs)) (fun o => Q o (frz env rs)) (fun e => X e (frz env rs))
theorem rv_F (rs : List Nat) {te : TE} {t : QX} (h : RD K cn W te t) : RV K cn W te (vF rs t) := fun G0 H0 P rest G H σ env Q X R ok ex q z => by
  obtain ⟨G1, l1, ok1⟩ := ok.frz (rs := rs)
  refine h.run G1 H σ _ _ _ R ok1.stp.ctx ok1.view (fun H' G' e cls d s r x => ex G' H' _ e cls d (ok1.step s) r x) q fun v H' G' o fp s w q => ?_
  exact z v H' G' _ o (ok1.push s w) q
/-- a slot's owned value is given away -/
@[simp] def vMv (i : Nat) : QV := fun env Q _ => match env[i]? with
  | some (some o) => Q o (env.set i none)
  | _ => False
theorem rv_mv {i : Nat} : RV K cn W (tVar i) (vMv i) := fun G0 H0 P rest G H σ env Q X R ok ex q z => by
  unfold vMv at q
  split at q
  · rename_i o h
    obtain ⟨v, ev⟩ := ok.val i o h
    refine ⟨v, ev, z v H G _ o ⟨ok.stp, ok.pin, by rw [List.length_set]; exact ok.len, fun j o' e => ?_, ?_⟩ q⟩
    · by_cases hj : i = j
      · subst hj
        rw [List.getElem?_set_self (List.getElem?_eq_some_iff.mp h).1] at e
        cases e
      · rw [List.getElem?_set_ne hj] at e; exact ok.val j o' e
    · exact (ok.own.perm ((slots_get ev h).append_right rest)).perm List.perm_middle.symm
  · exact q.elim
abbrev QVA := OEnv → (List O → OEnv → Prop) → (Exn → OEnv → Prop) → Prop
variable (K) (cn) in
/-- the arguments of a display, each in its own way -/
def RVA (W : WX) (ta : TA) (t : QVA) : Prop := ∀ G0 H0 P rest G H σ env Q X (R : List V → Hp → Prop), Ok K cn G0 H0 P rest G H σ env → ExsV K cn W G0 H0 P rest σ X → t env Q X →
  (∀ vs H' G' env' os, Ok K cn G0 H0 P (vs.zip os ++ rest) G' H' σ env' → vs.length = os.length → Q os env' → R vs H') → ta σ H R
theorem Ok.drop {p : V × O} (ok : Ok K cn G0 H0 P (p :: rest) G H σ env) : Ok K cn G0 H0 P rest G H σ env :=
  ⟨ok.stp, ok.pin, ok.len, ok.val, ok.own.sub ((List.sublist_cons_self p rest).append_left (slots σ env))⟩
theorem ExsV.cons {p : V × O} {X : Exn → OEnv → Prop} (x : ExsV K cn W G0 H0 P rest σ X) : ExsV K cn W G0 H0 P (p :: rest) σ X := fun G H env e cls d ok r q => x G H env e cls d ok.drop r q
@[simp] def vNil : QVA := fun env Q _ => Q [] env
@[simp] def vCons (t : QV) (u : QVA) : QVA := fun env Q X => t env (fun o env => u env (fun os env => Q (o :: os) env) X) X
theorem rva_nil : RVA K cn W tNil vNil := fun G0 H0 P rest G H σ env Q X R ok ex q z => z [] H G env [] ok rfl q
theorem rva_cons {te : TE} {ta : TA} {t : QV} {u : QVA} (h : RV K cn W te t) (k : RVA K cn W ta u) : RVA K cn W (tCons te ta) (vCons t u) := fun G0 H0 P rest G H σ env Q X R ok ex q z =>
  h G0 H0 P rest G H σ env _ X _ ok ex q fun v H1 G1 env1 o ok1 q1 =>
  k G0 H0 P ((v, o) :: rest) G1 H1 σ env1 _ X _ ok1 ex.cons q1 fun vs H2 G2 env2 os ok2 hl q2 =>
  z (v :: vs) H2 G2 env2 (o :: os) ⟨ok2.stp, ok2.pin, ok2.len, ok2.val, ok2.own.perm (List.perm_middle.append_left _)⟩ (by rw [List.length_cons, List.length_cons, hl]) q2
theorem zip_fst : ∀ {vs : List V} {os : List O}, vs.length = os.length → (vs.zip os).map Prod.fst = vs
  | [], [], _ => rfl
  | v :: vs, o :: os, h => by rw [List.zip_cons_cons, List.map_cons, zip_fst (by simpa using h)]
theorem zip_snd : ∀ {vs : List V} {os : List O}, vs.length = os.length → (vs.zip os).map Prod.snd = os
  | [], [], _ => rfl
  | v :: vs, o :: os, h => by rw [List.zip_cons_cons, List.map_cons, zip_snd (by simpa using h)]
theorem OwnL.split {ps qs : List (V × O)} {B : Hp} {fp : List Addr} (h : OwnL K cn B G H ((ps ++ qs).map Prod.snd) ((ps ++ qs).map Prod.fst) fp) : ∃ f g, OwnL K cn B G H (ps.map Prod.snd) (ps.map Prod.fst) f ∧ OwnL K cn B G H (qs.map Prod.snd) (qs.map Prod.fst) g ∧ ∀ x ∈ f, ∀ y ∈ g, x ≠ y := by
  have key : ∀ {ps : List (V × O)} {fp : List Addr}, RepL K cn G H ((ps ++ qs).map Prod.snd) ((ps ++ qs).map Prod.fst) fp → ∃ f g, RepL K cn G H (ps.map Prod.snd) (ps.map Prod.fst) f ∧ RepL K cn G H (qs.map Prod.snd) (qs.map Prod.fst) g ∧ fp = f ++ g := by
    intro ps
    induction ps with
    | nil => exact fun {fp} h => ⟨[], fp, .nil, h, rfl⟩
    | cons p ps ih =>
      intro fp h
      cases h with
      | cons h hs =>
        obtain ⟨f, g, a, b, e⟩ := ih hs
        exact ⟨_, g, .cons h a, b, by rw [e, List.append_assoc]⟩
  obtain ⟨f, g, a, b, e⟩ := key h.rep
  subst e
  have nd := List.nodup_append.mp h.nd
  exact ⟨f, g, ⟨a, nd.1, fun x m => h.ap x (List.mem_append.mpr (.inl m))⟩, ⟨b, nd.2.1, fun x m => h.ap x (List.mem_append.mpr (.inr m))⟩, nd.2.2⟩
/-- a new object over what is owned -/
theorem Ok.wrap {vs : List V} {os : List O} {p : Addr} (ok : Ok K cn G0 H0 P (vs.zip os ++ rest) G H σ env) (hl : vs.length = os.length) (n : H p = none) (u : HO) (o : O)
    (mk : ∀ H' fp, H' p = some u → RepL K cn G H' os vs fp → Rep K cn G H' o (.ref p) (p :: fp)) : Ok K cn G0 H0 P ((.ref p, o) :: rest) G (L2.upd H p u) σ env := by
  have c := ok.stp.ctx
  have nf : G.af p ≠ true := fun h => by obtain ⟨_, i, big, seed, e, _⟩ := c.feed p h; rw [n] at e; cases e
  have nb : H0 p = none := by
    cases e : H0 p with
    | none => rfl
    | some u =>
      by_cases f : G0.af p = true
      · exact absurd (ok.stp.le.af p f).1 nf
      · rw [ok.stp.same p u f e] at n; cases n
  have own := ok.own.perm (show (slots σ env ++ (vs.zip os ++ rest)).Perm (vs.zip os ++ (slots σ env ++ rest)) by
    rw [← List.append_assoc, ← List.append_assoc]
    exact List.perm_append_comm.append_right _)
  obtain ⟨fp, w⟩ := own
  obtain ⟨f, g, a, b, d⟩ := w.split
  rw [zip_fst hl, zip_snd hl] at a
  refine ⟨ok.stp.lay n, ok.pin, ok.len, ok.val, OwnP.perm List.perm_middle.symm ?_⟩
  have np : ∀ {fp : List Addr}, (∀ a ∈ fp, ∃ u, H a = some u) → p ∉ fp := fun t m => by obtain ⟨u, e⟩ := t p m; rw [n] at e; cases e
  have k : ∀ a u', H a = some u' → L2.upd H p u a = some u' := fun a u' e => by rw [upd_ne (ne_of_none e n)]; exact e
  refine OwnP.cons ⟨mk _ f upd_same (a.rep.mono (FzLe.refl _) fun x _ => k x), List.nodup_cons.mpr ⟨np a.rep.there, a.nd⟩, fun x m => ?_⟩ ⟨b.rep.mono (FzLe.refl _) fun x _ => k x, b.nd, b.ap⟩ fun x m y m' e => ?_
  · rcases List.mem_cons.mp m with rfl | m
    · exact ⟨c.sub.free n, nf, nb⟩
    · exact a.ap x m
  · rcases List.mem_cons.mp m with rfl | m
    · rw [e] at n
      obtain ⟨u, hu⟩ := b.rep.there y m'
      rw [hu] at n; cases n
    · exact d x m y m' e
@[simp] def vTup (t : QVA) : QV := fun env Q X => t env (fun os env => os.length ≤ 16777216 ∧ Q (.tup os) env) X
@[simp] def vLst (t : QVA) : QV := fun env Q X => t env (fun os env => os.length ≤ 16777216 ∧ Q (.lst os) env) X
theorem rv_tup {ta : TA} {t : QVA} (h : RVA K cn W ta t) : RV K cn W (tTup ta) (vTup t) := fun G0 H0 P rest G H σ env Q X R ok ex q z =>
  h G0 H0 P rest G H σ env _ X _ ok ex q fun vs H1 G1 env1 os ok1 hl q1 =>
  ⟨by rw [hl, sizeLine_eq]; exact q1.1, fun p n => z (.ref p) _ G1 env1 (.tup os) (ok1.wrap hl n (.tup vs) (.tup os) fun H' fp e r => .tup e r) q1.2⟩
theorem rv_lst {ta : TA} {t : QVA} (h : RVA K cn W ta t) : RV K cn W (tLst ta) (vLst t) := fun G0 H0 P rest G H σ env Q X R ok ex q z =>
  h G0 H0 P rest G H σ env _ X _ ok ex q fun vs H1 G1 env1 os ok1 hl q1 =>
  ⟨by rw [hl, sizeLine_eq]; exact q1.1, fun p n => z (.ref p) _ G1 env1 (.lst os) (ok1.wrap hl n (.lst vs) (.lst os) fun H' fp e r => .lst e r) q1.2⟩
end
end PD

end PDStmt_

section PDRules_
set_option maxRecDepth 100000
set_option maxHeartbeats 1000000
/-! PDRules: one rule for each statement's reading. -/
namespace PD
open PySem L2

section
variable {K : PySem.W.Frag} {cn : Str → Option Addr} {W : WX} {G0 G G' : Fz} {H0 H H' : Hp} {P : List V} {rest : List (V × O)} {σ : L2.St} {env : OEnv} {n : Nat}

theorem Lift.exs {k : Kont} {D : Ends} (l : Lift K cn W G0 H0 P rest k D) : ExsV K cn W G0 H0 P rest σ k.ex := fun G H env e cls d ok r q => l.ex G H σ env e cls d ok r q
theorem set_oob {α : Type} {l : List α} {i : Nat} {x : α} (h : ¬ i < l.length) : l.set i x = l := List.set_eq_of_length_le (by omega)
/-- the value at hand is stored -/
theorem Ok.store {o : O} {v : V} {i : Nat} (ok : Ok K cn G0 H0 P ((v, o) :: rest) G H σ env) (hp : P.length ≤ i) : Ok K cn G0 H0 P rest G H (σ.set i (some v)) (env.set i (some o)) := by
  by_cases hi : i < σ.length
  · refine ⟨ok.stp, fun j w e => ?_, by rw [List.length_set, List.length_set]; exact ok.len, fun j o' e => ?_, ?_⟩
    · have : j < P.length := (List.getElem?_eq_some_iff.mp e).1
      rw [List.getElem?_set_ne (by omega)]
      exact ok.pin j w e
    · by_cases hj : i = j
      · subst hj
        exact ⟨v, by rw [List.getElem?_set_self hi]⟩
      · rw [List.getElem?_set_ne hj] at e ⊢
        exact ok.val j o' e
    · refine OwnP.perm ((slots_set v o hi ok.len).append_right rest).symm ?_
      refine OwnP.sub ?_ (ok.own.perm List.perm_middle)
      exact ((slots_none_sub σ env i).append_right rest).cons_cons _
  · have h2 : ¬ i < env.length := by have := ok.len; omega
    rw [set_oob hi, set_oob h2]
    exact ok.drop
/-- a slot forgotten -/
theorem Ok.forget {i : Nat} (ok : Ok K cn G0 H0 P rest G H σ env) : Ok K cn G0 H0 P rest G H σ (env.set i none) := by
  refine ⟨ok.stp, ok.pin, by rw [List.length_set]; exact ok.len, fun j o' e => ?_, ok.own.sub ((slots_none_sub σ env i).append_right rest)⟩
  by_cases hj : i = j
  · subst hj
    by_cases hl : i < env.length
    · rw [List.getElem?_set_self hl] at e; cases e
    · rw [List.getElem?_eq_none (by rw [List.length_set]; omega)] at e; cases e
  · rw [List.getElem?_set_ne hj] at e
    exact ok.val j o' e

/-! ### blocks, plain ends -/
@[simp] def qSeq (t u : QS) : QS := fun k env => t { k with nx := u k } env
theorem rs_seq {t u : TS} {p q : QS} (h : RS K cn n W t p) (h2 : RS K cn n W u q) : RS K cn n W (tSeq t u) (qSeq p q) := fun G0 H0 P rest G H σ env k D hn ok l w =>
  h G0 H0 P rest G H σ env { k with nx := q k } { D with nx := u D } hn ok ⟨fun G H σ env ok w => h2 G0 H0 P rest G H σ env k D hn ok l w, l.rt, l.bk, l.ct, l.ex⟩ w
@[simp] def qNext : QS := fun k env => k.nx env
theorem rs_next : RS K cn n W tNext qNext := fun G0 H0 P rest G H σ env k D hn ok l w => l.nx G H σ env ok w
@[simp] def qBreak : QS := fun k env => k.bk env
theorem rs_break : RS K cn n W tBreak qBreak := fun G0 H0 P rest G H σ env k D hn ok l w => l.bk G H σ env ok w
@[simp] def qCont : QS := fun k env => k.ct env
theorem rs_cont : RS K cn n W tCont qCont := fun G0 H0 P rest G H σ env k D hn ok l w => l.ct G H σ env ok w
@[simp] def qNever : QS := fun _ _ => False
theorem rs_never {ts : TS} : RS K cn n W ts qNever := fun G0 H0 P rest G H σ env k D hn ok l w => w.elim
@[simp] def qDrop (t : QV) : QS := fun k env => t env (fun _ env => k.nx env) k.ex
theorem rs_drop {te : TE} {t : QV} (h : RV K cn W te t) : RS K cn n W (tDrop te) (qDrop t) := fun G0 H0 P rest G H σ env k D hn ok l w =>
  h G0 H0 P rest G H σ env _ _ _ ok l.exs w fun v H' G' env' o ok w => l.nx G' H' σ env' ok.drop w
@[simp] def qRet (t : QV) : QS := fun k env => t env k.rt k.ex
theorem rs_ret {te : TE} {t : QV} (h : RV K cn W te t) : RS K cn n W (tRet te) (qRet t) := fun G0 H0 P rest G H σ env k D hn ok l w =>
  h G0 H0 P rest G H σ env _ _ _ ok l.exs w fun v H' G' env' o ok w => l.rt G' H' σ env' v o ok w
@[simp] def qRetN : QS := fun k env => k.rt (.fro .non) env
theorem Ok.fro {d : D} {v : V} (ok : Ok K cn G0 H0 P rest G H σ env) (f : Fro K cn G d v) : Ok K cn G0 H0 P ((v, .fro d) :: rest) G H σ env := ok.push (Stp.refl ok.stp.ctx) (Own.fro f)
theorem rs_retN : RS K cn n W tRetN qRetN := fun G0 H0 P rest G H σ env k D hn ok l w => l.rt G H σ env .non (.fro .non) (ok.fro .non) w
@[simp] def qSet (i : Nat) (t : QV) (n : Nat) : QS := fun k env => t env (fun o env => n ≤ i ∧ k.nx (env.set i (some o))) k.ex
theorem rs_set {i : Nat} {te : TE} {t : QV} (h : RV K cn W te t) : RS K cn n W (tAsg te (gName i)) (qSet i t n) := fun G0 H0 P rest G H σ env k D hn ok l w =>
  h G0 H0 P rest G H σ env _ _ _ ok l.exs w fun v H' G' env' o ok w => l.nx G' H' _ _ (ok.store (by rw [hn]; exact w.1)) w.2
/-- tests: the slots are borrowed -/
@[simp] def qIfS (c : QB) (t u : QS) : QS := fun k env => c (allV env) (fun b => if b = true then t k env else u k env) (fun e => k.ex e env)
theorem rt_B' {tt : TT} {c : QB} (h : RT K cn W tt c) {Q : Bool → Prop} {X : Exn → OEnv → Prop} {R : Bool → Hp → Prop} (ok : Ok K cn G0 H0 P rest G H σ env) (ex : ExsV K cn W G0 H0 P rest σ X) (q : c (allV env) Q (fun e => X e env))
    (z : ∀ b H', Ok K cn G0 H0 P rest G H' σ env → Q b → R b H') : tt σ H R := by
  obtain ⟨G1, l1, c1, vw, af⟩ := ok.borrow
  exact h.run G1 H σ (allV env) _ _ R c1 vw (fun H' G' e cls d s r x => ex G H' env e cls d (ok.step (Stp.thaw ok.stp.ctx l1 af s)) r.any x) q fun b H' G' s q => z b H' (ok.step (Stp.thaw ok.stp.ctx l1 af s)) q
theorem rs_if {tt : TT} {t u : TS} {c : QB} {p q : QS} (hc : RT K cn W tt c) (h : RS K cn n W t p) (h2 : RS K cn n W u q) : RS K cn n W (tIfS tt t u) (qIfS c p q) := fun G0 H0 P rest G H σ env k D hn ok l w =>
  rt_B' hc ok l.exs w fun b H' ok w => by
    cases b with
    | true => exact h G0 H0 P rest G H' σ env k D hn ok l w
    | false => exact h2 G0 H0 P rest G H' σ env k D hn ok l w
/-- while: W what holds ahead of each test, with a number that falls -/
def qWhile (c : QB) (t : QS) : QS := fun k env => ∃ J : Nat → OEnv → Prop, (∃ m, J m env) ∧ ∀ m env, J m env → c (allV env) (fun b => if b = true then t { k with nx := fun env' => ∃ m', m' < m ∧ J m' env', ct := fun env' => ∃ m', m' < m ∧ J m' env', bk := k.nx } env else k.nx env) (fun e => k.ex e env)
theorem rs_while {tt : TT} {t : TS} {c : QB} {p : QS} (hc : RT K cn W tt c) (h : RS K cn n W t p) : RS K cn n W (tWhile tt t) (qWhile c p) := fun G0 H0 P rest G H σ env k D hn ok l w => by
  obtain ⟨J, ⟨m0, j0⟩, turn⟩ := w
  refine ⟨fun m σ H => ∃ G env, Ok K cn G0 H0 P rest G H σ env ∧ J m env, ⟨m0, G, env, ok, j0⟩, fun m σ H ⟨G, env, ok, j⟩ => ?_⟩
  refine rt_B' hc ok l.exs (turn m env j) fun b H' ok w => ?_
  cases b with
  | false =>
    show (if false = true then _ else D.nx σ H')
    rw [if_neg Bool.false_ne_true]
    exact l.nx G H' σ env ok w
  | true =>
    show (if true = true then _ else D.nx σ H')
    rw [if_pos rfl]
    refine ⟨fun σ H => ∃ m', m' < m ∧ ∃ G env, Ok K cn G0 H0 P rest G H σ env ∧ J m' env, fun σ' H'' ⟨m', lt, x⟩ => ⟨m', lt, x⟩, ?_⟩
    refine h G0 H0 P rest G H' σ env { k with nx := fun env' => ∃ m', m' < m ∧ J m' env', ct := fun env' => ∃ m', m' < m ∧ J m' env', bk := k.nx } _ hn ok ⟨fun G H σ env ok w => ?_, l.rt, l.nx, fun G H σ env ok w => ?_, l.ex⟩ w
    · obtain ⟨m', lt, j'⟩ := w
      exact ⟨m', lt, G, env, ok, j'⟩
    · obtain ⟨m', lt, j'⟩ := w
      exact ⟨m', lt, G, env, ok, j'⟩

/-! ### for -/
def setO (env : OEnv) : List (Nat × D) → OEnv
  | [] => env
  | p :: r => setO (env.set p.1 (some (.fro p.2))) r
@[simp] theorem setO_nil {env : OEnv} : setO env [] = env := rfl
@[simp] theorem setO_cons {env : OEnv} {p : Nat × D} {r : List (Nat × D)} : setO env (p :: r) = setO (env.set p.1 (some (.fro p.2))) r := rfl
theorem Ok.sets {us : List (Nat × D)} {ws : List (Nat × V)} (h : Sets K cn G us ws) : ∀ {σ : L2.St} {env : OEnv}, Ok K cn G0 H0 P rest G H σ env → (us.all fun p => decide (P.length ≤ p.1)) = true → Ok K cn G0 H0 P rest G H (setV σ ws) (setO env us) := by
  induction h with
  | nil => exact fun ok _ => ok
  | cons f s ih =>
    intro σ env ok q
    rw [List.all_cons, Bool.and_eq_true] at q
    exact ih ((ok.fro f).store (of_decide_eq_true q.1)) q.2
/-- the items one by one -/
def loopQ (n : Nat) (g : QG) (t : QS) (k : Kont) : List D → OEnv → Prop
  | [], env => k.nx env
  | d :: ds, env => match g d with
    | some us => (us.all fun p => decide (n ≤ p.1)) = true ∧ t { k with nx := loopQ n g t k ds, ct := loopQ n g t k ds, bk := k.nx } (setO env us)
    | none => False
@[simp] theorem loopQ_nil {n : Nat} {g : QG} {t : QS} {k : Kont} {env : OEnv} : loopQ n g t k [] env = k.nx env := rfl
theorem loopQ_cons {n : Nat} {g : QG} {t : QS} {k : Kont} {d : D} {ds : List D} {env : OEnv} : loopQ n g t k (d :: ds) env = match g d with
    | some us => (us.all fun p => decide (n ≤ p.1)) = true ∧ t { k with nx := loopQ n g t k ds, ct := loopQ n g t k ds, bk := k.nx } (setO env us)
    | none => False := rfl
/-- by an invariant -/
theorem loopQ_inv {n : Nat} {g : QG} {t : QS} {k : Kont} (I : List D → OEnv → Prop) : ∀ {ds : List D} {env : OEnv}, I ds env → (∀ d ds env, I (d :: ds) env → ∃ us, g d = some us ∧ (us.all fun p => decide (n ≤ p.1)) = true ∧ ∀ N : OEnv → Prop, (∀ env', I ds env' → N env') → t { k with nx := N, ct := N, bk := k.nx } (setO env us)) → (∀ env, I [] env → k.nx env) → loopQ n g t k ds env
  | [], env, h, _, e => e env h
  | d :: ds, env, h, st, e => by
    obtain ⟨us, h1, h2, h3⟩ := st d ds env h
    rw [loopQ_cons, h1]
    exact ⟨h2, h3 _ fun env' h' => loopQ_inv I h' st e⟩
@[simp] def qFor (rs : List Nat) (ti : QI) (g : QG) (t : QS) (n : Nat) : QS := fun k env => ti (froV (frz env rs)) (fun ds => loopQ n g t k ds (frz env rs)) (fun e => k.ex e (frz env rs))
theorem Ok.rebase (ok : Ok K cn G0 H0 P rest G H σ env) : Ok K cn G H0 P rest G H σ env := by
  refine ⟨⟨FzLe.refl _, fun b o f h => ok.stp.same b o (fun z => f (ok.stp.le.af b z).1) h, ok.stp.ctx, fun a u h k => (by rw [h] at k; cases k), fun a h => .inl h⟩, ok.pin, ok.len, ok.val, ok.own⟩
theorem Ok.unbase {G2 : Fz} {H1 : Hp} (s : Stp G0 H0 G2 H1) (ok : Ok K cn G2 H0 P rest G H σ env) : Ok K cn G0 H0 P rest G H σ env := by
  refine ⟨⟨s.le.trans ok.stp.le, fun b o f h => ?_, ok.stp.ctx, fun a u h k => ?_, fun a h => ?_⟩, ok.pin, ok.len, ok.val, ok.own⟩
  · refine ok.stp.same b o (fun z => ?_) h
    rcases s.newf b z with q | q
    · exact f q
    · rw [h] at q; cases q
  · cases q : G2.hp a with
    | some o => exact s.new a o h q
    | none => exact ok.stp.new a u q k
  · rcases ok.stp.newf a h with q | q
    · exact s.newf a q
    · exact .inr q
theorem Lift.rebase {G2 : Fz} {H1 : Hp} {k : Kont} {D : Ends} (s : Stp G0 H0 G2 H1) (l : Lift K cn W G0 H0 P rest k D) : Lift K cn W G2 H0 P rest k D :=
  ⟨fun G H σ env ok w => l.nx G H σ env (ok.unbase s) w, fun G H σ env v o ok w => l.rt G H σ env v o (ok.unbase s) w, fun G H σ env ok w => l.bk G H σ env (ok.unbase s) w, fun G H σ env ok w => l.ct G H σ env (ok.unbase s) w, fun G H σ env e cls d ok r w => l.ex G H σ env e cls d (ok.unbase s) r w⟩
theorem rs_for (rs : List Nat) {wi : TI} {g : TG} {tb : TS} {ti : QI} {qg : QG} {t : QS} (hi : RI K cn W wi ti) (hg : RG K cn g qg) (h : RS K cn n W tb t) : RS K cn n W (tFor wi g tb) (qFor rs ti qg t n) := fun G0 H0 P rest G H σ env k D hn ok l w => by
  obtain ⟨G1, l1, ok1⟩ := ok.frz (rs := rs)
  refine hi.run G1 H σ _ _ _ _ ok1.stp.ctx ok1.view (fun H' G' e cls d s r x => l.ex G' H' σ _ e cls d (ok1.step s) r x) w fun J H1 G2 ds s1 yl w => ?_
  have ok2 := ok1.step s1
  have l2 := l.rebase ok2.stp
  refine ⟨fun i m σ H => m = ds.length - i ∧ i ≤ ds.length ∧ ∃ G env, Ok K cn G2 H0 P rest G H σ env ∧ loopQ n qg t k (ds.drop i) env, ⟨_, rfl, Nat.zero_le _, G2, _, ok2.rebase, w⟩, ?_⟩
  rintro i m σ2 H2 ⟨rfl, hi', G3, env3, ok3, w3⟩
  by_cases hlt : i < ds.length
  · have hd : ds[i]? = some ds[i] := List.getElem?_eq_getElem hlt
    obtain ⟨y1, y2⟩ := yl G3 H2 ok3.stp.le ok3.stp.ctx i
    obtain ⟨go, yy⟩ := y1 _ hd
    rw [List.drop_eq_getElem_cons hlt, loopQ_cons] at w3
    split at w3
    · rename_i us eu
      refine .inr ⟨go, fun σ H => ∃ G env, Ok K cn G2 H0 P rest G H σ env ∧ loopQ n qg t k (ds.drop (i + 1)) env, fun σ' H' ⟨G, env, h⟩ => ⟨ds.length - (i + 1), by omega, rfl, hlt, G, env, h⟩, fun x H3 yx => ?_⟩
      obtain ⟨G4, s4, fx⟩ := yy x H3 yx
      refine hg.run G4 H3 x _ us _ _ s4.ctx fx eu fun ws hw => ?_
      have ok5 := Ok.sets hw (ok3.step s4) (by rw [hn]; exact w3.1)
      exact h G2 H0 P rest G4 H3 _ _ { k with nx := loopQ n qg t k (ds.drop (i + 1)), ct := loopQ n qg t k (ds.drop (i + 1)), bk := k.nx } _ hn ok5 ⟨fun G H σ env ok w => ⟨G, env, ok, w⟩, l2.rt, l2.nx, fun G H σ env ok w => ⟨G, env, ok, w⟩, l2.ex⟩ w3.2
    · exact w3.elim
  · have : i = ds.length := by omega
    subst this
    rw [List.drop_length] at w3
    exact .inl ⟨(yl G3 H2 ok3.stp.le ok3.stp.ctx _).2 (Nat.le_refl _), l2.nx G3 H2 σ2 env3 ok3 w3⟩

/-! ### several names at once -/
/-- a, b = a tuple -/
@[simp] def qUnp (t : QV) (g : QG) (n : Nat) : QS := fun k env => t env (fun o env => match g o.toD with
  | some us => (us.all fun p => decide (n ≤ p.1)) = true ∧ k.nx (setO env us)
  | none => False) k.ex
theorem Ok.freezeTop {o : O} {v : V} (ok : Ok K cn G0 H0 P ((v, o) :: rest) G H σ env) : ∃ G', Ok K cn G0 H0 P rest G' H σ env ∧ Fro K cn G' o.toD v := by
  obtain ⟨f, g, w, ws, d⟩ := OwnP.uncons (ok.own.perm List.perm_middle)
  have le := freeze_le ok.stp.ctx fun a m => ⟨(w.ap a m).1, (w.ap a m).2.1⟩
  refine ⟨G.add H f, ⟨ok.stp.freeze w.ap, ok.pin, ok.len, ok.val, g, ⟨ws.rep.mono le fun a m u e => e, ws.nd, fun a m => ⟨?_, (ws.ap a m).2.1, (ws.ap a m).2.2⟩⟩⟩, w.freeze ok.stp.ctx⟩
  rw [Fz.add_out fun n => d a n a m rfl]
  exact (ws.ap a m).1
theorem rs_unp {te : TE} {g : TG} {t : QV} {qg : QG} (h : RV K cn W te t) (hg : RG K cn g qg) : RS K cn n W (tAsg te g) (qUnp t qg n) := fun G0 H0 P rest G H σ env k D hn ok l w =>
  h G0 H0 P rest G H σ env _ _ _ ok l.exs w fun v H' G' env' o ok w => by
    obtain ⟨G2, ok2, f⟩ := ok.freezeTop
    split at w
    · rename_i us eu
      exact hg.run G2 H' v _ us σ _ ok2.stp.ctx f eu fun ws hw => l.nx G2 H' _ _ (Ok.sets hw ok2 (by rw [hn]; exact w.1)) w.2
    · exact w.elim
/-- a, b = x, y -/
@[simp] def qPar (i j : Nat) (t : QVA) (n : Nat) : QS := fun k env => t env (fun os env => match os with
  | [o, p] => n ≤ i ∧ n ≤ j ∧ k.nx ((env.set i (some o)).set j (some p))
  | _ => False) k.ex
theorem rs_par {i j : Nat} {ta : TA} {t : QVA} (h : RVA K cn W ta t) : RS K cn n W (tPar i j ta) (qPar i j t n) := fun G0 H0 P rest G H σ env k D hn ok l w =>
  h G0 H0 P rest G H σ env _ _ _ ok l.exs w fun vs H' G' env' os ok hl w => by
    split at w
    · rename_i o p
      match vs, hl with
      | [v, u], _ =>
        refine ⟨v, u, rfl, l.nx G' H' _ _ (Ok.store (Ok.store ?_ (by rw [hn]; exact w.1)) (by rw [hn]; exact w.2.1)) w.2.2⟩
        exact ok
    · exact w.elim

/-! ### x op= e -/
@[simp] def qAug (i : Nat) (q : Q2) (t : QX) (n : Nat) : QS := fun k env => match (allV env)[i]? with
  | some (some d) => t (allV env) (fun o => q d o.toD fun r => r.solid = true ∧ n ≤ i ∧ k.nx (env.set i (some r))) (fun e => k.ex e env)
  | _ => False
theorem rs_aug {i : Nat} {te : TE} {ti : TIp} {t : QX} {q : Q2} (h : RD K cn W te t) (hq : R2' K cn ti q) : RS K cn n W (tAug i te ti) (qAug i q t n) := fun G0 H0 P rest G H σ env k D hn ok l w => by
  unfold qAug at w
  split at w
  · rename_i d e
    obtain ⟨G1, l1, c1, vw, af⟩ := ok.borrow
    obtain ⟨x, ex, fx⟩ := vw.2 i d e
    refine ⟨x, ex, h.fro (Q := fun o => q d o fun r => r.solid = true ∧ n ≤ i ∧ k.nx (env.set i (some r))) c1 vw (fun H' G' e cls d s r x => l.exs G H' env e cls d (ok.step (Stp.thaw ok.stp.ctx l1 af s)) r.any x) w fun v H2 G2 dy s2 f2 w2 => ?_⟩
    refine hq.run G2 H2 x v d dy _ _ s2.ctx (fx.mono s2.le) f2 w2 fun z H3 G3 o fp s3 w3 w4 => ?_
    have s23 := s2.trans s3
    have s' := Stp.thaw ok.stp.ctx l1 af s23
    have nw : ∀ a ∈ fp, H a = none := fun a m => by
      cases e : H a with
      | none => rfl
      | some u =>
        by_cases f : G1.af a = true
        · exact absurd (s23.le.af a f).1 (w3.ap a m).2.1
        · have := s2.same a u f e
          rw [(w3.ap a m).2.2] at this; cases this
    refine l.nx G H3 _ _ (Ok.store (ok.push s' (f := fp) ⟨w3.rep.solid w4.1, w3.nd, fun a m => ⟨?_, fun f => (w3.ap a m).2.1 (s23.le.af a (l1.af a f).1).1, nw a m⟩⟩) (by rw [hn]; exact w4.2.1)) w4.2.2
    cases e : G.hp a with
    | none => rfl
    | some u =>
      have := s23.le.hp a u (l1.hp a u e)
      rw [(w3.ap a m).1] at this
      cases this
  · exact w.elim

/-! ### changing a list in place -/
def marked (B : Hp) (a : Addr) : Hp := L2.upd B a (.lst [])
/-- what stands apart -/
structure Apart (B : Hp) (G : Fz) (a : Addr) : Prop where
  g : G.hp a = none
  f : G.af a ≠ true
  b : B a = none
theorem OwnP.mark {ps : List (V × O)} {B : Hp} {a : Addr} {f : List Addr} (w : OwnL K cn B G H (ps.map Prod.snd) (ps.map Prod.fst) f) (h : a ∉ f) : OwnP K cn (marked B a) G H ps :=
  ⟨f, w.rep, w.nd, fun x m => ⟨(w.ap x m).1, (w.ap x m).2.1, by unfold marked; rw [upd_ne (fun e => h (by rw [← e]; exact m))]; exact (w.ap x m).2.2⟩⟩
theorem OwnP.unmark {ps : List (V × O)} {B : Hp} {a : Addr} (hb : B a = none) (w : OwnP K cn (marked B a) G H ps) : ∃ f, OwnL K cn B G H (ps.map Prod.snd) (ps.map Prod.fst) f ∧ a ∉ f := by
  obtain ⟨f, w⟩ := w
  have na : a ∉ f := fun m => by have := (w.ap a m).2.2; unfold marked at this; rw [upd_same] at this; cases this
  refine ⟨f, ⟨w.rep, w.nd, fun x m => ⟨(w.ap x m).1, (w.ap x m).2.1, ?_⟩⟩, na⟩
  have := (w.ap x m).2.2
  unfold marked at this
  rw [upd_ne (fun e => na (by rw [← e]; exact m))] at this
  exact this
theorem openL {os : List O} {v : V} {ps : List (V × O)} {B : Hp} (h : OwnP K cn B G H ((v, .lst os) :: ps)) : ∃ a vs, v = .ref a ∧ H a = some (.lst vs) ∧ vs.length = os.length ∧ Apart B G a ∧ OwnP K cn (marked B a) G H (vs.zip os ++ ps) := by
  obtain ⟨f, g, w, ws, d⟩ := OwnP.uncons h
  obtain ⟨r, nd, ap⟩ := w
  cases r with
  | @lst a vs _ fp e hs =>
    have na := List.nodup_cons.mp nd
    refine ⟨a, vs, rfl, e, hs.length, ⟨(ap a List.mem_cons_self).1, (ap a List.mem_cons_self).2.1, (ap a List.mem_cons_self).2.2⟩, ?_⟩
    have o2 : OwnL K cn B G H ((vs.zip os ++ ps).map Prod.snd) ((vs.zip os ++ ps).map Prod.fst) (fp ++ g) := by
      rw [List.map_append, List.map_append, zip_fst hs.length, zip_snd hs.length]
      exact ⟨hs.append ws.rep, List.nodup_append.mpr ⟨na.2, ws.nd, fun x m y n => d x (List.mem_cons_of_mem _ m) y n⟩, fun x m => (List.mem_append.mp m).elim (fun m => ap x (List.mem_cons_of_mem _ m)) (ws.ap x)⟩
    exact OwnP.mark o2 fun m => (List.mem_append.mp m).elim na.1 fun m => d a List.mem_cons_self a m rfl
theorem marked_ne {B : Hp} {a x : Addr} (h : x ≠ a) : marked B a x = B x := by unfold marked; rw [upd_ne h]
theorem marked_nin {fp : List Addr} {B : Hp} {a : Addr} (ap : ∀ x ∈ fp, G.hp x = none ∧ G.af x ≠ true ∧ marked B a x = none) : a ∉ fp := fun m => by
  have := (ap a m).2.2
  unfold marked at this
  rw [upd_same] at this; cases this
theorem closeR {o : O} {os : List O} {a : Addr} {vs : List V} {ps : List (V × O)} {B : Hp} (u : HO) (ap : Apart B G a) (hl : vs.length = os.length) (h : OwnP K cn (marked B a) G H (vs.zip os ++ ps))
    (mk : ∀ H' fp, H' a = some u → RepL K cn G H' os vs fp → Rep K cn G H' o (.ref a) (a :: fp)) : OwnP K cn B G (L2.upd H a u) ((.ref a, o) :: ps) := by
  obtain ⟨fp, w⟩ := h
  obtain ⟨f, g, x, y, d⟩ := w.split
  have nf := marked_nin x.ap
  have ng := marked_nin y.ap
  rw [zip_fst hl, zip_snd hl] at x
  have kf : ∀ z ∈ f, ∀ u', H z = some u' → L2.upd H a u z = some u' := fun z m u' e => by rw [upd_ne (fun q => nf (by rw [← q]; exact m))]; exact e
  have kg : ∀ z ∈ g, ∀ u', H z = some u' → L2.upd H a u z = some u' := fun z m u' e => by rw [upd_ne (fun q => ng (by rw [← q]; exact m))]; exact e
  refine OwnP.cons (f := a :: f) (g := g) ⟨mk _ f upd_same (x.rep.mono (FzLe.refl _) kf), List.nodup_cons.mpr ⟨nf, x.nd⟩, fun z m => ?_⟩ ⟨y.rep.mono (FzLe.refl _) kg, y.nd, fun z m => ?_⟩ fun z m w' m' e => ?_
  · rcases List.mem_cons.mp m with rfl | m
    · exact ⟨ap.g, ap.f, ap.b⟩
    · have := x.ap z m
      rw [marked_ne (fun q => nf (by rw [← q]; exact m))] at this
      exact this
  · have := y.ap z m
    rw [marked_ne (fun q => ng (by rw [← q]; exact m))] at this
    exact this
  · rcases List.mem_cons.mp m with rfl | m
    · rw [e] at ng; exact ng m'
    · exact d z m w' m' e
theorem closeL {os : List O} {a : Addr} {vs : List V} {ps : List (V × O)} {B : Hp} (ap : Apart B G a) (hl : vs.length = os.length) (h : OwnP K cn (marked B a) G H (vs.zip os ++ ps)) : OwnP K cn B G (L2.upd H a (.lst vs)) ((.ref a, .lst os) :: ps) :=
  closeR (.lst vs) ap hl h fun _ _ e r => .lst e r
theorem Ok.openL {i : Nat} {os : List O} (ok : Ok K cn G0 H0 P rest G H σ env) (h : env[i]? = some (some (.lst os))) : ∃ a vs, σ[i]? = some (some (.ref a)) ∧ H a = some (.lst vs) ∧ vs.length = os.length ∧ Apart H0 G a ∧ OwnP K cn (marked H0 a) G H (vs.zip os ++ (slots σ (env.set i none) ++ rest)) := by
  obtain ⟨v, ev⟩ := ok.val i _ h
  obtain ⟨a, vs, rfl, e, hl, ap, w⟩ := PD.openL (ok.own.perm ((slots_get ev h).append_right rest))
  exact ⟨a, vs, ev, e, hl, ap, w⟩
theorem Ok.closeL {i : Nat} {os os' : List O} {a : Addr} {vs : List V} {rest' : List (V × O)} (ok : Ok K cn G0 H0 P rest G H σ env) (h : env[i]? = some (some (.lst os'))) (hv : σ[i]? = some (some (.ref a))) (ap : Apart H0 G a) (hl : vs.length = os.length) (w : OwnP K cn (marked H0 a) G H (vs.zip os ++ (slots σ (env.set i none) ++ rest'))) :
    Ok K cn G0 H0 P rest' G (L2.upd H a (.lst vs)) σ (env.set i (some (.lst os))) := by
  have hl' : i < env.length := (List.getElem?_eq_some_iff.mp h).1
  refine ⟨ok.stp.poke ap.b ap.g ap.f, ok.pin, by rw [List.length_set]; exact ok.len, fun j o e => ?_, OwnP.perm ((slots_keep _ hv hl').append_right rest').symm (PD.closeL ap hl w)⟩
  by_cases hj : i = j
  · subst hj; exact ⟨_, hv⟩
  · rw [List.getElem?_set_ne hj] at e; exact ok.val j o e
theorem Ok.tyL {i : Nat} {os : List O} {a : Addr} {vs : List V} (e : H a = some (.lst vs)) : tyV K "list" (.ref a) H := .inl ⟨rfl, _, .inl (.inl e)⟩
/-- x.append(e) -/
@[simp] def qAppend (i : Nat) (t : QV) : QS := fun k env => match env[i]? with
  | some (some (.lst _)) => t env (fun o env => match env[i]? with
    | some (some (.lst os)) => os.length < 16777216 ∧ k.nx (env.set i (some (.lst (os ++ [o]))))
    | _ => False) k.ex
  | _ => False
theorem rs_append {i : Nat} {te : TE} {t : QV} (h : RV K cn W te t) : RS K cn n W (tDrop (tBM K "list" rAppend (tVar i) (tCons te tNil))) (qAppend i t) := fun G0 H0 P rest G H σ env k D hn ok l w => by
  unfold qAppend at w
  split at w
  · rename_i os0 e0
    obtain ⟨a0, vs0, hv0, ha0, _, _, _⟩ := ok.openL e0
    refine ⟨.ref a0, hv0, Ok.tyL (i := i) (os := os0) ha0, ?_⟩
    refine h G0 H0 P rest G H σ env _ _ _ ok l.exs w fun v H' G' env' o ok' w' => ?_
    split at w'
    · rename_i os e
      obtain ⟨a, vs, hv, ha, hl, ap, own⟩ := ok'.openL e
      rw [hv0] at hv
      cases hv
      refine ⟨a0, vs, v, rfl, rfl, ha, by rw [hl, sizeLine_eq]; exact w'.1, ?_⟩
      refine l.nx G' _ σ _ (ok'.drop.closeL e hv0 ap (by rw [List.length_append, List.length_append, hl]; rfl) (own.perm ?_)) w'.2
      rw [List.zip_append hl, List.append_assoc]
      refine List.Perm.append_left _ ?_
      show (slots σ (env'.set i none) ++ (v, o) :: rest).Perm ((v, o) :: (slots σ (env'.set i none) ++ rest))
      exact List.perm_middle
    · exact w'.elim
  · exact w.elim
theorem zip_set : ∀ {vs : List V} {os : List O} {m : Nat} {v : V} {o : O}, (vs.set m v).zip (os.set m o) = (vs.zip os).set m (v, o)
  | [], os, m, v, o => by simp
  | x :: vs, [], m, v, o => by simp
  | x :: vs, y :: os, 0, v, o => rfl
  | x :: vs, y :: os, m + 1, v, o => by
    show (x, y) :: (vs.set m v).zip (os.set m o) = (x, y) :: (vs.zip os).set m (v, o)
    rw [zip_set]
theorem set_perm {α : Type} : ∀ {l : List α} {m : Nat} {x : α}, m < l.length → (l.set m x).Perm (x :: l.eraseIdx m)
  | [], _, _, h => by simp at h
  | a :: l, 0, x, _ => List.Perm.refl _
  | a :: l, m + 1, x, h => by
    show (a :: l.set m x).Perm (x :: a :: l.eraseIdx m)
    exact ((set_perm (by simpa using h)).cons a).trans (List.Perm.swap _ _ _)
theorem own_set {S R : List (V × O)} {v : V} {o : O} {m : Nat} {vs : List V} {os : List O} {B : Hp} (hm : m < (vs.zip os).length) (h : OwnP K cn B G H (vs.zip os ++ (S ++ (v, o) :: R))) : OwnP K cn B G H ((vs.set m v).zip (os.set m o) ++ (S ++ R)) := by
  rw [zip_set]
  have p1 : (vs.zip os ++ (S ++ (v, o) :: R)).Perm ((v, o) :: vs.zip os ++ (S ++ R)) :=
    ((List.perm_middle (a := (v, o)) (l₁ := S) (l₂ := R)).append_left _).trans List.perm_middle
  exact ((h.perm p1).sub (((List.eraseIdx_sublist (vs.zip os) m).cons_cons (v, o)).append_right (S ++ R))).perm ((set_perm hm).append_right _).symm
/-- x[e1] = e2 -/
@[simp] def qSetIx (i : Nat) (tj : QX) (t : QV) : QS := fun k env => t env (fun o env => match env[i]? with
  | some (some (.lst os)) => tj (allV env) (fun j => j.toD.isI fun z => match ixN os.length z with
    | some m => k.nx (env.set i (some (.lst (os.set m o))))
    | none => False) (fun e => k.ex e env)
  | _ => False) k.ex
theorem rd_B {te : TE} {t : QX} (h : RD K cn W te t) {Q : D → Prop} {X : Exn → OEnv → Prop} {R : VK} (ok : Ok K cn G0 H0 P rest G H σ env) (ex : ExsV K cn W G0 H0 P rest σ X) (q : t (allV env) (fun o => Q o.toD) (fun e => X e env))
    (z : ∀ v H' G1 d, Ok K cn G0 H0 P rest G H' σ env → Fro K cn G1 d v → Q d → R v H') : te σ H R := by
  obtain ⟨G1, l1, c1, vw, af⟩ := ok.borrow
  exact h.fro (Q := Q) c1 vw (fun H' G' e cls d s r x => ex G H' env e cls d (ok.step (Stp.thaw ok.stp.ctx l1 af s)) r.any x) q fun v H' G' d s f q => z v H' G' d (ok.step (Stp.thaw ok.stp.ctx l1 af s)) f q
theorem rs_setIx {i : Nat} {te tj : TE} {t : QV} {pj : QX} (h : RV K cn W te t) (hj : RD K cn W tj pj) : RS K cn n W (tAsg te (gSub (tVar i) tj rSetL)) (qSetIx i pj t) := fun G0 H0 P rest G H σ env k D hn ok l w =>
  h G0 H0 P rest G H σ env _ _ _ ok l.exs w fun v H' G' env' o ok' w' => by
    split at w'
    · rename_i os e
      obtain ⟨a0, vs0, hv0, _⟩ := ok'.openL e
      refine ⟨.ref a0, hv0, ?_⟩
      refine rd_B hj (Q := fun d => d.isI fun z => match ixN os.length z with
        | some m => k.nx (env'.set i (some (.lst (os.set m o))))
        | none => False) ok' (X := k.ex) l.exs.cons w' fun y H2 G1 d ok2 f w2 => ?_
      obtain ⟨z, rfl, rfl, w2⟩ := f.isI w2
      split at w2
      · rename_i m em
        obtain ⟨a, vs, hv, ha, hl, ap, own⟩ := ok2.openL e
        rw [hv0] at hv
        cases hv
        have hm : m < os.length := by
          unfold ixN at em
          split at em
          · split at em
            · cases em; omega
            · cases em
          · split at em
            · cases em; omega
            · cases em
        refine ⟨a0, vs, z, m, rfl, rfl, ha, by rw [hl]; exact em, ?_⟩
        exact l.nx G' _ σ _ (ok2.drop.closeL e hv0 ap (by rw [List.length_set, List.length_set, hl]) (own_set (by rw [List.length_zip]; omega) own)) w2
      · exact w2.elim
    · exact w'.elim
/-- x[e1] op= e2 -/
@[simp] def qAugIx (i : Nat) (tj : QX) (q : Q2) (t : QX) : QS := fun k env => match env[i]? with
  | some (some (.lst os)) => tj (allV env) (fun j => j.toD.isI fun z => match ixN os.length z with
    | some m => match os[m]? with
      | some old => t (allV env) (fun o => q old.toD o.toD fun r => r.solid = true ∧ k.nx (env.set i (some (.lst (os.set m r))))) (fun e => k.ex e env)
      | none => False
    | none => False) (fun e => k.ex e env)
  | _ => False
theorem rs_augIx {i : Nat} {te tj : TE} {t pj : QX} {q : Q2} {ip : TIp} (hj : RD K cn W tj pj) (h : RD K cn W te t) (hq : R2' K cn ip q) : RS K cn n W (tAugS (tVar i) tj te (rIxL K) ip rSetL) (qAugIx i pj q t) := fun G0 H0 P rest G H σ env k D hn ok l w => by
  unfold qAugIx at w
  split at w
  · rename_i os e
    obtain ⟨a0, vs0, hv0, ha0, hl0, _⟩ := ok.openL e
    obtain ⟨G1, l1, c1, vw, af⟩ := ok.borrow
    have th : ∀ {G2 : Fz} {H2 : Hp}, Stp G1 H G2 H2 → Stp G H G H2 := fun s => Stp.thaw ok.stp.ctx l1 af s
    obtain ⟨x0, ex0, fx0⟩ := vw.2 i (.lst (os.map O.toD)) (by unfold allV; rw [List.getElem?_map, e]; show some (some (O.toD (.lst os))) = _; rw [toD_lst])
    rw [hv0] at ex0
    cases ex0
    refine ⟨.ref a0, hv0, ?_⟩
    refine hj.fro (Q := fun d => d.isI fun z => match ixN os.length z with
      | some m => match os[m]? with
        | some old => t (allV env) (fun o => q old.toD o.toD fun r => r.solid = true ∧ k.nx (env.set i (some (.lst (os.set m r))))) (fun e => k.ex e env)
        | none => False
      | none => False) c1 vw (fun H' G' e cls d s r x => l.exs G H' env e cls d (ok.step (th s)) r.any x) w fun vj H2 G2 dj s2 f2 w2 => ?_
    obtain ⟨z, rfl, rfl, w2⟩ := f2.isI w2
    split at w2
    · rename_i m em
      split at w2
      · rename_i old eo
        have fx2 := fx0.mono s2.le
        cases fx2 with
        | lst ga hs =>
          rename_i vs
          have hml : m < os.length := (List.getElem?_eq_some_iff.mp eo).1
          obtain ⟨vo, evo, fvo⟩ := hs.get (i := m) (d := old.toD) (by rw [List.getElem?_map, eo]; rfl)
          have hlen := hs.length
          rw [List.length_map] at hlen
          refine ⟨a0, vs, z, vo, rfl, rfl, .inl (.inl (s2.ctx.sub _ _ ga)), by unfold atI; rw [hlen, em]; exact evo, ?_⟩
          refine h.fro (Q := fun o => q old.toD o fun r => r.solid = true ∧ k.nx (env.set i (some (.lst (os.set m r))))) s2.ctx (vw.le s2.le) (fun H' G' e cls d s r x => l.exs G H' env e cls d (ok.step (th (s2.trans s))) r.any x) w2 fun v H3 G3 d3 s3 f3 w3 => ?_
          refine hq.run G3 H3 vo v old.toD d3 _ _ s3.ctx (fvo.mono s3.le) f3 w3 fun r H4 G4 o fp s4 w4 w5 => ?_
          have s234 := (s2.trans s3).trans s4
          have s23 := s2.trans s3
          have nw : ∀ a ∈ fp, H a = none := fun a m => by
            cases e : H a with
            | none => rfl
            | some u =>
              by_cases f : G1.af a = true
              · exact absurd (s234.le.af a f).1 (w4.ap a m).2.1
              · have := s23.same a u f e
                rw [(w4.ap a m).2.2] at this; cases this
          have ok4 := ok.push (th s234) (f := fp) (v := r) ⟨w4.rep.solid w5.1, w4.nd, fun a m => ⟨(by
            cases e : G.hp a with
            | none => rfl
            | some u =>
              have := s234.le.hp a u (l1.hp a u e)
              rw [(w4.ap a m).1] at this
              cases this), fun f => (w4.ap a m).2.1 (s234.le.af a (l1.af a f).1).1, nw a m⟩⟩
          obtain ⟨a, vs', hv, ha, hl, ap, own⟩ := ok4.openL e
          rw [hv0] at hv
          cases hv
          refine ⟨a0, vs', z, m, rfl, rfl, ha, by rw [hl]; exact em, ?_⟩
          exact l.nx G _ σ _ (ok4.drop.closeL e hv0 ap (by rw [List.length_set, List.length_set, hl]) (own_set (by rw [List.length_zip]; omega) own)) w5.2
      · exact w2.elim
    · exact w2.elim
  · exact w.elim
/-- x.pop() -/
@[simp] def vPop (i : Nat) : QV := fun env Q _ => match env[i]? with
  | some (some (.lst os)) => match os.getLast? with
    | some o => Q o (env.set i (some (.lst os.dropLast)))
    | none => False
  | _ => False
theorem zip_last {os : List O} {vs : List V} {o : O} (hl : vs.length = os.length) (h : os.getLast? = some o) : ∃ v, vs[vs.length - 1]? = some v ∧ vs.zip os = vs.dropLast.zip os.dropLast ++ [(v, o)] := by
  have hne : os ≠ [] := by rintro rfl; cases h
  have hve : vs ≠ [] := by rintro rfl; exact hne (List.length_eq_zero_iff.mp hl.symm)
  have eo : os.dropLast ++ [o] = os := by
    rw [List.getLast?_eq_some_getLast hne] at h
    cases h
    exact List.dropLast_concat_getLast hne
  refine ⟨vs.getLast hve, by rw [List.getLast_eq_getElem]; exact List.getElem?_eq_getElem _, ?_⟩
  have ev := List.dropLast_concat_getLast hve
  calc vs.zip os = (vs.dropLast ++ [vs.getLast hve]).zip (os.dropLast ++ [o]) := by rw [ev, eo]
    _ = _ := by rw [List.zip_append (by rw [List.length_dropLast, List.length_dropLast, hl])]; rfl
theorem rv_pop {i : Nat} : RV K cn W (tBM0 K "list" rPop (tVar i)) (vPop i) := fun G0 H0 P rest G H σ env Q X R ok ex q z => by
  unfold vPop at q
  split at q
  · rename_i os e
    split at q
    · rename_i o eo
      obtain ⟨a, vs, hv, ha, hl, ap, own⟩ := ok.openL e
      obtain ⟨v, ev, ez⟩ := zip_last hl eo
      refine ⟨.ref a, hv, Ok.tyL (i := i) (os := os) ha, a, vs, v, rfl, rfl, ha, ev, z v _ G _ o (ok.closeL e hv ap (by rw [List.length_dropLast, List.length_dropLast, hl]) (own.perm ?_)) q⟩
      rw [ez, List.append_assoc]
      refine List.Perm.append_left _ ?_
      show ((v, o) :: (slots σ (env.set i none) ++ rest)).Perm (slots σ (env.set i none) ++ (v, o) :: rest)
      exact List.perm_middle.symm
    · exact q.elim
  · exact q.elim
/-- x.pop(e) -/
@[simp] def vPopAt (i : Nat) (tj : QX) : QV := fun env Q X => match env[i]? with
  | some (some (.lst os)) => tj (allV env) (fun j => j.toD.isI fun z => (-(2 ^ 63) ≤ z ∧ z < 2 ^ 63) ∧ match seqIndex? z os.length with
    | some m => match os[m]? with
      | some o => Q o (env.set i (some (.lst (os.eraseIdx m))))
      | none => False
    | none => False) (fun e => X e env)
  | _ => False
theorem zip_erase : ∀ {vs : List V} {os : List O} {m : Nat}, (vs.eraseIdx m).zip (os.eraseIdx m) = (vs.zip os).eraseIdx m
  | [], os, m => by simp
  | x :: vs, [], m => by simp
  | x :: vs, y :: os, 0 => rfl
  | x :: vs, y :: os, m + 1 => by
    show (x, y) :: (vs.eraseIdx m).zip (os.eraseIdx m) = (x, y) :: (vs.zip os).eraseIdx m
    rw [zip_erase]
theorem get_perm {α : Type} : ∀ {l : List α} {m : Nat} {x : α}, l[m]? = some x → l.Perm (x :: l.eraseIdx m)
  | [], _, _, h => by simp at h
  | a :: l, 0, x, h => by simp at h; subst h; exact List.Perm.refl _
  | a :: l, m + 1, x, h => by
    have ih := get_perm (l := l) (m := m) (x := x) (by simpa using h)
    exact (ih.cons a).trans (List.Perm.swap _ _ _)
theorem rv_popAt {i : Nat} {tj : TE} {pj : QX} (hj : RD K cn W tj pj) : RV K cn W (tBM K "list" rPopAt (tVar i) (tCons tj tNil)) (vPopAt i pj) := fun G0 H0 P rest G H σ env Q X R ok ex q z => by
  unfold vPopAt at q
  split at q
  · rename_i os e
    obtain ⟨a0, vs0, hv0, ha0, _⟩ := ok.openL e
    refine ⟨.ref a0, hv0, Ok.tyL (i := i) (os := os) ha0, ?_⟩
    refine rd_B hj (Q := fun d => d.isI fun z => (-(2 ^ 63) ≤ z ∧ z < 2 ^ 63) ∧ match seqIndex? z os.length with
      | some m => match os[m]? with
        | some o => Q o (env.set i (some (.lst (os.eraseIdx m))))
        | none => False
      | none => False) ok (X := X) ex q fun y H2 G1 d ok2 f w2 => ?_
    obtain ⟨iz, rfl, rfl, w1, w2⟩ := f.isI w2
    split at w2
    · rename_i m em
      split at w2
      · rename_i o eo
        obtain ⟨a, vs, hv, ha, hl, ap, own⟩ := ok2.openL e
        rw [hv0] at hv
        cases hv
        have hm : m < os.length := (List.getElem?_eq_some_iff.mp eo).1
        have ev : vs[m]? = some vs[m] := List.getElem?_eq_getElem (by omega)
        refine ⟨a0, vs, iz, m, vs[m], rfl, rfl, ha, w1.1, w1.2, by rw [hl]; exact em, ev, z _ _ G _ o (ok2.closeL e hv0 ap (by rw [List.length_eraseIdx, List.length_eraseIdx, hl]) (own.perm ?_)) w2⟩
        rw [zip_erase]
        have p1 := get_perm (l := vs.zip os) (m := m) (x := (vs[m], o)) (List.getElem?_zip_eq_some.mpr ⟨ev, eo⟩)
        refine (p1.append_right _).trans ?_
        show ((vs[m], o) :: ((vs.zip os).eraseIdx m ++ (slots σ (env.set i none) ++ rest))).Perm _
        refine List.Perm.trans ?_ ((List.perm_middle (a := (vs[m], o)) (l₁ := slots σ (env.set i none)) (l₂ := rest)).symm.append_left _)
        exact List.perm_middle.symm
      · exact w2.elim
    · exact w2.elim
  · exact q.elim
/-- x.insert(e1, e2) -/
def rInsert : V → List V → Hp → VK → Prop := fun x vs H Q => ∃ (l : Addr) (xs : List V) (i : Int) (y : V), x = .ref l ∧ vs = [.int i, y] ∧ H l = some (.lst xs) ∧ xs.length < sizeLine ∧ 0 ≤ i ∧ i < 2 ^ 63 ∧
    Q .non (L2.upd H l (.lst (xs.take i.toNat ++ [y] ++ xs.drop i.toNat)))
theorem mb_insert {X : Cx} : MtM X "list.insert" rInsert := mt_insert
@[simp] def qInsert (i : Nat) (tj : QX) (t : QV) : QS := fun k env => match env[i]? with
  | some (some (.lst _)) => tj (allV env) (fun j => j.toD.isI fun z => t env (fun o env => match env[i]? with
    | some (some (.lst os)) => os.length < 16777216 ∧ 0 ≤ z ∧ z < 2 ^ 63 ∧ k.nx (env.set i (some (.lst (os.take z.toNat ++ [o] ++ os.drop z.toNat))))
    | _ => False) k.ex) (fun e => k.ex e env)
  | _ => False
theorem rs_insert {i : Nat} {te tj : TE} {t : QV} {pj : QX} (hj : RD K cn W tj pj) (h : RV K cn W te t) : RS K cn n W (tDrop (tBM K "list" rInsert (tVar i) (tCons tj (tCons te tNil)))) (qInsert i pj t) := fun G0 H0 P rest G H σ env k D hn ok l w => by
  unfold qInsert at w
  split at w
  · rename_i os0 e0
    obtain ⟨a0, vs0, hv0, ha0, _, _, _⟩ := ok.openL e0
    refine ⟨.ref a0, hv0, Ok.tyL (i := i) (os := os0) ha0, ?_⟩
    refine rd_B hj (Q := fun d => d.isI fun z => t env (fun o env => match env[i]? with
      | some (some (.lst os)) => os.length < 16777216 ∧ 0 ≤ z ∧ z < 2 ^ 63 ∧ k.nx (env.set i (some (.lst (os.take z.toNat ++ [o] ++ os.drop z.toNat))))
      | _ => False) k.ex) ok (X := k.ex) l.exs w fun y H2 G1 d ok2 f w2 => ?_
    obtain ⟨z, rfl, rfl, w2⟩ := f.isI w2
    refine h G0 H0 P rest G H2 σ env _ _ _ ok2 l.exs w2 fun v H' G' env' o ok' w' => ?_
    split at w'
    · rename_i os e
      obtain ⟨a, vs, hv, ha, hl, ap, own⟩ := ok'.openL e
      rw [hv0] at hv
      cases hv
      refine ⟨a0, vs, z, v, rfl, rfl, ha, by rw [hl, sizeLine_eq]; exact w'.1, w'.2.1, w'.2.2.1, ?_⟩
      refine l.nx G' _ σ _ (ok'.drop.closeL e hv0 ap (by simp only [List.length_append, List.length_take, List.length_drop, hl, List.length_singleton]) (own.perm ?_)) w'.2.2.2
      rw [List.append_assoc, List.append_assoc, List.zip_append (by rw [List.length_take, List.length_take, hl])]
      show (vs.zip os ++ (slots σ (env'.set i none) ++ (v, o) :: rest)).Perm ((vs.take z.toNat).zip (os.take z.toNat) ++ ((v, o) :: (vs.drop z.toNat).zip (os.drop z.toNat)) ++ (slots σ (env'.set i none) ++ rest))
      have ez : vs.zip os = (vs.take z.toNat).zip (os.take z.toNat) ++ (vs.drop z.toNat).zip (os.drop z.toNat) := by
        rw [← List.zip_append (by rw [List.length_take, List.length_take, hl]), List.take_append_drop, List.take_append_drop]
      rw [ez]
      refine List.Perm.trans ((List.perm_middle (a := (v, o)) (l₁ := slots σ (env'.set i none)) (l₂ := rest)).append_left _) ?_
      refine List.perm_middle.trans ?_
      show ((v, o) :: ((vs.take z.toNat).zip (os.take z.toNat) ++ (vs.drop z.toNat).zip (os.drop z.toNat) ++ (slots σ (env'.set i none) ++ rest))).Perm _
      exact (List.perm_middle (a := (v, o)) (l₁ := (vs.take z.toNat).zip (os.take z.toNat)) (l₂ := (vs.drop z.toNat).zip (os.drop z.toNat))).symm.append_right _
    · exact w'.elim
  · exact w.elim
/-- x.extend(e), e a list -/
@[simp] def qExtend (i : Nat) (t : QV) : QS := fun k env => match env[i]? with
  | some (some (.lst _)) => t env (fun o env => match env[i]?, o.toD with
    | some (some (.lst os)), .lst ds => os.length + ds.length ≤ 16777216 ∧ k.nx (env.set i (some (.lst (os ++ ds.map .fro))))
    | _, _ => False) k.ex
  | _ => False
theorem zip_own {ds : List D} {us : List V} (f : FroL K cn G ds us) {B : Hp} {ps : List (V × O)} (h : OwnP K cn B G H ps) : OwnP K cn B G H (us.zip (ds.map .fro) ++ ps) := by
  have f2 : FroL K cn G ds us := f
  revert us
  induction ds with
  | nil => intro us f _; cases f; exact h
  | cons d ds ih =>
    intro us f _
    cases f with
    | cons f fs =>
      obtain ⟨g, w⟩ := ih fs fs
      exact OwnP.cons (f := []) (Own.fro f) w fun _ m => nomatch m
theorem rs_extend {i : Nat} {te : TE} {t : QV} (h : RV K cn W te t) : RS K cn n W (tDrop (tBM K "list" rExtend (tVar i) (tCons te tNil))) (qExtend i t) := fun G0 H0 P rest G H σ env k D hn ok l w => by
  unfold qExtend at w
  split at w
  · rename_i os0 e0
    obtain ⟨a0, vs0, hv0, ha0, _, _, _⟩ := ok.openL e0
    refine ⟨.ref a0, hv0, Ok.tyL (i := i) (os := os0) ha0, ?_⟩
    refine h G0 H0 P rest G H σ env _ _ _ ok l.exs w fun v H' G' env' o ok' w' => ?_
    obtain ⟨G2, ok2, f2⟩ := ok'.freezeTop
    split at w'
    · rename_i os ds e ed
      rw [ed] at f2
      cases f2 with
      | lst ga hs =>
        rename_i b us
        obtain ⟨a, vs, hv, ha, hl, ap, own⟩ := ok2.openL e
        rw [hv0] at hv
        cases hv
        refine ⟨a0, b, vs, us, rfl, rfl, ha, ok2.stp.ctx.sub _ _ ga, by rw [hl, hs.length, sizeLine_eq]; exact w'.1, ?_⟩
        refine l.nx G2 _ σ _ (ok2.closeL e hv0 ap (by rw [List.length_append, List.length_append, List.length_map, hl, hs.length]) ((zip_own hs own).perm ?_)) w'.2
        rw [List.zip_append hl, ← List.append_assoc]
        exact List.perm_append_comm.append_right _
    · exact w'.elim
  · exact w.elim
/-- x.reverse(), x.clear() -/
@[simp] def qReverse (i : Nat) : QS := fun k env => match env[i]? with
  | some (some (.lst os)) => k.nx (env.set i (some (.lst os.reverse)))
  | _ => False
theorem zip_rev : ∀ {vs : List V} {os : List O}, vs.length = os.length → vs.reverse.zip os.reverse = (vs.zip os).reverse
  | [], [], _ => rfl
  | v :: vs, o :: os, h => by
    rw [List.reverse_cons, List.reverse_cons, List.zip_append (by simpa using h), zip_rev (by simpa using h)]
    show (vs.zip os).reverse ++ [(v, o)] = ((v, o) :: vs.zip os).reverse
    rw [List.reverse_cons]
theorem rs_reverse {i : Nat} : RS K cn n W (tDrop (tBM0 K "list" rReverse (tVar i))) (qReverse i) := fun G0 H0 P rest G H σ env k D hn ok l w => by
  unfold qReverse at w
  split at w
  · rename_i os e
    obtain ⟨a, vs, hv, ha, hl, ap, own⟩ := ok.openL e
    refine ⟨.ref a, hv, Ok.tyL (i := i) (os := os) ha, a, vs, rfl, rfl, ha, l.nx G _ σ _ (ok.closeL e hv ap (by rw [List.length_reverse, List.length_reverse, hl]) (own.perm ?_)) w⟩
    rw [zip_rev hl]
    exact (List.reverse_perm _).symm.append_right _
  · exact w.elim
@[simp] def qClear (i : Nat) : QS := fun k env => match env[i]? with
  | some (some (.lst _)) => k.nx (env.set i (some (.lst [])))
  | _ => False
theorem rs_clear {i : Nat} : RS K cn n W (tDrop (tBM0 K "list" rClear (tVar i))) (qClear i) := fun G0 H0 P rest G H σ env k D hn ok l w => by
  unfold qClear at w
  split at w
  · rename_i os e
    obtain ⟨a, vs, hv, ha, hl, ap, own⟩ := ok.openL e
    exact ⟨.ref a, hv, Ok.tyL (i := i) (os := os) ha, a, vs, rfl, rfl, ha, l.nx G _ σ _ (ok.closeL (vs := []) (os := []) e hv ap rfl (own.sub (List.sublist_append_right _ _))) w⟩
  · exact w.elim
end
end PD

end PDRules_

section PDCall_
set_option maxRecDepth 100000
set_option maxHeartbeats 1000000
/-! PDCall: what a def promises over data, its proof from its body, its calls. -/
namespace PD
open PySem L2
open PyProof.Rows (envOfC)

/-- a def that changes nothing: data in, data out (or an exception) -/
abbrev FP := List D → (O → Prop) → (Exn → Prop) → Prop
/-- a def that changes its first argument -/
abbrev FM := O → List D → (O → O → Prop) → (Exn → O → Prop) → Prop
section
variable (K : PySem.W.Frag) (cn : Str → Option Addr)
def spP (m : Nat) (f : FP) : Sp := fun vs H Q E => ∃ G ds QQ EE, vs.length = m ∧ Ctx G H ∧ FroL K cn G ds vs ∧ f ds QQ EE ∧ Out K cn G H QQ Q ∧
  ∀ H' G' e cls d, Stp G H G' H' → ExRep K cn G' H' e cls d → EE e → E cls d H'
def spM (m : Nat) (f : FM) : Sp := fun vs H Q E => ∃ G H0 v0 vr o0 fp ds QQ EE, vs = v0 :: vr ∧ vs.length = m ∧ Same H0 H ∧ Stp G H0 G H ∧ Own K cn H0 G H o0 v0 fp ∧ FroL K cn G ds vr ∧ f o0 ds QQ EE ∧
  (∀ v H' G' o o', Stp G H0 G' H' → OwnP K cn H0 G' H' [(v, o), (v0, o')] → QQ o o' → Q v H') ∧
  ∀ H' G' e cls d o', Stp G H0 G' H' → OwnP K cn H0 G' H' [(v0, o')] → ExRep K cn G' H' e cls d → EE e o' → E cls d H'
end
/-- the slots at a def's entry -/
def startO (N : Nat) (ds : List D) : OEnv := ds.map (fun d => some (.fro d)) ++ List.replicate (N - ds.length) none
def startM (N : Nat) (o : O) (ds : List D) : OEnv := some o :: ds.map (fun d => some (.fro d)) ++ List.replicate (N - (ds.length + 1)) none

section
variable {K : PySem.W.Frag} {cn : Str → Option Addr} {W : WX} {G0 G G' : Fz} {H0 H H' : Hp} {P : List V} {rest : List (V × O)} {σ : L2.St} {env : OEnv} {n : Nat}
theorem spP_len {m : Nat} {f : FP} (vs : List V) (H : Hp) (Q : VK) (E : XK) (h : spP K cn m f vs H Q E) : vs.length = m := by
  obtain ⟨G, ds, QQ, EE, h1, _⟩ := h
  exact h1
theorem slots_none : ∀ {σ : L2.St} {m : Nat}, slots σ (List.replicate m none) = []
  | [], m => by cases m <;> rfl
  | none :: _, 0 => rfl
  | some _ :: _, 0 => rfl
  | none :: σ, m + 1 => slots_none (σ := σ) (m := m)
  | some _ :: σ, m + 1 => slots_none (σ := σ) (m := m)
theorem slots_start : ∀ {ds : List D} {vs : List V} {a b : Nat}, vs.length = ds.length → slots (vs.map some ++ List.replicate a none) (ds.map (fun d => some (O.fro d)) ++ List.replicate b none) = vs.zip (ds.map .fro)
  | [], [], a, b, _ => slots_none
  | d :: ds, v :: vs, a, b, h => by
    show (v, O.fro d) :: slots (vs.map some ++ List.replicate a none) (ds.map (fun d => some (O.fro d)) ++ List.replicate b none) = _
    rw [slots_start (by simpa using h)]
    rfl
theorem start_val {ds : List D} {vs : List V} {b : Nat} (h : vs.length = ds.length) (i : Nat) (o : O) (e : (ds.map (fun d => some (O.fro d)) ++ List.replicate b none)[i]? = some (some o)) : ∃ v, (vs.map some ++ List.replicate b none)[i]? = some (some v) := by
  by_cases hi : i < vs.length
  · exact ⟨vs[i], by rw [List.getElem?_append_left (by rw [List.length_map]; exact hi), List.getElem?_map, List.getElem?_eq_getElem hi]; rfl⟩
  · rw [List.getElem?_append_right (by rw [List.length_map]; omega), List.getElem?_replicate] at e
    split at e <;> cases e
theorem ok_start {N : List Str} {ds : List D} {vs : List V} (c : Ctx G H) (f : FroL K cn G ds vs) (hN : ds.length ≤ N.length) : Ok K cn G H [] [] G H (L2.start N vs) (startO N.length ds) := by
  have hl := f.length
  unfold L2.start startO
  rw [hl]
  refine ⟨Stp.refl c, fun i v h => by simp at h, by simp [hl], fun i o e => start_val hl i o e, ?_⟩
  rw [slots_start hl]
  exact zip_own f OwnP.nil
/-- what a def is worth to its callers: k its level, ps its parameters, f what it does -/
structure Def (PP : Program) (w : World) (K : PySem.W.Frag) (cn : Str → Option Addr) (mg : Str → Option Value) (base : Heap) (k : Nat) (x : Str) (ps : List Str) (m : Nat) (f : FP) : Prop where
  ex : ∃ a fd, FnOk PP w K mg base (L2.CX PP w) k a fd ps (spP K cn m f) ∧ Binds K fd ps [] ∧ mg x = some (.ref a) ∧ PySem.W.keepIn K (.ref a) = true
abbrev Fn (K : PySem.W.Frag) (x : Str) (st : Stmt) (f : Addr) (fd : FuncData) : Prop := FunD K x x (defArgs st) (defBody st) (defScope st) [] [] f fd
theorem fn_PX {PP : Program} {w : World} {mg : Str → Option Value} {base : Heap} {x : Str} {st : Stmt} {f : Addr} {fd : FuncData} {N ps : List Str} {k : Nat} {fs : FP} {t : QS} (F : Fn K x st f fd) (S : FnScope N ps (defScope st))
    (body : ∀ (cdv : Value) (A : Around) (outer : List Env) (s : Shared) (H : Hp) (E : XK), Room k (A.deeper (envOfC x (defScope st) s.heap.objs.size f cdv)) → Takes (cxOf (L2.CX PP w) PP w K mg base N x (defScope st) f cdv A outer s H E) (fun cls d _ H => E cls d H) →
      ∃ ts, PSs (cxOf (L2.CX PP w) PP w K mg base N x (defScope st) f cdv A outer s H E) (defBody st) ts ∧ RS K cn 0 (fun cls d _ H => E cls d H) ts t)
    (h : ∀ ds Q X, ds.length = ps.length → fs ds Q X → t { nx := fun _ => Q (.fro .non), rt := fun o _ => Q o, ex := fun e _ => X e } (startO N.length ds))
    (hb : ∀ (kV doc pm : Value) (an : Option Addr) (cdv ct : Value) (us : List Value), us.length = ps.length → bindArgs (PySem.W.fnOf x x (defArgs st) (defBody st) (defScope st) .none kV doc pm an cdv ct) ⟨us, []⟩ = pure (ps.zip us)) (hm : mg x = some (.ref f)) :
    Def PP w K cn mg base (k + 1) x ps ps.length fs := by
  refine ⟨f, fd, FunD.ok F S spP_len fun cdv A outer s H vs Q E hr hsp => ?_, FunD.bindsN F hb, hm, F.kp⟩
  obtain ⟨G, ds, QQ, EE, hl, c, fr, hf, out, oex⟩ := hsp
  obtain ⟨ts, hps, hrs⟩ := body cdv A outer s H E hr (takes_of rfl rfl rfl rfl)
  have hd : ds.length = ps.length := by rw [← fr.length]; exact hl
  have hN : ds.length ≤ N.length := by
    have := congrArg List.length S.pre
    rw [List.length_take] at this
    omega
  refine ⟨ts, hps, hrs G H [] [] G H _ _ { nx := fun _ => QQ (.fro .non), rt := fun o _ => QQ o, ex := fun e _ => EE e } _ rfl (ok_start c fr hN) ⟨fun G' H' σ env ok q => ?_, fun G' H' σ env v o ok q => ?_, fun _ _ _ _ _ q => False.elim q, fun _ _ _ _ _ q => False.elim q, fun G' H' σ env e cls d ok r q => ?_⟩ (h ds QQ EE hd hf)⟩
  · exact out .non H' G' (.fro .non) [] ok.stp (Own.fro .non) q
  · obtain ⟨f, g, w, _, _⟩ := OwnP.uncons (ok.own.perm List.perm_middle)
    exact out v H' G' o f ok.stp w q
  · exact oex H' G' e cls d ok.stp r q
/-- the law itself: the script in, True back, nothing is let out -/
def spLaw (K : PySem.W.Frag) : Sp := fun vs H Q _ => ∃ (a : Addr) (ns : List Int), vs = [.ref a] ∧ SqL K H a (ns.map V.int) ∧ ns.length ≤ 63 ∧ ∀ H', Q (.bl true) H'
theorem fn_law {PP : Program} {w : World} {mg : Str → Option Value} {base : Heap} {st : Stmt} {f : Addr} {fd : FuncData} {N : List Str} {k : Nat} {t : QS} (F : Fn K "law" st f fd) (S : FnScope N ["script"] (defScope st))
    (body : ∀ (cdv : Value) (A : Around) (outer : List Env) (s : Shared) (H : Hp) (E : XK), Room k (A.deeper (envOfC "law" (defScope st) s.heap.objs.size f cdv)) → Takes (cxOf CX0 PP w K mg base N "law" (defScope st) f cdv A outer s H E).nox WF →
      ∃ ts, PSs (cxOf CX0 PP w K mg base N "law" (defScope st) f cdv A outer s H E).nox (defBody st) ts ∧ RS K cn 0 WF ts t)
    (h : ∀ (a : Addr) (ns : List Int), ns.length ≤ 63 → t { nx := fun _ => False, rt := fun o _ => o = .fro (.bl true) } (startO N.length [.scr a ns])) :
    FnOk PP w K mg base CX0 (k + 1) f fd ["script"] (spLaw K) := by
  refine FunD.ok F S (fun vs H Q E h => ?_) fun cdv A outer s H vs Q E hr hsp => ?_
  · obtain ⟨a, ns, rfl, _⟩ := h
    rfl
  obtain ⟨a, ns, rfl, hS, hl, q⟩ := hsp
  obtain ⟨ts, hps, hrs⟩ := body cdv A outer s H E hr takes0
  have hN : 1 ≤ N.length := by
    have := congrArg List.length S.pre
    rw [List.length_take] at this
    simp only [List.length_singleton] at this
    omega
  have c : Ctx (⟨H, fun _ => false, fun _ => (0, [])⟩ : Fz) H := ⟨Same.refl H, fun a h => nomatch h⟩
  refine ⟨ts, hps.nox, hrs ⟨H, fun _ => false, fun _ => (0, [])⟩ H [] [] _ H _ _ { nx := fun _ => False, rt := fun o _ => o = .fro (.bl true) } _ rfl (ok_start c (.cons (.scr hS) .nil) hN) ⟨fun _ _ _ _ _ q => False.elim q, fun G' H' σ env v o ok e => ?_, fun _ _ _ _ _ q => False.elim q, fun _ _ _ _ _ q => False.elim q, fun _ _ _ _ _ _ _ _ _ q => False.elim q⟩ (h a ns hl)⟩
  subst e
  obtain ⟨f, g, w, _, _⟩ := OwnP.uncons (ok.own.perm List.perm_middle)
  cases w.rep with
  | fro h => cases h; exact q _

/-- f(..) of such a def: one that lets nothing out -/
@[simp] def qCall0 (m : Nat) (f : FP) (t : QA) : QX := fun env Q X => t env (fun os => os.length = m ∧ f (toDL os) Q (fun _ => False)) X
instance rd_call0 {m : Nat} {f : FP} {ta : TA} {t : QA} [h : RA K cn W ta t] : RD K cn W (tCall (spP K cn m f) [] E0 ta) (qCall0 m f t) := ⟨fun G H σ env Q X R c vw ex q z =>
  h.fro (Q := fun ds => ds.length = m ∧ f ds Q (fun _ => False)) c vw ex (by
    unfold qCall0 at q
    simpa only [toDL_eq, List.length_map] using q) fun vs H1 G1 ds s1 f1 q1 => by
    rw [← List.append_nil vs] at f1
    exact ⟨G1, ds, Q, fun _ => False, by rw [f1.length]; exact q1.1, s1.ctx, f1, q1.2, z.step s1, fun _ _ _ _ _ _ _ q => q.elim⟩⟩
/-- one that may raise -/
@[simp] def qCallX (m : Nat) (f : FP) (t : QA) : QX := fun env Q X => t env (fun os => os.length = m ∧ f (toDL os) Q X) X
instance rd_callS {m : Nat} {f : FP} {ta : TA} {t : QA} [h : RA K cn W ta t] : RD K cn W (tCallS (spP K cn m f) (WE W) ta) (qCallX m f t) := ⟨fun G H σ env Q X R c vw ex q z =>
  h.fro (Q := fun ds => ds.length = m ∧ f ds Q X) c vw ex (by
    unfold qCallX at q
    simpa only [toDL_eq, List.length_map] using q) fun vs H1 G1 ds s1 f1 q1 =>
    ⟨G1, ds, Q, X, by rw [f1.length]; exact q1.1, s1.ctx, f1, q1.2, z.step s1, fun H' G' e cls d s r x => ex H' G' e cls d (s1.trans s) r x⟩⟩
end
/-- the built-ins are not hidden by the text -/
structure Blt (mg : Str → Option Value) : Prop where
  len : mg "len" = none
  list : mg "list" = none
  range : mg "range" = none
  int : mg "int" = none
  str : mg "str" = none
  bool : mg "bool" = none
  tuple : mg "tuple" = none
  dict : mg "dict" = none
  abs : mg "abs" = none
  isinstance : mg "isinstance" = none
  zip : mg "zip" = none
  enumerate : mg "enumerate" = none
  max : mg "max" = none
  min : mg "min" = none
  sum : mg "sum" = none
  sorted : mg "sorted" = none
  all : mg "all" = none
  any : mg "any" = none
  divmod : mg "divmod" = none
abbrev oAdd : Q2 := oI0 fun i j => V.int (i + j)
abbrev oSub : Q2 := oI0 fun i j => V.int (i - j)
abbrev oMul : Q2 := oI CMul fun i j => V.int (i * j)
abbrev oDiv : Q2 := oI CDiv fun i j => V.int (i / j)
abbrev oMod : Q2 := oI (fun _ j => 0 < j) fun i j => V.int (i % j)
abbrev oPow : Q2 := oI CPow fun i j => V.int (i ^ j.toNat)
abbrev oLt : Q2 := oI0 fun i j => V.bl (decide (i < j))
abbrev oLe : Q2 := oI0 fun i j => V.bl (decide (i ≤ j))
abbrev oGt : Q2 := oI0 fun i j => V.bl (decide (j < i))
abbrev oGe : Q2 := oI0 fun i j => V.bl (decide (j ≤ i))
abbrev oNeg : Q1 := oU fun i => V.int (-i)
end PD

end PDCall_

section PDMore_
set_option maxRecDepth 100000
set_option maxHeartbeats 1000000
/-! PDMore: further operations: isinstance, list(range), index, count, max and min with a default, < of data, changes within what is owned. -/
namespace PD
open PySem L2

section
variable {K : PySem.W.Frag} {cn : Str → Option Addr} {W : WX}
/-! ### is of bools -/
@[simp] def oIsB : Q2 := fun a b Q => a.isB fun x => b.isB fun y => Q (.fro (.bl (x == y)))
@[simp] def oNotB : Q2 := fun a b Q => a.isB fun x => b.isB fun y => Q (.fro (.bl (!(x == y))))
instance r2_isB : R2' K cn rIsB oIsB := ⟨fun G H x y dx dy Q R c fx fy q z => by
  obtain ⟨i, rfl, rfl, q⟩ := fx.isB q
  obtain ⟨j, rfl, rfl, q⟩ := fy.isB q
  exact ⟨i, j, rfl, rfl, z.fro c .bl (by rw [← Bool.beq_eq_decide_eq]; exact q)⟩⟩
instance r2_notB : R2' K cn rNotB oNotB := ⟨fun G H x y dx dy Q R c fx fy q z => by
  obtain ⟨i, rfl, rfl, q⟩ := fx.isB q
  obtain ⟨j, rfl, rfl, q⟩ := fy.isB q
  exact ⟨i, j, rfl, rfl, z.fro c .bl (by rw [← Bool.beq_eq_decide_eq]; exact q)⟩⟩

/-! ### isinstance of a built-in class -/
theorem cb_isi {X : Cx} : CallR X (.builtin "isinstance") (rIsi X.K) := call_isi
/-- the class of a value -/
def tyN : D → String
  | .non => "NoneType"
  | .bl _ => "bool"
  | .int _ => "int"
  | .str _ => "str"
  | .lst _ => "list"
  | .tup _ => "tuple"
  | .dct _ => "dict"
  | .dctT _ => "dict"
  | _ => "?"
@[simp] theorem tyN_non : tyN .non = "NoneType" := rfl
@[simp] theorem tyN_bl {b} : tyN (.bl b) = "bool" := rfl
@[simp] theorem tyN_int {b} : tyN (.int b) = "int" := rfl
@[simp] theorem tyN_str {b} : tyN (.str b) = "str" := rfl
@[simp] theorem tyN_lst {b} : tyN (.lst b) = "list" := rfl
@[simp] theorem tyN_tup {b} : tyN (.tup b) = "tuple" := rfl
@[simp] theorem tyN_dct {b} : tyN (.dct b) = "dict" := rfl
def subT (t n : String) : Option Bool := if n ∈ ["int", "bool", "str", "list", "tuple"] then (if t ∈ ["NoneType", "bool", "int", "str", "list", "tuple", "dict"] then some (t == n || (t == "bool" && n == "int")) else none) else none
theorem kit_sub {t n : String} {b : Bool} (h : subT t n = some b) : PySem.W.kitOne K (.type t) (.type n) = some b := by
  unfold subT at h
  split at h
  · split at h
    · rename_i h1 h2
      rw [List.mem_cons, List.mem_cons, List.mem_cons, List.mem_cons, List.mem_singleton] at h1
      rw [List.mem_cons, List.mem_cons, List.mem_cons, List.mem_cons, List.mem_cons, List.mem_cons, List.mem_singleton] at h2
      rcases h1 with rfl | rfl | rfl | rfl | rfl <;> rcases h2 with rfl | rfl | rfl | rfl | rfl | rfl | rfl <;> (cases h; exact kit_ty (by decide +kernel))
    · cases h
  · cases h
theorem Fro.tyX {G : Fz} {H : Hp} (s : Same G.hp H) {d : D} {v : V} (f : Fro K cn G d v) (h : tyN d ≠ "?") : TyX K H v (.type (tyN d)) := by
  cases f with
  | non => exact .base .non
  | bl => exact .base (.bl _)
  | int => exact .base (.int _)
  | str => exact .base (.str _)
  | lst e _ => exact .base (.lst (s _ _ e))
  | tup e _ =>
    rcases Same.sqT s e with (e | ⟨o, e⟩) | ⟨o, its, n, e, c, _⟩
    · exact .base (.tup e)
    · exact .fTuple e
    · exact .kTuple e c
  | dct e _ _ => exact .base (.dK (s _ _ e))
  | dctT e _ _ => exact .base (.dT (s _ _ e))
  | _ => exact absurd rfl h
@[simp] def nIsi : QN := fun ds Q => is2 ds fun d c => match c with
  | .ty n => match subT (tyN d) n with
    | some b => Q (.fro (.bl b))
    | none => False
  | _ => False
theorem subT_q {t n : String} {b : Bool} (h : subT t n = some b) : t ≠ "?" := by
  rintro rfl
  unfold subT at h
  split at h
  · rw [if_neg (by decide)] at h; cases h
  · cases h
instance rn_isi : RN K cn (rIsi K) nIsi := ⟨fun G H vs ds Q R c f q z => by
  obtain ⟨d, e, rfl, q⟩ := is2_of q
  have f0 := f; clear f; obtain ⟨v, u, rfl, f, g⟩ := f0.two rfl
  cases g with
  | @ty n =>
    have q1 : (match subT (tyN d) n with
      | some b => Q (.fro (.bl b))
      | none => False) := q
    split at q1
    · rename_i b eb
      exact ⟨v, .ty n, _, _, b, rfl, .ty n, f.tyX c.sub (subT_q eb), kit_sub eb, z.fro c .bl q1⟩
    · exact q1.elim
  | _ => exact False.elim q⟩
@[simp] theorem subT_1 : subT "NoneType" "int" = some false := rfl
@[simp] theorem subT_2 : subT "bool" "int" = some true := rfl
@[simp] theorem subT_3 : subT "int" "int" = some true := rfl
@[simp] theorem subT_4 : subT "str" "int" = some false := rfl
@[simp] theorem subT_5 : subT "list" "int" = some false := rfl
@[simp] theorem subT_6 : subT "tuple" "int" = some false := rfl
@[simp] theorem subT_7 : subT "NoneType" "bool" = some false := rfl
@[simp] theorem subT_8 : subT "bool" "bool" = some true := rfl
@[simp] theorem subT_9 : subT "int" "bool" = some false := rfl
@[simp] theorem subT_10 : subT "str" "bool" = some false := rfl
@[simp] theorem subT_11 : subT "list" "bool" = some false := rfl
@[simp] theorem subT_12 : subT "tuple" "bool" = some false := rfl
@[simp] theorem subT_13 : subT "NoneType" "str" = some false := rfl
@[simp] theorem subT_14 : subT "bool" "str" = some false := rfl
@[simp] theorem subT_15 : subT "int" "str" = some false := rfl
@[simp] theorem subT_16 : subT "str" "str" = some true := rfl
@[simp] theorem subT_17 : subT "list" "str" = some false := rfl
@[simp] theorem subT_18 : subT "tuple" "str" = some false := rfl
@[simp] theorem subT_19 : subT "NoneType" "list" = some false := rfl
@[simp] theorem subT_20 : subT "bool" "list" = some false := rfl
@[simp] theorem subT_21 : subT "int" "list" = some false := rfl
@[simp] theorem subT_22 : subT "str" "list" = some false := rfl
@[simp] theorem subT_23 : subT "list" "list" = some true := rfl
@[simp] theorem subT_24 : subT "tuple" "list" = some false := rfl
@[simp] theorem subT_25 : subT "NoneType" "tuple" = some false := rfl
@[simp] theorem subT_26 : subT "bool" "tuple" = some false := rfl
@[simp] theorem subT_27 : subT "int" "tuple" = some false := rfl
@[simp] theorem subT_28 : subT "str" "tuple" = some false := rfl
@[simp] theorem subT_29 : subT "list" "tuple" = some false := rfl
@[simp] theorem subT_30 : subT "tuple" "tuple" = some true := rfl

/-! ### list(range(..)) -/
theorem rgV_fro {G : Fz} (a b : Int) : FroL K cn G (rgD a (b - a).toNat) (rgV a b) := by
  unfold rgD rgV
  induction List.range (b - a).toNat with
  | nil => exact .nil
  | cons x l ih => exact .cons .int ih
@[simp] def qListRg1 (t : QX) : QX := fun env Q X => t env (fun o => o.toD.isI fun j => (-(2 ^ 62) ≤ j ∧ j ≤ 16777216) ∧ Q (.lst ((rgD 0 j.toNat).map .fro))) X
instance rd_listRg1 {te : TE} {t : QX} [h : RD K cn W te t] : RD K cn W (tLstRg (tRg1 te)) (qListRg1 t) := ⟨fun G H σ env Q X R c vw ex q z =>
  h.fro (Q := fun d => d.isI fun j => (-(2 ^ 62) ≤ j ∧ j ≤ 16777216) ∧ Q (.lst ((rgD 0 j.toNat).map .fro))) c vw ex q fun v H' G' d s f q => by
    obtain ⟨j, rfl, rfl, q1, q⟩ := f.isI q
    refine ⟨j, rfl, ⟨by omega, by omega, q1.1, by omega, by have : (2 ^ 24 : Nat) = 16777216 := rfl; omega⟩, fun p n => (z.step s).lst s.ctx (rgV_fro 0 j) n ?_⟩
    rw [Int.sub_zero]; exact q⟩
@[simp] def qListRg2 (t u : QX) : QX := fun env Q X => t env (fun o => u env (fun p => o.toD.isI fun i => p.toD.isI fun j => (-(2 ^ 62) ≤ i ∧ i < 2 ^ 62 ∧ -(2 ^ 62) ≤ j ∧ j < 2 ^ 62 ∧ (j - i).toNat ≤ 16777216) ∧ Q (.lst ((rgD i (j - i).toNat).map .fro))) X) X
instance rd_listRg2 {te tu : TE} {t u : QX} [h : RD K cn W te t] [h2 : RD K cn W tu u] : RD K cn W (tLstRg (tRg2 te tu)) (qListRg2 t u) := ⟨fun G H σ env Q X R c vw ex q z =>
  h.fro (Q := fun d => u env (fun p => d.isI fun i => p.toD.isI fun j => (-(2 ^ 62) ≤ i ∧ i < 2 ^ 62 ∧ -(2 ^ 62) ≤ j ∧ j < 2 ^ 62 ∧ (j - i).toNat ≤ 16777216) ∧ Q (.lst ((rgD i (j - i).toNat).map .fro))) X) c vw ex q fun v H1 G1 d s1 f q =>
  h2.fro (Q := fun p => d.isI fun i => p.isI fun j => (-(2 ^ 62) ≤ i ∧ i < 2 ^ 62 ∧ -(2 ^ 62) ≤ j ∧ j < 2 ^ 62 ∧ (j - i).toNat ≤ 16777216) ∧ Q (.lst ((rgD i (j - i).toNat).map .fro))) s1.ctx (vw.le s1.le) (ex.step s1) q fun u H2 G2 d2 s2 f2 q => by
    obtain ⟨i, rfl, rfl, q⟩ := f.isI q
    obtain ⟨j, rfl, rfl, q1, q⟩ := f2.isI q
    exact ⟨i, j, rfl, rfl, ⟨q1.1, q1.2.1, q1.2.2.1, q1.2.2.2.1, q1.2.2.2.2⟩, fun p n => ((z.step s1).step s2).lst s2.ctx (rgV_fro i j) n q⟩⟩

/-! ### index, count of flat items -/
theorem mb_index {X : Cx} : MtR X "list.index" (rIndex X.K) := mt_index
theorem findIdx_some {α : Type} {p : α → Bool} : ∀ {l : List α} {j : Nat}, l.findIdx? p = some j → ∃ z, l[j]? = some z ∧ p z = true ∧ ∀ (m : Nat) z', m < j → l[m]? = some z' → p z' = false := fun {l j} h => by
  obtain ⟨hj, h1, h2⟩ := List.findIdx?_eq_some_iff_getElem.mp h
  refine ⟨l[j], List.getElem?_eq_getElem hj, h1, fun m z' hm e => ?_⟩
  obtain ⟨hm', e'⟩ := List.getElem?_eq_some_iff.mp e
  have := h2 m hm
  rw [e'] at this
  simpa using this
instance rm_index : RM K cn (rIndex K) mIndex := ⟨fun G H x dx vs ds Q R c fx f q z => by
  obtain ⟨xs, a, us, rfl, rfl, e, hs, q⟩ := fx.isL q
  have q0 := q; clear q; obtain ⟨d, rfl, q⟩ := is1_of q0; clear q0
  have f0 := f; clear f; obtain ⟨v, rfl, f⟩ := f0.one rfl
  obtain ⟨q1, q2, q⟩ := q
  split at q
  · rename_i j ej
    obtain ⟨y, h1, h2, h3⟩ := findIdx_some ej
    obtain ⟨u, hu, fu⟩ := hs.get h1
    have fl : ∀ {i : Nat} {y : D}, xs[i]? = some y → flatD y = true := fun h => List.all_eq_true.mp q2 _ (List.mem_of_getElem? h)
    refine ⟨a, us, v, j, u, rfl, rfl, .inl (.inl (c.sub _ _ e)), f.flat q1, hs.flat q2, hu, by rw [eqF_V fu f (fl h1) q1]; exact h2, fun m z' hm hz => ?_, z.fro c .int q⟩
    obtain ⟨y', h1', f'⟩ := hs.getV hz
    rw [eqF_V f' f (fl h1') q1]
    exact h3 m y' hm h1'
  · exact q.elim⟩
def rLCount (K : PySem.W.Frag) : V → List V → Hp → VK → Prop := fun x xs H Q => ∃ (p : Addr) (ys : List V) (y : V), x = .ref p ∧ xs = [y] ∧ SqL K H p ys ∧ flatV y = true ∧ ys.all flatV = true ∧ Q (.int (ys.countP fun z => eqV z y : Nat)) H
theorem countP_eqU {y : V} : ∀ {ys : List V} {its : List Value}, Vals ys its → ys.all flatV = true → its.countP (eqU y) = ys.countP fun z => eqV z y
  | _, _, .nil, _ => rfl
  | z :: ys, u :: its, .cons r rs, f => by
    rw [List.all_cons, Bool.and_eq_true] at f
    rw [List.countP_cons, List.countP_cons, countP_eqU rs f.2, eqU_of r f.1]
theorem mb_lcount {X : Cx} : MtR X "list.count" (rLCount X.K) := by
  intro pins s σ H x xs v us Q I rx rxs h
  obtain ⟨p, ys, y, rfl, rfl, hs, fy, fys, q⟩ := h
  cases rx
  obtain ⟨u, rfl, ru⟩ := rxs.one
  obtain ⟨its, rv, ⟨⟨cls, dd, data, sl⟩, n, ho, hc, hdn, hd⟩, hlen⟩ := I.list hs
  simp only at hc hd
  subst hc hd
  refine call_meets PySem.F.slot_list_count ⟨_, ho, rfl⟩ PySem.F.entry_list_count (PySem.F.args_list_count_2 _ _)
    (SeqAt.list_countAt p its.toArray n dd sl u (eqU y)) ⟨ho, fun u' hu' => mem_eqAt ru fy rv fys u' (by simpa using hu'), ?_⟩
  have ec : its.toArray.toList.countP (eqU y) = ys.countP fun z => eqV z y := countP_eqU rv fys
  refine ⟨.int (ys.countP fun z => eqV z y : Nat), H, I.tok _, ⟨s.toks, ?_⟩, q⟩
  rw [ec]
@[simp] def mLCount : QM := fun d ds Q => d.isL fun xs => is1 ds fun e => flatD e = true ∧ xs.all flatD = true ∧ Q (.fro (.int (xs.countP fun x => eqF x e : Nat)))
theorem countF {G : Fz} {e : D} {y : V} (f : Fro K cn G e y) (h : flatD e = true) : ∀ {ds : List D} {vs : List V}, FroL K cn G ds vs → ds.all flatD = true → (vs.countP fun z => eqV z y) = ds.countP fun x => eqF x e
  | _, _, .nil, _ => rfl
  | _, _, .cons g hs, a => by
    rw [List.all_cons, Bool.and_eq_true] at a
    rw [List.countP_cons, List.countP_cons, countF f h hs a.2, eqF_V g f a.1 h]
instance rm_lcount : RM K cn (rLCount K) mLCount := ⟨fun G H x dx vs ds Q R c fx f q z => by
  obtain ⟨xs, a, us, rfl, rfl, e, hs, q⟩ := fx.isL q
  have q0 := q; clear q; obtain ⟨d, rfl, q⟩ := is1_of q0; clear q0
  have f0 := f; clear f; obtain ⟨v, rfl, f⟩ := f0.one rfl
  refine ⟨a, us, v, rfl, rfl, .inl (.inl (c.sub _ _ e)), f.flat q.1, hs.flat q.2.1, ?_⟩
  rw [countF f q.1 hs q.2.1]
  exact z.fro c .int q.2.2⟩

/-! ### max, min with a default -/
def rMaxD (K : PySem.W.Frag) : List V → List V → Hp → VK → Prop := fun vs zs H Q => ∃ (a : Addr) (ns : List Int) (y : V), vs = [V.ref a] ∧ zs = [y] ∧ SqL K H a (ns.map V.int) ∧ (ns = [] → Q y H) ∧ (∀ m, m ∈ ns → (∀ z, z ∈ ns → z ≤ m) → Q (.int m) H)
def rMinD (K : PySem.W.Frag) : List V → List V → Hp → VK → Prop := fun vs zs H Q => ∃ (a : Addr) (ns : List Int) (y : V), vs = [V.ref a] ∧ zs = [y] ∧ SqL K H a (ns.map V.int) ∧ (ns = [] → Q y H) ∧ (∀ m, m ∈ ns → (∀ z, z ∈ ns → m ≤ z) → Q (.int m) H)
theorem readsAll_ints {h : Heap} : ∀ {ns : List Int} {us : List Value}, Vals (ns.map V.int) us → ∃ as, ReadsAll h us (ns.map PyData.int) as
  | [], _, .nil => ⟨_, ReadsAll.nil⟩
  | n :: ns, _, .cons ⟨t, e⟩ rs => by
    obtain ⟨as, h⟩ := readsAll_ints rs
    subst e
    exact ⟨_, ReadsAll.cons (Reads.int n t) h⟩
theorem alike_ints (ns : List Int) : PySem.W.AlikeAll (ns.map PyData.int) := by
  refine ⟨fun x hx y hy => ?_, fun x hx => ?_⟩
  · obtain ⟨a, _, rfl⟩ := List.mem_map.mp hx
    obtain ⟨b, _, rfl⟩ := List.mem_map.mp hy
    rfl
  · obtain ⟨a, _, rfl⟩ := List.mem_map.mp hx
    exact fun e => nomatch e
theorem depth_ints : ∀ ns : List Int, PyData.depthAll (ns.map PyData.int) ≤ 1
  | [] => by rw [List.map_nil, PyData.depthAll]; omega
  | n :: ns => by
    have := depth_ints ns
    rw [List.map_cons, PyData.depthAll, PyData.depth]
    omega
theorem foldl_max (ns : List Int) : ∀ n : Int, (ns.foldl max n = n ∨ ns.foldl max n ∈ ns) ∧ n ≤ ns.foldl max n ∧ ∀ z ∈ ns, z ≤ ns.foldl max n := by
  induction ns with
  | nil => exact fun n => ⟨.inl rfl, Int.le_refl _, fun _ h => nomatch h⟩
  | cons a ns ih =>
    intro n
    obtain ⟨h1, h2, h3⟩ := ih (max n a)
    rw [List.foldl_cons]
    refine ⟨?_, by omega, fun z hz => ?_⟩
    · rcases h1 with h1 | h1
      · rw [h1, Int.max_def]; split
        · exact .inr List.mem_cons_self
        · exact .inl rfl
      · exact .inr (List.mem_cons_of_mem _ h1)
    · rcases List.mem_cons.mp hz with rfl | hz
      · omega
      · exact h3 z hz
theorem foldl_min (ns : List Int) : ∀ n : Int, (ns.foldl min n = n ∨ ns.foldl min n ∈ ns) ∧ ns.foldl min n ≤ n ∧ ∀ z ∈ ns, ns.foldl min n ≤ z := by
  induction ns with
  | nil => exact fun n => ⟨.inl rfl, Int.le_refl _, fun _ h => nomatch h⟩
  | cons a ns ih =>
    intro n
    obtain ⟨h1, h2, h3⟩ := ih (min n a)
    rw [List.foldl_cons]
    refine ⟨?_, by omega, fun z hz => ?_⟩
    · rcases h1 with h1 | h1
      · rw [h1, Int.min_def]; split
        · exact .inl rfl
        · exact .inr List.mem_cons_self
      · exact .inr (List.mem_cons_of_mem _ h1)
    · rcases List.mem_cons.mp hz with rfl | hz
      · omega
      · exact h3 z hz
theorem reads_int_inv {h : Heap} {v : Value} {n : Int} {as : List Addr} (r : Reads h v (.int n) as) : ∃ t, v = .int n t := by
  cases r
  exact ⟨_, rfl⟩
theorem cr_maxD {X : Cx} (hc : X.calm = true) (hu : X.A.units + 64 < cLine) : CallRK X (.builtin "max") [Str.ofString "default"] (rMaxD X.K) := by
  intro pins s σ H vs zs us ws Q I r rz h
  obtain ⟨a, ns, y, rfl, rfl, hs, q0, q⟩ := h
  obtain ⟨its, rv, hl, _⟩ := I.list hs
  rw [Vals.ref1 r]
  obtain ⟨u, rfl, ru⟩ := rz.one
  obtain ⟨as, hr⟩ := readsAll_ints (h := s.heap) rv
  refine PySem.W.max_list_default (I.ok.hd hc) hl.isList (by simpa using hr) (alike_ints ns) (by have := depth_ints ns; omega) (fun e h' tk hk => ?_) fun z zs i v h' tk bs e hv hrd hk => ?_
  · exact ⟨y, H, I.kept hk, ru, q0 (List.map_eq_nil_iff.mp e)⟩
  · cases ns with
    | nil => cases e
    | cons n ns =>
      cases e
      rw [PySem.W.maxD_ints] at hrd
      obtain ⟨t, rfl⟩ := reads_int_inv hrd
      obtain ⟨h1, h2, h3⟩ := foldl_max ns n
      refine ⟨.int _, H, I.kept hk, ⟨t, rfl⟩, q _ ?_ fun z hz => ?_⟩
      · rcases h1 with h1 | h1
        · rw [h1]; exact List.mem_cons_self
        · exact List.mem_cons_of_mem _ h1
      · rcases List.mem_cons.mp hz with rfl | hz
        · exact h2
        · exact h3 z hz
theorem cr_minD {X : Cx} (hc : X.calm = true) (hu : X.A.units + 64 < cLine) : CallRK X (.builtin "min") [Str.ofString "default"] (rMinD X.K) := by
  intro pins s σ H vs zs us ws Q I r rz h
  obtain ⟨a, ns, y, rfl, rfl, hs, q0, q⟩ := h
  obtain ⟨its, rv, hl, _⟩ := I.list hs
  rw [Vals.ref1 r]
  obtain ⟨u, rfl, ru⟩ := rz.one
  obtain ⟨as, hr⟩ := readsAll_ints (h := s.heap) rv
  refine PySem.W.min_list_default (I.ok.hd hc) hl.isList (by simpa using hr) (alike_ints ns) (by have := depth_ints ns; omega) (fun e h' tk hk => ?_) fun z zs i v h' tk bs e hv hrd hk => ?_
  · exact ⟨y, H, I.kept hk, ru, q0 (List.map_eq_nil_iff.mp e)⟩
  · cases ns with
    | nil => cases e
    | cons n ns =>
      cases e
      rw [PySem.W.minD_ints] at hrd
      obtain ⟨t, rfl⟩ := reads_int_inv hrd
      obtain ⟨h1, h2, h3⟩ := foldl_min ns n
      refine ⟨.int _, H, I.kept hk, ⟨t, rfl⟩, q _ ?_ fun z hz => ?_⟩
      · rcases h1 with h1 | h1
        · rw [h1]; exact List.mem_cons_self
        · exact List.mem_cons_of_mem _ h1
      · rcases List.mem_cons.mp hz with rfl | hz
        · exact h2
        · exact h3 z hz
abbrev QKw := List D → List D → (O → Prop) → Prop
variable (K) (cn) in
class RK (r : List V → List V → Hp → VK → Prop) (q : outParam QKw) : Prop where
  run : ∀ G H vs ds us es Q R, Ctx G H → FroL K cn G ds vs → FroL K cn G es us → q ds es Q → Out K cn G H Q R → r vs us H R
@[simp] def qCKw (q : QKw) (t u : QA) : QX := fun env Q X => t env (fun os => u env (fun ps => q (toDL os) (toDL ps) Q) X) X
instance rd_CKw {r : List V → List V → Hp → VK → Prop} {q : QKw} {ta tb : TA} {t u : QA} [h : RK K cn r q] [ha : RA K cn W ta t] [hb : RA K cn W tb u] : RD K cn W (tCKw r ta tb) (qCKw q t u) := ⟨fun G H σ env Q X R c vw ex w z =>
  ha.fro (Q := fun ds => u env (fun ps => q ds (toDL ps) Q) X) c vw ex w fun vs H1 G1 ds s1 f1 q1 =>
  hb.fro (Q := fun es => q ds es Q) s1.ctx (vw.le s1.le) (ex.step s1) q1 fun us H2 G2 es s2 f2 q2 =>
  h.run G2 H2 vs ds us es Q R s2.ctx (f1.mono s2.le) f2 q2 ((z.step s1).step s2)⟩
@[simp] def nMaxD : QKw := fun ds es Q => is1 ds fun d => is1 es fun y => d.isIs fun ns => if ns = [] then Q (.fro y) else Q (.fro (.int (maxL ns)))
@[simp] def nMinD : QKw := fun ds es Q => is1 ds fun d => is1 es fun y => d.isIs fun ns => if ns = [] then Q (.fro y) else Q (.fro (.int (minL ns)))
theorem FroL.mono1 {G G' : Fz} {ds : List D} {vs : List V} (l : FzLe G G') (f : FroL K cn G ds vs) : FroL K cn G' ds vs := f.mono l
instance rk_maxD : RK K cn (rMaxD K) nMaxD := ⟨fun G H vs ds us es Q R c f g q z => by
  have q0 := q; clear q; obtain ⟨d, rfl, q⟩ := is1_of q0; clear q0
  have q0 := q; clear q; obtain ⟨y, rfl, q⟩ := is1_of q0; clear q0
  have f0 := f; clear f; obtain ⟨v, rfl, f⟩ := f0.one rfl
  have g0 := g; clear g; obtain ⟨u, rfl, g⟩ := g0.one rfl
  obtain ⟨ns, a, rfl, rfl, e, q⟩ := f.isIs q
  refine ⟨a, ns, u, rfl, rfl, .inl (.inl (c.sub _ _ e)), fun h0 => ?_, fun m h k => ?_⟩
  · rw [if_pos h0] at q
    exact z.fro c g q
  · rw [if_neg (List.ne_nil_of_mem h)] at q
    rw [← maxL_eq h k]
    exact z.fro c .int q⟩
instance rk_minD : RK K cn (rMinD K) nMinD := ⟨fun G H vs ds us es Q R c f g q z => by
  have q0 := q; clear q; obtain ⟨d, rfl, q⟩ := is1_of q0; clear q0
  have q0 := q; clear q; obtain ⟨y, rfl, q⟩ := is1_of q0; clear q0
  have f0 := f; clear f; obtain ⟨v, rfl, f⟩ := f0.one rfl
  have g0 := g; clear g; obtain ⟨u, rfl, g⟩ := g0.one rfl
  obtain ⟨ns, a, rfl, rfl, e, q⟩ := f.isIs q
  refine ⟨a, ns, u, rfl, rfl, .inl (.inl (c.sub _ _ e)), fun h0 => ?_, fun m h k => ?_⟩
  · rw [if_pos h0] at q
    exact z.fro c g q
  · rw [if_neg (List.ne_nil_of_mem h)] at q
    rw [← minL_eq h k]
    exact z.fro c .int q⟩

/-! ### < of data -/
def rLtD (K : PySem.W.Frag) : R2 := fun x y H Q => ∃ d e, Dp K H x d ∧ Dp K H y e ∧ PySem.W.alike d e = true ∧ d ≠ .none ∧ min d.depth e.depth ≤ 64 ∧ Q (.bl (PySem.W.dataLt d e)) H
theorem op_ltD {X : Cx} (hu : X.A.units + 64 < cLine) : OpR X (compareOp .Lt) (rLtD X.K) := by
  intro pins s σ H x y v u Q I rx ry h
  obtain ⟨d, e, hd, he, al, nn, dp, q⟩ := h
  obtain ⟨as, r1⟩ := Dp.reads I d x v hd rx
  obtain ⟨bs, r2⟩ := Dp.reads I e y u he ry
  exact PySem.W.rcLt_alike d e X.A s v u as bs r1 r2 al nn (by omega) _ _ _ _ ⟨.bl _, H, I, rfl, q⟩
@[simp] def oLtD : Q2 := fun a b Q => a.plain = true ∧ b.plain = true ∧ PySem.W.alike a.toPy b.toPy = true ∧ a.toPy ≠ .none ∧ min a.toPy.depth b.toPy.depth ≤ 64 ∧ Q (.fro (.bl (PySem.W.dataLt a.toPy b.toPy)))
instance r2_ltD : R2' K cn (rLtD K) oLtD := ⟨fun G H x y dx dy Q R c fx fy q z =>
  ⟨_, _, fx.dp c.sub q.1, fy.dp c.sub q.2.1, q.2.2.1, q.2.2.2.1, q.2.2.2.2.1, z.fro c .bl q.2.2.2.2.2⟩⟩

theorem iop_addStr {X : Cx} : OpR X (inplaceOp .Add) rAddStr := iop_add_str
/-! ### x[i] read for x[i] op= e -/
theorem pget_list {X : Cx} : PGet X (rIxL X.K) := by
  intro pins s σ H x y v u Q I rx ry h
  obtain ⟨p, xs, i, z, rfl, rfl, hq, he, q⟩ := h
  cases rx
  obtain ⟨t, rfl⟩ := ry
  obtain ⟨its, r, pl, hz⟩ := I.list hq
  obtain ⟨j, h1, h2, h3, h4, h5⟩ := atI_get he
  obtain ⟨w, ew, rw'⟩ := r.get h2
  have hl := r.length
  have hn := line63
  have fin : EP X pins σ Q w s := ⟨z, H, I, rw', q⟩
  by_cases h0 : 0 ≤ i
  · have hj : i.toNat = j := by
      rw [seqIndex_of h0 h5] at h1
      exact Option.some.inj h1
    exact wpAny_getItem_list pl.isList h0 (by omega) (by rw [hj]; simpa using ew) fin
  · have hj : (i + (its.toArray.size : Int)).toNat = j := by
      rw [seqIndex_neg (by omega) h4] at h1
      rw [List.size_toArray, ← hl]
      exact Option.some.inj h1
    exact wpAny_getItem_list_neg pl.isList (by omega) (by rw [List.size_toArray] <;> omega) (by omega) (by rw [hj]; simpa using ew) fin
end
/-- a tuple of the module's top -/
def ConT (K : PySem.W.Frag) (cn : Str → Option Addr) (mg : Str → Option Value) (x : Str) (k : D) : Prop := ∃ a, mg x = some (.ref a) ∧ ∀ G : Fz, Fro K cn G k (.ref a)
end PD

end PDMore_

section PDNest_
set_option maxRecDepth 100000
set_option maxHeartbeats 1000000
/-! PDNest: changes of a list that stands within an owned list or tuple; list.remove. -/
namespace PD
open PySem L2
section
variable {K : PySem.W.Frag} {cn : Str → Option Addr} {W : WX} {G0 G G' : Fz} {H0 H H' : Hp} {P : List V} {rest : List (V × O)} {σ : L2.St} {env : OEnv} {n : Nat}
/-- a list or a tuple -/
def box (t : Bool) (os : List O) : O := if t = true then .tup os else .lst os
def boxH (t : Bool) (vs : List V) : HO := if t = true then .tup vs else .lst vs
theorem openBox {t : Bool} {os : List O} {v : V} {ps : List (V × O)} {B : Hp} (h : OwnP K cn B G H ((v, box t os) :: ps)) : ∃ a vs, v = .ref a ∧ H a = some (boxH t vs) ∧ vs.length = os.length ∧ Apart B G a ∧ OwnP K cn (marked B a) G H (vs.zip os ++ ps) := by
  cases t with
  | false => exact openL h
  | true =>
    obtain ⟨f, g, w, ws, d⟩ := OwnP.uncons h
    obtain ⟨r, nd, ap⟩ := w
    change Rep K cn G H (.tup os) v f at r
    cases r with
    | @tup a vs _ fp e hs =>
      have na := List.nodup_cons.mp nd
      refine ⟨a, vs, rfl, e, hs.length, ⟨(ap a List.mem_cons_self).1, (ap a List.mem_cons_self).2.1, (ap a List.mem_cons_self).2.2⟩, ?_⟩
      have o2 : OwnL K cn B G H ((vs.zip os ++ ps).map Prod.snd) ((vs.zip os ++ ps).map Prod.fst) (fp ++ g) := by
        rw [List.map_append, List.map_append, zip_fst hs.length, zip_snd hs.length]
        exact ⟨hs.append ws.rep, List.nodup_append.mpr ⟨na.2, ws.nd, fun x m y n => d x (List.mem_cons_of_mem _ m) y n⟩, fun x m => (List.mem_append.mp m).elim (fun m => ap x (List.mem_cons_of_mem _ m)) (ws.ap x)⟩
      exact OwnP.mark o2 fun m => (List.mem_append.mp m).elim na.1 fun m => d a List.mem_cons_self a m rfl
theorem upd_self {H : Hp} {a : Addr} {u : HO} (h : H a = some u) : L2.upd H a u = H := by
  funext b
  by_cases e : b = a
  · subst e; rw [upd_same, h]
  · rw [upd_ne e]
theorem closeBox {t : Bool} {os : List O} {a : Addr} {vs : List V} {ps : List (V × O)} {B : Hp} (ap : Apart B G a) (hl : vs.length = os.length) (ha : H a = some (boxH t vs)) (h : OwnP K cn (marked B a) G H (vs.zip os ++ ps)) : OwnP K cn B G H ((.ref a, box t os) :: ps) := by
  have := closeR (o := box t os) (boxH t vs) ap hl h fun H' fp e r => by
    cases t with
    | false => exact .lst e r
    | true => exact .tup e r
  rwa [upd_self ha] at this
theorem set_same {α : Type} : ∀ {l : List α} {j : Nat} {x : α}, l[j]? = some x → l.set j x = l
  | [], _, _, h => by simp at h
  | a :: l, 0, x, h => by simp at h; subst h; rfl
  | a :: l, j + 1, x, h => by
    show a :: l.set j x = a :: l
    rw [set_same (by simpa using h)]
theorem Ok.openIx {i j : Nat} {t : Bool} {os ps : List O} (ok : Ok K cn G0 H0 P rest G H σ env) (h : env[i]? = some (some (box t os))) (hj : os[j]? = some (.lst ps)) :
    ∃ a vs b us, σ[i]? = some (some (.ref a)) ∧ H a = some (boxH t vs) ∧ vs.length = os.length ∧ vs[j]? = some (.ref b) ∧ H b = some (.lst us) ∧ us.length = ps.length ∧
      ∀ us' ps' rest', us'.length = ps'.length → (∀ M, OwnP K cn M G H (us.zip ps ++ ((vs.zip os).eraseIdx j ++ (slots σ (env.set i none) ++ rest))) → OwnP K cn M G H (us'.zip ps' ++ ((vs.zip os).eraseIdx j ++ (slots σ (env.set i none) ++ rest')))) →
        Ok K cn G0 H0 P rest' G (L2.upd H b (.lst us')) σ (env.set i (some (box t (os.set j (.lst ps'))))) := by
  obtain ⟨v, ev⟩ := ok.val i _ h
  obtain ⟨a, vs, rfl, e, hl, ap, w⟩ := openBox (ok.own.perm ((slots_get ev h).append_right rest))
  have hjl : j < os.length := (List.getElem?_eq_some_iff.mp hj).1
  have evj : vs[j]? = some vs[j] := List.getElem?_eq_getElem (by omega)
  have p1 := get_perm (l := vs.zip os) (m := j) (x := (vs[j], .lst ps)) (List.getElem?_zip_eq_some.mpr ⟨evj, hj⟩)
  have w2 : OwnP K cn (marked H0 a) G H ((vs[j], .lst ps) :: ((vs.zip os).eraseIdx j ++ (slots σ (env.set i none) ++ rest))) := w.perm (p1.append_right _)
  obtain ⟨b, us, eb, hb, hlu, apb, w3⟩ := PD.openL w2
  have nba : b ≠ a := fun q => by have := apb.b; unfold marked at this; rw [q, upd_same] at this; cases this
  have hb0 : H0 b = none := by have := apb.b; rwa [marked_ne nba] at this
  refine ⟨a, vs, b, us, ev, e, hl, by rw [evj, eb], hb, hlu, fun us' ps' rest' hl' tr => ?_⟩
  have w4 := PD.closeL apb hl' (tr _ w3)
  have hl2 : i < env.length := (List.getElem?_eq_some_iff.mp h).1
  refine ⟨ok.stp.poke hb0 apb.g apb.f, ok.pin, by rw [List.length_set]; exact ok.len, fun k o q => ?_, OwnP.perm ((slots_keep _ ev hl2).append_right rest').symm ?_⟩
  · by_cases hk : i = k
    · subst hk; exact ⟨_, ev⟩
    · rw [List.getElem?_set_ne hk] at q; exact ok.val k o q
  · refine closeBox (vs := vs) ap (by rw [List.length_set, hl]) (by rw [upd_ne (Ne.symm nba)]; exact e) ?_
    have ez : vs.zip (os.set j (.lst ps')) = (vs.zip os).set j (.ref b, .lst ps') := by
      have : vs.set j (.ref b) = vs := set_same (by rw [evj, eb])
      rw [← zip_set, this]
    rw [ez]
    exact w4.perm ((set_perm (by rw [List.length_zip]; omega)).symm.append_right _)
theorem rd_B2 {te : TE} {t : QX} (h : RD K cn W te t) {Q : D → Prop} {X : Exn → OEnv → Prop} {R : VK} (ok : Ok K cn G0 H0 P rest G H σ env) (ex : ExsV K cn W G0 H0 P rest σ X) (q : t (allV env) (fun o => Q o.toD) (fun e => X e env))
    (z : ∀ v H' G1 d, Stp G H G H' → Fro K cn G1 d v → Q d → R v H') : te σ H R := by
  obtain ⟨G1, l1, c1, vw, af⟩ := ok.borrow
  exact h.fro (Q := Q) c1 vw (fun H' G' e cls d s r x => ex G H' env e cls d (ok.step (Stp.thaw ok.stp.ctx l1 af s)) r.any x) q fun v H' G' d s f q => z v H' G' d (Stp.thaw ok.stp.ctx l1 af s) f q
/-- x[j].append(e), e a scalar -/
@[simp] def qAppendIx (i : Nat) (j : Int) (t : QX) : QS := fun k env => match env[i]? with
  | some (some (.lst os)) => match os[j.toNat]? with
    | some (.lst ps) => 0 ≤ j ∧ t (allV env) (fun o => o.toD.scal = true ∧ ps.length < 16777216 ∧ k.nx (env.set i (some (.lst (os.set j.toNat (.lst (ps ++ [.fro o.toD]))))))) (fun e => k.ex e env)
    | _ => False
  | some (some (.tup os)) => match os[j.toNat]? with
    | some (.lst ps) => 0 ≤ j ∧ t (allV env) (fun o => o.toD.scal = true ∧ ps.length < 16777216 ∧ k.nx (env.set i (some (.tup (os.set j.toNat (.lst (ps ++ [.fro o.toD]))))))) (fun e => k.ex e env)
    | _ => False
  | _ => False
theorem sqBox {t : Bool} {a : Addr} {vs : List V} {j : Int} {x : V} {Q : VK} (h : H a = some (boxH t vs)) (h0 : 0 ≤ j) (e : vs[j.toNat]? = some x) (q : Q x H) : rIx K (.ref a) (.int j) H Q := by
  have ea : atI vs j = some x := by
    have : j = (j.toNat : Int) := by omega
    rw [this]
    exact atI_nat e
  cases t with
  | false => exact .inl ⟨a, vs, j, x, rfl, rfl, .inl (.inl h), ea, q⟩
  | true => exact .inr (.inl ⟨a, vs, j, x, rfl, rfl, .inl (.inl h), ea, q⟩)
theorem rs_appendBox {i : Nat} {j : Int} {b : Bool} {te : TE} {t : QX} {os ps : List O} (h : RD K cn W te t) {k : Kont} {D : Ends} (hn : P.length = n) (ok : Ok K cn G0 H0 P rest G H σ env) (l : Lift K cn W G0 H0 P rest k D)
    (e : env[i]? = some (some (box b os))) (ej : os[j.toNat]? = some (.lst ps)) (h0 : 0 ≤ j) (w : t (allV env) (fun o => o.toD.scal = true ∧ ps.length < 16777216 ∧ k.nx (env.set i (some (box b (os.set j.toNat (.lst (ps ++ [.fro o.toD]))))))) (fun e => k.ex e env)) :
    tDrop (tBM K "list" rAppend (tOp (rIx K) (tVar i) (tC (.int j))) (tCons te tNil)) D σ H := by
  obtain ⟨a, vs, ab, us, hv, ha, hl, hvj, hb, hlu, _⟩ := ok.openIx e ej
  refine ⟨.ref a, hv, sqBox ha h0 hvj ⟨Ok.tyL (i := i) (os := os) hb, ?_⟩⟩
  refine rd_B2 h (Q := fun d => d.scal = true ∧ ps.length < 16777216 ∧ k.nx (env.set i (some (box b (os.set j.toNat (.lst (ps ++ [.fro d]))))))) ok (X := k.ex) l.exs w fun v H' G1 d s f w => ?_
  have ok' := ok.step s
  obtain ⟨a', vs', ab', us', hv', ha', hl', hvj', hb', hlu', cl⟩ := ok'.openIx e ej
  rw [hv] at hv'
  cases hv'
  have nab : G.af a ≠ true ∧ G.af ab ≠ true := by
    have x := ok.own
    constructor
    · obtain ⟨a2, vs2, e2, _, _, ap2, _⟩ := openBox (ok.own.perm ((slots_get hv e).append_right rest))
      cases e2
      exact ap2.f
    · obtain ⟨a2, vs2, e2, ha2, hl2, ap2, w2⟩ := openBox (ok.own.perm ((slots_get hv e).append_right rest))
      cases e2
      rw [ha] at ha2
      have evs : vs = vs2 := by cases b <;> (cases ha2; rfl)
      subst evs
      have p1 := get_perm (l := vs.zip os) (m := j.toNat) (x := (.ref ab, .lst ps)) (List.getElem?_zip_eq_some.mpr ⟨hvj, ej⟩)
      obtain ⟨b2, us2, eb2, _, _, apb2, _⟩ := PD.openL (w2.perm (p1.append_right _))
      cases eb2
      exact apb2.f
  have e1 : vs' = vs := by
    have := s.same a _ nab.1 ha
    rw [ha'] at this
    cases b <;> (cases this; rfl)
  subst e1
  rw [hvj] at hvj'
  cases hvj'
  refine ⟨ab, us', v, rfl, rfl, hb', by rw [hlu', sizeLine_eq]; exact w.2.1, l.nx G _ σ _ (cl (us' ++ [v]) (ps ++ [.fro d]) rest (by rw [List.length_append, List.length_append, hlu']; rfl) fun M own => ?_) w.2.2⟩
  rw [List.zip_append hlu', List.append_assoc]
  have fr : Fro K cn G d v := f.scal w.1
  obtain ⟨g, ow⟩ := own
  have o2 : OwnP K cn M G H' ((v, .fro d) :: (us'.zip ps ++ ((vs'.zip os).eraseIdx j.toNat ++ (slots σ (env.set i none) ++ rest)))) := OwnP.cons (f := []) (Own.fro fr) ow fun _ m => nomatch m
  exact o2.perm List.perm_middle.symm
theorem rs_appendIx {i : Nat} {j : Int} {te : TE} {t : QX} (h : RD K cn W te t) : RS K cn n W (tDrop (tBM K "list" rAppend (tOp (rIx K) (tVar i) (tC (.int j))) (tCons te tNil))) (qAppendIx i j t) := fun G0 H0 P rest G H σ env k D hn ok l w => by
  unfold qAppendIx at w
  split at w
  · split at w
    · rename_i e _ _ ej
      exact rs_appendBox (b := false) h hn ok l e ej w.1 w.2
    · exact w.elim
  · split at w
    · rename_i e _ _ ej
      exact rs_appendBox (b := true) h hn ok l e ej w.1 w.2
    · exact w.elim
  · exact w.elim
end
end PD

end PDNest_

section PDIn_
/-! PDIn: the same rules with the fragment named, so that they may stand within a comprehension. -/
namespace PD
open PySem L2
section
variable {X : Cx} {K : PySem.W.Frag}
theorem ixK {f : PySem.W.Frag → R2} (h : X.K = K) (p : IxR X (f X.K)) : IxR X (f K) := by cases h; exact p
theorem opK {c : Value → Value → Sem Value} {f : PySem.W.Frag → R2} (h : X.K = K) (p : OpR X c (f X.K)) : OpR X c (f K) := by cases h; exact p
theorem caK {c : Value} {f : PySem.W.Frag → List V → Hp → VK → Prop} (h : X.K = K) (p : CallR X c (f X.K)) : CallR X c (f K) := by cases h; exact p
theorem ckK {c : Value} {ks : List Str} {f : PySem.W.Frag → List V → List V → Hp → VK → Prop} (h : X.K = K) (p : CallRK X c ks (f X.K)) : CallRK X c ks (f K) := by cases h; exact p
theorem mtK {id : String} {f : PySem.W.Frag → V → List V → Hp → VK → Prop} (h : X.K = K) (p : MtR X id (f X.K)) : MtR X id (f K) := by cases h; exact p
theorem slK {f : PySem.W.Frag → V → Option Int → Option Int → Hp → VK → Prop} (h : X.K = K) (p : L2.SlR X (f X.K)) : L2.SlR X (f K) := by cases h; exact p
theorem pgTupK {es : List Expr} {k n : Nat} {pos : Pos} {t : TGs} (hK : X.K = K) (hc : X.calm = true) (h : PGs X es t)
    (hn : (assignEach es X.env).length = n := by rfl) (hst : (assignEach es X.env).findIdx? (·.1) = none := by rfl) : PG X (.Tuple es k pos) (gTup K n t) := by
  cases hK
  exact pg_tup hc h hn hst
theorem piListK {tg l : Expr} {tl : TE} (h : X.K = K) (hl : PE X l tl) : PI X tg l (iList K tl) := by cases h; exact pi_list hl
theorem piTupK {tg l : Expr} {tl : TE} (h : X.K = K) (hl : PE X l tl) : PI X tg l (iTup K tl) := by cases h; exact pi_tup hl
theorem ptTruK {a : Expr} {ta : TE} (h : X.K = K) (ha : PE X a ta) (he : ∀ whole, isTrue a X.env whole = (do let v ← whole; standAt a.pos; PySem.holding [v] (truthy v))) : PT X a (tTru K ta) := by cases h; exact pt_tru ha he
variable {o e : Expr} {es : List Expr} {to : TE} {t : TA} {name : Str} {apos cpos : Pos} {T id : String} {r : V → List V → Hp → VK → Prop}
theorem peBm0K (hK : X.K = K) (pa : PlainAttrs T) (slot : Slot T name id) (hty : typeOf (.builtin id) = pure (.type "method_descriptor")) (hm : MtR X id r) (ho : PE X o to)
    (hb : attributeBase o name X.env (eval o X.env) = eval o X.env := by rfl) (hl : (apos.endLine == cpos.line) = true := by rfl) : PE X (.Call (.Attribute o name apos) [] [] cpos) (tBM0 K T r to) := by
  cases hK
  exact pe_bm0 pa slot hty hm ho hb hl
theorem peBmK (hK : X.K = K) (pa : PlainAttrs T) (slot : Slot T name id) (hty : typeOf (.builtin id) = pure (.type "method_descriptor")) (hm : MtR X id r) (ho : PE X o to) (ha : PA X (e :: es) t)
    (hb : attributeBase o name X.env (eval o X.env) = eval o X.env := by rfl)
    (hf : ((backTo cpos (starEach (e :: es) X.env)).all (fun x => !x.1) && (backToKw cpos (keywordEach [] X.env)).all (fun x => x.1.isSome)
      && decide ((e :: es).length + ([] : List Keyword).length + (if ([] : List Keyword).isEmpty then 0 else 1) < 30)) = true := by rfl)
    (hl : (apos.endLine == cpos.line) = true := by rfl) (hs : starEach (e :: es) X.env = (false, eval e X.env) :: starEach es X.env := by rfl) (hp : (backTo cpos (starEach es X.env)).any (·.1) = false := by rfl) :
    PE X (.Call (.Attribute o name apos) (e :: es) [] cpos) (tBM K T r to t) := by
  cases hK
  exact pe_bm pa slot hty hm ho ha hb hf hl hs hp
end
end PD

end PDIn_

section PDFeed_
set_option maxRecDepth 100000
set_option maxHeartbeats 4000000
/-! PDFeed: defs that change their first argument; the law's feed and its draws. -/
namespace PD
open PySem L2
open PyProof.Rows (envOfC)
section
variable {K : PySem.W.Frag} {cn : Str → Option Addr} {W : WX} {G0 G G' : Fz} {H0 H H' : Hp} {P : List V} {rest : List (V × O)} {σ : L2.St} {env : OEnv} {n : Nat}

/-! ### defs that change their first argument -/
theorem spM_len {m : Nat} {f : FM} (vs : List V) (H : Hp) (Q : VK) (E : XK) (h : spM K cn m f vs H Q E) : vs.length = m := by
  obtain ⟨G, H0, v0, vr, o0, fp, ds, QQ, EE, h1, h2, _⟩ := h
  exact h2
theorem ok_startM {N : List Str} {ds : List D} {v0 : V} {vr : List V} {o0 : O} {fp : List Addr} (s : Stp G H0 G H) (w : Own K cn H0 G H o0 v0 fp) (f : FroL K cn G ds vr) (hN : ds.length + 1 ≤ N.length) :
    Ok K cn G H0 [v0] [] G H (L2.start N (v0 :: vr)) (startM N.length o0 ds) := by
  have hl := f.length
  unfold L2.start startM
  refine ⟨s, fun i v h => ?_, by simp [hl], fun i o e => ?_, ?_⟩
  · cases i with
    | zero => simp at h; subst h; rfl
    | succ i => simp at h
  · cases i with
    | zero => exact ⟨v0, rfl⟩
    | succ i => exact start_val (b := N.length - (ds.length + 1)) hl i o (by simpa using e) |>.imp fun v h => by simpa [hl] using h
  · show OwnP K cn H0 G H ((v0, o0) :: slots (vr.map some ++ List.replicate _ none) (ds.map (fun d => some (O.fro d)) ++ List.replicate _ none) ++ [])
    rw [List.append_nil, slots_start hl]
    exact OwnP.cons w (g := []) (by
      rw [zip_fst (by simp [hl]), zip_snd (by simp [hl])]
      exact ⟨RepL.fro f, List.nodup_nil, fun _ m => nomatch m⟩) fun x _ y m => nomatch m
/-- what a def is worth to its callers that changes its first argument -/
structure DefM (PP : Program) (w : World) (K : PySem.W.Frag) (cn : Str → Option Addr) (mg : Str → Option Value) (base : Heap) (k : Nat) (x : Str) (ps : List Str) (m : Nat) (f : FM) : Prop where
  ex : ∃ a fd, FnOk PP w K mg base (L2.CX PP w) k a fd ps (spM K cn m f) ∧ Binds K fd ps [] ∧ mg x = some (.ref a) ∧ PySem.W.keepIn K (.ref a) = true
/-- the wanted end of such a def -/
def kM (Q : O → O → Prop) (X : Exn → O → Prop) : Kont where
  nx := fun env => ∃ o, env[0]? = some (some o) ∧ Q (.fro .non) o
  rt := fun r env => ∃ o, env[0]? = some (some o) ∧ Q r o
  ex := fun e env => ∃ o, env[0]? = some (some o) ∧ X e o
@[simp] theorem kM_nx {Q : O → O → Prop} {X : Exn → O → Prop} {env : OEnv} : (kM Q X).nx env = ∃ o, env[0]? = some (some o) ∧ Q (.fro .non) o := rfl
@[simp] theorem kM_rt {Q : O → O → Prop} {X : Exn → O → Prop} {r : O} {env : OEnv} : (kM Q X).rt r env = ∃ o, env[0]? = some (some o) ∧ Q r o := rfl
@[simp] theorem kM_ex {Q : O → O → Prop} {X : Exn → O → Prop} {e : Exn} {env : OEnv} : (kM Q X).ex e env = ∃ o, env[0]? = some (some o) ∧ X e o := rfl
theorem fn_MX {PP : Program} {w : World} {mg : Str → Option Value} {base : Heap} {x : Str} {st : Stmt} {f : Addr} {fd : FuncData} {N ps : List Str} {k : Nat} {fs : FM} {t : QS} (F : Fn K x st f fd) (S : FnScope N ps (defScope st))
    (body : ∀ (cdv : Value) (A : Around) (outer : List Env) (s : Shared) (H : Hp) (E : XK), Room k (A.deeper (envOfC x (defScope st) s.heap.objs.size f cdv)) → Takes (cxOf (L2.CX PP w) PP w K mg base N x (defScope st) f cdv A outer s H E) (fun cls d _ H => E cls d H) →
      ∃ ts, PSs (cxOf (L2.CX PP w) PP w K mg base N x (defScope st) f cdv A outer s H E) (defBody st) ts ∧ RS K cn 1 (fun cls d _ H => E cls d H) ts t)
    (h : ∀ o ds Q X, ds.length + 1 = ps.length → fs o ds Q X → t (kM Q X) (startM N.length o ds))
    (hb : ∀ (kV doc pm : Value) (an : Option Addr) (cdv ct : Value) (us : List Value), us.length = ps.length → bindArgs (PySem.W.fnOf x x (defArgs st) (defBody st) (defScope st) .none kV doc pm an cdv ct) ⟨us, []⟩ = pure (ps.zip us)) (hm : mg x = some (.ref f)) :
    DefM PP w K cn mg base (k + 1) x ps ps.length fs := by
  refine ⟨f, fd, FunD.ok F S spM_len fun cdv A outer s H vs Q E hr hsp => ?_, FunD.bindsN F hb, hm, F.kp⟩
  obtain ⟨G, H0, v0, vr, o0, fp, ds, QQ, EE, rfl, hl, sm, s0, w0, fr, hf, out, oex⟩ := hsp
  obtain ⟨ts, hps, hrs⟩ := body cdv A outer s H E hr (takes_of rfl rfl rfl rfl)
  have hd : ds.length + 1 = ps.length := by rw [← fr.length]; exact hl
  have hN : ds.length + 1 ≤ N.length := by
    have := congrArg List.length S.pre
    rw [List.length_take] at this
    omega
  have fin : ∀ {G' H' σ env v r o}, Ok K cn G H0 [v0] ((v, r) :: []) G' H' σ env → env[0]? = some (some o) → Stp G H0 G' H' ∧ OwnP K cn H0 G' H' [(v, r), (v0, o)] := fun {G' H' σ env v r o} ok e => by
    have p := ok.pin 0 v0 rfl
    refine ⟨ok.stp, (ok.own.perm ((slots_get p e).append_right _)).sub ?_ |>.perm (List.Perm.swap _ _ _)⟩
    exact List.Sublist.cons_cons _ (List.sublist_append_right _ _)
  have fin0 : ∀ {G' H' σ env o}, Ok K cn G H0 [v0] [] G' H' σ env → env[0]? = some (some o) → OwnP K cn H0 G' H' [(v0, o)] := fun {G' H' σ env o} ok e => by
    have p := ok.pin 0 v0 rfl
    refine (ok.own.perm ((slots_get p e).append_right _)).sub ?_
    exact List.Sublist.cons_cons _ (List.nil_sublist _)
  refine ⟨ts, hps, hrs G H0 [v0] [] G H _ _ (kM QQ EE) _ rfl (ok_startM s0 w0 fr hN) ⟨fun G' H' σ env ok q => ?_, fun G' H' σ env v r ok q => ?_, fun _ _ _ _ _ q => False.elim q, fun _ _ _ _ _ q => False.elim q, fun G' H' σ env e cls d ok r q => ?_⟩ (h o0 ds QQ EE hd hf)⟩
  · obtain ⟨o, e, q⟩ := q
    obtain ⟨s1, w1⟩ := fin (ok.fro .non) e
    exact out .non H' G' _ o s1 w1 q
  · obtain ⟨o, e, q⟩ := q
    obtain ⟨s1, w1⟩ := fin ok e
    exact out v H' G' r o s1 w1 q
  · obtain ⟨o, e0, q⟩ := q
    exact oex H' G' e cls d o ok.stp (fin0 ok e0) r q

/-! ### the feed -/
/-- what _law_draw does to the feed's list -/
def feedO (cb : Addr) (ns : List Int) (i big seed : Int) : O := .lst [.fro (.scr cb ns), .fro (.int i), .fro (.int big), .fro (.int seed)]
def mDraw : FM := fun o ds Q _ => ∃ (cb : Addr) (ns : List Int) (i : Nat) (big seed many : Int), o = feedO cb ns i big seed ∧ ds = [.int many] ∧ 1 ≤ many ∧ many < 1073741824 ∧ i ≤ ns.length ∧ ns.length ≤ 63 ∧ 0 ≤ big ∧ 0 ≤ seed ∧ seed ≤ 2147483647 ∧
  ∀ (r : Int) (j : Nat) (big' seed' : Int), 0 ≤ r → r < many → j ≤ ns.length → 0 ≤ big' → 0 ≤ seed' → seed' ≤ 2147483647 → Q (.fro (.int r)) (feedO cb ns j big' seed')
/-- what a draw is to the law: some number below many -/
def fDraw : FP := fun ds Q _ => ∃ many : Int, ds = [.feed, .int many] ∧ 1 ≤ many ∧ many < 1073741824 ∧ ∀ r : Int, 0 ≤ r → r < many → Q (.fro (.int r))
theorem spDraw {vs : List V} {Q : VK} {E : XK} (h : spP K cn 2 fDraw vs H Q E) : spM K cn 2 mDraw vs H Q E := by
  obtain ⟨G, ds, QQ, EE, hl, c, fr, ⟨many, rfl, h1, h2, hq⟩, out, _⟩ := h
  cases fr with
  | @cons _ v0 _ vr f1 fr =>
  cases f1 with
  | @feed a haf =>
  obtain ⟨hga, i, big, seed, ha, hcb, hi, h63, hb0, hs0, hs1⟩ := c.feed a haf
  let G1 : Fz := ⟨G.hp, fun x => if x = a then false else G.af x, G.fc⟩
  let H0 : Hp := fun x => if x = a then none else H x
  have hH0 : Same H0 H := fun x o e => by
    by_cases q : x = a
    · simp [H0, q] at e
    · simpa [H0, q] using e
  have af1 : ∀ x, G1.af x = true → x ≠ a ∧ G.af x = true := fun x e => by
    by_cases q : x = a
    · simp [G1, q] at e
    · exact ⟨q, by simpa [G1, q] using e⟩
  have c1 : Ctx G1 H := ⟨c.sub, fun x e => c.feed x (af1 x e).2⟩
  have s1 : Stp G1 H0 G1 H := ⟨FzLe.refl _, fun b o _ e => hH0 b o e, c1, fun x u e k => (by rw [e] at k; cases k), fun _ e => .inl e⟩
  have fsc : Fro K cn G1 (.scr (G.fc a).1 (G.fc a).2) (.ref (G.fc a).1) := .scr (.inl (.inl hcb))
  have w1 : Own K cn H0 G1 H (feedO (G.fc a).1 (G.fc a).2 i big seed) (.ref a) [a] := by
    refine ⟨.lst ha (.cons (.fro fsc) (fq := []) (.cons (.fro .int) (fq := []) (.cons (.fro .int) (fq := []) (.cons (.fro .int) .nil)))), by simp, fun x m => ?_⟩
    rw [List.mem_singleton.mp m]
    exact ⟨hga, by simp [G1], by simp [H0]⟩
  refine ⟨G1, H0, .ref a, vr, _, _, [.int many], fun r o' => ∃ (x : Int) (j : Nat) (big' seed' : Int), r = .fro (.int x) ∧ 0 ≤ x ∧ x < many ∧ j ≤ (G.fc a).2.length ∧ 0 ≤ big' ∧ 0 ≤ seed' ∧ seed' ≤ 2147483647 ∧ o' = feedO (G.fc a).1 (G.fc a).2 j big' seed', fun _ _ => False, rfl, hl, hH0, s1, w1, ?_,
    ⟨_, _, i, big, seed, many, rfl, rfl, h1, h2, hi, h63, hb0, hs0, hs1, fun r j b' s' q1 q2 q3 q4 q5 q6 => ⟨r, j, b', s', rfl, q1, q2, q3, q4, q5, q6, rfl⟩⟩, fun v H' G' r o' s w q => ?_, fun _ _ _ _ _ _ _ _ _ q => q.elim⟩
  · cases fr with
    | cons f2 f3 =>
      cases f2; cases f3
      exact .cons .int .nil
  · obtain ⟨x, j, b', s', rfl, q1, q2, q3, q4, q5, q6, rfl⟩ := q
    obtain ⟨f, g, wv, ws, _⟩ := OwnP.uncons w
    obtain ⟨f2, g2, wf, _, _⟩ := OwnP.uncons (ps := []) (show OwnP K cn H0 G' H' [(.ref a, feedO (G.fc a).1 (G.fc a).2 j b' s')] from ⟨g, ws⟩)
    obtain ⟨rf, _, apf⟩ := wf
    have ev : v = .int x := by cases wv.rep with | fro h => cases h; rfl
    subst ev
    change Rep K cn G' H' (.lst [.fro (.scr (G.fc a).1 (G.fc a).2), .fro (.int j), .fro (.int b'), .fro (.int s')]) (.ref a) f2 at rf
    cases rf with
    | lst ha' hs =>
    have ga' := (apf a List.mem_cons_self).1
    cases hs with
    | cons r1 hs =>
    cases hs with
    | cons r2 hs =>
    cases hs with
    | cons r3 hs =>
    cases hs with
    | cons r4 hs =>
    cases hs
    cases r1 with
    | fro r1 =>
    cases r2 with
    | fro r2 =>
    cases r3 with
    | fro r3 =>
    cases r4 with
    | fro r4 =>
    cases r1; cases r2; cases r3; cases r4
    have hcb' := s.le.hp _ _ hcb
    refine out (.int x) H' ⟨G'.hp, fun y => if y = a then true else G'.af y, fun y => if y = a then G.fc a else G'.fc y⟩ (.fro (.int x)) [] ⟨⟨s.le.hp, fun y e => ?_⟩, fun b o n e => ?_, ⟨s.ctx.sub, fun y e => ?_⟩, fun y u e k => ?_, fun y e => ?_⟩ (Own.fro .int) (hq x q1 q2)
    · by_cases h : y = a
      · subst h; simp
      · have := s.le.af y (by simp [G1, h, e])
        simp [h, this.1, this.2]; rfl
    · have nb : b ≠ a := fun q => n (by rw [q]; exact haf)
      refine s.same b o (fun q => n (af1 b q).2) ?_
      simp [H0, nb, e]
    · by_cases h : y = a
      · subst h
        refine ⟨ga', j, b', s', ?_, ?_, ?_⟩
        · simpa using ha'
        · simpa using hcb'
        · simpa using ⟨q3, h63, q4, q5, q6⟩
      · have := s.ctx.feed y (by simpa [h] using e)
        simpa [h] using this
    · have ne : y ≠ a := fun q => by
        rw [q] at k
        change G'.hp a = some u at k
        rw [ga'] at k; cases k
      have := s.new y u e k
      simpa [H0, ne] using this
    · by_cases h : y = a
      · subst h; exact .inl haf
      · rcases s.newf y (by simpa [h] using e) with q | q
        · exact .inl (af1 y q).2
        · right; simpa [H0, h] using q
theorem fn_draw {PP : Program} {w : World} {mg : Str → Option Value} {base : Heap} {k : Nat} {x : Str} {ps : List Str} (d : DefM PP w K cn mg base k x ps 2 mDraw) : Def PP w K cn mg base k x ps 2 fDraw := by
  obtain ⟨a, fd, F, b, m, kp⟩ := d.ex
  exact ⟨a, fd, F.imp fun vs H Q E h => spDraw h, b, m, kp⟩
end
end PD

end PDFeed_

section PDSimp_
set_option maxRecDepth 100000
set_option maxHeartbeats 4000000
/-! PDSimp: what simp needs to reckon programs over data. -/
namespace PD
open PySem L2
theorem ixN_nat {n k : Nat} : ixN n (k : Int) = if k < n then some k else none := by
  unfold ixN
  simp
@[simp] theorem ixN_cast {n k : Nat} : ixN n (k : Int) = if k < n then some k else none := ixN_nat
@[simp] theorem ixN_lit {n k : Nat} : ixN n (no_index (OfNat.ofNat k) : Int) = if k < n then some k else none := ixN_nat
@[simp] theorem ixN_0 {n : Nat} : ixN n 0 = if 0 < n then some 0 else none := ixN_nat (k := 0)
@[simp] theorem ixN_1 {n : Nat} : ixN n 1 = if 1 < n then some 1 else none := ixN_nat (k := 1)
section
variable {α : Type} {l : List α}
@[simp] theorem atI_cast {k : Nat} : atI l (k : Int) = l[k]? := by
  unfold atI
  rw [ixN_nat]
  by_cases h : k < l.length
  · rw [if_pos h]; rfl
  · rw [if_neg h, List.getElem?_eq_none (by omega)]; rfl
@[simp] theorem atI_lit {k : Nat} : atI l (no_index (OfNat.ofNat k) : Int) = l[k]? := atI_cast (k := k)
@[simp] theorem atI_0 : atI l 0 = l[0]? := atI_cast (k := 0)
@[simp] theorem atI_1 : atI l 1 = l[1]? := atI_cast (k := 1)
@[simp] theorem atI_neg1 : atI l (-1) = l.getLast? := by
  unfold atI ixN
  rw [List.getLast?_eq_getElem?]
  by_cases h : l.length = 0
  · have : l = [] := List.eq_nil_of_length_eq_zero h
    subst this; rfl
  · rw [if_neg (by omega), if_pos (by omega)]
    have : ((-1 : Int) + l.length).toNat = l.length - 1 := by omega
    rw [this]; rfl
theorem atI_of {i : Int} (h : 0 ≤ i) : atI l i = l[i.toNat]? := by
  obtain ⟨k, rfl⟩ := Int.eq_ofNat_of_zero_le h
  rw [atI_cast]; rfl
end
@[simp] theorem solid_fro {d : D} : O.solid (.fro d) = d.scal := by rw [O.solid]
@[simp] theorem solid_lst {os : List O} : O.solid (.lst os) = os.all O.solid := by
  rw [O.solid]
  induction os with
  | nil => rw [solidL]; rfl
  | cons o os ih => rw [solidL, ih, List.all_cons]
@[simp] theorem solid_tup {os : List O} : O.solid (.tup os) = os.all O.solid := by
  rw [O.solid]
  induction os with
  | nil => rw [solidL]; rfl
  | cons o os ih => rw [solidL, ih, List.all_cons]
@[simp] theorem scal_non : D.scal .non = true := rfl
@[simp] theorem scal_bl {b : Bool} : D.scal (.bl b) = true := rfl
@[simp] theorem scal_int {i : Int} : D.scal (.int i) = true := rfl
@[simp] theorem scal_str {x : Str} : D.scal (.str x) = true := rfl
@[simp] theorem scal_lst {x : List D} : D.scal (.lst x) = false := rfl
@[simp] theorem scal_tup {x : List D} : D.scal (.tup x) = false := rfl
@[simp] theorem CDiv_iff {i j : Int} : CDiv i j ↔ 0 < j ∧ j < 1073741824 := Iff.rfl
@[simp] theorem CPow_iff {i j : Int} : CPow i j ↔ 0 ≤ j ∧ j ≤ 1000000 ∧ i.natAbs < 2 ^ 64 := Iff.rfl
theorem CMul_iff {i j : Int} : CMul i j ↔ (-(2 ^ 64) < i ∧ i < 2 ^ 64) ∨ (-(2 ^ 64) < j ∧ j < 2 ^ 64) := Iff.rfl
@[simp] theorem CMul_litR {i : Int} {k : Nat} : CMul i (no_index (OfNat.ofNat k) : Int) ↔ (-(2 ^ 64) < i ∧ i < 2 ^ 64) ∨ k < 18446744073709551616 := by
  unfold CMul
  have : (OfNat.ofNat k : Int) = (k : Int) := rfl
  rw [this]
  omega
@[simp] theorem CMul_litL {i : Int} {k : Nat} : CMul (no_index (OfNat.ofNat k) : Int) i ↔ (-(2 ^ 64) < i ∧ i < 2 ^ 64) ∨ k < 18446744073709551616 := by
  unfold CMul
  have : (OfNat.ofNat k : Int) = (k : Int) := rfl
  rw [this]
  omega
@[simp] theorem tyD_lst {x : List D} : tyD "list" (.lst x) = true := rfl
@[simp] theorem tyD_str {x : Str} : tyD "str" (.str x) = true := rfl
@[simp] theorem toD_comp_fro {α : Type} (e : α → D) : (O.toD ∘ fun x => O.fro (e x)) = fun x => e x := by funext x; simp
@[simp] theorem toD_comp_fro' : (O.toD ∘ O.fro) = fun x => x := by funext x; simp
@[simp] theorem flatD_int {i : Int} : flatD (.int i) = true := rfl
@[simp] theorem flatD_non : flatD .non = true := rfl
@[simp] theorem flatD_bl {i : Bool} : flatD (.bl i) = true := rfl
@[simp] theorem flatD_str {i : Str} : flatD (.str i) = true := rfl
@[simp] theorem scD_ii {i j : Int} : scD (.int i) (.int j) = true := rfl
@[simp] theorem scD_ss {i j : Str} : scD (.str i) (.str j) = true := rfl
@[simp] theorem scD_bb {i j : Bool} : scD (.bl i) (.bl j) = true := rfl
@[simp] theorem eqD_ii {i j : Int} : eqD (.int i) (.int j) = (i == j) := rfl
@[simp] theorem eqD_ss {i j : Str} : eqD (.str i) (.str j) = (i == j) := rfl
@[simp] theorem eqD_bb {i j : Bool} : eqD (.bl i) (.bl j) = (i == j) := rfl
@[simp] theorem eqF_ii {i j : Int} : eqF (.int i) (.int j) = (i == j) := rfl
@[simp] theorem eqF_ss {i j : Str} : eqF (.str i) (.str j) = (i == j) := rfl
@[simp] theorem eqF_ni {j : Int} : eqF .non (.int j) = false := rfl
@[simp] theorem eqF_in {j : Int} : eqF (.int j) .non = false := rfl
@[simp] theorem eqF_nn : eqF .non .non = true := rfl
@[simp] theorem eqF_sn {j : Str} : eqF (.str j) .non = false := rfl
@[simp] theorem eqF_ns {j : Str} : eqF .non (.str j) = false := rfl
end PD

end PDSimp_

section PDDraw_
set_option maxRecDepth 100000
set_option maxHeartbeats 4000000
/-! PDDraw: _law_draw over data. -/
namespace PD
open PySem L2
def wpDraw1c : QS :=
  (qIfS (qTest (qOp oGe (qVar 2) (qOp oPow (qC (.int 10)) (qC (.int 18))))) (qSetIx 0 (qC (.int 2)) (vB (qVar 2))) (qSetIx 0 (qC (.int 3)) (vB (qOp oMod (qCB nInt1 (qCons (qOp oAdd (qOp oAdd (qOp oMul (qOp oIx (qVar 0) (qC (.int 3))) (qC (.int 48271))) (qOp oMul (qVar 2) (qC (.int 69621)))) (qOp oIx (qVar 0) (qC (.int 1)))) qNil)) (qC (.int 2147483647))))))
def wpDraw1 : QS := qIfS (qAnd (qTest (qOp oEq (qOp oIx (qVar 0) (qC (.int 2))) (qC (.int 0)))) (qTest (qOp oLt (qOp oIx (qVar 0) (qC (.int 1))) (qCB nLen (qCons (qOp oIx (qVar 0) (qC (.int 0))) qNil)))))
  (qSeq (qSet 2 (vB (qCB nAbs (qCons (qCB (nOr nInt1 nIntS) (qCons (qOp oIx (qOp oIx (qVar 0) (qC (.int 0))) (qOp oIx (qVar 0) (qC (.int 1)))) qNil)) qNil))) 1) (qSeq (qAugIx 0 (qC (.int 1)) oAdd (qC (.int 1))) wpDraw1c)) qNext
def wpDraw2 : QS :=
  (qIfS (qTest (qOp oGt (qOp oIx (qVar 0) (qC (.int 2))) (qC (.int 0)))) (qSeq (qSet 3 (vB (qOp oMod (qCB (nOr nInt1 nIntS) (qCons (qOp oIx (qVar 0) (qC (.int 2))) qNil)) (qVar 1))) 1)
    (qSeq (qSetIx 0 (qC (.int 2)) (vB (qOp oDiv (qOp oIx (qVar 0) (qC (.int 2))) (qVar 1))))
    (qRet (vMv 3)))) qNext)
def wpDraw3 : QS :=
  (qSeq (qSetIx 0 (qC (.int 3)) (vB (qOp oMod (qCB nInt1 (qCons (qOp oAdd (qOp oMul (qOp oIx (qVar 0) (qC (.int 3))) (qC (.int 16807))) (qC (.int 12345))) qNil)) (qC (.int 2147483647)))))
    (qSeq (qSet 4 (vB (qOp oMod (qCB nInt1 (qCons (qOp oAdd (qOp oMul (qOp oIx (qVar 0) (qC (.int 3))) (qOp oIx (qVar 0) (qC (.int 3)))) (qOp oIx (qVar 0) (qC (.int 3)))) qNil)) (qC (.int 2147483629)))) 1)
    (qRet (vB (qOp oMod (qOp oDiv (qVar 4) (qC (.int 11))) (qVar 1))))))
def wpDraw : QS := qSeq wpDraw1 (qSeq wpDraw2 wpDraw3)
theorem draw3 {cb : Addr} {ns : List Int} {i : Nat} {big seed many : Int} {Q : O → O → Prop} {X : Exn → O → Prop} {c2 c3 c4 : Option O} (h1 : 1 ≤ many) (h2 : many < 1073741824) (hi : i ≤ ns.length) (hb0 : 0 ≤ big)
    (hq : ∀ (r : Int) (j : Nat) (big' seed' : Int), 0 ≤ r → r < many → j ≤ ns.length → 0 ≤ big' → 0 ≤ seed' → seed' ≤ 2147483647 → Q (.fro (.int r)) (feedO cb ns j big' seed')) :
    wpDraw3 (kM Q X) [some (feedO cb ns i big seed), some (.fro (.int many)), c2, c3, c4] := by
  unfold wpDraw3 feedO
  simp
  have a1 := Int.emod_nonneg (seed * 16807 + 12345) (show (2147483647 : Int) ≠ 0 by decide)
  have a2 := Int.emod_lt_of_pos (seed * 16807 + 12345) (show (0 : Int) < 2147483647 by decide)
  refine ⟨?_, by omega, ?_⟩
  · rw [CMul_iff]; omega
  · exact hq _ i big _ (Int.emod_nonneg _ (by omega)) (Int.emod_lt_of_pos _ (by omega)) hi hb0 a1 (by omega)
theorem draw2 {cb : Addr} {ns : List Int} {i : Nat} {big seed many : Int} {Q : O → O → Prop} {X : Exn → O → Prop} {c2 c3 c4 : Option O} (h1 : 1 ≤ many) (h2 : many < 1073741824) (hi : i ≤ ns.length) (hb0 : 0 ≤ big) (hs0 : 0 ≤ seed) (hs1 : seed ≤ 2147483647)
    (hq : ∀ (r : Int) (j : Nat) (big' seed' : Int), 0 ≤ r → r < many → j ≤ ns.length → 0 ≤ big' → 0 ≤ seed' → seed' ≤ 2147483647 → Q (.fro (.int r)) (feedO cb ns j big' seed')) :
    qSeq wpDraw2 wpDraw3 (kM Q X) [some (feedO cb ns i big seed), some (.fro (.int many)), c2, c3, c4] := by
  have d3 := draw3 (X := X) (seed := seed) (c2 := c2) (c3 := c3) (c4 := c4) h1 h2 hi hb0 hq
  unfold feedO at d3
  unfold wpDraw2 feedO
  generalize wpDraw3 = w at *
  simp
  by_cases hb : 0 < big
  · rw [if_pos hb]
    refine ⟨by omega, ⟨by omega, h2⟩, ?_⟩
    exact hq _ i _ seed (Int.emod_nonneg _ (by omega)) (Int.emod_lt_of_pos _ (by omega)) hi (Int.ediv_nonneg hb0 (by omega)) hs0 hs1
  · rw [if_neg hb]
    exact d3
theorem draw1c {cb : Addr} {ns : List Int} {i : Nat} {big seed many y : Int} {k : Kont} {c3 c4 : Option O} (ax : 0 ≤ y) (hs0 : 0 ≤ seed) (hs1 : seed ≤ 2147483647) (hb0 : 0 ≤ big)
    (h : ∀ big' seed' : Int, 0 ≤ big' → 0 ≤ seed' → seed' ≤ 2147483647 → k.nx [some (feedO cb ns i big' seed'), some (.fro (.int many)), some (.fro (.int y)), c3, c4]) :
    wpDraw1c k [some (feedO cb ns i big seed), some (.fro (.int many)), some (.fro (.int y)), c3, c4] := by
  unfold feedO at h ⊢
  unfold wpDraw1c
  simp
  by_cases hy : 1000000000000000000 ≤ y
  · rw [if_pos hy]
    exact h y seed ax hs0 hs1
  · rw [if_neg hy]
    have := Int.emod_lt_of_pos (seed * 48271 + y * 69621 + i) (show (0 : Int) < 2147483647 by decide)
    exact h big _ hb0 (Int.emod_nonneg _ (by decide)) (by omega)
theorem draw1 {cb : Addr} {ns : List Int} {i : Nat} {big seed many : Int} {w w1 : QS} {k : Kont}
    (h1 : i < ns.length → ∀ y : Int, 0 ≤ y → w1 { nx := w k, rt := k.rt, bk := k.bk, ct := k.ct, ex := k.ex } [some (.lst [.fro (.scr cb ns), .fro (.int (i + 1)), .fro (.int big), .fro (.int seed)]), some (.fro (.int many)), some (.fro (.int y)), none, none])
    (h2 : w k [some (.lst [.fro (.scr cb ns), .fro (.int i), .fro (.int big), .fro (.int seed)]), some (.fro (.int many)), none, none, none]) :
    qSeq (qIfS (qAnd (qTest (qOp oEq (qOp oIx (qVar 0) (qC (.int 2))) (qC (.int 0)))) (qTest (qOp oLt (qOp oIx (qVar 0) (qC (.int 1))) (qCB nLen (qCons (qOp oIx (qVar 0) (qC (.int 0))) qNil))))) (qSeq (qSet 2 (vB (qCB nAbs (qCons (qCB (nOr nInt1 nIntS) (qCons (qOp oIx (qOp oIx (qVar 0) (qC (.int 0))) (qOp oIx (qVar 0) (qC (.int 1)))) qNil)) qNil))) 1) (qSeq (qAugIx 0 (qC (.int 1)) oAdd (qC (.int 1))) w1)) qNext) w k (startM 5 (feedO cb ns i big seed) [.int many]) := by
  simp [startM, feedO]
  by_cases hb : big = 0
  · rw [if_pos hb]
    by_cases hl : i < ns.length
    · rw [if_pos hl]
      refine ⟨hl, fun x => ?_⟩
      have ax : 0 ≤ (if x < 0 then -x else x) := by split <;> omega
      exact h1 hl _ ax
    · rw [if_neg hl]
      exact h2
  · rw [if_neg hb]
    exact h2
theorem draw_ok (o : O) (ds : List D) (Q : O → O → Prop) (X : Exn → O → Prop) (_ : ds.length + 1 = 2) (h : mDraw o ds Q X) : wpDraw (kM Q X) (startM 5 o ds) := by
  obtain ⟨cb, ns, i, big, seed, many, rfl, rfl, h1, h2, hi, h63, hb0, hs0, hs1, hq⟩ := h
  refine draw1 (fun hl y ax => ?_) (draw2 h1 h2 hi hb0 hs0 hs1 hq)
  exact draw1c (i := i + 1) ax hs0 hs1 hb0 fun b s p2 p3 p4 => draw2 h1 h2 hl p2 p3 p4 hq
end PD

end PDDraw_

section PDFeed2_
set_option maxRecDepth 100000
set_option maxHeartbeats 1000000
/-! PDFeed2: the law's feed is made. -/
namespace PD
open PySem L2
section
variable {K : PySem.W.Frag} {cn : Str → Option Addr} {W : WX} {G0 G G' : Fz} {H0 H H' : Hp}
def feedL (ns : List Int) : O := .lst [.lst (ns.map fun n => .fro (.int n)), .fro (.int 0), .fro (.int 0), .fro (.int 1)]
def fFeed0 : FP := fun ds Q _ => ∃ (a : Addr) (ns : List Int), ds = [.scr a ns] ∧ ns.length ≤ 63 ∧ Q (feedL ns)
/-- what _law_feed is to the law -/
def fFeed : FP := fun ds Q _ => ∃ (a : Addr) (ns : List Int), ds = [.scr a ns] ∧ ns.length ≤ 63 ∧ Q (.fro .feed)
theorem RepL.ints {G : Fz} {H : Hp} : ∀ {ns : List Int} {vs : List V} {fp : List Addr}, RepL K cn G H (ns.map fun n => .fro (.int n)) vs fp → vs = ns.map V.int ∧ fp = []
  | [], _, _, .nil => ⟨rfl, rfl⟩
  | _ :: _, _, _, .cons (.fro h) hs => by
    cases h
    obtain ⟨e, f⟩ := RepL.ints hs
    subst e; subst f
    exact ⟨rfl, rfl⟩
theorem spFeed {vs : List V} {Q : VK} {E : XK} (h : spP K cn 1 fFeed vs H Q E) : spP K cn 1 fFeed0 vs H Q E := by
  obtain ⟨G, ds, QQ, EE, hl, c, fr, ⟨ac, ns, rfl, h63, hq⟩, out, _⟩ := h
  refine ⟨G, _, fun o => o = feedL ns, fun _ => False, hl, c, fr, ⟨ac, ns, rfl, h63, rfl⟩, fun v H' G' o fp s w q => ?_, fun _ _ _ _ _ _ _ q => q.elim⟩
  subst q
  obtain ⟨r, nd, ap⟩ := w
  change Rep K cn G' H' (.lst [.lst (ns.map fun n => .fro (.int n)), .fro (.int 0), .fro (.int 0), .fro (.int 1)]) v fp at r
  cases r with
  | @lst a0 _ _ _ ha hs =>
  cases hs with
  | cons r1 hs =>
  cases hs with
  | cons r2 hs =>
  cases hs with
  | cons r3 hs =>
  cases hs with
  | cons r4 hs =>
  cases hs
  cases r2 with
  | fro r2 =>
  cases r3 with
  | fro r3 =>
  cases r4 with
  | fro r4 =>
  cases r2; cases r3; cases r4
  cases r1 with
  | @lst cb us _ _ hc hs =>
  obtain ⟨e1, e2⟩ := RepL.ints hs
  subst e1; subst e2
  have apa := ap a0 List.mem_cons_self
  have apc := ap cb (by simp)
  have ne : a0 ≠ cb := by simpa using (List.nodup_cons.mp nd).1
  have s1 := Stp.freeze (fp := [cb]) s fun x m => by rw [List.mem_singleton.mp m]; exact apc
  have ga : (G'.add H' [cb]).hp a0 = none := by rw [Fz.add_out (by simpa using ne)]; exact apa.1
  have gc : (G'.add H' [cb]).hp cb = some (.lst (ns.map V.int)) := by rw [Fz.add_in List.mem_cons_self]; exact hc
  have fa : (G'.add H' [cb]).af a0 ≠ true := apa.2.1
  generalize G'.add H' [cb] = G1 at *
  refine out (.ref a0) H' ⟨G1.hp, fun y => if y = a0 then true else G1.af y, fun y => if y = a0 then (cb, ns) else G1.fc y⟩ (.fro .feed) [] ⟨⟨s1.le.hp, fun y e => ?_⟩, s1.same, ⟨s1.ctx.sub, fun y e => ?_⟩, s1.new, fun y e => ?_⟩ (Own.fro (.feed (by simp))) hq
  · have := s1.le.af y e
    have n : y ≠ a0 := fun q => fa (by rw [← q]; exact this.1)
    simpa [n] using this
  · by_cases n : y = a0
    · subst n
      refine ⟨ga, 0, 0, 1, by simpa using ha, by simpa using gc, by simp, by simpa using h63, by decide, by decide, by decide⟩
    · simpa [n] using s1.ctx.feed y (by simpa [n] using e)
  · by_cases n : y = a0
    · subst n; exact .inr apa.2.2
    · exact s1.newf y (by simpa [n] using e)
theorem fn_feed {PP : Program} {w : World} {mg : Str → Option Value} {base : Heap} {k : Nat} {x : Str} {ps : List Str} (d : Def PP w K cn mg base k x ps 1 fFeed0) : Def PP w K cn mg base k x ps 1 fFeed := by
  obtain ⟨a, fd, F, b, m, kp⟩ := d.ex
  exact ⟨a, fd, F.imp fun vs H Q E h => spFeed h, b, m, kp⟩
/-- _law_feed's body over data -/
def wpFeed : QS := (qRet (vF [0] (qLst (qCons (qCB nList (qCons (qVar 0) qNil)) (qCons (qC (.int 0)) (qCons (qC (.int 0)) (qCons (qC (.int 1)) qNil)))))))
theorem feed_ok (ds : List D) (Q : O → Prop) (X : Exn → Prop) (_ : ds.length = 1) (h : fFeed0 ds Q X) : wpFeed { nx := fun _ => Q (.fro .non), rt := fun o _ => Q o, ex := fun e _ => X e } (startO 1 ds) := by
  obtain ⟨a, ns, rfl, h63, hq⟩ := h
  unfold wpFeed startO
  unfold feedL at hq
  simp
  exact hq
end
end PD

end PDFeed2_

section PDSame_
set_option maxRecDepth 100000
set_option maxHeartbeats 1000000
/-! PDSame: x is True; zip of two tuples; the law's own comparison. -/
namespace PD
open PySem L2
section
variable {K : PySem.W.Frag} {cn : Str → Option Addr} {W : WX} {G0 G G' : Fz} {H0 H H' : Hp}
def rIsBV : R2 := fun x y H Q => ∃ b : Bool, y = .bl b ∧ Q (.bl (decide (x = .bl b))) H
theorem op_isBV {X : Cx} : OpR X (compareOp .Is) rIsBV := by
  intro pins s σ H x y v u Q I rx ry h
  obtain ⟨b, rfl, q⟩ := h
  cases (show u = Value.bool b from ry)
  have key : PySem.plainIs v (.bool b) = true ∧ (v == Value.bool b) = decide (x = .bl b) := by
    cases x <;> first
      | (obtain ⟨t, rfl⟩ := rx; exact ⟨rfl, rfl⟩)
      | (cases rx; refine ⟨rfl, ?_⟩; first | rfl | (rename_i c; cases b <;> cases c <;> rfl))
  exact PySem.wpAny_is_plain key.1 (fin_bl I q key.2.symm)
def rNotBV : R2 := fun x y H Q => ∃ b : Bool, y = .bl b ∧ Q (.bl (!decide (x = .bl b))) H
theorem op_notBV {X : Cx} : OpR X (compareOp .IsNot) rNotBV := by
  intro pins s σ H x y v u Q I rx ry h
  obtain ⟨b, rfl, q⟩ := h
  cases (show u = Value.bool b from ry)
  have key : PySem.plainIs v (.bool b) = true ∧ (v == Value.bool b) = decide (x = .bl b) := by
    cases x <;> first
      | (obtain ⟨t, rfl⟩ := rx; exact ⟨rfl, rfl⟩)
      | (cases rx; refine ⟨rfl, ?_⟩; first | rfl | (rename_i c; cases b <;> cases c <;> rfl))
  exact PySem.wpAny_isNot_plain key.1 (fin_bl I q (by rw [key.2]))
def isBlD (d : D) (b : Bool) : Bool := match d with
  | .bl c => c == b
  | _ => false
@[simp] theorem isBlD_bl {c b : Bool} : isBlD (.bl c) b = (c == b) := rfl
@[simp] theorem isBlD_non {b : Bool} : isBlD .non b = false := rfl
@[simp] theorem isBlD_int {i : Int} {b : Bool} : isBlD (.int i) b = false := rfl
@[simp] theorem isBlD_str {i : Str} {b : Bool} : isBlD (.str i) b = false := rfl
@[simp] theorem isBlD_lst {i : List D} {b : Bool} : isBlD (.lst i) b = false := rfl
@[simp] theorem isBlD_tup {i : List D} {b : Bool} : isBlD (.tup i) b = false := rfl
@[simp] def oIsBV : Q2 := fun a b Q => b.isB fun y => Q (.fro (.bl (isBlD a y)))
@[simp] def oNotBV : Q2 := fun a b Q => b.isB fun y => Q (.fro (.bl (!isBlD a y)))
theorem Fro.isBl {d : D} {v : V} {b : Bool} (f : Fro K cn G d v) : decide (v = .bl b) = isBlD d b := by
  cases f <;> simp [isBlD]
  rename_i c
  cases c <;> cases b <;> rfl
instance r2_isBV : R2' K cn rIsBV oIsBV := ⟨fun G H x y dx dy Q R c fx fy q z => by
  obtain ⟨j, rfl, rfl, q⟩ := fy.isB q
  exact ⟨j, rfl, z.fro c .bl (by rw [fx.isBl]; exact q)⟩⟩
instance r2_notBV : R2' K cn rNotBV oNotBV := ⟨fun G H x y dx dy Q R c fx fy q z => by
  obtain ⟨j, rfl, rfl, q⟩ := fy.isB q
  exact ⟨j, rfl, z.fro c .bl (by rw [fx.isBl]; exact q)⟩⟩
@[simp] def qIZipA (t : QA) : QI := fun env Q X => t env (fun os => is2 (toDL os) fun a b => match a with
  | .lst xs => b.isL fun ys => Q ((xs.zip ys).map fun (p : D × D) => D.tup [p.1, p.2])
  | .tup xs => b.isT fun ys => Q ((xs.zip ys).map fun (p : D × D) => D.tup [p.1, p.2])
  | _ => False) X
instance ri_zipA {ta : TA} {t : QA} [h : RA K cn W ta t] : RI K cn W (RZ.iZipA K ta) (qIZipA t) := ⟨fun G H σ env Q X R c vw ex w z =>
  h.fro (Q := fun ds => is2 ds fun a b => match a with
    | .lst xs => b.isL fun ys => Q ((xs.zip ys).map fun (p : D × D) => D.tup [p.1, p.2])
    | .tup xs => b.isT fun ys => Q ((xs.zip ys).map fun (p : D × D) => D.tup [p.1, p.2])
    | _ => False) c vw ex w fun vs H' G' ds s f q => by
    obtain ⟨d, d', rfl, q⟩ := is2_of q
    obtain ⟨v, v', rfl, g, g'⟩ := f.two rfl
    cases g with
    | @lst a vs xs e hs =>
      obtain ⟨ys, b, us, rfl, rfl, e', hs', q⟩ := g'.isL q
      refine ⟨a, b, vs, us, rfl, .inl ⟨.inl (.inl (s.ctx.sub _ _ e)), .inl (.inl (s.ctx.sub _ _ e')), z _ H' G' _ s (fun G1 H1 l c i => ?_) q⟩⟩
      have sq : SqL K H1 a vs := .inl (.inl (c.sub _ _ (l.hp _ _ e)))
      have sq' : SqL K H1 b us := .inl (.inl (c.sub _ _ (l.hp _ _ e')))
      refine ⟨fun d hd => ?_, fun h => ⟨vs, us, sq, sq', by rw [hs.length, hs'.length]; rw [List.length_map, List.length_zip] at h; omega⟩⟩
      rw [List.getElem?_map] at hd
      cases e2 : (xs.zip ys)[i]? with
      | none => rw [e2] at hd; cases hd
      | some u =>
        rw [e2] at hd
        cases hd
        obtain ⟨h1, h2⟩ := List.getElem?_zip_eq_some.mp e2
        obtain ⟨y, ey, fy⟩ := hs.get h1
        obtain ⟨y', ey', fy'⟩ := hs'.get h2
        refine ⟨⟨vs, us, y, y', sq, sq', ey, ey'⟩, fun x H2 ⟨T, x', y2, hx, n, e3, ha, hb⟩ => ?_⟩
        subst hx; subst e3
        have t1 := ha vs sq
        have t2 := hb us sq'
        rw [ey] at t1
        rw [ey'] at t2
        cases t1; cases t2
        exact stp_tup c n (.cons (fy.mono l) (.cons (fy'.mono l) .nil))
    | @tup a vs xs e hs =>
      obtain ⟨ys, b, us, rfl, rfl, e', hs', q⟩ := g'.isT q
      refine ⟨a, b, vs, us, rfl, .inr ⟨Same.sqT s.ctx.sub e, Same.sqT s.ctx.sub e', z _ H' G' _ s (fun G1 H1 l c i => ?_) q⟩⟩
      have sq : SqT K H1 a vs := Same.sqT c.sub (Same.sqT l.hp e)
      have sq' : SqT K H1 b us := Same.sqT c.sub (Same.sqT l.hp e')
      refine ⟨fun d hd => ?_, fun h => ⟨vs, us, sq, sq', by rw [hs.length, hs'.length]; rw [List.length_map, List.length_zip] at h; omega⟩⟩
      rw [List.getElem?_map] at hd
      cases e2 : (xs.zip ys)[i]? with
      | none => rw [e2] at hd; cases hd
      | some u =>
        rw [e2] at hd
        cases hd
        obtain ⟨h1, h2⟩ := List.getElem?_zip_eq_some.mp e2
        obtain ⟨y, ey, fy⟩ := hs.get h1
        obtain ⟨y', ey', fy'⟩ := hs'.get h2
        refine ⟨⟨vs, us, y, y', sq, sq', ey, ey'⟩, fun x H2 ⟨T, x', y2, hx, n, e3, ha, hb⟩ => ?_⟩
        subst hx; subst e3
        have t1 := ha vs sq
        have t2 := hb us sq'
        rw [ey] at t1
        rw [ey'] at t2
        cases t1; cases t2
        exact stp_tup c n (.cons (fy.mono l) (.cons (fy'.mono l) .nil))
    | _ => exact q.elim⟩

/-! ### the law's own comparison -/
/-- None, bools, ints, texts, lists and tuples of such, at most n deep -/
def smp : Nat → D → Bool
  | _, .non => true
  | _, .bl _ => true
  | _, .int _ => true
  | _, .str _ => true
  | n + 1, .lst xs => xs.all (smp n)
  | n + 1, .tup xs => xs.all (smp n)
  | _, _ => false
@[simp] theorem smp_non {n : Nat} : smp n .non = true := by cases n <;> rfl
@[simp] theorem smp_bl {n : Nat} {b : Bool} : smp n (.bl b) = true := by cases n <;> rfl
@[simp] theorem smp_int {n : Nat} {b : Int} : smp n (.int b) = true := by cases n <;> rfl
@[simp] theorem smp_str {n : Nat} {b : Str} : smp n (.str b) = true := by cases n <;> rfl
@[simp] theorem smp_lst {n : Nat} {xs : List D} : smp (n + 1) (.lst xs) = xs.all (smp n) := rfl
@[simp] theorem smp_tup {n : Nat} {xs : List D} : smp (n + 1) (.tup xs) = xs.all (smp n) := rfl
/-- _law_same of two equal ones -/
def fSame (n : Nat) : FP := fun ds Q _ => ∃ d, ds = [d, d] ∧ smp n d = true ∧ Q (.fro (.bl true))
theorem fSame_iff {n : Nat} {a b : D} {Q : O → Prop} {X : Exn → Prop} : fSame n [a, b] Q X ↔ a = b ∧ smp n b = true ∧ Q (.fro (.bl true)) := by
  constructor
  · rintro ⟨d, h, h2, q⟩
    cases h
    exact ⟨rfl, h2, q⟩
  · rintro ⟨rfl, h2, q⟩
    exact ⟨_, rfl, h2, q⟩
theorem def_none {PP : Program} {w : World} {mg : Str → Option Value} {base : Heap} {x : Str} {st : Stmt} {f : Addr} {fd : FuncData} {ps : List Str} (F : Fn K x st f fd)
    (hb : ∀ (kV doc pm : Value) (an : Option Addr) (cdv ct : Value) (us : List Value), us.length = ps.length → bindArgs (PySem.W.fnOf x x (defArgs st) (defBody st) (defScope st) .none kV doc pm an cdv ct) ⟨us, []⟩ = pure (ps.zip us)) (hm : mg x = some (.ref f)) {k : Nat} {m : Nat} :
    Def PP w K cn mg base k x ps m (fun _ _ _ => False) :=
  ⟨f, fd, ⟨fun vs H Q E h => by obtain ⟨_, _, _, _, _, _, _, q, _⟩ := h; exact q.elim, fun A outer s H args us vs Q E _ _ _ _ h => by obtain ⟨_, _, _, _, _, _, _, q, _⟩ := h; exact q.elim⟩, FunD.bindsN F hb, hm, F.kp⟩
theorem Def.imp {PP : Program} {w : World} {mg : Str → Option Value} {base : Heap} {k j : Nat} {x : Str} {ps : List Str} {m : Nat} {f g : FP} (d : Def PP w K cn mg base k x ps m f) (hk : k ≤ j) (h : ∀ ds Q X, g ds Q X → f ds Q X) : Def PP w K cn mg base j x ps m g := by
  obtain ⟨a, fd, F, b, mm, kp⟩ := d.ex
  refine ⟨a, fd, (F.mono hk).imp fun vs H Q E s => ?_, b, mm, kp⟩
  obtain ⟨G, ds, QQ, EE, h1, h2, h3, h4, h5⟩ := s
  exact ⟨G, ds, QQ, EE, h1, h2, h3, h _ _ _ h4, h5⟩
/-- _law_same's body over data -/
def wpSame (f : FP) : QS :=
  (qSeq (qIfS (qTest (qOp oIsN (qVar 1) (qC .non))) (qRet (vB (qOp oIsN (qVar 0) (qC .non)))) qNext)
    (qSeq (qIfS (qTest (qOp oIsBV (qVar 1) (qC (.bl true)))) (qRet (vB (qOp oIsBV (qVar 0) (qC (.bl true))))) qNext)
    (qSeq (qIfS (qTest (qOp oIsBV (qVar 1) (qC (.bl false)))) (qRet (vB (qOp oIsBV (qVar 0) (qC (.bl false))))) qNext)
    (qSeq (qIfS (qTru (qCB nIsi (qCons (qVar 1) (qCons (qC (.ty "int")) qNil)))) (qRet (vB (qAndV (qCB nIsi (qCons (qVar 0) (qCons (qC (.ty "int")) qNil))) (qAndV (qNotV (qCB nIsi (qCons (qVar 0) (qCons (qC (.ty "bool")) qNil)))) (qOp (oOr oEq oEqD) (qVar 0) (qVar 1)))))) qNext)
    (qSeq (qIfS (qTru (qCB nIsi (qCons (qVar 1) (qCons (qC (.ty "str")) qNil)))) (qRet (vB (qAndV (qCB nIsi (qCons (qVar 0) (qCons (qC (.ty "str")) qNil))) (qOp (oOr oEq oEqD) (qVar 0) (qVar 1))))) qNext)
    (qSeq (qIfS (qTru (qCB nIsi (qCons (qVar 1) (qCons (qC (.ty "list")) qNil)))) (qIfS (qOr (qNot (qTru (qCB nIsi (qCons (qVar 0) (qCons (qC (.ty "list")) qNil))))) (qTest (qOp oNe (qCB nLen (qCons (qVar 0) qNil)) (qCB nLen (qCons (qVar 1) qNil))))) (qRet (vB (qC (.bl false)))) qNext) (qIfS (qOr (qNot (qTru (qCB nIsi (qCons (qVar 0) (qCons (qC (.ty "tuple")) qNil))))) (qTest (qOp oNe (qCB nLen (qCons (qVar 0) qNil)) (qCB nLen (qCons (qVar 1) qNil))))) (qRet (vB (qC (.bl false)))) qNext))
    (qSeq (qFor [0, 1] (qIZipA (qCons (qVar 0) (qCons (qVar 1) qNil))) (gT 2 (gsCons (gN 2) (gsCons (gN 3) gsNil))) (qIfS (qNot (qTru (qCallX 2 f (qCons (qVar 2) (qCons (qVar 3) qNil))))) (qRet (vB (qC (.bl false)))) qNext) 0)
    (qRet (vB (qC (.bl true)))))))))))
theorem same_loop {n : Nat} {k : Kont} : ∀ {xs : List D} {c0 c1 c2 c3 : Option O}, xs.all (smp n) = true → (∀ c2 c3, k.nx [c0, c1, c2, c3]) → loopQ 0 (gT 2 (gsCons (gN 2) (gsCons (gN 3) gsNil))) (qIfS (qNot (qTru (qCallX 2 (fSame n) (qCons (qVar 2) (qCons (qVar 3) qNil))))) (qRet (vB (qC (.bl false)))) qNext) k ((xs.zip xs).map fun (p : D × D) => D.tup [p.1, p.2]) [c0, c1, c2, c3]
  | [], c0, c1, c2, c3, _, h => h c2 c3
  | x :: xs, c0, c1, c2, c3, e, h => by
    rw [List.all_cons, Bool.and_eq_true] at e
    rw [List.zip_cons_cons, List.map_cons, loopQ_cons]
    have ih := fun c2 c3 => same_loop (c0 := c0) (c1 := c1) (c2 := c2) (c3 := c3) e.2 h
    simp
    rw [fSame_iff]
    refine ⟨rfl, e.1, ?_⟩
    simp
    exact ih _ _
theorem same_ok {n : Nat} (ds : List D) (Q : O → Prop) (X : Exn → Prop) (_ : ds.length = 2) (h : fSame (n + 1) ds Q X) : wpSame (fSame n) { nx := fun _ => Q (.fro .non), rt := fun o _ => Q o, ex := fun e _ => X e } (startO 4 ds) := by
  obtain ⟨d, rfl, h, q⟩ := h
  unfold wpSame startO
  cases d with
  | non => simpa using q
  | bl b => cases b <;> simpa using q
  | int i => simp [subT]; exact .inl q
  | str i => simp [subT]; exact .inl q
  | lst xs =>
    simp [subT]
    exact same_loop h fun _ _ => by simpa using q
  | tup xs =>
    simp [subT]
    exact same_loop h fun _ _ => by simpa using q
  | _ => cases h
theorem same_ok0 (ds : List D) (Q : O → Prop) (X : Exn → Prop) (_ : ds.length = 2) (h : fSame 0 ds Q X) : wpSame (fun _ _ _ => False) { nx := fun _ => Q (.fro .non), rt := fun o _ => Q o, ex := fun e _ => X e } (startO 4 ds) := by
  obtain ⟨d, rfl, h, q⟩ := h
  unfold wpSame startO
  cases d with
  | non => simpa using q
  | bl b => cases b <;> simpa using q
  | int i => simp [subT]; exact .inl q
  | str i => simp [subT]; exact .inl q
  | _ => cases h
end
end PD

end PDSame_

section PDLaw_
set_option maxRecDepth 100000
set_option maxHeartbeats 1000000
/-! PDLaw: loops and comprehensions over data, by what they reckon. -/
namespace PD
open PySem L2
section
variable {n : Nat} {g : QG} {t : QS} {k : Kont} {α : Type}
/-- a comprehension over items e x: those with p, each by f -/
theorem compQ_of {vs : List Nat} {tt : QB} {te : QX} {env : DEnv} {Q : O → Prop} {e : α → D} {p : α → Bool} {f : α → O} : ∀ (xs : List α) (acc : List O),
    (∀ x ∈ xs, ∃ us, g (e x) = some us ∧ (us.all fun p => vs.contains p.1) = true ∧ (∀ R : Bool → Prop, R (p x) → tt (setD env us) R fun _ => False) ∧ (p x = true → ∀ R : O → Prop, R (f x) → te (setD env us) R fun _ => False)) →
    Q (.lst (acc ++ (xs.filter p).map f)) → compQ g vs tt te env Q (xs.map e) acc
  | [], acc, _, q => by simpa [compQ] using q
  | x :: xs, acc, h, q => by
    obtain ⟨us, h1, h2, h3, h4⟩ := h x List.mem_cons_self
    rw [List.map_cons]
    unfold compQ
    rw [h1]
    refine ⟨h2, h3 _ ?_⟩
    cases hp : p x with
    | false =>
      rw [if_neg Bool.false_ne_true]
      refine compQ_of xs acc (fun y m => h y (List.mem_cons_of_mem _ m)) ?_
      rwa [List.filter_cons_of_neg (by rw [hp]; exact Bool.false_ne_true)] at q
    | true =>
      rw [if_pos rfl]
      refine h4 hp _ (compQ_of xs _ (fun y m => h y (List.mem_cons_of_mem _ m)) ?_)
      rw [List.filter_cons_of_pos hp] at q
      simpa using q
/-- a comprehension whose test may fall either way -/
theorem compQ_any {vs : List Nat} {tt : QB} {te : QX} {env : DEnv} {Q : O → Prop} {e : α → D} {f : α → O} : ∀ (xs : List α) (acc : List O),
    (∀ x ∈ xs, ∃ us, g (e x) = some us ∧ (us.all fun p => vs.contains p.1) = true ∧ (∀ R : Bool → Prop, (∀ b, R b) → tt (setD env us) R fun _ => False) ∧ (∀ R : O → Prop, R (f x) → te (setD env us) R fun _ => False)) →
    (∀ l : List α, List.Sublist l xs → Q (.lst (acc ++ l.map f))) → compQ g vs tt te env Q (xs.map e) acc
  | [], acc, _, q => by simpa [compQ] using q [] (List.Sublist.refl _)
  | x :: xs, acc, h, q => by
    obtain ⟨us, h1, h2, h3, h4⟩ := h x List.mem_cons_self
    rw [List.map_cons]
    unfold compQ
    rw [h1]
    refine ⟨h2, h3 _ fun b => ?_⟩
    cases b with
    | false =>
      rw [if_neg Bool.false_ne_true]
      exact compQ_any xs acc (fun y m => h y (List.mem_cons_of_mem _ m)) fun l s => q l (s.cons _)
    | true =>
      rw [if_pos rfl]
      refine h4 _ (compQ_any xs _ (fun y m => h y (List.mem_cons_of_mem _ m)) fun l s => ?_)
      have := q (x :: l) (s.cons_cons _)
      simpa using this
/-- .. over range(n) -/
theorem compQ_rng {vs : List Nat} {tt : QB} {te : QX} {env : DEnv} {Q : O → Prop} {lo : Int} {m : Nat} (p : Nat → Bool) (f : Nat → O)
    (h : ∀ i, i < m → ∃ us, g (.int (lo + (i : Int))) = some us ∧ (us.all fun p => vs.contains p.1) = true ∧ (∀ R : Bool → Prop, R (p i) → tt (setD env us) R fun _ => False) ∧ (p i = true → ∀ R : O → Prop, R (f i) → te (setD env us) R fun _ => False))
    (q : Q (.lst (((List.range m).filter p).map f))) : compQ g vs tt te env Q (rgD lo m) [] :=
  compQ_of (e := fun i : Nat => D.int (lo + (i : Int))) (List.range m) [] (fun i hi => h i (List.mem_range.mp hi)) (by simpa using q)
/-- a loop over items e x, by an invariant over the place -/
theorem loopQ_at {e : α → D} {xs : List α} (I : Nat → OEnv → Prop) {env : OEnv} (h0 : I 0 env)
    (st : ∀ (i : Nat) (x : α) (env : OEnv), xs[i]? = some x → I i env → ∃ us, g (e x) = some us ∧ (us.all fun p => decide (n ≤ p.1)) = true ∧ ∀ N : OEnv → Prop, (∀ env', I (i + 1) env' → N env') → t { k with nx := N, ct := N, bk := k.nx } (setO env us))
    (hn : ∀ env, I xs.length env → k.nx env) : loopQ n g t k (xs.map e) env := by
  refine loopQ_inv (fun ds env => ∃ i, i ≤ xs.length ∧ ds = (xs.drop i).map e ∧ I i env) ⟨0, Nat.zero_le _, rfl, h0⟩ (fun d ds env ⟨i, hi, e1, hI⟩ => ?_) fun env ⟨i, hi, e1, hI⟩ => ?_
  · have hlt : i < xs.length := by
      rcases Nat.lt_or_ge i xs.length with h | h
      · exact h
      · rw [List.drop_eq_nil_of_le h] at e1; cases e1
    rw [List.drop_eq_getElem_cons hlt, List.map_cons] at e1
    cases e1
    obtain ⟨us, h1, h2, h3⟩ := st i _ env (List.getElem?_eq_getElem hlt) hI
    exact ⟨us, h1, h2, fun N hN => h3 N fun env' hI' => hN env' ⟨i + 1, hlt, rfl, hI'⟩⟩
  · have : i = xs.length := by
      have := congrArg List.length e1
      simp at this
      omega
    subst this
    exact hn env hI
theorem loopQ_rng {lo : Int} {m : Nat} (I : Nat → OEnv → Prop) {env : OEnv} (h0 : I 0 env)
    (st : ∀ (i : Nat) (env : OEnv), i < m → I i env → ∃ us, g (.int (lo + (i : Int))) = some us ∧ (us.all fun p => decide (n ≤ p.1)) = true ∧ ∀ N : OEnv → Prop, (∀ env', I (i + 1) env' → N env') → t { k with nx := N, ct := N, bk := k.nx } (setO env us))
    (hn : ∀ env, I m env → k.nx env) : loopQ n g t k (rgD lo m) env := by
  refine loopQ_at (e := fun i : Nat => D.int (lo + (i : Int))) (xs := List.range m) I h0 (fun i x env hx hI => ?_) fun env hI => hn env (by simpa using hI)
  have hi : i < m := by simpa using (List.getElem?_eq_some_iff.mp hx).1
  have : x = i := by
    rw [List.getElem?_range hi] at hx
    cases hx; rfl
  subst this
  exact st x env hi hI
end
/-- one statement, what stands behind it kept shut -/
theorem seq_in {p q : QS} {k : Kont} {env : OEnv} (h : ∀ N : OEnv → Prop, (∀ e, q k e → N e) → p { nx := N, rt := k.rt, bk := k.bk, ct := k.ct, ex := k.ex } env) : qSeq p q k env := h (q k) fun _ h => h
@[simp] theorem rgD_length {lo : Int} {m : Nat} : (rgD lo m).length = m := by unfold rgD; simp
theorem rgD_ints {lo : Int} {m : Nat} : rgD lo m = ((List.range m).map fun i : Nat => lo + (i : Int)).map D.int := by unfold rgD; rw [List.map_map]; rfl
end PD

end PDLaw_

section L97_Prog_
set_option maxRecDepth 100000
namespace L97
open PySem L2 PD

def wp_told_by : QS :=
  (qRet (vF [0] (qLc (qIList (qVar 0)) (gN 1) (qTest (qOp oNotN (qVar 1) (qC .non))) (qVar 1) [1])))

def wp_agreed (f_told_by : FP) : QS :=
  (qSeq (qSet 2 (vF [0] (qCallX 1 f_told_by (qCons (qVar 0) qNil))) 0)
    (qRet (vB (qCKw nMaxD (qCons (qLc (qIList (qVar 2)) (gN 3) (qTest (qOp oGe (qBM "list" mLCount (qVar 2) (qCons (qVar 3) qNil)) (qVar 1))) (qVar 3) [3]) qNil) (qCons (qC .non) qNil)))))

def wp_newest (f_told_by : FP) : QS :=
  (qSeq (qSet 2 (vF [0] (qCallX 1 f_told_by (qCons (qVar 0) qNil))) 0)
    (qSeq (qIfS (qTest (qOp oLt (qCB nLen (qCons (qVar 2) qNil)) (qVar 1))) (qRet (vB (qC .non))) qNext)
    (qRet (vB (qCB nMax (qCons (qVar 2) qNil))))))

def wp_meets : QS :=
  (qRet (vB (qOp oGt (qOp (oOr oAdd (oOr oAddStr oCat)) (qVar 1) (qVar 2)) (qVar 0))))

def wp_missing_pair (f_meets : FP) : QS :=
  (qSeq (qIfS (qTru (qCallX 3 f_meets (qCons (qVar 0) (qCons (qVar 1) (qCons (qVar 2) qNil))))) (qRet (vB (qC .non))) qNext)
    (qRet (vF [1, 0, 2] (qTup (qCons (qListRg1 (qVar 1)) (qCons (qListRg2 (qOp oSub (qVar 0) (qVar 2)) (qVar 0)) qNil))))))

def wp_repairs (f_newest : FP) : QS :=
  (qSeq (qSet 1 (vF [0] (qCallX 2 f_newest (qCons (qVar 0) (qCons (qC (.int 1)) qNil)))) 0)
    (qRet (vF [0, 1] (qLc (qIEnum (qCons (qVar 0) qNil)) (gT 2 (gsCons (gN 2) (gsCons (gN 3) gsNil))) (qAnd (qTest (qOp oNotN (qVar 3) (qC .non))) (qTest (qOp oLt (qVar 3) (qVar 1)))) (qVar 2) [2, 3]))))

def wp__law_votes (f__law_draw : FP) : QS :=
  (qSeq (qSet 1 (vF [] (qLst qNil)) 0)
    (qSeq (qSet 2 (vB (qCallX 2 f__law_draw (qCons (qVar 0) (qCons (qC (.int 97)) qNil)))) 0)
    (qSeq (qSet 3 (vB (qOp oEq (qCallX 2 f__law_draw (qCons (qVar 0) (qCons (qC (.int 6)) qNil))) (qC (.int 0)))) 0)
    (qSeq (qFor [0] (qIRng1 (qCons (qOp oAdd (qC (.int 1)) (qCallX 2 f__law_draw (qCons (qVar 0) (qCons (qC (.int 9)) qNil)))) qNil)) (gN 4) (qSeq (qSet 5 (vB (qCallX 2 f__law_draw (qCons (qVar 0) (qCons (qC (.int 5)) qNil)))) 0)
    (qIfS (qOr (qTest (qOp oEq (qVar 5) (qC (.int 0)))) (qTru (qVar 3))) (qAppend 1 (vB (qC .non))) (qIfS (qTest (qOp oEq (qVar 5) (qC (.int 1)))) (qAppend 1 (vF [0] (qOp oIx (qLst (qCons (qC (.int 0)) (qCons (qC (.int 99)) (qCons (qCallX 2 f__law_draw (qCons (qVar 0) (qCons (qC (.int 100)) qNil))) qNil)))) (qCallX 2 f__law_draw (qCons (qVar 0) (qCons (qC (.int 3)) qNil)))))) (qAppend 1 (vB (qOp oAdd (qVar 2) (qCallX 2 f__law_draw (qCons (qVar 0) (qCons (qC (.int 3)) qNil))))))))) 0)
    (qRet (vMv 1))))))

def wp__law_agreed : QS :=
  (qSeq (qFor [] (qIRng1 (qCons (qC (.int 100)) qNil)) (gN 2) (qSeq (qSet 3 (vF [0, 2] (qLc (qIRng1 (qCons (qCB nLen (qCons (qVar 0) qNil)) qNil)) (gN 4) (qTest (qOp oEq (qOp oIx (qVar 0) (qVar 4)) (qOp oSub (qC (.int 99)) (qVar 2)))) (qVar 4) [4])) 0)
    (qIfS (qTest (qOp oGe (qCB nLen (qCons (qVar 3) qNil)) (qVar 1))) (qRet (vB (qOp oSub (qC (.int 99)) (qVar 2)))) qNext)) 0)
    (qRet (vB (qC .non))))

def wp__law_newest : QS :=
  (qSeq (qSet 2 (vB (qC .non)) 0)
    (qSeq (qSet 3 (vB (qC (.int 0))) 0)
    (qSeq (qFor [0] (qIList (qVar 0)) (gN 4) (qIfS (qTest (qOp oNotN (qVar 4) (qC .non))) (qSeq (qAug 3 oAdd (qC (.int 1)) 0)
    (qIfS (qOr (qTest (qOp oIsN (qVar 2) (qC .non))) (qTest (qOp oGt (qVar 4) (qVar 2)))) (qSet 2 (vF [4] (qVar 4)) 0) qNext)) qNext) 0)
    (qSeq (qIfS (qTest (qOp oLt (qVar 3) (qVar 1))) (qRet (vB (qC .non))) qNext)
    (qRet (vMv 2))))))

def wp__law_repairs : QS :=
  (qSeq (qSet 1 (vF [] (qLst qNil)) 0)
    (qSeq (qFor [0] (qIRng1 (qCons (qCB nLen (qCons (qVar 0) qNil)) qNil)) (gN 2) (qSeq (qSet 3 (vF [0] (qLc (qIList (qVar 0)) (gN 4) (qTest (qOp oNotN (qVar 4) (qC .non))) (qVar 4) [4])) 0)
    (qIfS (qAnd (qTest (qOp oNotN (qOp oIx (qVar 0) (qVar 2)) (qC .non))) (qTest (qOp oLt (qOp oIx (qVar 0) (qVar 2)) (qCB nMax (qCons (qVar 3) qNil))))) (qAppend 1 (vF [2] (qVar 2))) qNext)) 0)
    (qRet (vMv 1))))

def wp__law_choices : QS :=
  (qSeq (qSet 2 (vF [] (qLst (qCons (qLst qNil) qNil))) 0)
    (qSeq (qFor [0] (qIRng1 (qCons (qVar 0) qNil)) (gN 3) (qSet 2 (vF [2, 3] (qOp oCat (qVar 2) (qLc (qIList (qVar 2)) (gN 4) qYes (qOp oCat (qVar 4) (qLst (qCons (qVar 3) qNil))) [4]))) 0) 0)
    (qRet (vF [2, 1] (qLc (qIList (qVar 2)) (gN 4) (qTest (qOp oEq (qCB nLen (qCons (qVar 4) qNil)) (qVar 1))) (qVar 4) [4])))))

def wp__law_all_meet (f__law_choices : FP) : QS :=
  (qSeq (qFor [0, 1] (qIList (qCallX 2 f__law_choices (qCons (qVar 0) (qCons (qVar 1) qNil)))) (gN 3) (qFor [0, 2] (qIList (qCallX 2 f__law_choices (qCons (qVar 0) (qCons (qVar 2) qNil)))) (gN 4) (qIfS (qTest (qOp oEq (qCB nLen (qCons (qLc (qIList (qVar 4)) (gN 5) (qTest (qOp (oIn false) (qVar 5) (qVar 3))) (qVar 5) [5]) qNil)) (qC (.int 0)))) (qRet (vB (qC (.bl false)))) qNext) 0) 0)
    (qRet (vB (qC (.bl true)))))

def wp__law_is_met (f__law_all_meet : FP) (f__law_same : FP) (f_meets : FP) (f_missing_pair : FP) : QS :=
  (qSeq (qSet 3 (vF [0, 1] (qLc (qIRng1 (qCons (qVar 0) qNil)) (gN 9) (qTest (qOp oLt (qVar 9) (qVar 1))) (qVar 9) [9])) 0)
    (qSeq (qSet 4 (vF [0, 2] (qLc (qIRng1 (qCons (qVar 0) qNil)) (gN 9) (qTest (qOp oGe (qVar 9) (qOp oSub (qVar 0) (qVar 2)))) (qVar 9) [9])) 0)
    (qSeq (qSet 5 (vF [3, 4] (qLc (qIList (qVar 3)) (gN 9) (qTest (qOp (oIn false) (qVar 9) (qVar 4))) (qVar 9) [9])) 0)
    (qSeq (qSet 6 (vB (qOp oGt (qCB nLen (qCons (qVar 5) qNil)) (qC (.int 0)))) 0)
    (qSeq (qIfS (qAnd (qTest (qOp oLe (qVar 0) (qC (.int 4)))) (qTest (qOp (oOr oNe oNeD) (qCallX 3 f__law_all_meet (qCons (qVar 0) (qCons (qVar 1) (qCons (qVar 2) qNil)))) (qVar 6)))) (qRet (vB (qC (.bl false)))) qNext)
    (qSeq (qSet 7 (vB (qC .non)) 0)
    (qSeq (qIfS (qNot (qTru (qVar 6))) (qSet 7 (vF [3, 4] (qTup (qCons (qVar 3) (qCons (qVar 4) qNil)))) 0) qNext)
    (qSeq (qIfS (qOr (qNot (qTru (qCallX 2 f__law_same (qCons (qCallX 3 f_meets (qCons (qVar 0) (qCons (qVar 1) (qCons (qVar 2) qNil)))) (qCons (qVar 6) qNil))))) (qNot (qTru (qCallX 2 f__law_same (qCons (qCallX 3 f_missing_pair (qCons (qVar 0) (qCons (qVar 1) (qCons (qVar 2) qNil)))) (qCons (qVar 7) qNil)))))) (qRet (vB (qC (.bl false)))) qNext)
    (qSeq (qIfS (qNot (qTru (qVar 6))) (qSeq (qSet 8 (vF [0, 1, 2] (qCallX 3 f_missing_pair (qCons (qVar 0) (qCons (qVar 1) (qCons (qVar 2) qNil))))) 0)
    (qSeq (qAppendIx 8 0 (qVar 0))
    (qRet (vF [7, 0, 1, 2] (qCallX 2 f__law_same (qCons (qCallX 3 f_missing_pair (qCons (qVar 0) (qCons (qVar 1) (qCons (qVar 2) qNil)))) (qCons (qVar 7) qNil))))))) qNext)
    (qRet (vB (qC (.bl true)))))))))))))

def wp_law (f__law_agreed : FP) (f__law_draw : FP) (f__law_feed : FP) (f__law_is_met : FP) (f__law_newest : FP) (f__law_repairs : FP) (f__law_same : FP) (f__law_votes : FP) (f_agreed : FP) (f_newest : FP) (f_repairs : FP) : QS :=
  (qSeq (qSet 1 (vF [0] (qCallX 1 f__law_feed (qCons (qVar 0) qNil))) 0)
    (qSeq (qFor [] (qIRng1 (qCons (qC (.int 3)) qNil)) (gN 2) (qSeq (qSet 3 (vF [1] (qCallX 1 f__law_votes (qCons (qVar 1) qNil))) 0)
    (qSeq (qSet 4 (vB (qCB nList (qCons (qVar 3) qNil))) 0)
    (qSeq (qFor [3] (qIRng2 (qCons (qC (.int 1)) (qCons (qOp oAdd (qCB nLen (qCons (qVar 3) qNil)) (qC (.int 1))) qNil))) (gN 5) (qSeq (qSet 6 (vB (qLst (qCons (qCallX 2 f__law_agreed (qCons (qVar 3) (qCons (qVar 5) qNil))) (qCons (qCallX 2 f__law_newest (qCons (qVar 3) (qCons (qVar 5) qNil))) qNil)))) 0)
    (qIfS (qNot (qTru (qCallX 2 f__law_same (qCons (qLst (qCons (qCallX 2 f_agreed (qCons (qVar 4) (qCons (qVar 5) qNil))) (qCons (qCallX 2 f_newest (qCons (qVar 4) (qCons (qVar 5) qNil))) qNil))) (qCons (qVar 6) qNil))))) (qRet (vB (qC (.bl false)))) qNext)) 0)
    (qSeq (qSet 7 (vF [4] (qCallX 1 f_repairs (qCons (qVar 4) qNil))) 0)
    (qSeq (qIfS (qOr (qNot (qTru (qCallX 2 f__law_same (qCons (qVar 7) (qCons (qCallX 1 f__law_repairs (qCons (qVar 3) qNil)) qNil))))) (qNot (qTru (qCallX 2 f__law_same (qCons (qVar 4) (qCons (qVar 3) qNil)))))) (qRet (vB (qC (.bl false)))) qNext)
    (qSeq (qAppend 7 (vB (qC (.int 0))))
    (qIfS (qNot (qTru (qCallX 2 f__law_same (qCons (qCallX 1 f_repairs (qCons (qVar 4) qNil)) (qCons (qCallX 1 f__law_repairs (qCons (qVar 3) qNil)) qNil))))) (qRet (vB (qC (.bl false)))) qNext))))))) 0)
    (qSeq (qSet 8 (vB (qOp oAdd (qC (.int 1)) (qCallX 2 f__law_draw (qCons (qVar 1) (qCons (qC (.int 9)) qNil))))) 0)
    (qSeq (qFor [8] (qIRng1 (qCons (qOp oAdd (qVar 8) (qC (.int 1))) qNil)) (gN 9) (qFor [8] (qIRng1 (qCons (qOp oAdd (qVar 8) (qC (.int 1))) qNil)) (gN 10) (qIfS (qNot (qTru (qCallX 3 f__law_is_met (qCons (qVar 8) (qCons (qVar 9) (qCons (qVar 10) qNil)))))) (qRet (vB (qC (.bl false)))) qNext) 0) 0)
    (qSeq (qSet 11 (vB (qOp oAdd (qC (.int 1)) (qCallX 2 f__law_draw (qCons (qVar 1) (qCons (qC (.int 4)) qNil))))) 0)
    (qSeq (qFor [11] (qIRng1 (qCons (qOp oAdd (qVar 11) (qC (.int 1))) qNil)) (gN 9) (qIfS (qNot (qTru (qCallX 3 f__law_is_met (qCons (qVar 11) (qCons (qVar 9) (qCons (qCallX 2 f__law_draw (qCons (qVar 1) (qCons (qOp oAdd (qVar 11) (qC (.int 1))) qNil))) qNil)))))) (qRet (vB (qC (.bl false)))) qNext) 0)
    (qSeq (qSet 9 (vB (qCallX 2 f__law_draw (qCons (qVar 1) (qCons (qOp oAdd (qVar 8) (qC (.int 1))) qNil)))) 0)
    (qSeq (qSet 12 (vF [8, 1] (qLc (qIRng1 (qCons (qVar 8) qNil)) (gN 13) (qTest (qOp oEq (qCallX 2 f__law_draw (qCons (qVar 1) (qCons (qC (.int 2)) qNil))) (qC (.int 0)))) (qVar 13) [13])) 0)
    (qSeq (qSet 3 (vF [] (qLst qNil)) 0)
    (qSeq (qFor [8] (qIRng1 (qCons (qVar 8) qNil)) (gN 13) (qSeq (qSet 14 (vB (qC .non)) 0)
    (qSeq (qIfS (qTest (qOp (oIn false) (qVar 13) (qVar 12))) (qSeq (qSet 14 (vB (qCallX 2 f__law_draw (qCons (qVar 1) (qCons (qC (.int 50)) qNil)))) 0)
    (qIfS (qTest (qOp oLt (qVar 13) (qVar 9))) (qSet 14 (vB (qC (.int 99))) 0) qNext)) qNext)
    (qAppend 3 (vF [14] (qVar 14))))) 0)
    (qSeq (qIfS (qTest (qOp oGt (qOp oAdd (qVar 9) (qCB nLen (qCons (qVar 12) qNil))) (qVar 8))) (qRet (vB (qAndV (qCallX 2 f__law_same (qCons (qCallX 2 f_newest (qCons (qVar 3) (qCons (qCB nLen (qCons (qVar 12) qNil)) qNil))) (qCons (qC (.int 99)) qNil))) (qCallX 2 f__law_same (qCons (qCallX 2 f_newest (qCons (qLst (qCons (qC (.int 5)) (qCons (qC (.int 5)) (qCons (qC .non) (qCons (qC (.int 99)) qNil))))) (qCons (qC (.int 4)) qNil))) (qCons (qC .non) qNil)))))) qNext)
    (qRet (vB (qAndV (qCallX 2 f__law_same (qCons (qCallX 2 f_agreed (qCons (qLst (qCons (qC (.int 5)) (qCons (qC (.int 5)) (qCons (qC .non) (qCons (qC (.int 99)) qNil))))) (qCons (qC (.int 2)) qNil))) (qCons (qC (.int 5)) qNil))) (qCallX 2 f__law_same (qCons (qCallX 2 f_agreed (qCons (qLst (qCons (qC .non) qNil)) (qCons (qC (.int 1)) qNil))) (qCons (qC .non) qNil)))))))))))))))))

end L97

end L97_Prog_

section L97_Der_
set_option maxRecDepth 100000
set_option maxHeartbeats 4000000
namespace L97
open PySem L2 PD
open PyProof.Rows (envOfC)
def topS (i : Nat) : Stmt := PySem.Challenge.pw_storedfresh_k97_whole_quorums_heard.main.body.getD i (.Pass ⟨0, 0, 0, 0⟩)

abbrev s_told_by : Stmt := topS 1

theorem sc_told_by : FnScope ["votes", "vote"] ["votes"] (defScope s_told_by) := ⟨rfl, rfl, rfl, by decide +kernel, rfl, by decide +kernel, by decide +kernel⟩

theorem der_told_by {PP : Program} {w : World} {K : PySem.W.Frag} {cn : Str → Option Addr} {mg : Str → Option Value} {base : Heap} {f : Addr} {fd : FuncData} (B : Blt mg) (F : Fn K "told_by" s_told_by f fd) (hm : mg "told_by" = some (.ref f)) (sp : FP)
    (h : ∀ ds Q X, ds.length = 1 → sp ds Q X → wp_told_by { nx := fun _ => Q (.fro .non), rt := fun o _ => Q o, ex := fun e _ => X e } (startO 2 ds)) :
    Def PP w K cn mg base 1 "told_by" ["votes"] 1 sp := by
  refine fn_PX (k := 0) F sc_told_by (fun cdv A outer s H E hr tk => ?_) h (fun _ _ _ _ _ _ us hl => match us, hl with | [_], _ => rfl) hm
  have nd := sc_told_by.nd
  have PO := passes_of (X := cxOf (L2.CX PP w) PP w K mg base ["votes", "vote"] "told_by" (defScope s_told_by) f cdv A outer s H E) rfl
  refine ⟨_, (pss_one (ps_ret (pe_lc rfl nd (pi_list (pv 0)) (blkOk_by (own := [("vote", 1)]) (N := ["votes", "vote"]) (sc := defScope s_told_by) (by decide +kernel)) (fun _ _ _ _ _ => (pg_name (i := 1) nd rfl (by first | exact Or.inl rfl | exact Or.inr rfl))) (fun _ _ _ _ _ => (pts_one (pt_cmpR op_notN1 (pv 1) pe_non (nomark _)))) (fun _ _ _ _ _ => (pv 1))))), ?_⟩
  try dsimp only [cxOf, Cx.nox, Cx.wish, List.map]
  exact (rs_ret (rv_F [0] inferInstance))

abbrev s_agreed : Stmt := topS 2

theorem sc_agreed : FnScope ["votes", "need", "told", "version"] ["votes", "need"] (defScope s_agreed) := ⟨rfl, rfl, rfl, by decide +kernel, rfl, by decide +kernel, by decide +kernel⟩

theorem der_agreed {PP : Program} {w : World} {K : PySem.W.Frag} {cn : Str → Option Addr} {mg : Str → Option Value} {base : Heap} {f : Addr} {fd : FuncData} {f_told_by : FP} (B : Blt mg) (D_told_by : Def PP w K cn mg base 1 "told_by" ["votes"] 1 f_told_by) (F : Fn K "agreed" s_agreed f fd) (hm : mg "agreed" = some (.ref f)) (sp : FP)
    (h : ∀ ds Q X, ds.length = 2 → sp ds Q X → wp_agreed f_told_by { nx := fun _ => Q (.fro .non), rt := fun o _ => Q o, ex := fun e _ => X e } (startO 4 ds)) :
    Def PP w K cn mg base 2 "agreed" ["votes", "need"] 2 sp := by
  obtain ⟨a_told_by, fd_told_by, G_told_by, b_told_by, m_told_by, k_told_by⟩ := D_told_by.ex
  refine fn_PX (k := 1) F sc_agreed (fun cdv A outer s H E hr tk => ?_) h (fun _ _ _ _ _ _ us hl => match us, hl with | [_, _], _ => rfl) hm
  have nd := sc_agreed.nd
  have PO := passes_of (X := cxOf (L2.CX PP w) PP w K mg base ["votes", "need", "told", "version"] "agreed" (defScope s_agreed) f cdv A outer s H E) rfl
  refine ⟨_, (pss_cons (ps_set (i := 2) nd rfl (by first | exact Or.inl rfl | exact Or.inr rfl) (pe_callS G_told_by (hr.mono (by decide)) rfl m_told_by k_told_by b_told_by (fun σ => passAt tk σ) (pa_cons (pv 0) pa_nil)))
    (pss_one (ps_ret (pe_callBK (cr_maxD rfl hr.units) rfl B.max (by decide +kernel) (pa_cons (pe_lc rfl nd (pi_list (pv 2)) (blkOk_by (own := [("version", 3)]) (N := ["votes", "need", "told", "version"]) (sc := defScope s_agreed) (by decide +kernel)) (fun _ _ _ _ _ => (pg_name (i := 3) nd rfl (by first | exact Or.inl rfl | exact Or.inr rfl))) (fun _ _ _ _ _ => (pts_one (pt_cmpR op_ge (peBmK (K := K) rfl PySem.F.plainAttrs_list PySem.F.slot_list_count PySem.F.type_list_count (mtK (f := rLCount) (K := K) rfl mb_lcount) (pv 2) (pa_cons (pv 3) pa_nil)) (pv 1) (nomark _)))) (fun _ _ _ _ _ => (pv 3))) pa_nil) (pk_cons pe_non pk_nil))))), ?_⟩
  try dsimp only [cxOf, Cx.nox, Cx.wish, List.map]
  exact (rs_seq (rs_set (rv_F [0] inferInstance))
    (rs_ret (rv_B inferInstance)))

abbrev s_newest : Stmt := topS 3

theorem sc_newest : FnScope ["votes", "need", "told"] ["votes", "need"] (defScope s_newest) := ⟨rfl, rfl, rfl, by decide +kernel, rfl, by decide +kernel, by decide +kernel⟩

theorem der_newest {PP : Program} {w : World} {K : PySem.W.Frag} {cn : Str → Option Addr} {mg : Str → Option Value} {base : Heap} {f : Addr} {fd : FuncData} {f_told_by : FP} (B : Blt mg) (D_told_by : Def PP w K cn mg base 1 "told_by" ["votes"] 1 f_told_by) (F : Fn K "newest" s_newest f fd) (hm : mg "newest" = some (.ref f)) (sp : FP)
    (h : ∀ ds Q X, ds.length = 2 → sp ds Q X → wp_newest f_told_by { nx := fun _ => Q (.fro .non), rt := fun o _ => Q o, ex := fun e _ => X e } (startO 3 ds)) :
    Def PP w K cn mg base 2 "newest" ["votes", "need"] 2 sp := by
  obtain ⟨a_told_by, fd_told_by, G_told_by, b_told_by, m_told_by, k_told_by⟩ := D_told_by.ex
  refine fn_PX (k := 1) F sc_newest (fun cdv A outer s H E hr tk => ?_) h (fun _ _ _ _ _ _ us hl => match us, hl with | [_, _], _ => rfl) hm
  have nd := sc_newest.nd
  have PO := passes_of (X := cxOf (L2.CX PP w) PP w K mg base ["votes", "need", "told"] "newest" (defScope s_newest) f cdv A outer s H E) rfl
  refine ⟨_, (pss_cons (ps_set (i := 2) nd rfl (by first | exact Or.inl rfl | exact Or.inr rfl) (pe_callS G_told_by (hr.mono (by decide)) rfl m_told_by k_told_by b_told_by (fun σ => passAt tk σ) (pa_cons (pv 0) pa_nil)))
    (pss_cons (ps_if (pt_cmpR op_lt (pe_callB cb_len rfl B.len (by decide +kernel) (pa_cons (pv 2) pa_nil)) (pv 1) (nomark _)) (pss_one (ps_ret pe_non)) pss_nil)
    (pss_one (ps_ret (pe_callB (cr_max rfl) rfl B.max (by decide +kernel) (pa_cons (pv 2) pa_nil)))))), ?_⟩
  try dsimp only [cxOf, Cx.nox, Cx.wish, List.map]
  exact (rs_seq (rs_set (rv_F [0] inferInstance))
    (rs_seq (rs_if inferInstance (rs_ret (rv_B inferInstance)) rs_next)
    (rs_ret (rv_B inferInstance))))

abbrev s_meets : Stmt := topS 4

theorem sc_meets : FnScope ["n", "w", "r"] ["n", "w", "r"] (defScope s_meets) := ⟨rfl, rfl, rfl, by decide +kernel, rfl, by decide +kernel, by decide +kernel⟩

theorem der_meets {PP : Program} {w : World} {K : PySem.W.Frag} {cn : Str → Option Addr} {mg : Str → Option Value} {base : Heap} {f : Addr} {fd : FuncData} (B : Blt mg) (F : Fn K "meets" s_meets f fd) (hm : mg "meets" = some (.ref f)) (sp : FP)
    (h : ∀ ds Q X, ds.length = 3 → sp ds Q X → wp_meets { nx := fun _ => Q (.fro .non), rt := fun o _ => Q o, ex := fun e _ => X e } (startO 3 ds)) :
    Def PP w K cn mg base 1 "meets" ["n", "w", "r"] 3 sp := by
  refine fn_PX (k := 0) F sc_meets (fun cdv A outer s H E hr tk => ?_) h (fun _ _ _ _ _ _ us hl => match us, hl with | [_, _, _], _ => rfl) hm
  have nd := sc_meets.nd
  have PO := passes_of (X := cxOf (L2.CX PP w) PP w K mg base ["n", "w", "r"] "meets" (defScope s_meets) f cdv A outer s H E) rfl
  refine ⟨_, (pss_one (ps_ret (pe_cmpR op_gt (pe_op (opr_or op_add (opr_or op_addStr op_cat)) (pv 1) (pv 2)) (pv 0) (nomark _)))), ?_⟩
  try dsimp only [cxOf, Cx.nox, Cx.wish, List.map]
  exact (rs_ret (rv_B inferInstance))

abbrev s_missing_pair : Stmt := topS 5

theorem sc_missing_pair : FnScope ["n", "w", "r"] ["n", "w", "r"] (defScope s_missing_pair) := ⟨rfl, rfl, rfl, by decide +kernel, rfl, by decide +kernel, by decide +kernel⟩

theorem der_missing_pair {PP : Program} {w : World} {K : PySem.W.Frag} {cn : Str → Option Addr} {mg : Str → Option Value} {base : Heap} {f : Addr} {fd : FuncData} {f_meets : FP} (B : Blt mg) (D_meets : Def PP w K cn mg base 1 "meets" ["n", "w", "r"] 3 f_meets) (F : Fn K "missing_pair" s_missing_pair f fd) (hm : mg "missing_pair" = some (.ref f)) (sp : FP)
    (h : ∀ ds Q X, ds.length = 3 → sp ds Q X → wp_missing_pair f_meets { nx := fun _ => Q (.fro .non), rt := fun o _ => Q o, ex := fun e _ => X e } (startO 3 ds)) :
    Def PP w K cn mg base 2 "missing_pair" ["n", "w", "r"] 3 sp := by
  obtain ⟨a_meets, fd_meets, G_meets, b_meets, m_meets, k_meets⟩ := D_meets.ex
  refine fn_PX (k := 1) F sc_missing_pair (fun cdv A outer s H E hr tk => ?_) h (fun _ _ _ _ _ _ us hl => match us, hl with | [_, _, _], _ => rfl) hm
  have nd := sc_missing_pair.nd
  have PO := passes_of (X := cxOf (L2.CX PP w) PP w K mg base ["n", "w", "r"] "missing_pair" (defScope s_missing_pair) f cdv A outer s H E) rfl
  refine ⟨_, (pss_cons (ps_if (pt_tru (pe_callS G_meets (hr.mono (by decide)) rfl m_meets k_meets b_meets (fun σ => passAt tk σ) (pa_cons (pv 0) (pa_cons (pv 1) (pa_cons (pv 2) pa_nil)))) (fun _ => rfl)) (pss_one (ps_ret pe_non)) pss_nil)
    (pss_one (ps_ret (pe_tup (pa_cons (pe_listRg rfl rfl B.list (prg_1 rfl B.range (pv 1))) (pa_cons (pe_listRg rfl rfl B.list (prg_2 rfl B.range (pe_op op_sub (pv 0) (pv 2)) (pv 0))) pa_nil)))))), ?_⟩
  try dsimp only [cxOf, Cx.nox, Cx.wish, List.map]
  exact (rs_seq (rs_if inferInstance (rs_ret (rv_B inferInstance)) rs_next)
    (rs_ret (rv_F [1, 0, 2] inferInstance)))

abbrev s_repairs : Stmt := topS 6

theorem sc_repairs : FnScope ["votes", "latest", "at", "vote"] ["votes"] (defScope s_repairs) := ⟨rfl, rfl, rfl, by decide +kernel, rfl, by decide +kernel, by decide +kernel⟩

theorem der_repairs {PP : Program} {w : World} {K : PySem.W.Frag} {cn : Str → Option Addr} {mg : Str → Option Value} {base : Heap} {f : Addr} {fd : FuncData} {f_newest : FP} (B : Blt mg) (D_newest : Def PP w K cn mg base 2 "newest" ["votes", "need"] 2 f_newest) (F : Fn K "repairs" s_repairs f fd) (hm : mg "repairs" = some (.ref f)) (sp : FP)
    (h : ∀ ds Q X, ds.length = 1 → sp ds Q X → wp_repairs f_newest { nx := fun _ => Q (.fro .non), rt := fun o _ => Q o, ex := fun e _ => X e } (startO 4 ds)) :
    Def PP w K cn mg base 3 "repairs" ["votes"] 1 sp := by
  obtain ⟨a_newest, fd_newest, G_newest, b_newest, m_newest, k_newest⟩ := D_newest.ex
  refine fn_PX (k := 2) F sc_repairs (fun cdv A outer s H E hr tk => ?_) h (fun _ _ _ _ _ _ us hl => match us, hl with | [_], _ => rfl) hm
  have nd := sc_repairs.nd
  have PO := passes_of (X := cxOf (L2.CX PP w) PP w K mg base ["votes", "latest", "at", "vote"] "repairs" (defScope s_repairs) f cdv A outer s H E) rfl
  refine ⟨_, (pss_cons (ps_set (i := 1) nd rfl (by first | exact Or.inl rfl | exact Or.inr rfl) (pe_callS G_newest (hr.mono (by decide)) rfl m_newest k_newest b_newest (fun σ => passAt tk σ) (pa_cons (pv 0) (pa_cons pe_int pa_nil))))
    (pss_one (ps_ret (pe_lc rfl nd (pi_enum rfl B.enumerate (pa_cons (pv 0) pa_nil)) (blkOk_by (own := [("at", 2), ("vote", 3)]) (N := ["votes", "latest", "at", "vote"]) (sc := defScope s_repairs) (by decide +kernel)) (fun _ _ _ _ _ => (pgTupK (K := K) (n := 2) rfl rfl (pgs_cons (pg_name (i := 2) nd rfl (by first | exact Or.inl rfl | exact Or.inr rfl)) (pgs_cons (pg_name (i := 3) nd rfl (by first | exact Or.inl rfl | exact Or.inr rfl)) pgs_nil)))) (fun _ _ _ _ _ => (pts_one (PW.pt (pw_and (pt_cmpR op_notN1 (pv 3) pe_non (nomark _)) (pw_and1 (pt_cmpR op_lt (pv 3) (pv 1) (nomark _))))))) (fun _ _ _ _ _ => (pv 2)))))), ?_⟩
  try dsimp only [cxOf, Cx.nox, Cx.wish, List.map]
  exact (rs_seq (rs_set (rv_F [0] inferInstance))
    (rs_ret (rv_F [0, 1] inferInstance)))

abbrev s__law_feed : Stmt := topS 8

theorem sc__law_feed : FnScope ["script"] ["script"] (defScope s__law_feed) := ⟨rfl, rfl, rfl, by decide +kernel, rfl, by decide +kernel, by decide +kernel⟩

theorem der__law_feed {PP : Program} {w : World} {K : PySem.W.Frag} {cn : Str → Option Addr} {mg : Str → Option Value} {base : Heap} {f : Addr} {fd : FuncData} (B : Blt mg) (F : Fn K "_law_feed" s__law_feed f fd) (hm : mg "_law_feed" = some (.ref f)) : Def PP w K cn mg base 1 "_law_feed" ["script"] 1 fFeed := by
  refine fn_feed (fn_PX (k := 0) F sc__law_feed (fun cdv A outer s H E hr tk => ?_) feed_ok (fun _ _ _ _ _ _ us hl => match us, hl with | [_], _ => rfl) hm)
  have nd := sc__law_feed.nd
  have PO := passes_of (X := cxOf (L2.CX PP w) PP w K mg base ["script"] "_law_feed" (defScope s__law_feed) f cdv A outer s H E) rfl
  refine ⟨_, (pss_one (ps_ret (pe_lst (pa_cons (pe_callTy cb_list rfl B.list (by decide +kernel) (pa_cons (pv 0) pa_nil)) (pa_cons pe_int (pa_cons pe_int (pa_cons pe_int pa_nil))))))), ?_⟩
  try dsimp only [cxOf, Cx.nox, Cx.wish, List.map]
  exact (rs_ret (rv_F [0] inferInstance))

abbrev s__law_draw : Stmt := topS 9

theorem sc__law_draw : FnScope ["feed", "many", "cell", "told", "mixed"] ["feed", "many"] (defScope s__law_draw) := ⟨rfl, rfl, rfl, by decide +kernel, rfl, by decide +kernel, by decide +kernel⟩

theorem der__law_draw {PP : Program} {w : World} {K : PySem.W.Frag} {cn : Str → Option Addr} {mg : Str → Option Value} {base : Heap} {f : Addr} {fd : FuncData} (B : Blt mg) (F : Fn K "_law_draw" s__law_draw f fd) (hm : mg "_law_draw" = some (.ref f)) : Def PP w K cn mg base 1 "_law_draw" ["feed", "many"] 2 fDraw := by
  refine fn_draw (fn_MX (k := 0) F sc__law_draw (fun cdv A outer s H E hr tk => ?_) draw_ok (fun _ _ _ _ _ _ us hl => match us, hl with | [_, _], _ => rfl) hm)
  have nd := sc__law_draw.nd
  have PO := passes_of (X := cxOf (L2.CX PP w) PP w K mg base ["feed", "many", "cell", "told", "mixed"] "_law_draw" (defScope s__law_draw) f cdv A outer s H E) rfl
  refine ⟨_, (pss_cons (ps_if (PW.pt (pw_and (pt_cmpR op_eq (pe_ix ix_seq (pv 0) pe_int (fun _ _ => rfl)) pe_int (nomark _)) (pw_and1 (pt_cmpR op_lt (pe_ix ix_seq (pv 0) pe_int (fun _ _ => rfl)) (pe_callB cb_len rfl B.len (by decide +kernel) (pa_cons (pe_ix ix_seq (pv 0) pe_int (fun _ _ => rfl)) pa_nil)) (nomark _))))) (pss_cons (ps_set (i := 2) nd rfl (by first | exact Or.inl rfl | exact Or.inr rfl) (pe_callB cb_abs rfl B.abs (by decide +kernel) (pa_cons (pe_callTy (callr_or cb_int1 cb_intS) rfl B.int (by decide +kernel) (pa_cons (pe_ix ix_seq (pe_ix ix_seq (pv 0) pe_int (fun _ _ => rfl)) (pe_ix ix_seq (pv 0) pe_int (fun _ _ => rfl)) (fun _ _ => rfl)) pa_nil)) pa_nil)))
    (pss_cons (ps_augS (pv 0) pe_int pget_list pe_int iop_add set_list)
    (pss_one (ps_if (pt_cmpR op_ge (pv 2) (pe_op op_pow pe_int pe_int) (nomark _)) (pss_one (ps_asg (pv 2) (pg_sub (pv 0) pe_int set_list))) (pss_one (ps_asg (pe_op op_mod (pe_callTy cb_int1 rfl B.int (by decide +kernel) (pa_cons (pe_op op_add (pe_op op_add (pe_op op_mul (pe_ix ix_seq (pv 0) pe_int (fun _ _ => rfl)) pe_int) (pe_op op_mul (pv 2) pe_int)) (pe_ix ix_seq (pv 0) pe_int (fun _ _ => rfl))) pa_nil)) pe_int) (pg_sub (pv 0) pe_int set_list))))))) pss_nil)
    (pss_cons (ps_if (pt_cmpR op_gt (pe_ix ix_seq (pv 0) pe_int (fun _ _ => rfl)) pe_int (nomark _)) (pss_cons (ps_set (i := 3) nd rfl (by first | exact Or.inl rfl | exact Or.inr rfl) (pe_op op_mod (pe_callTy (callr_or cb_int1 cb_intS) rfl B.int (by decide +kernel) (pa_cons (pe_ix ix_seq (pv 0) pe_int (fun _ _ => rfl)) pa_nil)) (pv 1)))
    (pss_cons (ps_asg (pe_op op_fdiv (pe_ix ix_seq (pv 0) pe_int (fun _ _ => rfl)) (pv 1)) (pg_sub (pv 0) pe_int set_list))
    (pss_one (ps_ret (pv 3))))) pss_nil)
    (pss_cons (ps_asg (pe_op op_mod (pe_callTy cb_int1 rfl B.int (by decide +kernel) (pa_cons (pe_op op_add (pe_op op_mul (pe_ix ix_seq (pv 0) pe_int (fun _ _ => rfl)) pe_int) pe_int) pa_nil)) pe_int) (pg_sub (pv 0) pe_int set_list))
    (pss_cons (ps_set (i := 4) nd rfl (by first | exact Or.inl rfl | exact Or.inr rfl) (pe_op op_mod (pe_callTy cb_int1 rfl B.int (by decide +kernel) (pa_cons (pe_op op_add (pe_op op_mul (pe_ix ix_seq (pv 0) pe_int (fun _ _ => rfl)) (pe_ix ix_seq (pv 0) pe_int (fun _ _ => rfl))) (pe_ix ix_seq (pv 0) pe_int (fun _ _ => rfl))) pa_nil)) pe_int))
    (pss_one (ps_ret (pe_op op_mod (pe_op op_fdiv (pv 4) pe_int) (pv 1)))))))), ?_⟩
  try dsimp only [cxOf, Cx.nox, Cx.wish, List.map]
  exact (rs_seq (rs_if inferInstance (rs_seq (rs_set (rv_B inferInstance))
    (rs_seq (rs_augIx inferInstance inferInstance inferInstance)
    (rs_if inferInstance (rs_setIx (rv_B inferInstance) inferInstance) (rs_setIx (rv_B inferInstance) inferInstance)))) rs_next)
    (rs_seq (rs_if inferInstance (rs_seq (rs_set (rv_B inferInstance))
    (rs_seq (rs_setIx (rv_B inferInstance) inferInstance)
    (rs_ret rv_mv))) rs_next)
    (rs_seq (rs_setIx (rv_B inferInstance) inferInstance)
    (rs_seq (rs_set (rv_B inferInstance))
    (rs_ret (rv_B inferInstance))))))

abbrev s__law_same : Stmt := topS 10

theorem sc__law_same : FnScope ["actual", "due", "one", "other"] ["actual", "due"] (defScope s__law_same) := ⟨rfl, rfl, rfl, by decide +kernel, rfl, by decide +kernel, by decide +kernel⟩

theorem der__law_same_s {PP : Program} {w : World} {K : PySem.W.Frag} {cn : Str → Option Addr} {mg : Str → Option Value} {base : Heap} {f : Addr} {fd : FuncData} (B : Blt mg) {n : Nat} {g : FP} (D : Def PP w K cn mg base n "_law_same" ["actual", "due"] 2 g) (sp : FP) (h : ∀ ds Q X, ds.length = 2 → sp ds Q X → wpSame g { nx := fun _ => Q (.fro .non), rt := fun o _ => Q o, ex := fun e _ => X e } (startO 4 ds)) (F : Fn K "_law_same" s__law_same f fd) (hm : mg "_law_same" = some (.ref f)) : Def PP w K cn mg base (n + 1) "_law_same" ["actual", "due"] 2 sp := by
  obtain ⟨a__law_same, fd__law_same, G__law_same, b__law_same, m__law_same, k__law_same⟩ := D.ex
  refine fn_PX (k := n) F sc__law_same (fun cdv A outer s H E hr tk => ?_) h (fun _ _ _ _ _ _ us hl => match us, hl with | [_, _], _ => rfl) hm
  have nd := sc__law_same.nd
  have PO := passes_of (X := cxOf (L2.CX PP w) PP w K mg base ["actual", "due", "one", "other"] "_law_same" (defScope s__law_same) f cdv A outer s H E) rfl
  refine ⟨_, (pss_cons (ps_if (pt_cmpR op_isN1 (pv 1) pe_non (nomark _)) (pss_one (ps_ret (pe_cmpR op_isN1 (pv 0) pe_non (nomark _)))) pss_nil)
    (pss_cons (ps_if (pt_cmpR op_isBV (pv 1) pe_bl (nomark _)) (pss_one (ps_ret (pe_cmpR op_isBV (pv 0) pe_bl (nomark _)))) pss_nil)
    (pss_cons (ps_if (pt_cmpR op_isBV (pv 1) pe_bl (nomark _)) (pss_one (ps_ret (pe_cmpR op_isBV (pv 0) pe_bl (nomark _)))) pss_nil)
    (pss_cons (ps_if (pt_tru (pe_callB cb_isi rfl B.isinstance (by decide +kernel) (pa_cons (pv 1) (pa_cons (pe_bltn (v := .ty "int") (u := .type "int") rfl B.int (by decide +kernel) rfl) pa_nil))) (fun _ => rfl)) (pss_one (ps_ret (pe_and (pe_callB cb_isi rfl B.isinstance (by decide +kernel) (pa_cons (pv 0) (pa_cons (pe_bltn (v := .ty "int") (u := .type "int") rfl B.int (by decide +kernel) rfl) pa_nil))) (pe_and (pe_not (pe_callB cb_isi rfl B.isinstance (by decide +kernel) (pa_cons (pv 0) (pa_cons (pe_bltn (v := .ty "bool") (u := .type "bool") rfl B.bool (by decide +kernel) rfl) pa_nil)))) (pe_one (pe_cmpR (opr_or op_eq (op_eqD hr.units)) (pv 0) (pv 1) (nomark _))))))) pss_nil)
    (pss_cons (ps_if (pt_tru (pe_callB cb_isi rfl B.isinstance (by decide +kernel) (pa_cons (pv 1) (pa_cons (pe_bltn (v := .ty "str") (u := .type "str") rfl B.str (by decide +kernel) rfl) pa_nil))) (fun _ => rfl)) (pss_one (ps_ret (pe_and (pe_callB cb_isi rfl B.isinstance (by decide +kernel) (pa_cons (pv 0) (pa_cons (pe_bltn (v := .ty "str") (u := .type "str") rfl B.str (by decide +kernel) rfl) pa_nil))) (pe_one (pe_cmpR (opr_or op_eq (op_eqD hr.units)) (pv 0) (pv 1) (nomark _)))))) pss_nil)
    (pss_cons (ps_if (pt_tru (pe_callB cb_isi rfl B.isinstance (by decide +kernel) (pa_cons (pv 1) (pa_cons (pe_bltn (v := .ty "list") (u := .type "list") rfl B.list (by decide +kernel) rfl) pa_nil))) (fun _ => rfl)) (pss_one (ps_if (PW.pt (pw_or (pt_not (pt_tru (pe_callB cb_isi rfl B.isinstance (by decide +kernel) (pa_cons (pv 0) (pa_cons (pe_bltn (v := .ty "list") (u := .type "list") rfl B.list (by decide +kernel) rfl) pa_nil))) (fun _ => rfl))) (pw_or1 (pt_cmpR op_ne (pe_callB cb_len rfl B.len (by decide +kernel) (pa_cons (pv 0) pa_nil)) (pe_callB cb_len rfl B.len (by decide +kernel) (pa_cons (pv 1) pa_nil)) (nomark _))))) (pss_one (ps_ret pe_bl)) pss_nil)) (pss_one (ps_if (PW.pt (pw_or (pt_not (pt_tru (pe_callB cb_isi rfl B.isinstance (by decide +kernel) (pa_cons (pv 0) (pa_cons (pe_bltn (v := .ty "tuple") (u := .type "tuple") rfl B.tuple (by decide +kernel) rfl) pa_nil))) (fun _ => rfl))) (pw_or1 (pt_cmpR op_ne (pe_callB cb_len rfl B.len (by decide +kernel) (pa_cons (pv 0) pa_nil)) (pe_callB cb_len rfl B.len (by decide +kernel) (pa_cons (pv 1) pa_nil)) (nomark _))))) (pss_one (ps_ret pe_bl)) pss_nil)))
    (pss_cons (ps_for PO rfl (RZ.pi_zipA rfl B.zip (pa_cons (pv 0) (pa_cons (pv 1) pa_nil))) (pg_tup rfl (pgs_cons (pg_name (i := 2) nd rfl (by first | exact Or.inl rfl | exact Or.inr rfl)) (pgs_cons (pg_name (i := 3) nd rfl (by first | exact Or.inl rfl | exact Or.inr rfl)) pgs_nil))) (pss_one (ps_if (pt_not (pt_tru (pe_callS G__law_same (hr.mono (Nat.le_refl _)) rfl m__law_same k__law_same b__law_same (fun σ => passAt tk σ) (pa_cons (pv 2) (pa_cons (pv 3) pa_nil))) (fun _ => rfl))) (pss_one (ps_ret pe_bl)) pss_nil)))
    (pss_one (ps_ret pe_bl))))))))), ?_⟩
  try dsimp only [cxOf, Cx.nox, Cx.wish, List.map]
  exact (rs_seq (rs_if inferInstance (rs_ret (rv_B inferInstance)) rs_next)
    (rs_seq (rs_if inferInstance (rs_ret (rv_B inferInstance)) rs_next)
    (rs_seq (rs_if inferInstance (rs_ret (rv_B inferInstance)) rs_next)
    (rs_seq (rs_if inferInstance (rs_ret (rv_B inferInstance)) rs_next)
    (rs_seq (rs_if inferInstance (rs_ret (rv_B inferInstance)) rs_next)
    (rs_seq (rs_if inferInstance (rs_if inferInstance (rs_ret (rv_B inferInstance)) rs_next) (rs_if inferInstance (rs_ret (rv_B inferInstance)) rs_next))
    (rs_seq (rs_for [0, 1] inferInstance inferInstance (rs_if inferInstance (rs_ret (rv_B inferInstance)) rs_next))
    (rs_ret (rv_B inferInstance)))))))))

theorem der__law_same {PP : Program} {w : World} {K : PySem.W.Frag} {cn : Str → Option Addr} {mg : Str → Option Value} {base : Heap} {f : Addr} {fd : FuncData} (B : Blt mg) (F : Fn K "_law_same" s__law_same f fd) (hm : mg "_law_same" = some (.ref f)) : ∀ n : Nat, Def PP w K cn mg base (n + 1) "_law_same" ["actual", "due"] 2 (fSame n)
  | 0 => der__law_same_s B (def_none F (fun _ _ _ _ _ _ us hl => match us, hl with | [_, _], _ => rfl) hm) (fSame 0) same_ok0 F hm
  | n + 1 => der__law_same_s B (der__law_same B F hm n) (fSame (n + 1)) same_ok F hm

abbrev s__law_votes : Stmt := topS 11

theorem sc__law_votes : FnScope ["feed", "votes", "base", "silent", "k", "kind"] ["feed"] (defScope s__law_votes) := ⟨rfl, rfl, rfl, by decide +kernel, rfl, by decide +kernel, by decide +kernel⟩

theorem der__law_votes {PP : Program} {w : World} {K : PySem.W.Frag} {cn : Str → Option Addr} {mg : Str → Option Value} {base : Heap} {f : Addr} {fd : FuncData} {f__law_draw : FP} (B : Blt mg) (D__law_draw : Def PP w K cn mg base 1 "_law_draw" ["feed", "many"] 2 f__law_draw) (F : Fn K "_law_votes" s__law_votes f fd) (hm : mg "_law_votes" = some (.ref f)) (sp : FP)
    (h : ∀ ds Q X, ds.length = 1 → sp ds Q X → wp__law_votes f__law_draw { nx := fun _ => Q (.fro .non), rt := fun o _ => Q o, ex := fun e _ => X e } (startO 6 ds)) :
    Def PP w K cn mg base 2 "_law_votes" ["feed"] 1 sp := by
  obtain ⟨a__law_draw, fd__law_draw, G__law_draw, b__law_draw, m__law_draw, k__law_draw⟩ := D__law_draw.ex
  refine fn_PX (k := 1) F sc__law_votes (fun cdv A outer s H E hr tk => ?_) h (fun _ _ _ _ _ _ us hl => match us, hl with | [_], _ => rfl) hm
  have nd := sc__law_votes.nd
  have PO := passes_of (X := cxOf (L2.CX PP w) PP w K mg base ["feed", "votes", "base", "silent", "k", "kind"] "_law_votes" (defScope s__law_votes) f cdv A outer s H E) rfl
  refine ⟨_, (pss_cons (ps_set (i := 1) nd rfl (by first | exact Or.inl rfl | exact Or.inr rfl) (pe_lst pa_nil))
    (pss_cons (ps_set (i := 2) nd rfl (by first | exact Or.inl rfl | exact Or.inr rfl) (pe_callS G__law_draw (hr.mono (by decide)) rfl m__law_draw k__law_draw b__law_draw (fun σ => passAt tk σ) (pa_cons (pv 0) (pa_cons pe_int pa_nil))))
    (pss_cons (ps_set (i := 3) nd rfl (by first | exact Or.inl rfl | exact Or.inr rfl) (pe_cmpR op_eq (pe_callS G__law_draw (hr.mono (by decide)) rfl m__law_draw k__law_draw b__law_draw (fun σ => passAt tk σ) (pa_cons (pv 0) (pa_cons pe_int pa_nil))) pe_int (nomark _)))
    (pss_cons (ps_for PO rfl (pi_range1 rfl B.range (pa_cons (pe_op op_add pe_int (pe_callS G__law_draw (hr.mono (by decide)) rfl m__law_draw k__law_draw b__law_draw (fun σ => passAt tk σ) (pa_cons (pv 0) (pa_cons pe_int pa_nil)))) pa_nil)) (pg_name (i := 4) nd rfl (by first | exact Or.inl rfl | exact Or.inr rfl)) (pss_cons (ps_set (i := 5) nd rfl (by first | exact Or.inl rfl | exact Or.inr rfl) (pe_callS G__law_draw (hr.mono (by decide)) rfl m__law_draw k__law_draw b__law_draw (fun σ => passAt tk σ) (pa_cons (pv 0) (pa_cons pe_int pa_nil))))
    (pss_one (ps_if (PW.pt (pw_or (pt_cmpR op_eq (pv 5) pe_int (nomark _)) (pw_or1 (pt_tru (pv 3) (fun _ => rfl))))) (pss_one (ps_expr (pe_bm PySem.F.plainAttrs_list PySem.F.slot_list_append PySem.F.type_list_append mt_append (pv 1) (pa_cons pe_non pa_nil)))) (pss_one (ps_if (pt_cmpR op_eq (pv 5) pe_int (nomark _)) (pss_one (ps_expr (pe_bm PySem.F.plainAttrs_list PySem.F.slot_list_append PySem.F.type_list_append mt_append (pv 1) (pa_cons (pe_ix ix_seq (pe_lst (pa_cons pe_int (pa_cons pe_int (pa_cons (pe_callS G__law_draw (hr.mono (by decide)) rfl m__law_draw k__law_draw b__law_draw (fun σ => passAt tk σ) (pa_cons (pv 0) (pa_cons pe_int pa_nil))) pa_nil)))) (pe_callS G__law_draw (hr.mono (by decide)) rfl m__law_draw k__law_draw b__law_draw (fun σ => passAt tk σ) (pa_cons (pv 0) (pa_cons pe_int pa_nil))) (fun _ _ => rfl)) pa_nil)))) (pss_one (ps_expr (pe_bm PySem.F.plainAttrs_list PySem.F.slot_list_append PySem.F.type_list_append mt_append (pv 1) (pa_cons (pe_op op_add (pv 2) (pe_callS G__law_draw (hr.mono (by decide)) rfl m__law_draw k__law_draw b__law_draw (fun σ => passAt tk σ) (pa_cons (pv 0) (pa_cons pe_int pa_nil)))) pa_nil))))))))))
    (pss_one (ps_ret (pv 1))))))), ?_⟩
  try dsimp only [cxOf, Cx.nox, Cx.wish, List.map]
  exact (rs_seq (rs_set (rv_F [] inferInstance))
    (rs_seq (rs_set (rv_B inferInstance))
    (rs_seq (rs_set (rv_B inferInstance))
    (rs_seq (rs_for [0] inferInstance inferInstance (rs_seq (rs_set (rv_B inferInstance))
    (rs_if inferInstance (rs_append (rv_B inferInstance)) (rs_if inferInstance (rs_append (rv_F [0] inferInstance)) (rs_append (rv_B inferInstance))))))
    (rs_ret rv_mv)))))

abbrev s__law_agreed : Stmt := topS 12

theorem sc__law_agreed : FnScope ["votes", "need", "back", "same", "k"] ["votes", "need"] (defScope s__law_agreed) := ⟨rfl, rfl, rfl, by decide +kernel, rfl, by decide +kernel, by decide +kernel⟩

theorem der__law_agreed {PP : Program} {w : World} {K : PySem.W.Frag} {cn : Str → Option Addr} {mg : Str → Option Value} {base : Heap} {f : Addr} {fd : FuncData} (B : Blt mg) (F : Fn K "_law_agreed" s__law_agreed f fd) (hm : mg "_law_agreed" = some (.ref f)) (sp : FP)
    (h : ∀ ds Q X, ds.length = 2 → sp ds Q X → wp__law_agreed { nx := fun _ => Q (.fro .non), rt := fun o _ => Q o, ex := fun e _ => X e } (startO 5 ds)) :
    Def PP w K cn mg base 1 "_law_agreed" ["votes", "need"] 2 sp := by
  refine fn_PX (k := 0) F sc__law_agreed (fun cdv A outer s H E hr tk => ?_) h (fun _ _ _ _ _ _ us hl => match us, hl with | [_, _], _ => rfl) hm
  have nd := sc__law_agreed.nd
  have PO := passes_of (X := cxOf (L2.CX PP w) PP w K mg base ["votes", "need", "back", "same", "k"] "_law_agreed" (defScope s__law_agreed) f cdv A outer s H E) rfl
  refine ⟨_, (pss_cons (ps_for PO rfl (pi_range1 rfl B.range (pa_cons pe_int pa_nil)) (pg_name (i := 2) nd rfl (by first | exact Or.inl rfl | exact Or.inr rfl)) (pss_cons (ps_setLc (i := 3) rfl nd rfl rfl (sw_true rfl rfl rfl (by decide +kernel)) (pi_range1 rfl B.range (pa_cons (pe_callB cb_len rfl B.len (by decide +kernel) (pa_cons (pv 0) pa_nil)) pa_nil)) (blkOk_by (own := [("k", 4)]) (N := ["votes", "need", "back", "same", "k"]) (sc := defScope s__law_agreed) (by decide +kernel)) (fun _ _ _ _ _ => (pg_name (i := 4) nd rfl (by first | exact Or.inl rfl | exact Or.inr rfl))) (fun _ _ _ _ _ => (pts_one (pt_cmpR op_eq (pe_ix (ixK (f := rIx) (K := K) rfl ix_seq) (pv 0) (pv 4) (fun _ _ => rfl)) (pe_op op_sub pe_int (pv 2)) (nomark _)))) (fun _ _ _ _ _ => (pv 4)))
    (pss_one (ps_if (pt_cmpR op_ge (pe_callB cb_len rfl B.len (by decide +kernel) (pa_cons (pv 3) pa_nil)) (pv 1) (nomark _)) (pss_one (ps_ret (pe_op op_sub pe_int (pv 2)))) pss_nil))))
    (pss_one (ps_ret pe_non))), ?_⟩
  try dsimp only [cxOf, Cx.nox, Cx.wish, List.map]
  exact (rs_seq (rs_for [] inferInstance inferInstance (rs_seq (rs_set (rv_F [0, 2] inferInstance))
    (rs_if inferInstance (rs_ret (rv_B inferInstance)) rs_next)))
    (rs_ret (rv_B inferInstance)))

abbrev s__law_newest : Stmt := topS 13

theorem sc__law_newest : FnScope ["votes", "need", "best", "answered", "vote"] ["votes", "need"] (defScope s__law_newest) := ⟨rfl, rfl, rfl, by decide +kernel, rfl, by decide +kernel, by decide +kernel⟩

theorem der__law_newest {PP : Program} {w : World} {K : PySem.W.Frag} {cn : Str → Option Addr} {mg : Str → Option Value} {base : Heap} {f : Addr} {fd : FuncData} (B : Blt mg) (F : Fn K "_law_newest" s__law_newest f fd) (hm : mg "_law_newest" = some (.ref f)) (sp : FP)
    (h : ∀ ds Q X, ds.length = 2 → sp ds Q X → wp__law_newest { nx := fun _ => Q (.fro .non), rt := fun o _ => Q o, ex := fun e _ => X e } (startO 5 ds)) :
    Def PP w K cn mg base 1 "_law_newest" ["votes", "need"] 2 sp := by
  refine fn_PX (k := 0) F sc__law_newest (fun cdv A outer s H E hr tk => ?_) h (fun _ _ _ _ _ _ us hl => match us, hl with | [_, _], _ => rfl) hm
  have nd := sc__law_newest.nd
  have PO := passes_of (X := cxOf (L2.CX PP w) PP w K mg base ["votes", "need", "best", "answered", "vote"] "_law_newest" (defScope s__law_newest) f cdv A outer s H E) rfl
  refine ⟨_, (pss_cons (ps_set (i := 2) nd rfl (by first | exact Or.inl rfl | exact Or.inr rfl) pe_non)
    (pss_cons (ps_set (i := 3) nd rfl (by first | exact Or.inl rfl | exact Or.inr rfl) pe_int)
    (pss_cons (ps_for PO rfl (pi_list (pv 0)) (pg_name (i := 4) nd rfl (by first | exact Or.inl rfl | exact Or.inr rfl)) (pss_one (ps_if (pt_cmpR op_notN1 (pv 4) pe_non (nomark _)) (pss_cons (ps_aug (i := 3) nd rfl (by first | exact Or.inl rfl | exact Or.inr rfl) pe_int iop_add)
    (pss_one (ps_if (PW.pt (pw_or (pt_cmpR op_isN1 (pv 2) pe_non (nomark _)) (pw_or1 (pt_cmpR op_gt (pv 4) (pv 2) (nomark _))))) (pss_one (ps_set (i := 2) nd rfl (by first | exact Or.inl rfl | exact Or.inr rfl) (pv 4))) pss_nil))) pss_nil)))
    (pss_cons (ps_if (pt_cmpR op_lt (pv 3) (pv 1) (nomark _)) (pss_one (ps_ret pe_non)) pss_nil)
    (pss_one (ps_ret (pv 2))))))), ?_⟩
  try dsimp only [cxOf, Cx.nox, Cx.wish, List.map]
  exact (rs_seq (rs_set (rv_B inferInstance))
    (rs_seq (rs_set (rv_B inferInstance))
    (rs_seq (rs_for [0] inferInstance inferInstance (rs_if inferInstance (rs_seq (rs_aug inferInstance inferInstance)
    (rs_if inferInstance (rs_set (rv_F [4] inferInstance)) rs_next)) rs_next))
    (rs_seq (rs_if inferInstance (rs_ret (rv_B inferInstance)) rs_next)
    (rs_ret rv_mv)))))

abbrev s__law_repairs : Stmt := topS 14

theorem sc__law_repairs : FnScope ["votes", "found", "k", "later", "vote"] ["votes"] (defScope s__law_repairs) := ⟨rfl, rfl, rfl, by decide +kernel, rfl, by decide +kernel, by decide +kernel⟩

theorem der__law_repairs {PP : Program} {w : World} {K : PySem.W.Frag} {cn : Str → Option Addr} {mg : Str → Option Value} {base : Heap} {f : Addr} {fd : FuncData} (B : Blt mg) (F : Fn K "_law_repairs" s__law_repairs f fd) (hm : mg "_law_repairs" = some (.ref f)) (sp : FP)
    (h : ∀ ds Q X, ds.length = 1 → sp ds Q X → wp__law_repairs { nx := fun _ => Q (.fro .non), rt := fun o _ => Q o, ex := fun e _ => X e } (startO 5 ds)) :
    Def PP w K cn mg base 1 "_law_repairs" ["votes"] 1 sp := by
  refine fn_PX (k := 0) F sc__law_repairs (fun cdv A outer s H E hr tk => ?_) h (fun _ _ _ _ _ _ us hl => match us, hl with | [_], _ => rfl) hm
  have nd := sc__law_repairs.nd
  have PO := passes_of (X := cxOf (L2.CX PP w) PP w K mg base ["votes", "found", "k", "later", "vote"] "_law_repairs" (defScope s__law_repairs) f cdv A outer s H E) rfl
  refine ⟨_, (pss_cons (ps_set (i := 1) nd rfl (by first | exact Or.inl rfl | exact Or.inr rfl) (pe_lst pa_nil))
    (pss_cons (ps_for PO rfl (pi_range1 rfl B.range (pa_cons (pe_callB cb_len rfl B.len (by decide +kernel) (pa_cons (pv 0) pa_nil)) pa_nil)) (pg_name (i := 2) nd rfl (by first | exact Or.inl rfl | exact Or.inr rfl)) (pss_cons (ps_setLc (i := 3) rfl nd rfl rfl (sw_true rfl rfl rfl (by decide +kernel)) (pi_list (pv 0)) (blkOk_by (own := [("vote", 4)]) (N := ["votes", "found", "k", "later", "vote"]) (sc := defScope s__law_repairs) (by decide +kernel)) (fun _ _ _ _ _ => (pg_name (i := 4) nd rfl (by first | exact Or.inl rfl | exact Or.inr rfl))) (fun _ _ _ _ _ => (pts_one (pt_cmpR op_notN1 (pv 4) pe_non (nomark _)))) (fun _ _ _ _ _ => (pv 4)))
    (pss_one (ps_if (PW.pt (pw_and (pt_cmpR op_notN1 (pe_ix ix_seq (pv 0) (pv 2) (fun _ _ => rfl)) pe_non (nomark _)) (pw_and1 (pt_cmpR op_lt (pe_ix ix_seq (pv 0) (pv 2) (fun _ _ => rfl)) (pe_callB (cr_max rfl) rfl B.max (by decide +kernel) (pa_cons (pv 3) pa_nil)) (nomark _))))) (pss_one (ps_expr (pe_bm PySem.F.plainAttrs_list PySem.F.slot_list_append PySem.F.type_list_append mt_append (pv 1) (pa_cons (pv 2) pa_nil)))) pss_nil))))
    (pss_one (ps_ret (pv 1))))), ?_⟩
  try dsimp only [cxOf, Cx.nox, Cx.wish, List.map]
  exact (rs_seq (rs_set (rv_F [] inferInstance))
    (rs_seq (rs_for [0] inferInstance inferInstance (rs_seq (rs_set (rv_F [0] inferInstance))
    (rs_if inferInstance (rs_append (rv_F [2] inferInstance)) rs_next)))
    (rs_ret rv_mv)))

abbrev s__law_choices : Stmt := topS 15

theorem sc__law_choices : FnScope ["n", "many", "found", "store", "chosen"] ["n", "many"] (defScope s__law_choices) := ⟨rfl, rfl, rfl, by decide +kernel, rfl, by decide +kernel, by decide +kernel⟩

theorem der__law_choices {PP : Program} {w : World} {K : PySem.W.Frag} {cn : Str → Option Addr} {mg : Str → Option Value} {base : Heap} {f : Addr} {fd : FuncData} (B : Blt mg) (F : Fn K "_law_choices" s__law_choices f fd) (hm : mg "_law_choices" = some (.ref f)) (sp : FP)
    (h : ∀ ds Q X, ds.length = 2 → sp ds Q X → wp__law_choices { nx := fun _ => Q (.fro .non), rt := fun o _ => Q o, ex := fun e _ => X e } (startO 5 ds)) :
    Def PP w K cn mg base 1 "_law_choices" ["n", "many"] 2 sp := by
  refine fn_PX (k := 0) F sc__law_choices (fun cdv A outer s H E hr tk => ?_) h (fun _ _ _ _ _ _ us hl => match us, hl with | [_, _], _ => rfl) hm
  have nd := sc__law_choices.nd
  have PO := passes_of (X := cxOf (L2.CX PP w) PP w K mg base ["n", "many", "found", "store", "chosen"] "_law_choices" (defScope s__law_choices) f cdv A outer s H E) rfl
  refine ⟨_, (pss_cons (ps_set (i := 2) nd rfl (by first | exact Or.inl rfl | exact Or.inr rfl) (pe_lst (pa_cons (pe_lst pa_nil) pa_nil)))
    (pss_cons (ps_for PO rfl (pi_range1 rfl B.range (pa_cons (pv 0) pa_nil)) (pg_name (i := 3) nd rfl (by first | exact Or.inl rfl | exact Or.inr rfl)) (pss_one (ps_set (i := 2) nd rfl (by first | exact Or.inl rfl | exact Or.inr rfl) (pe_op op_cat (pv 2) (pe_lc rfl nd (pi_list (pv 2)) (blkOk_by (own := [("chosen", 4)]) (N := ["n", "many", "found", "store", "chosen"]) (sc := defScope s__law_choices) (by decide +kernel)) (fun _ _ _ _ _ => (pg_name (i := 4) nd rfl (by first | exact Or.inl rfl | exact Or.inr rfl))) (fun _ _ _ _ _ => pts_nil) (fun _ _ _ _ _ => (pe_op op_cat (pv 4) (pe_lst (pa_cons (pv 3) pa_nil)))))))))
    (pss_one (ps_ret (pe_lc rfl nd (pi_list (pv 2)) (blkOk_by (own := [("chosen", 4)]) (N := ["n", "many", "found", "store", "chosen"]) (sc := defScope s__law_choices) (by decide +kernel)) (fun _ _ _ _ _ => (pg_name (i := 4) nd rfl (by first | exact Or.inl rfl | exact Or.inr rfl))) (fun _ _ _ _ _ => (pts_one (pt_cmpR op_eq (pe_callB (caK (f := PD.rLen) (K := K) rfl cb_len) rfl B.len (by decide +kernel) (pa_cons (pv 4) pa_nil)) (pv 1) (nomark _)))) (fun _ _ _ _ _ => (pv 4))))))), ?_⟩
  try dsimp only [cxOf, Cx.nox, Cx.wish, List.map]
  exact (rs_seq (rs_set (rv_F [] inferInstance))
    (rs_seq (rs_for [0] inferInstance inferInstance (rs_set (rv_F [2, 3] inferInstance)))
    (rs_ret (rv_F [2, 1] inferInstance))))

abbrev s__law_all_meet : Stmt := topS 16

theorem sc__law_all_meet : FnScope ["n", "w", "r", "written", "heard", "store"] ["n", "w", "r"] (defScope s__law_all_meet) := ⟨rfl, rfl, rfl, by decide +kernel, rfl, by decide +kernel, by decide +kernel⟩

theorem der__law_all_meet {PP : Program} {w : World} {K : PySem.W.Frag} {cn : Str → Option Addr} {mg : Str → Option Value} {base : Heap} {f : Addr} {fd : FuncData} {f__law_choices : FP} (B : Blt mg) (D__law_choices : Def PP w K cn mg base 1 "_law_choices" ["n", "many"] 2 f__law_choices) (F : Fn K "_law_all_meet" s__law_all_meet f fd) (hm : mg "_law_all_meet" = some (.ref f)) (sp : FP)
    (h : ∀ ds Q X, ds.length = 3 → sp ds Q X → wp__law_all_meet f__law_choices { nx := fun _ => Q (.fro .non), rt := fun o _ => Q o, ex := fun e _ => X e } (startO 6 ds)) :
    Def PP w K cn mg base 2 "_law_all_meet" ["n", "w", "r"] 3 sp := by
  obtain ⟨a__law_choices, fd__law_choices, G__law_choices, b__law_choices, m__law_choices, k__law_choices⟩ := D__law_choices.ex
  refine fn_PX (k := 1) F sc__law_all_meet (fun cdv A outer s H E hr tk => ?_) h (fun _ _ _ _ _ _ us hl => match us, hl with | [_, _, _], _ => rfl) hm
  have nd := sc__law_all_meet.nd
  have PO := passes_of (X := cxOf (L2.CX PP w) PP w K mg base ["n", "w", "r", "written", "heard", "store"] "_law_all_meet" (defScope s__law_all_meet) f cdv A outer s H E) rfl
  refine ⟨_, (pss_cons (ps_for PO rfl (pi_list (pe_callS G__law_choices (hr.mono (by decide)) rfl m__law_choices k__law_choices b__law_choices (fun σ => passAt tk σ) (pa_cons (pv 0) (pa_cons (pv 1) pa_nil)))) (pg_name (i := 3) nd rfl (by first | exact Or.inl rfl | exact Or.inr rfl)) (pss_one (ps_for PO rfl (pi_list (pe_callS G__law_choices (hr.mono (by decide)) rfl m__law_choices k__law_choices b__law_choices (fun σ => passAt tk σ) (pa_cons (pv 0) (pa_cons (pv 2) pa_nil)))) (pg_name (i := 4) nd rfl (by first | exact Or.inl rfl | exact Or.inr rfl)) (pss_one (ps_if (pt_cmpR op_eq (pe_callB cb_len rfl B.len (by decide +kernel) (pa_cons (pe_lc rfl nd (pi_list (pv 4)) (blkOk_by (own := [("store", 5)]) (N := ["n", "w", "r", "written", "heard", "store"]) (sc := defScope s__law_all_meet) (by decide +kernel)) (fun _ _ _ _ _ => (pg_name (i := 5) nd rfl (by first | exact Or.inl rfl | exact Or.inr rfl))) (fun _ _ _ _ _ => (pts_one (pt_cmpR (opK (f := (fun K => rIn K false)) (K := K) rfl op_in_seq) (pv 5) (pv 3) rfl))) (fun _ _ _ _ _ => (pv 5))) pa_nil)) pe_int (nomark _)) (pss_one (ps_ret pe_bl)) pss_nil)))))
    (pss_one (ps_ret pe_bl))), ?_⟩
  try dsimp only [cxOf, Cx.nox, Cx.wish, List.map]
  exact (rs_seq (rs_for [0, 1] inferInstance inferInstance (rs_for [0, 2] inferInstance inferInstance (rs_if inferInstance (rs_ret (rv_B inferInstance)) rs_next)))
    (rs_ret (rv_B inferInstance)))

abbrev s__law_is_met : Stmt := topS 17

theorem sc__law_is_met : FnScope ["n", "w", "r", "first", "last", "common", "due", "pair", "told", "store"] ["n", "w", "r"] (defScope s__law_is_met) := ⟨rfl, rfl, rfl, by decide +kernel, rfl, by decide +kernel, by decide +kernel⟩

theorem der__law_is_met {PP : Program} {w : World} {K : PySem.W.Frag} {cn : Str → Option Addr} {mg : Str → Option Value} {base : Heap} {f : Addr} {fd : FuncData} {f__law_all_meet : FP} {f__law_same : FP} {f_meets : FP} {f_missing_pair : FP} (B : Blt mg) (D__law_all_meet : Def PP w K cn mg base 2 "_law_all_meet" ["n", "w", "r"] 3 f__law_all_meet) (D__law_same : Def PP w K cn mg base 5 "_law_same" ["actual", "due"] 2 f__law_same) (D_meets : Def PP w K cn mg base 1 "meets" ["n", "w", "r"] 3 f_meets) (D_missing_pair : Def PP w K cn mg base 2 "missing_pair" ["n", "w", "r"] 3 f_missing_pair) (F : Fn K "_law_is_met" s__law_is_met f fd) (hm : mg "_law_is_met" = some (.ref f)) (sp : FP)
    (h : ∀ ds Q X, ds.length = 3 → sp ds Q X → wp__law_is_met f__law_all_meet f__law_same f_meets f_missing_pair { nx := fun _ => Q (.fro .non), rt := fun o _ => Q o, ex := fun e _ => X e } (startO 10 ds)) :
    Def PP w K cn mg base 6 "_law_is_met" ["n", "w", "r"] 3 sp := by
  obtain ⟨a__law_all_meet, fd__law_all_meet, G__law_all_meet, b__law_all_meet, m__law_all_meet, k__law_all_meet⟩ := D__law_all_meet.ex
  obtain ⟨a__law_same, fd__law_same, G__law_same, b__law_same, m__law_same, k__law_same⟩ := D__law_same.ex
  obtain ⟨a_meets, fd_meets, G_meets, b_meets, m_meets, k_meets⟩ := D_meets.ex
  obtain ⟨a_missing_pair, fd_missing_pair, G_missing_pair, b_missing_pair, m_missing_pair, k_missing_pair⟩ := D_missing_pair.ex
  refine fn_PX (k := 5) F sc__law_is_met (fun cdv A outer s H E hr tk => ?_) h (fun _ _ _ _ _ _ us hl => match us, hl with | [_, _, _], _ => rfl) hm
  have nd := sc__law_is_met.nd
  have PO := passes_of (X := cxOf (L2.CX PP w) PP w K mg base ["n", "w", "r", "first", "last", "common", "due", "pair", "told", "store"] "_law_is_met" (defScope s__law_is_met) f cdv A outer s H E) rfl
  refine ⟨_, (pss_cons (ps_setLc (i := 3) rfl nd rfl rfl (sw_true rfl rfl rfl (by decide +kernel)) (pi_range1 rfl B.range (pa_cons (pv 0) pa_nil)) (blkOk_by (own := [("store", 9)]) (N := ["n", "w", "r", "first", "last", "common", "due", "pair", "told", "store"]) (sc := defScope s__law_is_met) (by decide +kernel)) (fun _ _ _ _ _ => (pg_name (i := 9) nd rfl (by first | exact Or.inl rfl | exact Or.inr rfl))) (fun _ _ _ _ _ => (pts_one (pt_cmpR op_lt (pv 9) (pv 1) (nomark _)))) (fun _ _ _ _ _ => (pv 9)))
    (pss_cons (ps_set (i := 4) nd rfl (by first | exact Or.inl rfl | exact Or.inr rfl) (pe_lc rfl nd (pi_range1 rfl B.range (pa_cons (pv 0) pa_nil)) (blkOk_by (own := [("store", 9)]) (N := ["n", "w", "r", "first", "last", "common", "due", "pair", "told", "store"]) (sc := defScope s__law_is_met) (by decide +kernel)) (fun _ _ _ _ _ => (pg_name (i := 9) nd rfl (by first | exact Or.inl rfl | exact Or.inr rfl))) (fun _ _ _ _ _ => (pts_one (pt_cmpR op_ge (pv 9) (pe_op op_sub (pv 0) (pv 2)) (nomark _)))) (fun _ _ _ _ _ => (pv 9))))
    (pss_cons (ps_setLc (i := 5) rfl nd rfl rfl (sw_true rfl rfl rfl (by decide +kernel)) (pi_list (pv 3)) (blkOk_by (own := [("store", 9)]) (N := ["n", "w", "r", "first", "last", "common", "due", "pair", "told", "store"]) (sc := defScope s__law_is_met) (by decide +kernel)) (fun _ _ _ _ _ => (pg_name (i := 9) nd rfl (by first | exact Or.inl rfl | exact Or.inr rfl))) (fun _ _ _ _ _ => (pts_one (pt_cmpR (opK (f := (fun K => rIn K false)) (K := K) rfl op_in_seq) (pv 9) (pv 4) rfl))) (fun _ _ _ _ _ => (pv 9)))
    (pss_cons (ps_set (i := 6) nd rfl (by first | exact Or.inl rfl | exact Or.inr rfl) (pe_cmpR op_gt (pe_callB cb_len rfl B.len (by decide +kernel) (pa_cons (pv 5) pa_nil)) pe_int (nomark _)))
    (pss_cons (ps_if (PW.pt (pw_and (pt_cmpR op_le (pv 0) pe_int (nomark _)) (pw_and1 (pt_cmpR (opr_or op_ne (op_neD hr.units)) (pe_callS G__law_all_meet (hr.mono (by decide)) rfl m__law_all_meet k__law_all_meet b__law_all_meet (fun σ => passAt tk σ) (pa_cons (pv 0) (pa_cons (pv 1) (pa_cons (pv 2) pa_nil)))) (pv 6) (nomark _))))) (pss_one (ps_ret pe_bl)) pss_nil)
    (pss_cons (ps_set (i := 7) nd rfl (by first | exact Or.inl rfl | exact Or.inr rfl) pe_non)
    (pss_cons (ps_if (pt_not (pt_tru (pv 6) (fun _ => rfl))) (pss_one (ps_set (i := 7) nd rfl (by first | exact Or.inl rfl | exact Or.inr rfl) (pe_tup (pa_cons (pv 3) (pa_cons (pv 4) pa_nil))))) pss_nil)
    (pss_cons (ps_if (PW.pt (pw_or (pt_not (pt_tru (pe_callS G__law_same (hr.mono (by decide)) rfl m__law_same k__law_same b__law_same (fun σ => passAt tk σ) (pa_cons (pe_callS G_meets (hr.mono (by decide)) rfl m_meets k_meets b_meets (fun σ => passAt tk σ) (pa_cons (pv 0) (pa_cons (pv 1) (pa_cons (pv 2) pa_nil)))) (pa_cons (pv 6) pa_nil))) (fun _ => rfl))) (pw_or1 (pt_not (pt_tru (pe_callS G__law_same (hr.mono (by decide)) rfl m__law_same k__law_same b__law_same (fun σ => passAt tk σ) (pa_cons (pe_callS G_missing_pair (hr.mono (by decide)) rfl m_missing_pair k_missing_pair b_missing_pair (fun σ => passAt tk σ) (pa_cons (pv 0) (pa_cons (pv 1) (pa_cons (pv 2) pa_nil)))) (pa_cons (pv 7) pa_nil))) (fun _ => rfl)))))) (pss_one (ps_ret pe_bl)) pss_nil)
    (pss_cons (ps_if (pt_not (pt_tru (pv 6) (fun _ => rfl))) (pss_cons (ps_set (i := 8) nd rfl (by first | exact Or.inl rfl | exact Or.inr rfl) (pe_callS G_missing_pair (hr.mono (by decide)) rfl m_missing_pair k_missing_pair b_missing_pair (fun σ => passAt tk σ) (pa_cons (pv 0) (pa_cons (pv 1) (pa_cons (pv 2) pa_nil)))))
    (pss_cons (ps_expr (pe_bm PySem.F.plainAttrs_list PySem.F.slot_list_append PySem.F.type_list_append mt_append (pe_ix ix_seq (pv 8) pe_int (fun _ _ => rfl)) (pa_cons (pv 0) pa_nil)))
    (pss_one (ps_ret (pe_callS G__law_same (hr.mono (by decide)) rfl m__law_same k__law_same b__law_same (fun σ => passAt tk σ) (pa_cons (pe_callS G_missing_pair (hr.mono (by decide)) rfl m_missing_pair k_missing_pair b_missing_pair (fun σ => passAt tk σ) (pa_cons (pv 0) (pa_cons (pv 1) (pa_cons (pv 2) pa_nil)))) (pa_cons (pv 7) pa_nil))))))) pss_nil)
    (pss_one (ps_ret pe_bl))))))))))), ?_⟩
  try dsimp only [cxOf, Cx.nox, Cx.wish, List.map]
  exact (rs_seq (rs_set (rv_F [0, 1] inferInstance))
    (rs_seq (rs_set (rv_F [0, 2] inferInstance))
    (rs_seq (rs_set (rv_F [3, 4] inferInstance))
    (rs_seq (rs_set (rv_B inferInstance))
    (rs_seq (rs_if inferInstance (rs_ret (rv_B inferInstance)) rs_next)
    (rs_seq (rs_set (rv_B inferInstance))
    (rs_seq (rs_if inferInstance (rs_set (rv_F [3, 4] inferInstance)) rs_next)
    (rs_seq (rs_if inferInstance (rs_ret (rv_B inferInstance)) rs_next)
    (rs_seq (rs_if inferInstance (rs_seq (rs_set (rv_F [0, 1, 2] inferInstance))
    (rs_seq (rs_appendIx inferInstance)
    (rs_ret (rv_F [7, 0, 1, 2] inferInstance)))) rs_next)
    (rs_ret (rv_B inferInstance)))))))))))

abbrev s_law : Stmt := topS 18

theorem sc_law : FnScope ["script", "feed", "k", "votes", "handed", "need", "due", "told", "n", "w", "r", "small", "heard", "store", "vote"] ["script"] (defScope s_law) := ⟨rfl, rfl, rfl, by decide +kernel, rfl, by decide +kernel, by decide +kernel⟩

theorem der_law {PP : Program} {w : World} {K : PySem.W.Frag} {cn : Str → Option Addr} {mg : Str → Option Value} {base : Heap} {f : Addr} {fd : FuncData} {f__law_agreed : FP} {f__law_draw : FP} {f__law_feed : FP} {f__law_is_met : FP} {f__law_newest : FP} {f__law_repairs : FP} {f__law_same : FP} {f__law_votes : FP} {f_agreed : FP} {f_newest : FP} {f_repairs : FP} (B : Blt mg) (D__law_agreed : Def PP w K cn mg base 1 "_law_agreed" ["votes", "need"] 2 f__law_agreed) (D__law_draw : Def PP w K cn mg base 1 "_law_draw" ["feed", "many"] 2 f__law_draw) (D__law_feed : Def PP w K cn mg base 1 "_law_feed" ["script"] 1 f__law_feed) (D__law_is_met : Def PP w K cn mg base 6 "_law_is_met" ["n", "w", "r"] 3 f__law_is_met) (D__law_newest : Def PP w K cn mg base 1 "_law_newest" ["votes", "need"] 2 f__law_newest) (D__law_repairs : Def PP w K cn mg base 1 "_law_repairs" ["votes"] 1 f__law_repairs) (D__law_same : Def PP w K cn mg base 5 "_law_same" ["actual", "due"] 2 f__law_same) (D__law_votes : Def PP w K cn mg base 2 "_law_votes" ["feed"] 1 f__law_votes) (D_agreed : Def PP w K cn mg base 2 "agreed" ["votes", "need"] 2 f_agreed) (D_newest : Def PP w K cn mg base 2 "newest" ["votes", "need"] 2 f_newest) (D_repairs : Def PP w K cn mg base 3 "repairs" ["votes"] 1 f_repairs) (F : Fn K "law" s_law f fd)
    (h : ∀ (a : Addr) (ns : List Int), ns.length ≤ 63 → wp_law f__law_agreed f__law_draw f__law_feed f__law_is_met f__law_newest f__law_repairs f__law_same f__law_votes f_agreed f_newest f_repairs { nx := fun _ => False, rt := fun o _ => o = .fro (.bl true) } (startO 15 [.scr a ns])) :
    FnOk PP w K mg base CX0 7 f fd ["script"] (spLaw K) := by
  obtain ⟨a__law_agreed, fd__law_agreed, G__law_agreed, b__law_agreed, m__law_agreed, k__law_agreed⟩ := D__law_agreed.ex
  obtain ⟨a__law_draw, fd__law_draw, G__law_draw, b__law_draw, m__law_draw, k__law_draw⟩ := D__law_draw.ex
  obtain ⟨a__law_feed, fd__law_feed, G__law_feed, b__law_feed, m__law_feed, k__law_feed⟩ := D__law_feed.ex
  obtain ⟨a__law_is_met, fd__law_is_met, G__law_is_met, b__law_is_met, m__law_is_met, k__law_is_met⟩ := D__law_is_met.ex
  obtain ⟨a__law_newest, fd__law_newest, G__law_newest, b__law_newest, m__law_newest, k__law_newest⟩ := D__law_newest.ex
  obtain ⟨a__law_repairs, fd__law_repairs, G__law_repairs, b__law_repairs, m__law_repairs, k__law_repairs⟩ := D__law_repairs.ex
  obtain ⟨a__law_same, fd__law_same, G__law_same, b__law_same, m__law_same, k__law_same⟩ := D__law_same.ex
  obtain ⟨a__law_votes, fd__law_votes, G__law_votes, b__law_votes, m__law_votes, k__law_votes⟩ := D__law_votes.ex
  obtain ⟨a_agreed, fd_agreed, G_agreed, b_agreed, m_agreed, k_agreed⟩ := D_agreed.ex
  obtain ⟨a_newest, fd_newest, G_newest, b_newest, m_newest, k_newest⟩ := D_newest.ex
  obtain ⟨a_repairs, fd_repairs, G_repairs, b_repairs, m_repairs, k_repairs⟩ := D_repairs.ex
  refine fn_law (cn := cn) (k := 6) F sc_law (fun cdv A outer s H E hr tk => ?_) h
  have nd := sc_law.nd
  have PO := @PassesOwn.never (model PP w) (A.deeper (envOfC "law" (defScope s_law) s.heap.objs.size f cdv)) (envOfC "law" (defScope s_law) s.heap.objs.size f cdv)
  refine ⟨_, (pss_cons (ps_set (i := 1) nd rfl (by first | exact Or.inl rfl | exact Or.inr rfl) (pe_callS G__law_feed (hr.mono (by decide)) rfl m__law_feed k__law_feed b__law_feed (fun σ => passAt tk σ) (pa_cons (pv 0) pa_nil)))
    (pss_cons (ps_for PO rfl (pi_range1 rfl B.range (pa_cons pe_int pa_nil)) (pg_name (i := 2) nd rfl (by first | exact Or.inl rfl | exact Or.inr rfl)) (pss_cons (ps_set (i := 3) nd rfl (by first | exact Or.inl rfl | exact Or.inr rfl) (pe_callS G__law_votes (hr.mono (by decide)) rfl m__law_votes k__law_votes b__law_votes (fun σ => passAt tk σ) (pa_cons (pv 1) pa_nil)))
    (pss_cons (ps_set (i := 4) nd rfl (by first | exact Or.inl rfl | exact Or.inr rfl) (pe_callTy cb_list rfl B.list (by decide +kernel) (pa_cons (pv 3) pa_nil)))
    (pss_cons (ps_for PO rfl (pi_range2 rfl B.range (pa_cons pe_int (pa_cons (pe_op op_add (pe_callB cb_len rfl B.len (by decide +kernel) (pa_cons (pv 3) pa_nil)) pe_int) pa_nil))) (pg_name (i := 5) nd rfl (by first | exact Or.inl rfl | exact Or.inr rfl)) (pss_cons (ps_set (i := 6) nd rfl (by first | exact Or.inl rfl | exact Or.inr rfl) (pe_lst (pa_cons (pe_callS G__law_agreed (hr.mono (by decide)) rfl m__law_agreed k__law_agreed b__law_agreed (fun σ => passAt tk σ) (pa_cons (pv 3) (pa_cons (pv 5) pa_nil))) (pa_cons (pe_callS G__law_newest (hr.mono (by decide)) rfl m__law_newest k__law_newest b__law_newest (fun σ => passAt tk σ) (pa_cons (pv 3) (pa_cons (pv 5) pa_nil))) pa_nil))))
    (pss_one (ps_if (pt_not (pt_tru (pe_callS G__law_same (hr.mono (by decide)) rfl m__law_same k__law_same b__law_same (fun σ => passAt tk σ) (pa_cons (pe_lst (pa_cons (pe_callS G_agreed (hr.mono (by decide)) rfl m_agreed k_agreed b_agreed (fun σ => passAt tk σ) (pa_cons (pv 4) (pa_cons (pv 5) pa_nil))) (pa_cons (pe_callS G_newest (hr.mono (by decide)) rfl m_newest k_newest b_newest (fun σ => passAt tk σ) (pa_cons (pv 4) (pa_cons (pv 5) pa_nil))) pa_nil))) (pa_cons (pv 6) pa_nil))) (fun _ => rfl))) (pss_one (ps_ret pe_bl)) pss_nil))))
    (pss_cons (ps_set (i := 7) nd rfl (by first | exact Or.inl rfl | exact Or.inr rfl) (pe_callS G_repairs (hr.mono (by decide)) rfl m_repairs k_repairs b_repairs (fun σ => passAt tk σ) (pa_cons (pv 4) pa_nil)))
    (pss_cons (ps_if (PW.pt (pw_or (pt_not (pt_tru (pe_callS G__law_same (hr.mono (by decide)) rfl m__law_same k__law_same b__law_same (fun σ => passAt tk σ) (pa_cons (pv 7) (pa_cons (pe_callS G__law_repairs (hr.mono (by decide)) rfl m__law_repairs k__law_repairs b__law_repairs (fun σ => passAt tk σ) (pa_cons (pv 3) pa_nil)) pa_nil))) (fun _ => rfl))) (pw_or1 (pt_not (pt_tru (pe_callS G__law_same (hr.mono (by decide)) rfl m__law_same k__law_same b__law_same (fun σ => passAt tk σ) (pa_cons (pv 4) (pa_cons (pv 3) pa_nil))) (fun _ => rfl)))))) (pss_one (ps_ret pe_bl)) pss_nil)
    (pss_cons (ps_expr (pe_bm PySem.F.plainAttrs_list PySem.F.slot_list_append PySem.F.type_list_append mt_append (pv 7) (pa_cons pe_int pa_nil)))
    (pss_one (ps_if (pt_not (pt_tru (pe_callS G__law_same (hr.mono (by decide)) rfl m__law_same k__law_same b__law_same (fun σ => passAt tk σ) (pa_cons (pe_callS G_repairs (hr.mono (by decide)) rfl m_repairs k_repairs b_repairs (fun σ => passAt tk σ) (pa_cons (pv 4) pa_nil)) (pa_cons (pe_callS G__law_repairs (hr.mono (by decide)) rfl m__law_repairs k__law_repairs b__law_repairs (fun σ => passAt tk σ) (pa_cons (pv 3) pa_nil)) pa_nil))) (fun _ => rfl))) (pss_one (ps_ret pe_bl)) pss_nil)))))))))
    (pss_cons (ps_set (i := 8) nd rfl (by first | exact Or.inl rfl | exact Or.inr rfl) (pe_op op_add pe_int (pe_callS G__law_draw (hr.mono (by decide)) rfl m__law_draw k__law_draw b__law_draw (fun σ => passAt tk σ) (pa_cons (pv 1) (pa_cons pe_int pa_nil)))))
    (pss_cons (ps_for PO rfl (pi_range1 rfl B.range (pa_cons (pe_op op_add (pv 8) pe_int) pa_nil)) (pg_name (i := 9) nd rfl (by first | exact Or.inl rfl | exact Or.inr rfl)) (pss_one (ps_for PO rfl (pi_range1 rfl B.range (pa_cons (pe_op op_add (pv 8) pe_int) pa_nil)) (pg_name (i := 10) nd rfl (by first | exact Or.inl rfl | exact Or.inr rfl)) (pss_one (ps_if (pt_not (pt_tru (pe_callS G__law_is_met (hr.mono (by decide)) rfl m__law_is_met k__law_is_met b__law_is_met (fun σ => passAt tk σ) (pa_cons (pv 8) (pa_cons (pv 9) (pa_cons (pv 10) pa_nil)))) (fun _ => rfl))) (pss_one (ps_ret pe_bl)) pss_nil)))))
    (pss_cons (ps_set (i := 11) nd rfl (by first | exact Or.inl rfl | exact Or.inr rfl) (pe_op op_add pe_int (pe_callS G__law_draw (hr.mono (by decide)) rfl m__law_draw k__law_draw b__law_draw (fun σ => passAt tk σ) (pa_cons (pv 1) (pa_cons pe_int pa_nil)))))
    (pss_cons (ps_for PO rfl (pi_range1 rfl B.range (pa_cons (pe_op op_add (pv 11) pe_int) pa_nil)) (pg_name (i := 9) nd rfl (by first | exact Or.inl rfl | exact Or.inr rfl)) (pss_one (ps_if (pt_not (pt_tru (pe_callS G__law_is_met (hr.mono (by decide)) rfl m__law_is_met k__law_is_met b__law_is_met (fun σ => passAt tk σ) (pa_cons (pv 11) (pa_cons (pv 9) (pa_cons (pe_callS G__law_draw (hr.mono (by decide)) rfl m__law_draw k__law_draw b__law_draw (fun σ => passAt tk σ) (pa_cons (pv 1) (pa_cons (pe_op op_add (pv 11) pe_int) pa_nil))) pa_nil)))) (fun _ => rfl))) (pss_one (ps_ret pe_bl)) pss_nil)))
    (pss_cons (ps_set (i := 9) nd rfl (by first | exact Or.inl rfl | exact Or.inr rfl) (pe_callS G__law_draw (hr.mono (by decide)) rfl m__law_draw k__law_draw b__law_draw (fun σ => passAt tk σ) (pa_cons (pv 1) (pa_cons (pe_op op_add (pv 8) pe_int) pa_nil))))
    (pss_cons (ps_setLc (i := 12) rfl nd rfl rfl (sw_true rfl rfl rfl (by decide +kernel)) (pi_range1 rfl B.range (pa_cons (pv 8) pa_nil)) (blkOk_by (own := [("store", 13)]) (N := ["script", "feed", "k", "votes", "handed", "need", "due", "told", "n", "w", "r", "small", "heard", "store", "vote"]) (sc := defScope s_law) (by decide +kernel)) (fun _ _ _ _ _ => (pg_name (i := 13) nd rfl (by first | exact Or.inl rfl | exact Or.inr rfl))) (fun _ _ _ _ _ => (pts_one (pt_cmpR op_eq (pe_callS G__law_draw (hr.mono (by decide)) rfl m__law_draw k__law_draw b__law_draw (fun σ => passAt takes0 σ) (pa_cons (pv 1) (pa_cons pe_int pa_nil))) pe_int (nomark _)))) (fun _ _ _ _ _ => (pv 13)))
    (pss_cons (ps_set (i := 3) nd rfl (by first | exact Or.inl rfl | exact Or.inr rfl) (pe_lst pa_nil))
    (pss_cons (ps_for PO rfl (pi_range1 rfl B.range (pa_cons (pv 8) pa_nil)) (pg_name (i := 13) nd rfl (by first | exact Or.inl rfl | exact Or.inr rfl)) (pss_cons (ps_set (i := 14) nd rfl (by first | exact Or.inl rfl | exact Or.inr rfl) pe_non)
    (pss_cons (ps_if (pt_cmpR op_in_seq (pv 13) (pv 12) rfl) (pss_cons (ps_set (i := 14) nd rfl (by first | exact Or.inl rfl | exact Or.inr rfl) (pe_callS G__law_draw (hr.mono (by decide)) rfl m__law_draw k__law_draw b__law_draw (fun σ => passAt tk σ) (pa_cons (pv 1) (pa_cons pe_int pa_nil))))
    (pss_one (ps_if (pt_cmpR op_lt (pv 13) (pv 9) (nomark _)) (pss_one (ps_set (i := 14) nd rfl (by first | exact Or.inl rfl | exact Or.inr rfl) pe_int)) pss_nil))) pss_nil)
    (pss_one (ps_expr (pe_bm PySem.F.plainAttrs_list PySem.F.slot_list_append PySem.F.type_list_append mt_append (pv 3) (pa_cons (pv 14) pa_nil)))))))
    (pss_cons (ps_if (pt_cmpR op_gt (pe_op op_add (pv 9) (pe_callB cb_len rfl B.len (by decide +kernel) (pa_cons (pv 12) pa_nil))) (pv 8) (nomark _)) (pss_one (ps_ret (pe_and (pe_callS G__law_same (hr.mono (by decide)) rfl m__law_same k__law_same b__law_same (fun σ => passAt tk σ) (pa_cons (pe_callS G_newest (hr.mono (by decide)) rfl m_newest k_newest b_newest (fun σ => passAt tk σ) (pa_cons (pv 3) (pa_cons (pe_callB cb_len rfl B.len (by decide +kernel) (pa_cons (pv 12) pa_nil)) pa_nil))) (pa_cons pe_int pa_nil))) (pe_one (pe_callS G__law_same (hr.mono (by decide)) rfl m__law_same k__law_same b__law_same (fun σ => passAt tk σ) (pa_cons (pe_callS G_newest (hr.mono (by decide)) rfl m_newest k_newest b_newest (fun σ => passAt tk σ) (pa_cons (pe_lst (pa_cons pe_int (pa_cons pe_int (pa_cons pe_non (pa_cons pe_int pa_nil))))) (pa_cons pe_int pa_nil))) (pa_cons pe_non pa_nil))))))) pss_nil)
    (pss_one (ps_ret (pe_and (pe_callS G__law_same (hr.mono (by decide)) rfl m__law_same k__law_same b__law_same (fun σ => passAt tk σ) (pa_cons (pe_callS G_agreed (hr.mono (by decide)) rfl m_agreed k_agreed b_agreed (fun σ => passAt tk σ) (pa_cons (pe_lst (pa_cons pe_int (pa_cons pe_int (pa_cons pe_non (pa_cons pe_int pa_nil))))) (pa_cons pe_int pa_nil))) (pa_cons pe_int pa_nil))) (pe_one (pe_callS G__law_same (hr.mono (by decide)) rfl m__law_same k__law_same b__law_same (fun σ => passAt tk σ) (pa_cons (pe_callS G_agreed (hr.mono (by decide)) rfl m_agreed k_agreed b_agreed (fun σ => passAt tk σ) (pa_cons (pe_lst (pa_cons pe_non pa_nil)) (pa_cons pe_int pa_nil))) (pa_cons pe_non pa_nil)))))))))))))))))), ?_⟩
  try dsimp only [cxOf, Cx.nox, Cx.wish, List.map]
  exact (rs_seq (rs_set (rv_F [0] inferInstance))
    (rs_seq (rs_for [] inferInstance inferInstance (rs_seq (rs_set (rv_F [1] inferInstance))
    (rs_seq (rs_set (rv_B inferInstance))
    (rs_seq (rs_for [3] inferInstance inferInstance (rs_seq (rs_set (rv_B inferInstance))
    (rs_if inferInstance (rs_ret (rv_B inferInstance)) rs_next)))
    (rs_seq (rs_set (rv_F [4] inferInstance))
    (rs_seq (rs_if inferInstance (rs_ret (rv_B inferInstance)) rs_next)
    (rs_seq (rs_append (rv_B inferInstance))
    (rs_if inferInstance (rs_ret (rv_B inferInstance)) rs_next))))))))
    (rs_seq (rs_set (rv_B inferInstance))
    (rs_seq (rs_for [8] inferInstance inferInstance (rs_for [8] inferInstance inferInstance (rs_if inferInstance (rs_ret (rv_B inferInstance)) rs_next)))
    (rs_seq (rs_set (rv_B inferInstance))
    (rs_seq (rs_for [11] inferInstance inferInstance (rs_if inferInstance (rs_ret (rv_B inferInstance)) rs_next))
    (rs_seq (rs_set (rv_B inferInstance))
    (rs_seq (rs_set (rv_F [8, 1] inferInstance))
    (rs_seq (rs_set (rv_F [] inferInstance))
    (rs_seq (rs_for [8] inferInstance inferInstance (rs_seq (rs_set (rv_B inferInstance))
    (rs_seq (rs_if inferInstance (rs_seq (rs_set (rv_B inferInstance))
    (rs_if inferInstance (rs_set (rv_B inferInstance)) rs_next)) rs_next)
    (rs_append (rv_F [14] inferInstance)))))
    (rs_seq (rs_if inferInstance (rs_ret (rv_B inferInstance)) rs_next)
    (rs_ret (rv_B inferInstance)))))))))))))

end L97

end L97_Der_

section L97_Spec_
set_option maxRecDepth 100000
set_option maxHeartbeats 4000000
namespace L97
open PySem L2 PD
/-! ### data -/
def vD : Option Int → D
  | none => .non
  | some i => .int i
@[simp] theorem vD_none : vD none = .non := rfl
@[simp] theorem vD_some {i : Int} : vD (some i) = .int i := rfl
def told (vs : List (Option Int)) : List Int := vs.filterMap id
def mx (T : List Int) : Option Int := if T = [] then none else some (maxL T)
def agr (vs : List (Option Int)) (need : Int) : Option Int := mx ((told vs).filter fun x => decide (need ≤ ((told vs).count x : Int)))
def nw (vs : List (Option Int)) (need : Int) : Option Int := if ((told vs).length : Int) < need then none else mx (told vs)
def later (T : List Int) : Option Int × Nat → Bool
  | (some i, _) => decide (i < maxL T)
  | _ => false
def rep (vs : List (Option Int)) : List Nat := (vs.zipIdx.filter (later (told vs))).map (·.2)
theorem told_map (vs : List (Option Int)) : (vs.filter Option.isSome).map (fun v => O.fro (vD v)) = (told vs).map fun i => O.fro (.int i) := by
  induction vs with
  | nil => rfl
  | cons v vs ih => cases v <;> simp [told] at ih ⊢ <;> exact ih
theorem le_maxL : ∀ {T : List Int} {x : Int}, x ∈ T → x ≤ maxL T
  | [y], x, h => by simp at h; subst h; exact Int.le_refl _
  | y :: z :: r, x, h => by
    unfold maxL
    rcases List.mem_cons.mp h with rfl | h
    · exact Int.le_max_left _ _
    · exact Int.le_trans (le_maxL h) (Int.le_max_right _ _)
theorem maxL_mem : ∀ {T : List Int}, T ≠ [] → maxL T ∈ T
  | [], h => absurd rfl h
  | [y], _ => by simp [maxL]
  | y :: z :: r, _ => by
    unfold maxL
    have ih := maxL_mem (T := z :: r) (by simp)
    rcases Int.le_total y (maxL (z :: r)) with h | h
    · rw [Int.max_eq_right h]; exact List.mem_cons_of_mem _ ih
    · rw [Int.max_eq_left h]; exact List.mem_cons_self
theorem maxL_eq {T : List Int} {x : Int} (h : x ∈ T) (k : ∀ y ∈ T, y ≤ x) : maxL T = x := Int.le_antisymm (k _ (maxL_mem (List.ne_nil_of_mem h))) (le_maxL h)
theorem maxL_snoc {T : List Int} {x : Int} (h : T ≠ []) : maxL (T ++ [x]) = if maxL T < x then x else maxL T := by
  split
  · exact maxL_eq (by simp) fun y m => by
      rcases List.mem_append.mp m with m | m
      · have := le_maxL m; omega
      · simp at m; omega
  · exact maxL_eq (List.mem_append.mpr (.inl (maxL_mem h))) fun y m => by
      rcases List.mem_append.mp m with m | m
      · exact le_maxL m
      · simp at m; omega
/-! ### the program's defs -/
def okV (vs : List (Option Int)) : Prop := vs.length ≤ 1000
def f_told_by : FP := fun ds Q _ => ∃ vs, ds = [.lst (vs.map vD)] ∧ okV vs ∧ Q (.lst ((told vs).map fun i => .fro (.int i)))
theorem ok_told_by (ds : List D) (Q : O → Prop) (X : Exn → Prop) (_ : ds.length = 1) (h : f_told_by ds Q X) : wp_told_by { nx := fun _ => Q (.fro .non), rt := fun o _ => Q o, ex := fun e _ => X e } (startO 2 ds) := by
  obtain ⟨vs, rfl, hv, q⟩ := h
  unfold okV at hv
  simp [wp_told_by, startO]
  refine ⟨by omega, compQ_of (p := Option.isSome) (f := fun v => O.fro (vD v)) vs [] (fun v _ => ⟨_, rfl, rfl, fun R h => ?_, fun hp R h => ?_⟩) ?_⟩
  · cases v <;> simpa [wipeD, setD] using h
  · simpa [wipeD, setD] using h
  · rw [List.nil_append, told_map]; exact q
def f_agreed : FP := fun ds Q _ => ∃ vs need, ds = [.lst (vs.map vD), .int need] ∧ okV vs ∧ Q (.fro (vD (agr vs need)))
theorem countF_int (T : List Int) (v : Int) : (T.map D.int).countP (fun x => eqF x (.int v)) = T.count v := by
  rw [List.countP_map, List.count]
  rfl
theorem flat_ints (T : List Int) : (T.map D.int).all flatD = true := by simp [flatD]
theorem ok_agreed (ds : List D) (Q : O → Prop) (X : Exn → Prop) (_ : ds.length = 2) (h : f_agreed ds Q X) : wp_agreed f_told_by { nx := fun _ => Q (.fro .non), rt := fun o _ => Q o, ex := fun e _ => X e } (startO 4 ds) := by
  obtain ⟨vs, need, rfl, hv, q⟩ := h
  simp [wp_agreed, startO]
  refine ⟨vs, rfl, hv, ?_⟩
  have hl : (told vs).length ≤ vs.length := List.length_filterMap_le _ _
  unfold okV at hv
  simp
  refine ⟨by omega, compQ_of (e := D.int) (p := fun x => decide (need ≤ ((told vs).count x : Int))) (f := fun i => O.fro (.int i)) (told vs) [] (fun v _ => ⟨_, rfl, rfl, fun R h => ?_, fun hp R h => ?_⟩) ?_⟩
  · have e1 := countF_int (told vs) v
    have e2 := flat_ints (told vs)
    simp [wipeD, setD, flatD] at e1 e2 ⊢
    first | exact h | (simpa [e1] using h)
  · simpa [wipeD, setD] using h
  · unfold agr mx at q
    generalize (told vs).filter _ = c at q ⊢
    simp
    split
    · rename_i e
      rw [if_pos e] at q
      simpa using q
    · rename_i e
      rw [if_neg e] at q
      simpa using q
def f_newest : FP := fun ds Q _ => ∃ vs need, ds = [.lst (vs.map vD), .int need] ∧ okV vs ∧ 1 ≤ need ∧ Q (.fro (vD (nw vs need)))
theorem ok_newest (ds : List D) (Q : O → Prop) (X : Exn → Prop) (_ : ds.length = 2) (h : f_newest ds Q X) : wp_newest f_told_by { nx := fun _ => Q (.fro .non), rt := fun o _ => Q o, ex := fun e _ => X e } (startO 3 ds) := by
  obtain ⟨vs, need, rfl, hv, hn, q⟩ := h
  simp [wp_newest, startO]
  refine ⟨vs, rfl, hv, ?_⟩
  unfold nw at q
  simp
  split
  · rename_i e
    rw [if_pos e] at q
    simpa using q
  · rename_i e
    rw [if_neg e] at q
    have ne : told vs ≠ [] := fun h => by rw [h] at e; simp at e; omega
    unfold mx at q
    rw [if_neg ne] at q
    simpa using ⟨ne, q⟩
def f_meets : FP := fun ds Q _ => ∃ n w r, ds = [.int n, .int w, .int r] ∧ Q (.fro (.bl (decide (n < w + r))))
theorem ok_meets (ds : List D) (Q : O → Prop) (X : Exn → Prop) (_ : ds.length = 3) (h : f_meets ds Q X) : wp_meets { nx := fun _ => Q (.fro .non), rt := fun o _ => Q o, ex := fun e _ => X e } (startO 3 ds) := by
  obtain ⟨n, w, r, rfl, q⟩ := h
  simp [wp_meets, startO]
  exact q
def pairO (n w r : Nat) : O := .tup [.lst ((rgD 0 w).map .fro), .lst ((rgD ((n : Int) - r) r).map .fro)]
def f_missing_pair : FP := fun ds Q _ => ∃ n w r : Nat, ds = [.int n, .int w, .int r] ∧ w ≤ n ∧ r ≤ n ∧ n ≤ 100 ∧ if n < w + r then Q (.fro .non) else Q (pairO n w r)
theorem ok_missing_pair (ds : List D) (Q : O → Prop) (X : Exn → Prop) (_ : ds.length = 3) (h : f_missing_pair ds Q X) : wp_missing_pair f_meets { nx := fun _ => Q (.fro .non), rt := fun o _ => Q o, ex := fun e _ => X e } (startO 3 ds) := by
  obtain ⟨n, w, r, rfl, hw, hr, hn, q⟩ := h
  simp [wp_missing_pair, startO]
  refine ⟨n, w, r, rfl, ?_⟩
  simp
  by_cases c : n < w + r
  · rw [if_pos c] at q
    rw [if_pos (by omega)]
    simpa using q
  · rw [if_neg c] at q
    rw [if_neg (by omega)]
    unfold pairO at q
    have e : ((n : Int) - ((n : Int) - r)).toNat = r := by omega
    rw [e]
    exact ⟨by omega, ⟨by omega, by omega, by omega, by omega⟩, q⟩
def f_repairs : FP := fun ds Q _ => ∃ vs, ds = [.lst (vs.map vD)] ∧ okV vs ∧ Q (.lst ((rep vs).map fun i => .fro (.int (i : Nat))))
theorem zipIdx_map {α β : Type} (f : α → β) : ∀ (l : List α) (k : Nat), (l.map f).zipIdx k = (l.zipIdx k).map fun p => (f p.1, p.2)
  | [], _ => rfl
  | a :: l, k => by simp [zipIdx_map f l]
theorem told_some {vs : List (Option Int)} {i : Int} (h : some i ∈ vs) : i ∈ told vs := List.mem_filterMap.mpr ⟨_, h, rfl⟩
theorem zipIdx_mem {α : Type} : ∀ {l : List α} {k : Nat} {p : α × Nat}, p ∈ l.zipIdx k → p.1 ∈ l
  | a :: l, k, p, h => by
    rw [List.zipIdx_cons] at h
    rcases List.mem_cons.mp h with rfl | h
    · exact List.mem_cons_self
    · exact List.mem_cons_of_mem _ (zipIdx_mem h)
theorem ok_repairs (ds : List D) (Q : O → Prop) (X : Exn → Prop) (_ : ds.length = 1) (h : f_repairs ds Q X) : wp_repairs f_newest { nx := fun _ => Q (.fro .non), rt := fun o _ => Q o, ex := fun e _ => X e } (startO 4 ds) := by
  obtain ⟨vs, rfl, hv, q⟩ := h
  simp [wp_repairs, startO]
  refine ⟨vs, 1, rfl, hv, by decide, ?_⟩
  unfold okV at hv
  simp [zipIdx_map]
  refine ⟨by omega, compQ_of (e := fun p : Option Int × Nat => D.tup [.int p.2, vD p.1]) (p := later (told vs)) (f := fun p => O.fro (.int p.2)) _ [] (fun v hm => ⟨[(2, .int v.2), (3, vD v.1)], by simp, rfl, fun R h => ?_, fun hp R h => ?_⟩) ?_⟩
  · obtain ⟨v, i⟩ := v
    cases v with
    | none => simpa [wipeD, setD, later] using h
    | some x =>
      have ne : told vs ≠ [] := List.ne_nil_of_mem (told_some (zipIdx_mem hm))
      have e : nw vs 1 = some (maxL (told vs)) := by
        unfold nw mx
        rw [if_neg, if_neg ne]
        have := List.length_pos_iff.mpr ne
        omega
      rw [e]
      simpa [wipeD, setD, later] using h
  · simpa [wipeD, setD] using h
  · unfold rep at q
    simpa [Function.comp_def] using q
/-! ### the law's defs -/
def okF (vs : List (Option Int)) : Prop := vs.length ≤ 9 ∧ ∀ i : Int, some i ∈ vs → 0 ≤ i ∧ i ≤ 99
def vF' (v : Option Int) : O := .fro (vD v)
def f__law_votes : FP := fun ds Q _ => ds = [.feed] ∧ ∀ vs, 1 ≤ vs.length → okF vs → Q (.lst (vs.map vF'))
theorem ok__law_votes (ds : List D) (Q : O → Prop) (X : Exn → Prop) (_ : ds.length = 1) (h : f__law_votes ds Q X) : wp__law_votes fDraw { nx := fun _ => Q (.fro .non), rt := fun o _ => Q o, ex := fun e _ => X e } (startO 6 ds) := by
  obtain ⟨rfl, q⟩ := h
  simp [wp__law_votes, startO, fDraw]
  intro b hb0 hb1 s hs0 hs1 m hm0 hm1
  refine ⟨by omega, by omega, ?_⟩
  have : ∃ t, (1 + m).toNat = t ∧ 1 ≤ t ∧ t ≤ 9 := ⟨_, rfl, by omega, by omega⟩
  obtain ⟨t, et, ht1, ht9⟩ := this
  rw [et]
  refine loopQ_rng (fun i env => ∃ vs c4 c5, vs.length = i ∧ (∀ x : Int, some x ∈ vs → 0 ≤ x ∧ x ≤ 99) ∧ env = [some (.fro .feed), some (.lst (vs.map vF')), some (.fro (.int b)), some (.fro (.bl (s == 0))), c4, c5]) ⟨[], none, none, rfl, by simp, rfl⟩ ?_ ?_
  · rintro i env hi ⟨vs, c4, c5, hl, ha, rfl⟩
    refine ⟨_, rfl, rfl, fun N hN => ?_⟩
    have push : ∀ (v : Option Int) c4 c5, (∀ x : Int, v = some x → 0 ≤ x ∧ x ≤ 99) → N [some (.fro .feed), some (.lst (vs.map vF' ++ [vF' v])), some (.fro (.int b)), some (.fro (.bl (s == 0))), c4, c5] := fun v c4 c5 hv =>
      hN _ ⟨vs ++ [v], c4, c5, by simp [hl], fun x hx => by
        rcases List.mem_append.mp hx with h | h
        · exact ha x h
        · simp at h; exact hv x h.symm, by simp⟩
    simp [fDraw]
    intro kd hk0 hk1
    have lv : vs.length < 16777216 := by omega
    split
    · exact ⟨lv, push none _ _ (fun x h => nomatch h)⟩
    · split
      · exact ⟨lv, push none _ _ (fun x h => nomatch h)⟩
      · split
        · intro r hr0 hr1 j hj0 hj1
          have cases3 : j = 0 ∨ j = 1 ∨ j = 2 := by omega
          rcases cases3 with rfl | rfl | rfl
          · simpa using ⟨lv, push (some 0) _ _ (fun x h => by cases h; omega)⟩
          · simpa using ⟨lv, push (some 99) _ _ (fun x h => by cases h; omega)⟩
          · simpa using ⟨lv, push (some r) _ _ (fun x h => by cases h; omega)⟩
        · intro r hr0 hr1
          exact ⟨lv, push (some (b + r)) _ _ (fun x h => by cases h; omega)⟩
  · rintro env ⟨vs, c4, c5, hl, ha, rfl⟩
    simp
    exact q vs (by omega) ⟨by omega, ha⟩
theorem range_filter_len {α : Type} (q : α → Bool) : ∀ l : List α, ((List.range l.length).filter fun j => (l[j]?).any q).length = l.countP q
  | [] => rfl
  | a :: l => by
    have ih := range_filter_len q l
    rw [List.length_cons, List.range_succ_eq_map, List.filter_cons, List.filter_map, List.countP_cons]
    have e : ((fun j => ((a :: l)[j]?).any q) ∘ Nat.succ) = fun j => (l[j]?).any q := by
      funext j; simp
    rw [e]
    cases h : q a
    · simp [h]; exact ih
    · simp [h]; exact ih
theorem told_count (vs : List (Option Int)) (x : Int) : vs.countP (fun v => v == some x) = (told vs).count x := by
  induction vs with
  | nil => rfl
  | cons v vs ih =>
    rw [List.countP_cons, ih]
    cases v with
    | none => simp [told]
    | some y => simp [told, List.count_cons]
def f__law_agreed : FP := fun ds Q _ => ∃ vs need, ds = [.lst (vs.map vD), .int need] ∧ okF vs ∧ 1 ≤ need ∧ Q (.fro (vD (agr vs need)))
theorem ok__law_agreed (ds : List D) (Q : O → Prop) (X : Exn → Prop) (_ : ds.length = 2) (h : f__law_agreed ds Q X) : wp__law_agreed { nx := fun _ => Q (.fro .non), rt := fun o _ => Q o, ex := fun e _ => X e } (startO 5 ds) := by
  obtain ⟨vs, need, rfl, hv, hn, q⟩ := h
  simp [wp__law_agreed, startO]
  refine loopQ_rng (fun i env => ∃ c2 c3, (∀ b : Nat, b < i → ((told vs).count (99 - (b : Int)) : Int) < need) ∧ env = [some (.fro (.lst (vs.map vD))), some (.fro (.int need)), c2, c3, none]) ⟨none, none, by simp, rfl⟩ ?_ ?_
  · rintro i env hi ⟨c2, c3, hb, rfl⟩
    refine ⟨_, rfl, rfl, fun N hN => ?_⟩
    simp
    refine ⟨by have := hv.1; omega, by have := hv.1; omega, compQ_rng (fun j => (vs[j]?).any fun v => v == some (99 - (i : Int))) (fun j => .fro (.int (j : Nat))) (fun j hj => ⟨_, rfl, rfl, fun R h => ?_, fun hp R h => ?_⟩) ?_⟩
    · have e : vs[j]? = some vs[j] := List.getElem?_eq_getElem hj
      rw [e] at h
      generalize vs[j] = v at *
      cases v with
      | none => simpa [setD, e] using h
      | some x => simpa [setD, e] using h
    · simpa [setD] using h
    · have e1 := range_filter_len (fun v => v == some (99 - (i : Int))) vs
      rw [told_count] at e1
      simp only [toD_lst, List.length_map]
      rw [e1]
      have mem : ∀ x : Int, 1 ≤ (told vs).count x → 0 ≤ x ∧ x ≤ 99 := fun x hx => by
        have : x ∈ told vs := List.count_pos_iff.mp hx
        obtain ⟨v, hv1, hv2⟩ := List.mem_filterMap.mp this
        have : v = some x := hv2
        subst this
        exact hv.2 x hv1
      by_cases c : need ≤ ((told vs).count (99 - (i : Int)) : Nat)
      · rw [if_pos c]
        have : agr vs need = some (99 - (i : Int)) := by
          unfold agr mx
          have hm : (99 - (i : Int)) ∈ (told vs).filter fun x => decide (need ≤ ((told vs).count x : Int)) := List.mem_filter.mpr ⟨List.count_pos_iff.mp (by omega), by simpa using c⟩
          rw [if_neg (List.ne_nil_of_mem hm)]
          refine congrArg some (maxL_eq hm fun y hy => ?_)
          have hy2 : need ≤ ((told vs).count y : Int) := by simpa using (List.mem_filter.mp hy).2
          have b1 := mem y (by omega)
          by_cases hlt : y ≤ 99 - (i : Int)
          · exact hlt
          · have := hb (99 - y).toNat (by omega)
            have e2 : (99 - ((99 - y).toNat : Int)) = y := by omega
            rw [e2] at this
            omega
        rw [this] at q
        exact q
      · rw [if_neg c]
        refine hN _ ⟨_, _, fun b hb' => ?_, rfl⟩
        by_cases e : b = i
        · subst e; omega
        · exact hb b (by omega)
  · rintro env ⟨c2, c3, hb, rfl⟩
    simp
    have : agr vs need = none := by
      unfold agr mx
      rw [if_pos]
      refine List.filter_eq_nil_iff.mpr fun y hy => ?_
      have hc : 0 < (told vs).count y := List.count_pos_iff.mpr hy
      obtain ⟨v, hv1, hv2⟩ := List.mem_filterMap.mp hy
      have : v = some y := hv2
      subst this
      have b1 := hv.2 y hv1
      have := hb (99 - y).toNat (by omega)
      have e2 : (99 - ((99 - y).toNat : Int)) = y := by omega
      rw [e2] at this
      simp; omega
    rw [this] at q
    exact q
def f__law_newest : FP := fun ds Q _ => ∃ vs need, ds = [.lst (vs.map vD), .int need] ∧ okV vs ∧ 1 ≤ need ∧ Q (.fro (vD (nw vs need)))
theorem told_snoc (vs : List (Option Int)) (v : Option Int) : told (vs ++ [v]) = told vs ++ told [v] := List.filterMap_append
theorem mx_snoc (T : List Int) (x : Int) : mx (T ++ [x]) = some (match mx T with | none => x | some y => if y < x then x else y) := by
  unfold mx
  rw [if_neg (by simp)]
  by_cases h : T = []
  · subst h; rfl
  · rw [if_neg h, maxL_snoc h]
theorem ok__law_newest (ds : List D) (Q : O → Prop) (X : Exn → Prop) (_ : ds.length = 2) (h : f__law_newest ds Q X) : wp__law_newest { nx := fun _ => Q (.fro .non), rt := fun o _ => Q o, ex := fun e _ => X e } (startO 5 ds) := by
  obtain ⟨vs, need, rfl, hv, hn, q⟩ := h
  simp [wp__law_newest, startO]
  refine loopQ_at (fun i env => ∃ c4, env = [some (.fro (.lst (vs.map vD))), some (.fro (.int need)), some (.fro (vD (mx (told (vs.take i))))), some (.fro (.int (told (vs.take i)).length)), c4]) ⟨none, rfl⟩ ?_ ?_
  · rintro i v env hv ⟨c4, rfl⟩
    refine ⟨_, rfl, rfl, fun N hN => ?_⟩
    have hi : i < vs.length := (List.getElem?_eq_some_iff.mp hv).1
    have et : vs.take (i + 1) = vs.take i ++ [v] := by rw [List.take_succ, hv]; rfl
    rw [et, told_snoc] at hN
    generalize told (vs.take i) = T at *
    cases v with
    | none =>
      simp [told] at hN ⊢
      exact hN _
    | some x =>
      have := mx_snoc T x
      have e2 : told [some x] = [x] := rfl
      rw [e2, this] at hN
      cases hm : mx T with
      | none =>
        rw [hm] at hN
        simp at hN ⊢
        exact hN _
      | some y =>
        rw [hm] at hN
        simp at hN ⊢
        by_cases c : y < x
        · rw [if_pos c]
          simp [c] at hN
          exact hN _
        · rw [if_neg c]
          simp [c] at hN
          exact hN _
  · rintro env ⟨c4, rfl⟩
    rw [List.take_length]
    simp
    unfold nw at q
    split
    · rename_i c
      rw [if_pos c] at q
      exact q
    · rename_i c
      rw [if_neg c] at q
      exact q
def f__law_repairs : FP := fun ds Q _ => ∃ vs, ds = [.lst (vs.map vD)] ∧ okV vs ∧ Q (.lst ((rep vs).map fun i => .fro (.int (i : Nat))))
theorem ok__law_repairs (ds : List D) (Q : O → Prop) (X : Exn → Prop) (_ : ds.length = 1) (h : f__law_repairs ds Q X) : wp__law_repairs { nx := fun _ => Q (.fro .non), rt := fun o _ => Q o, ex := fun e _ => X e } (startO 5 ds) := by
  obtain ⟨vs, rfl, hv, q⟩ := h
  unfold okV at hv
  simp [wp__law_repairs, startO]
  refine ⟨by omega, loopQ_rng (fun i env => ∃ c2 c3 c4, env = [some (.fro (.lst (vs.map vD))), some (.lst (((vs.zipIdx.take i).filter (later (told vs))).map fun p => .fro (.int p.2))), c2, c3, c4]) ⟨none, none, none, rfl⟩ ?_ ?_⟩
  · rintro i env hi ⟨c2, c3, c4, rfl⟩
    refine ⟨_, rfl, rfl, fun N hN => ?_⟩
    have ev : vs[i]? = some vs[i] := List.getElem?_eq_getElem hi
    have et : vs.zipIdx.take (i + 1) = vs.zipIdx.take i ++ [(vs[i], i)] := by
      rw [List.take_succ, List.getElem?_zipIdx, ev]
      simp
    have hl : ((vs.zipIdx.take i).filter (later (told vs))).length ≤ 1000 := by
      refine Nat.le_trans (List.length_filter_le _ _) ?_
      rw [List.length_take, List.length_zipIdx]
      omega
    rw [et, List.filter_append, List.map_append] at hN
    generalize (vs.zipIdx.take i).filter (later (told vs)) = F at *
    simp
    refine ⟨by omega, compQ_of (p := Option.isSome) (f := fun v => O.fro (vD v)) vs [] (fun v _ => ⟨_, rfl, rfl, fun R h => ?_, fun hp R h => ?_⟩) ?_⟩
    · cases v <;> simpa [setD] using h
    · simpa [setD] using h
    · rw [List.nil_append, told_map]
      generalize hvi : vs[i] = v at *
      cases v with
      | none =>
        simp [later] at hN
        simp [ev]
        exact hN _ _ _ _ rfl
      | some x =>
        have ne : told vs ≠ [] := List.ne_nil_of_mem (told_some (List.mem_of_getElem? ev))
        simp [ev, ne]
        by_cases c : x < maxL (told vs)
        · rw [if_pos c]
          simp [later, c] at hN
          exact ⟨by omega, hN _ _ _ _ rfl⟩
        · rw [if_neg c]
          simp [later, c] at hN
          exact hN _ _ _ _ rfl
  · rintro env ⟨c2, c3, c4, rfl⟩
    rw [List.take_of_length_le (by simp)]
    simp
    unfold rep at q
    rw [List.map_map] at q
    exact q
/-! ### all choices of stores -/
def chN : Nat → List (List Nat)
  | 0 => [[]]
  | n + 1 => chN n ++ (chN n).map (· ++ [n])
def intsD (c : List Nat) : D := .lst (c.map fun i => .int (i : Nat))
def ch (n many : Nat) : List (List Nat) := (chN n).filter fun c => c.length == many
def f__law_choices : FP := fun ds Q _ => ∃ n many : Nat, ds = [.int n, .int many] ∧ n ≤ 4 ∧ Q (.lst ((ch n many).map fun c => .fro (intsD c)))
theorem beq_cast (x y : Nat) : ((x : Int) == (y : Int)) = (x == y) := by
  rw [Bool.eq_iff_iff, beq_iff_eq, beq_iff_eq]
  omega
theorem ch_len : ∀ n, (chN n).length = 2 ^ n
  | 0 => rfl
  | n + 1 => by simp [chN, ch_len n]; omega
theorem ok__law_choices (ds : List D) (Q : O → Prop) (X : Exn → Prop) (_ : ds.length = 2) (h : f__law_choices ds Q X) : wp__law_choices { nx := fun _ => Q (.fro .non), rt := fun o _ => Q o, ex := fun e _ => X e } (startO 5 ds) := by
  obtain ⟨n, many, rfl, hn, q⟩ := h
  simp [wp__law_choices, startO]
  refine ⟨by omega, loopQ_rng (fun i env => ∃ c3 o, o.toD = .lst ((chN i).map intsD) ∧ env = [some (.fro (.int n)), some (.fro (.int many)), some o, c3, none]) ⟨none, .lst [.lst []], by simp [chN, intsD], rfl⟩ ?_ ?_⟩
  · rintro i env hi ⟨c3, o, ho, rfl⟩
    refine ⟨_, rfl, rfl, fun N hN => ?_⟩
    have l1 := ch_len i
    have l2 : (2 : Nat) ^ i ≤ 16 := Nat.pow_le_pow_right (n := 2) (i := i) (j := 4) (by decide) (by omega)
    simp [ho]
    refine ⟨by omega, compQ_of (e := intsD) (p := fun _ => true) (f := fun c => O.lst (c.map (O.fro ∘ fun i => D.int (i : Nat)) ++ [O.fro (D.int (i : Nat))])) (chN i) [] (fun c hc => ⟨_, rfl, rfl, fun R h => by simpa using h, fun _ R h => ?_⟩) ?_⟩
    · have lc : c.length ≤ 1000 := by
        have : ∀ (n : Nat) (c : List Nat), c ∈ chN n → c.length ≤ n := by
          intro n
          induction n with
          | zero => intro c h; simp [chN] at h; subst h; simp
          | succ n ih =>
            intro c h
            rcases List.mem_append.mp h with h | h
            · have := ih c h; omega
            · obtain ⟨d, hd, rfl⟩ := List.mem_map.mp h
              have := ih d hd
              simp; omega
        have := this i c hc
        omega
      simp [setD, intsD] at h ⊢
      exact ⟨by omega, h⟩
    · have ft : (chN i).filter (fun _ => true) = chN i := List.filter_eq_self.mpr fun _ _ => rfl
      rw [ft]
      simp
      refine ⟨by omega, hN _ ⟨_, _, ?_, rfl⟩⟩
      simp [chN, Function.comp_def, intsD]
  · rintro env ⟨c3, o, ho, rfl⟩
    have l1 := ch_len n
    have l2 : (2 : Nat) ^ n ≤ 16 := Nat.pow_le_pow_right (n := 2) (i := n) (j := 4) (by decide) (by omega)
    simp [ho]
    refine ⟨by omega, compQ_of (e := intsD) (p := fun c => c.length == many) (f := fun c => O.fro (intsD c)) (chN n) [] (fun c hc => ⟨_, rfl, rfl, fun R h => ?_, fun _ R h => ?_⟩) q⟩
    · simp [setD, intsD]
      have : ((c.length : Int) == (many : Int)) = (c.length == many) := by
        exact beq_cast _ _
      rw [this]; exact h
    · simpa [setD] using h
def allN (n w r : Nat) : Bool := (ch n w).all fun a => (ch n r).all fun b => !((b.filter fun i => a.contains i).length == 0)
def f__law_all_meet : FP := fun ds Q _ => ∃ n w r : Nat, ds = [.int n, .int w, .int r] ∧ n ≤ 4 ∧ Q (.fro (.bl (allN n w r)))
theorem any_ints (a : List Nat) (x : Nat) : a.any ((fun e => eqF e (.int (x : Nat))) ∘ fun i : Nat => D.int (i : Nat)) = a.contains x := by
  induction a with
  | nil => rfl
  | cons y a ih =>
    rw [List.any_cons, ih, List.contains_cons]
    congr 1
    simp
    rw [beq_cast, Bool.eq_iff_iff, beq_iff_eq, beq_iff_eq]
    omega
theorem ch_len2 {n many : Nat} (h : n ≤ 4) : (ch n many).length ≤ 16 := by
  have l1 := ch_len n
  have l2 : (2 : Nat) ^ n ≤ 16 := Nat.pow_le_pow_right (n := 2) (i := n) (j := 4) (by decide) (by omega)
  exact Nat.le_trans (List.length_filter_le _ _) (by omega)
theorem ch_short {n : Nat} {c : List Nat} (h : n ≤ 4) : c ∈ chN n → c.length ≤ 4 := by
  have : ∀ (n : Nat) (c : List Nat), c ∈ chN n → c.length ≤ n := by
    intro n
    induction n with
    | zero => intro c h; simp [chN] at h; subst h; simp
    | succ n ih =>
      intro c h
      rcases List.mem_append.mp h with h | h
      · have := ih c h; omega
      · obtain ⟨d, hd, rfl⟩ := List.mem_map.mp h
        have := ih d hd
        simp; omega
  intro hc
  have := this n c hc
  omega
theorem ok__law_all_meet (ds : List D) (Q : O → Prop) (X : Exn → Prop) (_ : ds.length = 3) (h : f__law_all_meet ds Q X) : wp__law_all_meet f__law_choices { nx := fun _ => Q (.fro .non), rt := fun o _ => Q o, ex := fun e _ => X e } (startO 6 ds) := by
  obtain ⟨n, w, r, rfl, hn, q⟩ := h
  simp [wp__law_all_meet, startO]
  refine ⟨n, w, rfl, hn, ?_⟩
  simp
  refine loopQ_at (e := intsD) (fun i env => ∃ c3 c4, ((ch n w).take i).all (fun a => (ch n r).all fun b => !((b.filter fun i => a.contains i).length == 0)) = true ∧ env = [some (.fro (.int n)), some (.fro (.int w)), some (.fro (.int r)), c3, c4, none]) ⟨none, none, rfl, rfl⟩ ?_ ?_
  · rintro i a env ha ⟨c3, c4, hall, rfl⟩
    refine ⟨_, rfl, rfl, fun N hN => ?_⟩
    have hma : a ∈ chN n := (List.mem_filter.mp (List.mem_of_getElem? ha)).1
    simp
    refine ⟨n, r, rfl, hn, ?_⟩
    simp
    refine loopQ_at (e := intsD) (fun j env => ∃ c4, ((ch n r).take j).all (fun b => !((b.filter fun i => a.contains i).length == 0)) = true ∧ env = [some (.fro (.int n)), some (.fro (.int w)), some (.fro (.int r)), some (.fro (intsD a)), c4, none]) ⟨c4, rfl, rfl⟩ ?_ ?_
    · rintro j b env hb ⟨c4, hall2, rfl⟩
      refine ⟨_, rfl, rfl, fun N2 hN2 => ?_⟩
      have hmb : b ∈ chN n := (List.mem_filter.mp (List.mem_of_getElem? hb)).1
      simp [intsD]
      refine ⟨by have := ch_short hn hmb; omega, compQ_of (e := fun i : Nat => D.int (i : Nat)) (p := fun i => a.contains i) (f := fun i => O.fro (.int (i : Nat))) b [] (fun x hx => ⟨_, rfl, rfl, fun R h => ?_, fun _ R h => ?_⟩) ?_⟩
      · simp [setD]
        rw [any_ints]
        exact h
      · simpa [setD] using h
      · simp only [toD_lst, List.nil_append, List.map_map, toD_comp_fro]
        cases hf : (b.filter fun i => a.contains i) with
        | nil =>
          simp
          have : allN n w r = false := by
            unfold allN
            refine List.all_eq_false.mpr ⟨a, List.mem_of_getElem? ha, ?_⟩
            simp only [Bool.not_eq_true]
            refine List.all_eq_false.mpr ⟨b, List.mem_of_getElem? hb, ?_⟩
            rw [hf]; decide
          rw [this] at q
          exact q
        | cons x l =>
          simp
          refine hN2 _ ⟨_, ?_, rfl⟩
          rw [List.take_succ, hb]
          simp only [Option.toList_some, List.all_append, hall2, Bool.true_and, List.all_cons, List.all_nil, Bool.and_true, hf]
          rfl
    · rintro env ⟨c4, hall2, rfl⟩
      rw [List.take_length] at hall2
      refine hN _ ⟨_, _, ?_, rfl⟩
      rw [List.take_succ, ha]
      simp only [Option.toList_some, List.all_append, hall, Bool.true_and]
      simp only [List.all_cons, List.all_nil, Bool.and_true]
      exact hall2
  · rintro env ⟨c3, c4, hall, rfl⟩
    rw [List.take_length] at hall
    simp
    have : allN n w r = true := hall
    rw [this] at q
    exact q
def fiL (n w : Nat) : List Nat := (List.range n).filter fun i => decide (i < w)
def laL (n r : Nat) : List Nat := (List.range n).filter fun i => decide (n ≤ i + r)
def coL (n w r : Nat) : List Nat := (fiL n w).filter fun i => (laL n r).contains i
theorem facts1 : ∀ n, n < 10 → ∀ w, w ≤ n → ∀ r, r ≤ n → (decide (0 < (coL n w r).length) = decide (n < w + r)) ∧ fiL n w = List.range w ∧ (laL n r = (List.range r).map fun i => n - r + i) := by decide +kernel
theorem facts3 : ∀ n, n < 10 → ∀ w, w ≤ n → ∀ r, r ≤ n → decide (0 < (((List.range w).filter fun i => ((List.range r).map fun i => n - r + i).contains i)).length) = decide (n < w + r) := by decide +kernel
theorem facts2 : ∀ n, n < 5 → ∀ w, w ≤ n → ∀ r, r ≤ n → allN n w r = decide (n < w + r) := by decide +kernel
def f__law_is_met : FP := fun ds Q _ => ∃ n w r : Nat, ds = [.int n, .int w, .int r] ∧ n ≤ 9 ∧ w ≤ n ∧ r ≤ n ∧ Q (.fro (.bl true))
theorem ok__law_is_met (ds : List D) (Q : O → Prop) (X : Exn → Prop) (_ : ds.length = 3) (h : f__law_is_met ds Q X) : wp__law_is_met f__law_all_meet (fSame 4) f_meets f_missing_pair { nx := fun _ => Q (.fro .non), rt := fun o _ => Q o, ex := fun e _ => X e } (startO 10 ds) := by
  obtain ⟨n, w, r, rfl, hn, hw, hr, q⟩ := h
  obtain ⟨g1, g2, g3⟩ := facts1 n (by omega) w hw r hr
  unfold wp__law_is_met startO
  refine seq_in fun N hN => ?_
  simp
  refine ⟨by omega, by omega, compQ_rng (fun i => decide (i < w)) (fun i => O.fro (.int (i : Nat))) (fun i hi => ⟨_, rfl, rfl, fun R h => ?_, fun _ R h => ?_⟩) (hN _ ?_)⟩
  · simpa [setD] using h
  · simpa [setD] using h
  clear hN N
  rw [show (List.range n).filter (fun i => decide (i < w)) = List.range w from g2]
  refine seq_in fun N hN => ?_
  simp
  refine ⟨by omega, by omega, compQ_rng (fun i => decide (n ≤ i + r)) (fun i => O.fro (.int (i : Nat))) (fun i hi => ⟨_, rfl, rfl, fun R h => ?_, fun _ R h => ?_⟩) (hN _ ?_)⟩
  · simp [setD]
    have : decide ((n : Int) - r ≤ i) = decide (n ≤ i + r) := decide_eq_decide.mpr (by omega)
    rw [this]; exact h
  · simpa [setD] using h
  clear hN N
  rw [show (List.range n).filter (fun i => decide (n ≤ i + r)) = (List.range r).map fun i => n - r + i from g3]
  have g4 := facts3 n (by omega) w hw r hr
  have hL : ((List.range r).map fun i => n - r + i).length ≤ 9 := by rw [List.length_map, List.length_range]; omega
  have eL : ((List.range r).map fun i => n - r + i).map (fun i => O.fro (.int (i : Nat))) = (rgD ((n : Int) - r) r).map .fro := by
    rw [rgD, List.map_map, List.map_map]
    refine List.map_congr_left fun i hi => ?_
    have := List.mem_range.mp hi
    have e : ((n - r + i : Nat) : Int) = (n : Int) - r + i := by omega
    simp only [Function.comp, e]
  have eF : (List.range w).map (fun i => O.fro (.int (i : Nat))) = (rgD 0 w).map .fro := by
    rw [rgD, List.map_map]
    refine List.map_congr_left fun i hi => ?_
    simp only [Function.comp, Int.zero_add]
  generalize ((List.range r).map fun i => n - r + i) = L at *
  have hF : (List.range w).length ≤ 9 := by rw [List.length_range]; omega
  generalize List.range w = F at *
  refine seq_in fun N hN => ?_
  simp
  refine ⟨by omega, compQ_of (e := fun i : Nat => D.int (i : Nat)) (p := fun i => L.contains i) (f := fun i => O.fro (.int (i : Nat))) F [] (fun x hx => ⟨_, rfl, rfl, fun R h => ?_, fun _ R h => ?_⟩) (hN _ ?_)⟩
  · simp [setD]
    rw [any_ints]
    exact h
  · simpa [setD] using h
  clear hN N
  rw [List.nil_append]
  generalize F.filter (fun i => L.contains i) = C at *
  refine seq_in fun N hN => ?_
  simp
  refine hN _ ?_
  clear hN N
  rw [show (decide (0 < C.length)) = decide (n < w + r) from g4]
  refine seq_in fun N hN => ?_
  have key : N [some (.fro (.int n)), some (.fro (.int w)), some (.fro (.int r)), some (.fro (.lst (F.map fun x : Nat => D.int (x : Nat)))), some (.fro (.lst (L.map fun x : Nat => D.int (x : Nat)))), some (.lst (C.map fun i : Nat => O.fro (D.int (i : Nat)))), some (.fro (.bl (decide (n < w + r)))), none, none, none] := by
    refine hN _ ?_
    clear hN N
    refine seq_in fun N hN => ?_
    simp
    refine hN _ ?_
    clear hN N
    by_cases hd : n < w + r
    · have hd' : (n : Int) < w + r := by omega
      simp only [hd, decide_true]
      refine seq_in fun N hN => ?_
      simp
      refine hN _ ?_
      clear hN N
      refine seq_in fun N hN => ?_
      simp
      refine ⟨n, w, r, rfl, ?_⟩
      simp [fSame_iff, hd']
      refine ⟨n, w, r, rfl, hw, hr, by omega, ?_⟩
      rw [if_pos hd]
      simp [fSame_iff]
      refine hN _ ?_
      clear hN N
      simp
      exact q
    · have hd' : ¬ (n : Int) < w + r := by omega
      simp only [hd, decide_false]
      refine seq_in fun N hN => ?_
      simp
      refine hN _ ?_
      clear hN N
      refine seq_in fun N hN => ?_
      simp
      refine ⟨n, w, r, rfl, ?_⟩
      simp [fSame_iff, hd']
      refine ⟨n, w, r, rfl, hw, hr, by omega, ?_⟩
      rw [if_neg hd]
      unfold pairO
      rw [← eL, ← eF]
      simp [fSame_iff]
      refine hN _ ?_
      clear hN N
      refine seq_in fun N hN => ?_
      simp
      refine ⟨n, w, r, rfl, hw, hr, by omega, ?_⟩
      rw [if_neg hd]
      unfold pairO
      rw [← eL, ← eF]
      simp
      refine ⟨by omega, ?_⟩
      refine ⟨n, w, r, rfl, hw, hr, by omega, ?_⟩
      rw [if_neg hd]
      unfold pairO
      rw [← eL, ← eF]
      simp [fSame_iff]
      exact q
  simp
  split
  · refine ⟨n, w, r, rfl, by omega, ?_⟩
    have g5 := facts2 n (by omega) w hw r hr
    rw [g5]
    simp
    exact .inl key
  · exact key
theorem vD_smp (n : Nat) (v : Option Int) : smp n (vD v) = true := by cases v <;> simp
theorem smp_vs {n : Nat} (vs : List (Option Int)) : smp (n + 1) (.lst (vs.map vD)) = true := by
  simp [vD_smp]
theorem smp_is {n : Nat} (vs : List Int) : smp (n + 1) (.lst (vs.map .int)) = true := by
  simp
structure Vot (l : List Nat) (w i : Nat) (vs : List (Option Int)) : Prop where
  len : vs.length = i
  cnt : (told vs).length = l.countP (· < i)
  top : ∀ x ∈ told vs, x ≤ 99
  hit : ∀ j ∈ l, j < i → j < w → 99 ∈ told vs
theorem Vot.nil {l : List Nat} {w : Nat} : Vot l w 0 [] := ⟨rfl, by simp [told], fun x h => by simp [told] at h, fun j _ h => by omega⟩
theorem countP_succ (l : List Nat) (i : Nat) : l.countP (· < i + 1) = l.countP (· < i) + l.count i := by
  induction l with
  | nil => rfl
  | cons x l ih =>
    rw [List.countP_cons, List.countP_cons, List.count_cons, ih]
    by_cases h : x = i
    · subst h; simp; omega
    · by_cases h2 : x < i
      · simp [h, h2, show x < i + 1 by omega]; omega
      · simp [h, h2, show ¬ x < i + 1 by omega]
theorem Vot.out {l : List Nat} {w i : Nat} {vs : List (Option Int)} (v : Vot l w i vs) (h : i ∉ l) : Vot l w (i + 1) (vs ++ [none]) := by
  have e : told (vs ++ [none]) = told vs := by rw [told_snoc]; simp [told]
  refine ⟨by simp [v.len], ?_, ?_, fun j hj hi hw => ?_⟩
  · rw [e, v.cnt, countP_succ, List.count_eq_zero.mpr h]; rfl
  · rw [e]; exact v.top
  · rw [e]
    have : j ≠ i := fun q => h (by rw [← q]; exact hj)
    exact v.hit j hj (by omega) hw
theorem Vot.inn {l : List Nat} {w i : Nat} {vs : List (Option Int)} {x : Int} (v : Vot l w i vs) (h : l.count i = 1) (hx : x ≤ 99) (hw : i < w → x = 99) : Vot l w (i + 1) (vs ++ [some x]) := by
  have e : told (vs ++ [some x]) = told vs ++ [x] := by rw [told_snoc]; rfl
  refine ⟨by simp [v.len], ?_, fun y hy => ?_, fun j hj hi hjw => ?_⟩
  · rw [e, List.length_append, v.cnt, countP_succ, h]; rfl
  · rw [e] at hy
    rcases List.mem_append.mp hy with hy | hy
    · exact v.top y hy
    · simp at hy; omega
  · rw [e]
    by_cases q : j = i
    · subst q
      rw [hw hjw]
      exact List.mem_append.mpr (.inr List.mem_cons_self)
    · exact List.mem_append.mpr (.inl (v.hit j hj (by omega) hjw))
theorem cnt1 {l : List Nat} {n : Nat} (h : l.Sublist (List.range n)) (i : Nat) : l.count i ≤ 1 := Nat.le_trans (h.count_le i) (List.nodup_iff_count.mp List.nodup_range i)
theorem pig : ∀ n, n < 10 → ∀ w, w ≤ n → (List.range n).countP (fun j => decide (w ≤ j)) = n - w := by decide +kernel
theorem law_ok (a : Addr) (ns : List Int) (hl : ns.length ≤ 63) : wp_law f__law_agreed fDraw fFeed f__law_is_met f__law_newest f__law_repairs (fSame 4) f__law_votes f_agreed f_newest f_repairs { nx := fun _ => False, rt := fun o _ => o = .fro (.bl true) } (startO 15 [.scr a ns]) := by
  unfold wp_law startO
  refine seq_in fun N hN => ?_
  simp
  refine ⟨a, ns, rfl, hl, hN _ ?_⟩
  clear hN N
  refine seq_in fun N hN => ?_
  simp
  refine loopQ_rng (fun i env => ∃ c2 c3 c4 c5 c6 c7, env = [some (.fro (.scr a ns)), some (.fro .feed), c2, c3, c4, c5, c6, c7, none, none, none, none, none, none, none]) ⟨_, _, _, _, _, _, rfl⟩ ?_ ?_
  · rintro i env hi ⟨c2, c3, c4, c5, c6, c7, rfl⟩
    refine ⟨_, rfl, rfl, fun M hM => ?_⟩
    clear hN
    refine seq_in fun N hN => ?_
    simp
    refine ⟨rfl, fun vs h1 hv => hN _ ?_⟩
    clear hN N
    have hv' : okV vs := by have := hv.1; unfold okV; omega
    have hsc : ∀ v : Option Int, v ∈ vs → (vD v).scal = true := fun v _ => by cases v <;> rfl
    rw [show vs.map vF' = (vs.map vD).map O.fro by rw [List.map_map]; rfl]
    have hsm : ∀ n, (vs.map vD).all (smp n) = true := fun n => List.all_eq_true.mpr fun d hd => by
      obtain ⟨v, _, rfl⟩ := List.mem_map.mp hd
      exact vD_smp n v
    have hsq : (vs.map vD).all D.scal = true := List.all_eq_true.mpr fun d hd => by
      obtain ⟨v, hv, rfl⟩ := List.mem_map.mp hd
      exact hsc v hv
    have hln : (vs.map vD).length = vs.length := List.length_map _
    generalize hV : vs.map vD = V at *
    refine seq_in fun N hN => ?_
    simp
    refine ⟨by simpa using hsq, hN _ ?_⟩
    clear hN N
    refine seq_in fun N hN => ?_
    simp
    have hvl := hv.1
    refine ⟨by omega, ?_⟩
    have tail : ∀ c5 c6 : Option O, N [some (.fro (.scr a ns)), some (.fro .feed), some (.fro (.int i)), some (.fro (.lst V)), some (.lst (V.map O.fro)), c5, c6, c7, none, none, none, none, none, none, none] := by
      intro c5 c6
      refine hN _ ?_
      clear hN N
      refine seq_in fun N hN => ?_
      simp
      refine ⟨vs, by rw [hV], hv', hN _ ?_⟩
      clear hN N
      have hrl : (rep vs).length ≤ 9 := by
        unfold rep
        rw [List.length_map]
        refine Nat.le_trans (List.length_filter_le _ _) ?_
        rw [List.length_zipIdx]; omega
      have hrs : ∀ n, ((rep vs).map fun i : Nat => D.int (i : Nat)).all (smp n) = true := fun n => by simp
      refine seq_in fun N hN => ?_
      simp
      refine ⟨vs, by rw [hV], hv', ?_⟩
      simp [fSame_iff]
      generalize rep vs = P at *
      refine ⟨by simpa using hsm 3, hN _ ?_⟩
      clear hN N
      refine seq_in fun N hN => ?_
      simp
      refine ⟨by omega, hN _ ?_⟩
      clear hN N
      simp
      refine ⟨vs, by rw [hV], hv', ?_⟩
      simp
      refine ⟨vs, by rw [hV], hv', ?_⟩
      simp [fSame_iff]
      exact hM _ ⟨_, _, _, _, _, _, rfl⟩
    refine loopQ_rng (fun _ env => ∃ c5 c6, env = [some (.fro (.scr a ns)), some (.fro .feed), some (.fro (.int i)), some (.fro (.lst V)), some (.lst (V.map O.fro)), c5, c6, c7, none, none, none, none, none, none, none]) ⟨_, _, rfl⟩ ?_ ?_
    · rintro j env hj ⟨c5, c6, rfl⟩
      refine ⟨_, rfl, rfl, fun M2 hM2 => ?_⟩
      clear hN tail
      refine seq_in fun N hN => ?_
      simp
      refine ⟨vs, _, by rw [hV], hv, by omega, ?_⟩
      simp
      refine ⟨vs, _, by rw [hV], hv', by omega, ?_⟩
      have s1 : ∀ v : Option Int, (vD v).scal = true := fun v => by cases v <;> rfl
      simp [s1]
      refine hN _ ?_
      clear hN N
      simp
      refine ⟨vs, _, by rw [hV], hv', ?_⟩
      simp
      refine ⟨vs, _, by rw [hV], hv', by omega, ?_⟩
      simp [fSame_iff, vD_smp]
      exact hM2 _ ⟨_, _, rfl⟩
    · rintro env ⟨c5, c6, rfl⟩
      exact tail c5 c6
  · rintro env ⟨c2, c3, c4, c5, c6, c7, rfl⟩
    refine hN _ ?_
    clear hN N
    refine seq_in fun N hN => ?_
    simp [fDraw]
    intro n0 hn0 hn1
    obtain ⟨n, en, hn2⟩ : ∃ n : Nat, 1 + n0 = (n : Int) ∧ n ≤ 9 := ⟨(1 + n0).toNat, by omega, by omega⟩
    rw [en]
    refine hN _ ?_
    clear hN N
    refine seq_in fun N hN => ?_
    simp
    refine ⟨by omega, by omega, ?_⟩
    have e1 : ((n : Int) + 1).toNat = n + 1 := by omega
    try rw [e1]
    refine loopQ_rng (fun _ env => ∃ c9 c10, env = [some (.fro (.scr a ns)), some (.fro .feed), c2, c3, c4, c5, c6, c7, some (.fro (.int n)), c9, c10, none, none, none, none]) ⟨_, _, rfl⟩ ?_ ?_
    · rintro w env hw ⟨c9, c10, rfl⟩
      refine ⟨_, rfl, rfl, fun M hM => ?_⟩
      clear hN
      simp
      refine ⟨by omega, by omega, ?_⟩
      try rw [e1]
      refine loopQ_rng (fun _ env => ∃ c10, env = [some (.fro (.scr a ns)), some (.fro .feed), c2, c3, c4, c5, c6, c7, some (.fro (.int n)), some (.fro (.int w)), c10, none, none, none, none]) ⟨_, rfl⟩ ?_ ?_
      · rintro r env hr ⟨c10, rfl⟩
        refine ⟨_, rfl, rfl, fun M2 hM2 => ?_⟩
        simp
        refine ⟨n, w, r, rfl, hn2, by omega, by omega, ?_⟩
        simp
        exact hM2 _ ⟨_, rfl⟩
      · rintro env ⟨c10, rfl⟩
        exact hM _ ⟨_, _, rfl⟩
    rintro env ⟨c9, c10, rfl⟩
    refine hN _ ?_
    clear hN N
    refine seq_in fun N hN => ?_
    simp [fDraw]
    intro m0 hm0 hm1
    obtain ⟨m, em, hm2⟩ : ∃ m : Nat, 1 + m0 = (m : Int) ∧ m ≤ 4 := ⟨(1 + m0).toNat, by omega, by omega⟩
    rw [em]
    refine hN _ ?_
    clear hN N
    refine seq_in fun N hN => ?_
    simp
    refine ⟨by omega, by omega, ?_⟩
    have e2 : ((m : Int) + 1).toNat = m + 1 := by omega
    try rw [e2]
    refine loopQ_rng (fun _ env => ∃ c9, env = [some (.fro (.scr a ns)), some (.fro .feed), c2, c3, c4, c5, c6, c7, some (.fro (.int n)), c9, c10, some (.fro (.int m)), none, none, none]) ⟨_, rfl⟩ ?_ ?_
    · rintro w env hw ⟨c9, rfl⟩
      refine ⟨_, rfl, rfl, fun M hM => ?_⟩
      clear hN
      simp [fDraw]
      refine ⟨by omega, by omega, fun r hr0 hr1 => ?_⟩
      obtain ⟨r, rfl⟩ := Int.eq_ofNat_of_zero_le hr0
      refine ⟨m, w, r, rfl, by omega, by omega, by omega, ?_⟩
      simp
      exact hM _ ⟨_, rfl⟩
    rintro env ⟨c9, rfl⟩
    refine hN _ ?_
    clear hN N
    refine seq_in fun N hN => ?_
    simp [fDraw]
    refine ⟨by omega, by omega, fun w hw0 hw1 => ?_⟩
    obtain ⟨w, rfl⟩ := Int.eq_ofNat_of_zero_le hw0
    refine hN _ ?_
    clear hN N
    refine seq_in fun N hN => ?_
    simp
    refine ⟨by omega, by omega, ?_⟩
    refine compQ_any (e := fun i : Nat => D.int (0 + (i : Int))) (f := fun i : Nat => O.fro (D.int (i : Nat))) (List.range n) [] (fun j hj => ⟨_, rfl, rfl, fun R h => ?_, fun R h => ?_⟩) fun l hs => hN _ ?_
    · simp [setD, fDraw]
      intro x _ _
      exact h _
    · simpa [setD] using h
    clear hN N
    rw [List.nil_append]
    have hll : l.length ≤ n := by have := hs.length_le; rwa [List.length_range] at this
    have hlm : ∀ j ∈ l, j < n := fun j hj => List.mem_range.mp (hs.subset hj)
    refine seq_in fun N hN => ?_
    simp
    refine hN _ ?_
    clear hN N
    refine seq_in fun N hN => ?_
    simp
    refine ⟨by omega, ?_⟩
    refine loopQ_rng (fun i env => ∃ vs c13 c14, Vot l w i vs ∧ env = [some (.fro (.scr a ns)), some (.fro .feed), c2, some (.lst (vs.map vF')), c4, c5, c6, c7, some (.fro (.int n)), some (.fro (.int w)), c10, some (.fro (.int m)), some (.lst (l.map fun i : Nat => O.fro (D.int (i : Nat)))), c13, c14]) ⟨[], _, _, Vot.nil, rfl⟩ ?_ ?_
    · rintro i env hi ⟨vs, c13, c14, hvo, rfl⟩
      refine ⟨_, rfl, rfl, fun M hM => ?_⟩
      clear hN
      have hvl := hvo.len
      have nxt : ∀ v, Vot l w (i + 1) (vs ++ [v]) → M [some (.fro (.scr a ns)), some (.fro .feed), c2, some (.lst (vs.map vF' ++ [vF' v])), c4, c5, c6, c7, some (.fro (.int n)), some (.fro (.int w)), c10, some (.fro (.int m)), some (.lst (l.map fun i : Nat => O.fro (D.int (i : Nat)))), some (.fro (.int i)), some (vF' v)] := fun v hv => hM _ ⟨_, some (.fro (.int i)), some (vF' v), hv, by simp⟩
      clear hM
      refine seq_in fun N hN => ?_
      simp
      refine hN _ ?_
      clear hN N
      refine seq_in fun N hN => ?_
      simp
      have fin : ∀ v, Vot l w (i + 1) (vs ++ [v]) → N [some (.fro (.scr a ns)), some (.fro .feed), c2, some (.lst (vs.map vF')), c4, c5, c6, c7, some (.fro (.int n)), some (.fro (.int w)), c10, some (.fro (.int m)), some (.lst (l.map fun i : Nat => O.fro (D.int (i : Nat)))), some (.fro (.int i)), some (vF' v)] := fun v hv => by
        refine hN _ ?_
        simp [vF']
        exact ⟨by omega, nxt v hv⟩
      by_cases hm : i ∈ l
      · have h1 : l.count i = 1 := by
          have := List.count_pos_iff.mpr hm
          have := cnt1 hs i
          omega
        rw [if_pos ⟨i, hm, rfl⟩]
        refine ⟨50, rfl, by decide, by decide, fun r hr0 hr1 => ?_⟩
        simp
        by_cases hw : i < w
        · rw [if_pos hw]
          exact fin (some 99) (hvo.inn h1 (by decide) fun _ => rfl)
        · rw [if_neg hw]
          exact fin (some r) (hvo.inn h1 (by omega) fun h => absurd h hw)
      · rw [if_neg fun ⟨x, hx, e⟩ => hm (by
          have : x = i := by omega
          rw [← this]; exact hx)]
        exact fin none (hvo.out hm)
    rintro env ⟨vs, c13, c14, hvo, rfl⟩
    refine hN _ ?_
    clear hN N
    refine seq_in fun N hN => ?_
    simp
    have evD : (O.toD ∘ vF') = vD := by funext v; simp [vF']
    have hc1 : ∀ i, l.count i ≤ 1 := cnt1 hs
    have big : ∀ c : Prop, (n : Int) < w + l.length → nw vs l.length = some 99 ∧ 1 ≤ l.length := fun _ hb => by
      have hp := pig n (by omega) w (by omega)
      have hit : ∃ j ∈ l, j < w := by
        refine Classical.byContradiction fun no => ?_
        have h1 : l.countP (fun j => decide (w ≤ j)) = l.length := List.countP_eq_length.mpr fun j hj => by
          have : ¬ j < w := fun h => no ⟨j, hj, h⟩
          simp; omega
        have h2 := hs.countP_le (p := fun j => decide (w ≤ j))
        omega
      obtain ⟨j, hj, hjw⟩ := hit
      have h99 := hvo.hit j hj (hlm j hj) hjw
      have hcn : l.countP (· < n) = l.length := List.countP_eq_length.mpr fun j hj => by simpa using hlm j hj
      have hlt : (told vs).length = l.length := by rw [hvo.cnt, hcn]
      refine ⟨?_, List.length_pos_of_mem hj⟩
      unfold nw mx
      rw [if_neg (by omega), if_neg (List.ne_nil_of_mem h99), maxL_eq h99 hvo.top]
    have hvn := hvo.len
    split
    · rename_i hb
      obtain ⟨b1, b2⟩ := big True hb
      refine ⟨vs, _, by rw [evD], by unfold okV; omega, by omega, ?_⟩
      rw [b1]
      simp [fSame_iff]
      refine ⟨[some 5, some 5, none, some 99], 4, rfl, by unfold okV; decide, by decide, ?_⟩
      rw [show nw [some 5, some 5, none, some 99] 4 = none by decide +kernel]
      simp [fSame_iff]
    · refine hN _ ?_
      clear hN N
      simp
      refine ⟨[some 5, some 5, none, some 99], 2, rfl, by unfold okV; decide, ?_⟩
      rw [show agr [some 5, some 5, none, some 99] 2 = some 5 by decide +kernel]
      simp [fSame_iff]
      refine ⟨[none], 1, rfl, by unfold okV; decide, ?_⟩
      rw [show agr [none] 1 = none by decide +kernel]
      simp [fSame_iff]
end L97

end L97_Spec_

section L97_End_
set_option maxRecDepth 100000
set_option maxHeartbeats 0
namespace L97
open PySem PySem.Spec PyProof.Rows L2 PD

def cnOf (K : PySem.W.Frag) : Str → Option Addr := fun c => none
def fn0 : List He.DefD := [⟨("told_by", none), "told_by", "told_by", defArgs s_told_by, defBody s_told_by, defScope s_told_by, [], []⟩, ⟨("agreed", none), "agreed", "agreed", defArgs s_agreed, defBody s_agreed, defScope s_agreed, [], []⟩, ⟨("newest", none), "newest", "newest", defArgs s_newest, defBody s_newest, defScope s_newest, [], []⟩, ⟨("meets", none), "meets", "meets", defArgs s_meets, defBody s_meets, defScope s_meets, [], []⟩, ⟨("missing_pair", none), "missing_pair", "missing_pair", defArgs s_missing_pair, defBody s_missing_pair, defScope s_missing_pair, [], []⟩, ⟨("repairs", none), "repairs", "repairs", defArgs s_repairs, defBody s_repairs, defScope s_repairs, [], []⟩, ⟨("_law_feed", none), "_law_feed", "_law_feed", defArgs s__law_feed, defBody s__law_feed, defScope s__law_feed, [], []⟩, ⟨("_law_draw", none), "_law_draw", "_law_draw", defArgs s__law_draw, defBody s__law_draw, defScope s__law_draw, [], []⟩, ⟨("_law_same", none), "_law_same", "_law_same", defArgs s__law_same, defBody s__law_same, defScope s__law_same, [], []⟩, ⟨("_law_votes", none), "_law_votes", "_law_votes", defArgs s__law_votes, defBody s__law_votes, defScope s__law_votes, [], []⟩, ⟨("_law_agreed", none), "_law_agreed", "_law_agreed", defArgs s__law_agreed, defBody s__law_agreed, defScope s__law_agreed, [], []⟩, ⟨("_law_newest", none), "_law_newest", "_law_newest", defArgs s__law_newest, defBody s__law_newest, defScope s__law_newest, [], []⟩]
def fn1 : List He.DefD := [⟨("_law_repairs", none), "_law_repairs", "_law_repairs", defArgs s__law_repairs, defBody s__law_repairs, defScope s__law_repairs, [], []⟩, ⟨("_law_choices", none), "_law_choices", "_law_choices", defArgs s__law_choices, defBody s__law_choices, defScope s__law_choices, [], []⟩, ⟨("_law_all_meet", none), "_law_all_meet", "_law_all_meet", defArgs s__law_all_meet, defBody s__law_all_meet, defScope s__law_all_meet, [], []⟩, ⟨("_law_is_met", none), "_law_is_met", "_law_is_met", defArgs s__law_is_met, defBody s__law_is_met, defScope s__law_is_met, [], []⟩, ⟨("law", none), "law", "law", defArgs s_law, defBody s_law, defScope s_law, [], []⟩]
def fn : List He.DefD := fn0 ++ fn1
def fa0 : List He.Fa := [.glo "told_by", .glo "agreed", .glo "newest", .glo "meets", .glo "missing_pair", .glo "repairs", .glo "_law_feed", .glo "_law_draw", .glo "_law_same", .glo "_law_votes", .glo "_law_agreed", .glo "_law_newest", .glo "_law_repairs", .glo "_law_choices", .glo "_law_all_meet", .glo "_law_is_met", .glo "law", .free "len", .free "list", .free "range", .free "int", .free "str", .free "bool", .free "tuple", .free "dict", .free "abs", .free "isinstance", .free "zip", .free "enumerate", .free "max"]
def fa1 : List He.Fa := [.free "min", .free "sum", .free "sorted", .free "all", .free "any", .free "divmod"]
def fa : List He.Fa := fa0 ++ fa1
def loose0 : List PySem.Str := ["told_by", "agreed", "newest", "meets", "missing_pair", "repairs", "_law_feed", "_law_draw", "_law_same", "_law_votes", "_law_agreed", "_law_newest", "_law_repairs", "_law_choices", "_law_all_meet", "_law_is_met"]
def loose : List PySem.Str := loose0
abbrev R : PySem.W.OpenRow := PySem.W.OpenLaw.row PySem.Challenge.rw_storedfresh_k97_whole_quorums_heard
abbrev hk : PySem.W.Hook := He.hookD 4 fa fn
def ob (s : PySem.W.SharedT) : He.AlD := He.obsDG 4 fa fn (HandSHeadRun.getT s)
theorem ob_eq (s : PySem.W.SharedT) : ob s = hk.obs s.abs := He.obsDG_eq (HandSHeadRun.getT_eq s)
theorem run (w : World) : HandSHeadRun.RunEq R (PySem.W.view R.prog [18]) hk ob 2000 loose w := by
  intro os
  kernel_rfl
theorem facts {P : Program} {w : World} {K : PySem.W.Frag} {h : Heap} {mg : Str → Option Value} {f : Addr} (X : K.In h) (G : h.Ns mainGlobals mg) (hfa : mg ("law" : Str) = some (.ref f)) (c : He.SaysD fa fn K) :
    ∃ fd : FuncData, (∀ (s : Shared) (v : Value), BindsTo s fd ⟨[v], []⟩ [("script", v)]) ∧ ∀ base : Heap, K.In base → base.Ns mainGlobals mg → FnOk P w K mg base CX0 7 f fd ["script"] (PD.spLaw K) := by
  obtain ⟨fd_told_by, F_told_by⟩ := c.def_ 0 rfl
  have m_told_by := He.glo_ok X G (c.fact 0 (f := .glo "told_by") rfl)
  obtain ⟨fd_agreed, F_agreed⟩ := c.def_ 1 rfl
  have m_agreed := He.glo_ok X G (c.fact 1 (f := .glo "agreed") rfl)
  obtain ⟨fd_newest, F_newest⟩ := c.def_ 2 rfl
  have m_newest := He.glo_ok X G (c.fact 2 (f := .glo "newest") rfl)
  obtain ⟨fd_meets, F_meets⟩ := c.def_ 3 rfl
  have m_meets := He.glo_ok X G (c.fact 3 (f := .glo "meets") rfl)
  obtain ⟨fd_missing_pair, F_missing_pair⟩ := c.def_ 4 rfl
  have m_missing_pair := He.glo_ok X G (c.fact 4 (f := .glo "missing_pair") rfl)
  obtain ⟨fd_repairs, F_repairs⟩ := c.def_ 5 rfl
  have m_repairs := He.glo_ok X G (c.fact 5 (f := .glo "repairs") rfl)
  obtain ⟨fd__law_feed, F__law_feed⟩ := c.def_ 6 rfl
  have m__law_feed := He.glo_ok X G (c.fact 6 (f := .glo "_law_feed") rfl)
  obtain ⟨fd__law_draw, F__law_draw⟩ := c.def_ 7 rfl
  have m__law_draw := He.glo_ok X G (c.fact 7 (f := .glo "_law_draw") rfl)
  obtain ⟨fd__law_same, F__law_same⟩ := c.def_ 8 rfl
  have m__law_same := He.glo_ok X G (c.fact 8 (f := .glo "_law_same") rfl)
  obtain ⟨fd__law_votes, F__law_votes⟩ := c.def_ 9 rfl
  have m__law_votes := He.glo_ok X G (c.fact 9 (f := .glo "_law_votes") rfl)
  obtain ⟨fd__law_agreed, F__law_agreed⟩ := c.def_ 10 rfl
  have m__law_agreed := He.glo_ok X G (c.fact 10 (f := .glo "_law_agreed") rfl)
  obtain ⟨fd__law_newest, F__law_newest⟩ := c.def_ 11 rfl
  have m__law_newest := He.glo_ok X G (c.fact 11 (f := .glo "_law_newest") rfl)
  obtain ⟨fd__law_repairs, F__law_repairs⟩ := c.def_ 12 rfl
  have m__law_repairs := He.glo_ok X G (c.fact 12 (f := .glo "_law_repairs") rfl)
  obtain ⟨fd__law_choices, F__law_choices⟩ := c.def_ 13 rfl
  have m__law_choices := He.glo_ok X G (c.fact 13 (f := .glo "_law_choices") rfl)
  obtain ⟨fd__law_all_meet, F__law_all_meet⟩ := c.def_ 14 rfl
  have m__law_all_meet := He.glo_ok X G (c.fact 14 (f := .glo "_law_all_meet") rfl)
  obtain ⟨fd__law_is_met, F__law_is_met⟩ := c.def_ 15 rfl
  have m__law_is_met := He.glo_ok X G (c.fact 15 (f := .glo "_law_is_met") rfl)
  obtain ⟨fd_law, F_law⟩ := c.def_ 16 rfl
  have m_law := He.glo_ok X G (c.fact 16 (f := .glo "law") rfl)
  have B : Blt mg := ⟨He.free_ok X G (c.fact 17 (f := .free "len") rfl), He.free_ok X G (c.fact 18 (f := .free "list") rfl), He.free_ok X G (c.fact 19 (f := .free "range") rfl), He.free_ok X G (c.fact 20 (f := .free "int") rfl), He.free_ok X G (c.fact 21 (f := .free "str") rfl), He.free_ok X G (c.fact 22 (f := .free "bool") rfl), He.free_ok X G (c.fact 23 (f := .free "tuple") rfl), He.free_ok X G (c.fact 24 (f := .free "dict") rfl), He.free_ok X G (c.fact 25 (f := .free "abs") rfl), He.free_ok X G (c.fact 26 (f := .free "isinstance") rfl), He.free_ok X G (c.fact 27 (f := .free "zip") rfl), He.free_ok X G (c.fact 28 (f := .free "enumerate") rfl), He.free_ok X G (c.fact 29 (f := .free "max") rfl), He.free_ok X G (c.fact 30 (f := .free "min") rfl), He.free_ok X G (c.fact 31 (f := .free "sum") rfl), He.free_ok X G (c.fact 32 (f := .free "sorted") rfl), He.free_ok X G (c.fact 33 (f := .free "all") rfl), He.free_ok X G (c.fact 34 (f := .free "any") rfl), He.free_ok X G (c.fact 35 (f := .free "divmod") rfl)⟩
  have e := hfa.symm.trans m_law
  cases e
  have b := FunD.bindsA (ps := ["script"]) F_law fun _ _ _ _ _ _ us hl => match us, hl with | [_], _ => rfl
  refine ⟨fd_law, fun s v => b s [v] rfl, fun base _ _ => ?_⟩
  have D_told_by : Def P w K (cnOf K) mg base 1 "told_by" ["votes"] 1 f_told_by := der_told_by B F_told_by m_told_by f_told_by ok_told_by
  have D_agreed : Def P w K (cnOf K) mg base 2 "agreed" ["votes", "need"] 2 f_agreed := der_agreed B D_told_by F_agreed m_agreed f_agreed ok_agreed
  have D_newest : Def P w K (cnOf K) mg base 2 "newest" ["votes", "need"] 2 f_newest := der_newest B D_told_by F_newest m_newest f_newest ok_newest
  have D_meets : Def P w K (cnOf K) mg base 1 "meets" ["n", "w", "r"] 3 f_meets := der_meets B F_meets m_meets f_meets ok_meets
  have D_missing_pair : Def P w K (cnOf K) mg base 2 "missing_pair" ["n", "w", "r"] 3 f_missing_pair := der_missing_pair B D_meets F_missing_pair m_missing_pair f_missing_pair ok_missing_pair
  have D_repairs : Def P w K (cnOf K) mg base 3 "repairs" ["votes"] 1 f_repairs := der_repairs B D_newest F_repairs m_repairs f_repairs ok_repairs
  have D__law_feed := der__law_feed (PP := P) (w := w) (cn := cnOf K) (base := base) B F__law_feed m__law_feed
  have D__law_draw := der__law_draw (PP := P) (w := w) (cn := cnOf K) (base := base) B F__law_draw m__law_draw
  have D__law_same := der__law_same (PP := P) (w := w) (cn := cnOf K) (base := base) B F__law_same m__law_same 4
  have D__law_votes : Def P w K (cnOf K) mg base 2 "_law_votes" ["feed"] 1 f__law_votes := der__law_votes B D__law_draw F__law_votes m__law_votes f__law_votes ok__law_votes
  have D__law_agreed : Def P w K (cnOf K) mg base 1 "_law_agreed" ["votes", "need"] 2 f__law_agreed := der__law_agreed B F__law_agreed m__law_agreed f__law_agreed ok__law_agreed
  have D__law_newest : Def P w K (cnOf K) mg base 1 "_law_newest" ["votes", "need"] 2 f__law_newest := der__law_newest B F__law_newest m__law_newest f__law_newest ok__law_newest
  have D__law_repairs : Def P w K (cnOf K) mg base 1 "_law_repairs" ["votes"] 1 f__law_repairs := der__law_repairs B F__law_repairs m__law_repairs f__law_repairs ok__law_repairs
  have D__law_choices : Def P w K (cnOf K) mg base 1 "_law_choices" ["n", "many"] 2 f__law_choices := der__law_choices B F__law_choices m__law_choices f__law_choices ok__law_choices
  have D__law_all_meet : Def P w K (cnOf K) mg base 2 "_law_all_meet" ["n", "w", "r"] 3 f__law_all_meet := der__law_all_meet B D__law_choices F__law_all_meet m__law_all_meet f__law_all_meet ok__law_all_meet
  have D__law_is_met : Def P w K (cnOf K) mg base 6 "_law_is_met" ["n", "w", "r"] 3 f__law_is_met := der__law_is_met B D__law_all_meet D__law_same D_meets D_missing_pair F__law_is_met m__law_is_met f__law_is_met ok__law_is_met
  exact der_law B D__law_agreed D__law_draw D__law_feed D__law_is_met D__law_newest D__law_repairs D__law_same D__law_votes D_agreed D_newest D_repairs F_law law_ok
end L97
open PySem PySem.W PySem.Calls PyProof.Rows
theorem PySem.Challenge.cw_storedfresh_k97_whole_quorums_heard_holds : PySem.Challenge.rw_storedfresh_k97_whole_quorums_heard.Holds := by
  w_on; o_law
  refine HandSHeadRun.head_any (r := OpenLaw.row PySem.Challenge.rw_storedfresh_k97_whole_quorums_heard) (q := view (OpenLaw.row PySem.Challenge.rw_storedfresh_k97_whole_quorums_heard).prog [18]) (H := L97.hk) (ob := L97.ob) (M := 2000) (loose := L97.loose) (d := HandSHeadRun.topDef (OpenLaw.row PySem.Challenge.rw_storedfresh_k97_whole_quorums_heard).prog 18) (kwd := []) L97.ob_eq
    (by kernel_rfl) (fun s => by kernel_rfl) L97.run (by kernel_rfl) (by kernel_rfl) (by kernel_rfl) (by rfl) (by first | assumption | decide +kernel) (by decide +kernel) ⟨rfl, rfl, rfl, rfl, rfl, by decide +kernel⟩ ?hw ?hc
  case hw => w_witness2
  case hc =>
    refine L2.walk_ofE (l := PySem.Challenge.rw_storedfresh_k97_whole_quorums_heard) (n := 63) (k := 7) (x := "script") (CX := L2.CX0) rfl (by decide) (by kernel_rfl) ⟨rfl, by decide, by decide⟩ ?F (fun _ _ _ _ z => z)
    intro w mg fa h Y G hmg0
    obtain ⟨K, KX, c⟩ := Y
    have hmg : mg ("law" : PySem.Str) = some (.ref fa) := by
      have e : (HandSHeadRun.topDef (OpenLaw.row PySem.Challenge.rw_storedfresh_k97_whole_quorums_heard).prog 18).name = ("law" : PySem.Str) := by kernel_rfl
      rw [← e]
      exact hmg0
    obtain ⟨fd, hb, hF⟩ := L97.facts (P := (PySem.Challenge.rw_storedfresh_k97_whole_quorums_heard).prog) (w := w) KX G hmg c
    exact ⟨K, fd, PD.spLaw K, KX, hb, fun H a ns hl _ hS => ⟨a, ns, rfl, hS, hl, fun _ => rfl⟩, hF⟩

end L97_End_
