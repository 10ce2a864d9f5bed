import PyProof.Rows.All
import HandS.ForMost
import HandS.ForExc
import HandS.IsInst
import HandS.Deep
import HandS.Wide
import HandS.TupLe
import HandS.TupAny
import HandS.CallSlots
import HandS.HeadHook2
import HandS.TryOnly
import HandS.ExcCtx
import KE.GoesEnum
import HandS.Walk
import HandS.HeadHook1
import KE.KExcSuper
import HandS.ExcInit
import HandS.ExcField
import KE.KStateDown
import HandS.Ends
import HandS.Head0
import HandS.Head1
import HandS.Head2
import HandS.HeadEnd
import HandS.ExcIs
import HandS.Style
import HandS.WordsExc
import HandS.Words
import HandS.EndBits
import HandS.Sort
import HandS.DictComp
import HandS.Rev
import HandS.Zip
import HandS.SetFor
import HandS.TupSets
import HandS.SortInts
import HandS.Strs
import PyProof.AutoSeq1
import HandS.Flt
import HandS.Small
import KE.KExcIs
import PyProof.P3In
import HandS.HotCalls
import HandS.TupMul
import PySem.Challenge.RW_strokeonce_k14_whole_variants
set_option Elab.async false
set_option linter.all false
set_option maxRecDepth 100000
set_option maxHeartbeats 4000000
/-! DBase: Python values as trees D, a list of mutable cells; what represents what on the abstract heap; results; readings that are executable functions. -/
namespace Dl
open PySem PySem.Spec PyProof.Rows L2

inductive D where
  | non | bl (b : Bool) | int (i : Int) | str (s : Str)
  | tup (l : List D) | ctup (l : List D) | lst (l : List D) | scr (l : List D) | loc (n : Nat)
  | ins (C : Str) (fs : List (Str × D))
  | dK (kvs : List (Key × D)) | dT (kvs : List (List Key × D))
  | lk (d : D)
  | fn (x : Str)
  | exn (a dx : Addr) (fs : List (Str × D))
  deriving Inhabited

abbrev Mem := List D

structure Wd where
  c : Hp
  adr : List Addr

def isDict : HO → Bool
  | .dK _ => true
  | .dT _ => true
  | _ => false
structure Le (w w' : Wd) : Prop where
  cw : ∀ a o, w.c a = some o → w'.c a = some o ∨ (isDict o = true ∧ ∃ od, w'.c a = some (.frz od o))
  adr : w.adr <+: w'.adr
theorem Le.c {w w' : Wd} (l : Le w w') (a : Addr) (o : HO) (h : w.c a = some o) (hd : isDict o = false := by rfl) : w'.c a = some o := by
  rcases l.cw a o h with z | ⟨z, _⟩
  · exact z
  · rw [hd] at z; cases z
theorem Le.refl (w : Wd) : Le w w := ⟨fun _ _ h => .inl h, List.prefix_refl _⟩
theorem Le.trans {a b c : Wd} (h : Le a b) (k : Le b c) : Le a c := ⟨fun x o e => by
  rcases h.cw x o e with z | ⟨hd, od, z⟩
  · exact k.cw x o z
  · exact .inr ⟨hd, od, k.c x _ z⟩, h.adr.trans k.adr⟩
/-- a dict that stands there, locked or not -/
def dkC (w : Wd) (a : Addr) (u : HO) : Prop := w.c a = some u ∨ ∃ od, w.c a = some (.frz od u)
theorem dkC.mono {w w' : Wd} (l : Le w w') {a : Addr} {u : HO} (hd : isDict u = true) : dkC w a u → dkC w' a u
  | .inl h => by
    rcases l.cw a u h with z | ⟨_, od, z⟩
    · exact .inl z
    · exact .inr ⟨od, z⟩
  | .inr ⟨od, h⟩ => .inr ⟨od, l.c a _ h⟩
theorem Le.get {w w' : Wd} (l : Le w w') {n : Nat} {a : Addr} (h : w.adr[n]? = some a) : w'.adr[n]? = some a := by
  obtain ⟨t, e⟩ := l.adr
  rw [← e]
  have hn : n < w.adr.length := (List.getElem?_eq_some_iff.mp h).1
  rw [List.getElem?_append_left hn]
  exact h

/-- the script: a list that never changes -/
def ScrW (K : PySem.W.Frag) (w : Wd) (a : Addr) (xs : List V) : Prop := (∃ o, w.c a = some (.frz o (.lst xs))) ∨
  ∃ (o : Obj) (its : Array Value) (n : Nat), K.lookup a = some o ∧ o.cls = .type "list" ∧ o.dict = none ∧ o.data = .seq its n ∧ its.size ≤ sizeLine ∧ Vals xs its.toList
theorem ScrW.mono {K : PySem.W.Frag} {w w' : Wd} {a : Addr} {xs : List V} (l : Le w w') : ScrW K w a xs → ScrW K w' a xs
  | .inl ⟨o, h⟩ => .inl ⟨o, l.c _ _ h⟩
  | .inr h => .inr h
mutual
def rep (K : PySem.W.Frag) (w : Wd) : D → V → Prop
  | .non, v => v = .non
  | .bl b, v => v = .bl b
  | .int i, v => v = .int i
  | .str s, v => v = .str s
  | .tup l, v => ∃ a xs, v = .ref a ∧ w.c a = some (.tup xs) ∧ reps K w l xs
  | .ctup l, v => ∃ a xs, v = .ref a ∧ (∀ H, SqT K H a xs) ∧ reps K w l xs
  | .lst l, v => ∃ a xs, v = .ref a ∧ w.c a = some (.lst xs) ∧ reps K w l xs
  | .scr l, v => ∃ a xs, v = .ref a ∧ ScrW K w a xs ∧ reps K w l xs
  | .loc n, v => ∃ a, v = .ref a ∧ w.adr[n]? = some a
  | .ins C fs, v => ∃ a dx xs, v = .ref a ∧ w.c a = some (.ins (He.ga K C) dx xs) ∧ repf K w fs xs
  | .dK kvs, v => ∃ a xs, v = .ref a ∧ dkC w a (.dK xs) ∧ repk K w kvs xs
  | .dT kvs, v => ∃ a xs, v = .ref a ∧ dkC w a (.dT xs) ∧ rept K w kvs xs
  | .lk _, _ => False
  | .fn x, v => v = .ref (He.ga K x)
  | .exn a dx fs, v => v = .ref a ∧ (fs = [] ∨ ∃ xs, w.c dx = some (.xd xs) ∧ repf K w fs xs)
def reps (K : PySem.W.Frag) (w : Wd) : List D → List V → Prop
  | [], xs => xs = []
  | d :: ds, xs => ∃ y ys, xs = y :: ys ∧ rep K w d y ∧ reps K w ds ys
def repf (K : PySem.W.Frag) (w : Wd) : List (Str × D) → List (Str × V) → Prop
  | [], xs => xs = []
  | (f, d) :: ds, xs => ∃ y ys, xs = (f, y) :: ys ∧ rep K w d y ∧ repf K w ds ys
def repk (K : PySem.W.Frag) (w : Wd) : List (Key × D) → List (Key × V) → Prop
  | [], xs => xs = []
  | (f, d) :: ds, xs => ∃ y ys, xs = (f, y) :: ys ∧ rep K w d y ∧ repk K w ds ys
def rept (K : PySem.W.Frag) (w : Wd) : List (List Key × D) → List (List Key × V) → Prop
  | [], xs => xs = []
  | (f, d) :: ds, xs => ∃ y ys, xs = (f, y) :: ys ∧ rep K w d y ∧ rept K w ds ys
end

section
variable {K : PySem.W.Frag} {w w' : Wd}
mutual
theorem rep.mono (l : Le w w') : ∀ {d : D} {v : V}, rep K w d v → rep K w' d v
  | .non, _, h => h
  | .bl _, _, h => h
  | .int _, _, h => h
  | .str _, _, h => h
  | .tup _, _, ⟨a, xs, e, h, r⟩ => ⟨a, xs, e, l.c _ _ h, reps.mono l r⟩
  | .ctup _, _, ⟨a, xs, e, h, r⟩ => ⟨a, xs, e, h, reps.mono l r⟩
  | .lst _, _, ⟨a, xs, e, h, r⟩ => ⟨a, xs, e, l.c _ _ h, reps.mono l r⟩
  | .scr _, _, ⟨a, xs, e, h, r⟩ => ⟨a, xs, e, h.mono l, reps.mono l r⟩
  | .loc _, _, ⟨a, e, h⟩ => ⟨a, e, l.get h⟩
  | .ins _ _, _, ⟨a, dx, xs, e, h, r⟩ => ⟨a, dx, xs, e, l.c _ _ h, repf.mono l r⟩
  | .dK _, _, ⟨a, xs, e, h, r⟩ => ⟨a, xs, e, dkC.mono l rfl h, repk.mono l r⟩
  | .dT _, _, ⟨a, xs, e, h, r⟩ => ⟨a, xs, e, dkC.mono l rfl h, rept.mono l r⟩
  | .lk _, _, h => h
  | .fn _, _, h => h
  | .exn _ _ _, _, ⟨e, h⟩ => ⟨e, h.elim .inl fun ⟨xs, c, r⟩ => .inr ⟨xs, l.c _ _ c, repf.mono l r⟩⟩
theorem reps.mono (l : Le w w') : ∀ {ds : List D} {xs : List V}, reps K w ds xs → reps K w' ds xs
  | [], _, h => h
  | _ :: _, _, ⟨y, ys, e, h, r⟩ => ⟨y, ys, e, rep.mono l h, reps.mono l r⟩
theorem repf.mono (l : Le w w') : ∀ {ds : List (Str × D)} {xs : List (Str × V)}, repf K w ds xs → repf K w' ds xs
  | [], _, h => h
  | (_, _) :: _, _, ⟨y, ys, e, h, r⟩ => ⟨y, ys, e, rep.mono l h, repf.mono l r⟩
theorem repk.mono (l : Le w w') : ∀ {ds : List (Key × D)} {xs : List (Key × V)}, repk K w ds xs → repk K w' ds xs
  | [], _, h => h
  | (_, _) :: _, _, ⟨y, ys, e, h, r⟩ => ⟨y, ys, e, rep.mono l h, repk.mono l r⟩
theorem rept.mono (l : Le w w') : ∀ {ds : List (List Key × D)} {xs : List (List Key × V)}, rept K w ds xs → rept K w' ds xs
  | [], _, h => h
  | (_, _) :: _, _, ⟨y, ys, e, h, r⟩ => ⟨y, ys, e, rep.mono l h, rept.mono l r⟩
end
theorem reps.length : ∀ {ds : List D} {xs : List V}, reps K w ds xs → xs.length = ds.length
  | [], _, h => by cases h; rfl
  | _ :: ds, _, ⟨y, ys, e, _, r⟩ => by rw [e, List.length_cons, List.length_cons, reps.length r]
theorem reps.get : ∀ {ds : List D} {xs : List V} {i : Nat} {d : D}, reps K w ds xs → ds[i]? = some d → ∃ v, xs[i]? = some v ∧ rep K w d v
  | [], _, _, _, _, e => by simp at e
  | d :: ds, _, 0, d', ⟨y, ys, e, h, r⟩, q => by
    simp at q; subst q; subst e
    exact ⟨y, rfl, h⟩
  | d :: ds, _, i + 1, d', ⟨y, ys, e, h, r⟩, q => by
    subst e
    simp at q
    obtain ⟨v, e1, e2⟩ := reps.get r q
    exact ⟨v, by simpa using e1, e2⟩
theorem reps.append : ∀ {ds es : List D} {xs ys : List V}, reps K w ds xs → reps K w es ys → reps K w (ds ++ es) (xs ++ ys)
  | [], _, _, _, h, k => by cases h; exact k
  | _ :: _, _, _, _, ⟨y, ys, e, h, r⟩, k => by
    subst e
    exact ⟨y, _, rfl, h, reps.append r k⟩
theorem reps.one {d : D} {v : V} (h : rep K w d v) : reps K w [d] [v] := ⟨v, [], rfl, h, rfl⟩
theorem reps.take : ∀ {ds : List D} {xs : List V} (n : Nat), reps K w ds xs → reps K w (ds.take n) (xs.take n)
  | _, _, 0, _ => rfl
  | [], _, _ + 1, h => by cases h; rfl
  | _ :: _, _, n + 1, ⟨y, ys, e, h, r⟩ => by subst e; exact ⟨y, _, rfl, h, reps.take n r⟩
theorem reps.drop : ∀ {ds : List D} {xs : List V} (n : Nat), reps K w ds xs → reps K w (ds.drop n) (xs.drop n)
  | _, _, 0, h => h
  | [], _, _ + 1, h => by cases h; rfl
  | _ :: _, _, n + 1, ⟨y, ys, e, h, r⟩ => by subst e; exact reps.drop n r
theorem reps.set : ∀ {ds : List D} {xs : List V} (i : Nat) {d : D} {v : V}, reps K w ds xs → rep K w d v → reps K w (ds.set i d) (xs.set i v)
  | [], _, _, _, _, h, _ => by cases h; rfl
  | _ :: _, _, 0, _, _, ⟨y, ys, e, h, r⟩, k => by subst e; exact ⟨_, _, rfl, k, r⟩
  | _ :: _, _, i + 1, _, _, ⟨y, ys, e, h, r⟩, k => by subst e; exact ⟨_, _, rfl, h, reps.set i r k⟩
theorem reps.dropLast : ∀ {ds : List D} {xs : List V}, reps K w ds xs → reps K w ds.dropLast xs.dropLast
  | [], _, h => by cases h; rfl
  | [_], _, ⟨y, ys, e, h, r⟩ => by cases r; subst e; rfl
  | _ :: d2 :: ds, _, ⟨y, ys, e, h, r⟩ => by
    obtain ⟨y2, ys2, e2, h2, r2⟩ := id r
    subst e e2
    exact ⟨y, _, rfl, h, reps.dropLast (ds := d2 :: ds) r⟩
theorem reps.eraseIdx : ∀ {ds : List D} {xs : List V} (i : Nat), reps K w ds xs → reps K w (ds.eraseIdx i) (xs.eraseIdx i)
  | [], _, _, h => by cases h; rfl
  | _ :: _, _, 0, ⟨y, ys, e, h, r⟩ => by subst e; exact r
  | _ :: _, _, i + 1, ⟨y, ys, e, h, r⟩ => by subst e; exact ⟨_, _, rfl, h, reps.eraseIdx i r⟩
theorem reps.reverse : ∀ {ds : List D} {xs : List V}, reps K w ds xs → reps K w ds.reverse xs.reverse
  | [], _, h => by cases h; rfl
  | _ :: _, _, ⟨y, ys, e, h, r⟩ => by
    subst e
    rw [List.reverse_cons, List.reverse_cons]
    exact reps.append (reps.reverse r) (reps.one h)
theorem repf.lookup : ∀ {fs : List (Str × D)} {xs : List (Str × V)} {f : Str} {d : D}, repf K w fs xs → fs.lookup f = some d → ∃ v, xs.lookup f = some v ∧ rep K w d v
  | [], _, _, _, _, e => by simp at e
  | (g, d) :: fs, _, f, d', ⟨y, ys, e, h, r⟩, q => by
    subst e
    rw [List.lookup_cons] at q ⊢
    cases z : f == g with
    | true => rw [z] at q; cases q; exact ⟨y, rfl, h⟩
    | false => rw [z] at q; exact repf.lookup r q
theorem repf.lookup_none : ∀ {fs : List (Str × D)} {xs : List (Str × V)} {f : Str}, repf K w fs xs → fs.lookup f = none → xs.lookup f = none
  | [], _, _, h, _ => by cases h; rfl
  | (g, d) :: fs, _, f, ⟨y, ys, e, h, r⟩, q => by
    subst e
    rw [List.lookup_cons] at q ⊢
    cases z : f == g with
    | true => rw [z] at q; cases q
    | false => rw [z] at q; exact repf.lookup_none r q
/-- a field stored -/
def putD (f : Str) (d : D) : List (Str × D) → List (Str × D)
  | [] => [(f, d)]
  | (g, x) :: r => if g = f then (g, d) :: r else (g, x) :: putD f d r
theorem repf.put {f : Str} {d : D} {v : V} (h : rep K w d v) : ∀ {fs : List (Str × D)} {xs : List (Str × V)}, repf K w fs xs → repf K w (putD f d fs) (putF f v xs)
  | [], _, e => by cases e; exact ⟨v, [], rfl, h, rfl⟩
  | (g, x) :: r, _, ⟨y, ys, e, hy, rr⟩ => by
    subst e
    by_cases q : g = f
    · rw [show putD f d ((g, x) :: r) = (g, d) :: r from if_pos q, show putF f v ((g, y) :: ys) = (g, v) :: ys from if_pos q]
      exact ⟨v, ys, rfl, h, rr⟩
    · rw [show putD f d ((g, x) :: r) = (g, x) :: putD f d r from if_neg q, show putF f v ((g, y) :: ys) = (g, y) :: putF f v ys from if_neg q]
      exact ⟨y, _, rfl, hy, repf.put h rr⟩
theorem repf.length : ∀ {fs : List (Str × D)} {xs : List (Str × V)}, repf K w fs xs → xs.length = fs.length
  | [], _, h => by cases h; rfl
  | (_, _) :: fs, _, ⟨y, ys, e, _, r⟩ => by rw [e, List.length_cons, List.length_cons, repf.length r]
end

/-! ### the cells -/
/-- what a cell holds -/
def hold (K : PySem.W.Frag) (w : Wd) (H : Hp) (a : Addr) : D → Prop
  | .lst l => ∃ xs, H a = some (.lst xs) ∧ reps K w l xs
  | .ins C fs => ∃ dx xs, H a = some (.ins (He.ga K C) dx xs) ∧ repf K w fs xs
  | .dK kvs => ∃ xs, H a = some (.dK xs) ∧ repk K w kvs xs
  | .dT kvs => ∃ xs, H a = some (.dT xs) ∧ rept K w kvs xs
  | .lk (.dK kvs) => ∃ o xs, H a = some (.frz o (.dK xs)) ∧ repk K w kvs xs
  | .lk (.dT kvs) => ∃ o xs, H a = some (.frz o (.dT xs)) ∧ rept K w kvs xs
  | _ => False
theorem hold.mono {K : PySem.W.Frag} {w w' : Wd} {H H' : Hp} {a : Addr} (l : Le w w') (e : ∀ o, H a = some o → H' a = some o) : ∀ {d : D}, hold K w H a d → hold K w' H' a d
  | .lst _, ⟨xs, h, r⟩ => ⟨xs, e _ h, reps.mono l r⟩
  | .ins _ _, ⟨dx, xs, h, r⟩ => ⟨dx, xs, e _ h, repf.mono l r⟩
  | .dK _, ⟨xs, h, r⟩ => ⟨xs, e _ h, repk.mono l r⟩
  | .dT _, ⟨xs, h, r⟩ => ⟨xs, e _ h, rept.mono l r⟩
  | .lk (.dK _), ⟨o, xs, h, r⟩ => ⟨o, xs, e _ h, repk.mono l r⟩
  | .lk (.dT _), ⟨o, xs, h, r⟩ => ⟨o, xs, e _ h, rept.mono l r⟩
theorem hold.some {K : PySem.W.Frag} {w : Wd} {H : Hp} {a : Addr} : ∀ {d : D}, hold K w H a d → ∃ o, H a = some o
  | .lst _, ⟨xs, h, r⟩ => ⟨_, h⟩
  | .ins _ _, ⟨dx, xs, h, r⟩ => ⟨_, h⟩
  | .dK _, ⟨xs, h, r⟩ => ⟨_, h⟩
  | .dT _, ⟨xs, h, r⟩ => ⟨_, h⟩
  | .lk (.dK _), ⟨o, xs, h, r⟩ => ⟨_, h⟩
  | .lk (.dT _), ⟨o, xs, h, r⟩ => ⟨_, h⟩
structure Wf (K : PySem.W.Frag) (w : Wd) (H : Hp) (m : Mem) : Prop where
  sub : ∀ a o, w.c a = some o → H a = some o ∨ (isDict o = true ∧ ∃ od, H a = some (.frz od o))
  len : w.adr.length = m.length
  nd : w.adr.Nodup
  out : ∀ a ∈ w.adr, w.c a = none
  cell : ∀ (n : Nat) a d, w.adr[n]? = some a → m[n]? = some d → hold K w H a d
section
variable {K : PySem.W.Frag} {w w' : Wd} {H H' : Hp} {m : Mem}
theorem Wf.known (W : Wf K w H m) {a : Addr} (h : a ∈ w.adr) : ∃ o, H a = some o := by
  obtain ⟨n, hn, e⟩ := List.getElem_of_mem h
  have e1 : w.adr[n]? = some a := by rw [List.getElem?_eq_getElem hn, e]
  have hm : n < m.length := by rw [← W.len]; exact hn
  exact (W.cell n a m[n] e1 (List.getElem?_eq_getElem hm)).some
theorem Wf.fresh (W : Wf K w H m) {p : Addr} (h : H p = none) : w.c p = none ∧ p ∉ w.adr := by
  refine ⟨?_, fun z => ?_⟩
  · cases q : w.c p with
    | none => rfl
    | some o =>
      rcases W.sub p o q with z | ⟨_, od, z⟩
      · rw [h] at z; cases z
      · rw [h] at z; cases z
  · obtain ⟨o, e⟩ := W.known z
    rw [h] at e; cases e
/-- a new object that never changes -/
def Wd.add (w : Wd) (p : Addr) (o : HO) : Wd := ⟨upd w.c p o, w.adr⟩
theorem Le.add {p : Addr} {o : HO} (h : w.c p = none) : Le w (w.add p o) := ⟨fun a u e => .inl <| by
  show upd w.c p o a = some u
  rw [upd_ne (ne_of_none e h)]; exact e, List.prefix_refl _⟩
theorem Wf.add (W : Wf K w H m) {p : Addr} {o : HO} (h : H p = none) : Le w (w.add p o) ∧ Wf K (w.add p o) (upd H p o) m := by
  obtain ⟨h1, h2⟩ := W.fresh h
  have l : Le w (w.add p o) := Le.add h1
  refine ⟨l, ?_, W.len, W.nd, fun a ha => ?_, fun n a d e1 e2 => ?_⟩
  · intro a u e
    by_cases q : a = p
    · subst q
      have e' : upd w.c a o a = some u := e
      rw [upd_same] at e'; cases e'
      exact .inl upd_same
    · have e' : upd w.c p o a = some u := e
      rw [upd_ne q] at e'
      rw [upd_ne q]
      exact W.sub a u e'
  · have hne : a ≠ p := fun z => h2 (z ▸ ha)
    show upd w.c p o a = none
    rw [upd_ne hne]
    exact W.out a ha
  · have ha : a ∈ w.adr := List.mem_of_getElem? e1
    have hne : a ≠ p := fun z => h2 (z ▸ ha)
    exact (W.cell n a d e1 e2).mono l fun u q => by rw [upd_ne hne]; exact q
/-- a new cell -/
def Wd.cell (w : Wd) (p : Addr) : Wd := ⟨w.c, w.adr ++ [p]⟩
theorem Le.cell {p : Addr} : Le w (w.cell p) := ⟨fun _ _ e => .inl e, List.prefix_append _ _⟩
theorem Wf.new (W : Wf K w H m) {p : Addr} {d : D} (h : H p = none) (hn : ∀ a o, a ≠ p → H a = some o → H' a = some o) (hd : hold K (w.cell p) H' p d) : Wf K (w.cell p) H' (m ++ [d]) := by
  obtain ⟨h1, h2⟩ := W.fresh h
  refine ⟨?_, ?_, ?_, fun a ha => ?_, fun n a d' e1 e2 => ?_⟩
  · intro a u e
    have hne : a ≠ p := ne_of_none (show w.c a = some u from e) h1
    rcases W.sub a u e with z | ⟨b, od, z⟩
    · exact .inl (hn a _ hne z)
    · exact .inr ⟨b, od, hn a _ hne z⟩
  · show (w.adr ++ [p]).length = (m ++ [d]).length
    rw [List.length_append, List.length_append, W.len]; rfl
  · show (w.adr ++ [p]).Nodup
    rw [List.nodup_append]
    refine ⟨W.nd, by simp, fun a ha b hb => ?_⟩
    have : b = p := by simpa using hb
    subst this
    exact fun z => h2 (z ▸ ha)
  · rcases List.mem_append.mp (show a ∈ w.adr ++ [p] from ha) with z | z
    · exact W.out a z
    · have : a = p := by simpa using z
      subst this; exact h1
  · have e1' : (w.adr ++ [p])[n]? = some a := e1
    by_cases hlt : n < w.adr.length
    · rw [List.getElem?_append_left hlt] at e1'
      rw [List.getElem?_append_left (by rw [← W.len]; exact hlt)] at e2
      have ha : a ∈ w.adr := List.mem_of_getElem? e1'
      exact (W.cell n a d' e1' e2).mono Le.cell fun u q => hn a u (fun z => h2 (z ▸ ha)) q
    · have hge : w.adr.length ≤ n := Nat.le_of_not_lt hlt
      have hn' : n < (w.adr ++ [p]).length := (List.getElem?_eq_some_iff.mp e1').1
      rw [List.length_append, List.length_singleton] at hn'
      have en : n = w.adr.length := by omega
      subst en
      rw [List.getElem?_append_right (Nat.le_refl _), Nat.sub_self] at e1'
      rw [W.len, List.getElem?_append_right (Nat.le_refl _), Nat.sub_self] at e2
      cases e1'
      cases e2
      exact hd
/-- a cell is written -/
theorem Wf.put (W : Wf K w H m) {n : Nat} {p : Addr} {d : D} (hp : w.adr[n]? = some p) (hn : ∀ a, a ≠ p → (∃ o, H a = some o) → H' a = H a) (hd : hold K w H' p d) : Wf K w H' (m.set n d) := by
  have hin : p ∈ w.adr := List.mem_of_getElem? hp
  refine ⟨?_, by rw [List.length_set]; exact W.len, W.nd, W.out, fun k a d' e1 e2 => ?_⟩
  · intro a u e
    have hne : a ≠ p := fun z => by subst z; rw [W.out a hin] at e; cases e
    rcases W.sub a u e with z | ⟨b, od, z⟩
    · exact .inl (by rw [hn a hne ⟨_, z⟩]; exact z)
    · exact .inr ⟨b, od, by rw [hn a hne ⟨_, z⟩]; exact z⟩
  · by_cases hk : k = n
    · subst hk
      rw [hp] at e1; cases e1
      have hm : k < m.length := by rw [← W.len]; exact (List.getElem?_eq_some_iff.mp hp).1
      rw [List.getElem?_set_self hm] at e2
      cases e2
      exact hd
    · rw [List.getElem?_set_ne (Ne.symm hk)] at e2
      have hne : a ≠ p := fun z => by
        subst z
        obtain ⟨h1, q1⟩ := List.getElem?_eq_some_iff.mp e1
        obtain ⟨h2, q2⟩ := List.getElem?_eq_some_iff.mp hp
        exact hk ((List.getElem_inj W.nd).mp (q1.trans q2.symm))
      have ho := W.cell k a d' e1 e2
      exact ho.mono (Le.refl w) fun u q => by rw [hn a hne ⟨_, q⟩]; exact q
theorem Wf.at (W : Wf K w H m) {n : Nat} {d : D} {v : V} (r : rep K w (.loc n) v) (e : m[n]? = some d) : ∃ a, v = .ref a ∧ w.adr[n]? = some a ∧ hold K w H a d := by
  obtain ⟨a, rfl, h⟩ := r
  exact ⟨a, rfl, h, W.cell n a d h e⟩
theorem Wf.subL (W : Wf K w H m) {a : Addr} {xs : List V} (h : w.c a = some (.lst xs)) : H a = some (.lst xs) := by
  rcases W.sub _ _ h with z | ⟨b, _⟩
  · exact z
  · cases b
theorem Wf.subT (W : Wf K w H m) {a : Addr} {xs : List V} (h : w.c a = some (.tup xs)) : H a = some (.tup xs) := by
  rcases W.sub _ _ h with z | ⟨b, _⟩
  · exact z
  · cases b
theorem Wf.subI (W : Wf K w H m) {a C dx : Addr} {xs : List (Str × V)} (h : w.c a = some (.ins C dx xs)) : H a = some (.ins C dx xs) := by
  rcases W.sub _ _ h with z | ⟨b, _⟩
  · exact z
  · cases b
theorem Wf.subF (W : Wf K w H m) {a : Addr} {o : Obj} {u : HO} (h : w.c a = some (.frz o u)) : H a = some (.frz o u) := by
  rcases W.sub _ _ h with z | ⟨b, _⟩
  · exact z
  · cases b
theorem Wf.subS (W : Wf K w H m) {a : Addr} {xs : List V} (h : ScrW K w a xs) : SqL K H a xs := by
  rcases h with ⟨o, h⟩ | h
  · exact .inl (.inr ⟨o, W.subF h⟩)
  · exact .inr h
theorem Wf.subD (W : Wf K w H m) {a : Addr} {o : HO} (h : w.c a = some o) (hd : isDict o = true) : Rd H a o := by
  rcases W.sub _ _ h with z | ⟨b, od, z⟩
  · exact .inl z
  · exact .inr ⟨od, z⟩
end

theorem Wf.subC {K : PySem.W.Frag} {w : Wd} {H : Hp} {m : Mem} (W : Wf K w H m) {a : Addr} {o : HO} (h : dkC w a o) (hd : isDict o = true) : Rd H a o := by
  rcases h with h | ⟨od, h⟩
  · exact W.subD h hd
  · exact .inr ⟨od, W.subF h⟩

/-! ### results -/
structure Er where
  C : Str
  fs : List (Str × D)
inductive R (α : Type) where
  | ok (a : α) (m : Mem)
  | err (e : Er) (m : Mem)
  | stuck
def R.bind {α β : Type} (r : R α) (k : α → Mem → R β) : R β := match r with
  | .ok a m => k a m
  | .err e m => .err e m
  | .stuck => .stuck
@[simp] theorem R.bind_ok {α β : Type} (a : α) (m : Mem) (k : α → Mem → R β) : (R.ok a m).bind k = k a m := rfl
@[simp] theorem R.bind_err {α β : Type} (e : Er) (m : Mem) (k : α → Mem → R β) : (R.err e m : R α).bind k = .err e m := rfl
@[simp] theorem R.bind_stuck {α β : Type} (k : α → Mem → R β) : (R.stuck : R α).bind k = .stuck := rfl
def R.ofO {α : Type} : Option (α × Mem) → R α
  | some (a, m) => .ok a m
  | none => .stuck
@[simp] theorem R.ofO_some {α : Type} (a : α) (m : Mem) : R.ofO (some (a, m)) = .ok a m := rfl
@[simp] theorem R.ofO_none {α : Type} : R.ofO (none : Option (α × Mem)) = .stuck := rfl
/-- an exception on the abstract heap -/
def erR (K : PySem.W.Frag) (w : Wd) (H : Hp) (e : Er) (cls : Value) (dx : Option Addr) : Prop := cls = .ref (He.ga K e.C) ∧
  match e.fs with
  | [] => dx = none
  | f :: r => ∃ d xs, dx = some d ∧ H d = some (.xd xs) ∧ repf K w (f :: r) xs
abbrev Sl := List (Option D)
def slR (K : PySem.W.Frag) (w : Wd) : Sl → L2.St → Prop
  | [], [] => True
  | none :: r, _ :: s => slR K w r s
  | some d :: r, x :: s => (∃ v, x = some v ∧ rep K w d v) ∧ slR K w r s
  | _, _ => False
section
variable {K : PySem.W.Frag} {w w' : Wd}
theorem slR.mono (l : Le w w') : ∀ {sd : Sl} {σ : L2.St}, slR K w sd σ → slR K w' sd σ
  | [], [], _ => trivial
  | none :: r, _ :: s, h => by
    have h1 : slR K w r s := h
    exact slR.mono (sd := r) (σ := s) l h1
  | some _ :: r, _ :: s, h => by
    obtain ⟨⟨v, e, q⟩, h1⟩ := h
    exact ⟨⟨v, e, q.mono l⟩, slR.mono (sd := r) (σ := s) l h1⟩
theorem slR.get : ∀ {sd : Sl} {σ : L2.St} {i : Nat} {d : D}, slR K w sd σ → sd[i]? = some (some d) → ∃ v, σ[i]? = some (some v) ∧ rep K w d v
  | some _ :: _, _ :: _, 0, _, ⟨⟨v, e, r⟩, _⟩, q => by
    simp at q; subst q; subst e
    exact ⟨v, rfl, r⟩
  | none :: _, _ :: _, 0, _, _, q => by simp at q
  | none :: r, x :: s, i + 1, d, h, q => by
    have h1 : slR K w r s := h
    obtain ⟨v, e, r⟩ := slR.get (sd := r) (σ := s) (i := i) (d := d) h1 (by simpa using q)
    exact ⟨v, by simpa using e, r⟩
  | some _ :: r, _ :: s, i + 1, d, h, q => by
    obtain ⟨_, h1⟩ := h
    obtain ⟨v, e, r⟩ := slR.get (sd := r) (σ := s) (i := i) (d := d) h1 (by simpa using q)
    exact ⟨v, by simpa using e, r⟩
theorem slR.set {d : D} {v : V} (q : rep K w d v) : ∀ {sd : Sl} {σ : L2.St} (i : Nat), slR K w sd σ → slR K w (sd.set i (some d)) (σ.set i (some v))
  | [], [], _, _ => trivial
  | none :: _, _ :: _, 0, h => ⟨⟨v, rfl, q⟩, h⟩
  | some _ :: _, _ :: _, 0, ⟨_, h⟩ => ⟨⟨v, rfl, q⟩, h⟩
  | none :: r, _ :: s, i + 1, h => by
    have h1 : slR K w r s := h
    exact slR.set q (sd := r) (σ := s) i h1
  | some _ :: r, _ :: s, i + 1, ⟨z, h⟩ => ⟨z, slR.set q (sd := r) (σ := s) i h⟩
theorem slR.del : ∀ {sd : Sl} {σ : L2.St} (i : Nat), slR K w sd σ → slR K w (sd.set i none) (σ.set i none)
  | [], [], _, _ => trivial
  | none :: _, _ :: _, 0, h => h
  | some _ :: _, _ :: _, 0, ⟨_, h⟩ => h
  | none :: r, _ :: s, i + 1, h => by
    have h1 : slR K w r s := h
    exact slR.del (sd := r) (σ := s) i h1
  | some _ :: r, _ :: s, i + 1, ⟨z, h⟩ => ⟨z, slR.del (sd := r) (σ := s) i h⟩
theorem slR.start : ∀ {ds : List D} {vs : List V} (k : Nat), reps K w ds vs → slR K w (ds.map some ++ List.replicate k none) (vs.map some ++ List.replicate k none)
  | [], _, 0, h => by cases h; trivial
  | [], _, k + 1, h => by
    cases h
    exact slR.start (ds := []) (vs := []) k rfl
  | _ :: _, _, k, ⟨y, ys, e, h, r⟩ => by
    subst e
    exact ⟨⟨y, rfl, h⟩, slR.start k r⟩
end

abbrev EF := Sl → Mem → R D
abbrev TF := Sl → Mem → R Bool
abbrev AF := Sl → Mem → R (List D)
inductive SR where
  | nx (sd : Sl) (m : Mem)
  | rt (d : D) (m : Mem)
  | bk (sd : Sl) (m : Mem)
  | ct (sd : Sl) (m : Mem)
  | er (e : Er) (sd : Sl) (m : Mem)
  | stuck
abbrev SF := Sl → Mem → SR

def rOk {α : Type} (K : PySem.W.Frag) (W : WX) (σ : L2.St) (w : Wd) (r : R α) (k : α → Mem → Wd → Hp → Prop) : Prop := match r with
  | .ok a m => ∀ w' H, Le w w' → Wf K w' H m → k a m w' H
  | .err e m => ∀ cls dx w' H, Le w w' → Wf K w' H m → erR K w' H e cls dx → W cls dx σ H
  | .stuck => False
section
variable {K : PySem.W.Frag} {W : WX} {σ : L2.St} {w w' : Wd} {α β : Type}
theorem rOk.mono {r : R α} {k : α → Mem → Wd → Hp → Prop} (l : Le w w') (h : rOk K W σ w r k) : rOk K W σ w' r k := by
  cases r with
  | ok a m => exact fun w2 H l2 => h w2 H (l.trans l2)
  | err e m => exact fun cls dx w2 H l2 => h cls dx w2 H (l.trans l2)
  | stuck => exact h
theorem rOk.imp {r : R α} {k k' : α → Mem → Wd → Hp → Prop} (h : rOk K W σ w r k) (i : ∀ a m w' H, Le w w' → Wf K w' H m → k a m w' H → k' a m w' H) : rOk K W σ w r k' := by
  cases r with
  | ok a m => exact fun w2 H l2 f => i a m w2 H l2 f (h w2 H l2 f)
  | err e m => exact h
  | stuck => exact h
theorem rOk.bind {r : R α} {f : α → Mem → R β} {k : β → Mem → Wd → Hp → Prop} (h : rOk K W σ w (r.bind f) k) : rOk K W σ w r (fun a m w' _ => rOk K W σ w' (f a m) k) := by
  cases r with
  | ok a m => exact fun w2 H l2 _ => rOk.mono l2 h
  | err e m => exact h
  | stuck => exact h
end
def eK (K : PySem.W.Frag) (Q : VK) : D → Mem → Wd → Hp → Prop := fun d _ w H => ∀ v, rep K w d v → Q v H
def tK (Q : Bool → Hp → Prop) : Bool → Mem → Wd → Hp → Prop := fun b _ _ H => Q b H
def aK (K : PySem.W.Frag) (Q : List V → Hp → Prop) : List D → Mem → Wd → Hp → Prop := fun ds _ w H => ∀ vs, reps K w ds vs → Q vs H
def eOf (K : PySem.W.Frag) (W : WX) (f : EF) : TE := fun σ H Q => ∃ w m sd, Wf K w H m ∧ slR K w sd σ ∧ rOk K W σ w (f sd m) (eK K Q)
def tOf (K : PySem.W.Frag) (W : WX) (f : TF) : TT := fun σ H Q => ∃ w m sd, Wf K w H m ∧ slR K w sd σ ∧ rOk K W σ w (f sd m) (tK Q)
def aOf (K : PySem.W.Frag) (W : WX) (f : AF) : TA := fun σ H Q => ∃ w m sd, Wf K w H m ∧ slR K w sd σ ∧ rOk K W σ w (f sd m) (aK K Q)
def sOk (K : PySem.W.Frag) (W : WX) (w : Wd) (r : SR) (D : Ends) : Prop := match r with
  | .nx sd m => ∀ w' H σ, Le w w' → Wf K w' H m → slR K w' sd σ → D.nx σ H
  | .rt d m => ∀ w' H v, Le w w' → Wf K w' H m → rep K w' d v → D.rt v H
  | .bk sd m => ∀ w' H σ, Le w w' → Wf K w' H m → slR K w' sd σ → D.bk σ H
  | .ct sd m => ∀ w' H σ, Le w w' → Wf K w' H m → slR K w' sd σ → D.ct σ H
  | .er e sd m => ∀ w' H σ cls dx, Le w w' → Wf K w' H m → slR K w' sd σ → erR K w' H e cls dx → W cls dx σ H
  | .stuck => False
def sOf (K : PySem.W.Frag) (W : WX) (f : SF) : TS := fun D σ H => ∃ w m sd, Wf K w H m ∧ slR K w sd σ ∧ sOk K W w (f sd m) D
theorem sOk.mono {K : PySem.W.Frag} {W : WX} {w w' : Wd} {r : SR} {D : Ends} (l : Le w w') (h : sOk K W w r D) : sOk K W w' r D := by
  cases r with
  | nx sd m => exact fun w2 H σ l2 => h w2 H σ (l.trans l2)
  | rt d m => exact fun w2 H v l2 => h w2 H v (l.trans l2)
  | bk sd m => exact fun w2 H σ l2 => h w2 H σ (l.trans l2)
  | ct sd m => exact fun w2 H σ l2 => h w2 H σ (l.trans l2)
  | er e sd m => exact fun w2 H σ cls dx l2 => h w2 H σ cls dx (l.trans l2)
  | stuck => exact h

/-! ### judgements -/
theorem _root_.L2.PE.weak {X : Cx} {e : Expr} {t u : TE} (h : PE X e t) (i : ∀ σ H Q, u σ H Q → t σ H Q) : PE X e u := ⟨fun pins s σ H Q I q => h.run pins s σ H Q I (i σ H Q q)⟩
theorem _root_.L2.PT.weak {X : Cx} {e : Expr} {t u : TT} (h : PT X e t) (i : ∀ σ H Q, u σ H Q → t σ H Q) : PT X e u := ⟨fun pins s σ H Q I q => h.run pins s σ H Q I (i σ H Q q)⟩
theorem _root_.L2.PA.weak {X : Cx} {e : List Expr} {t u : TA} (h : PA X e t) (i : ∀ σ H Q, u σ H Q → t σ H Q) : PA X e u := ⟨fun pos pins s σ H Q I q => h.run pos pins s σ H Q I (i σ H Q q)⟩
theorem _root_.L2.PS.weak {X : Cx} {e : Stmt} {t u : TS} (h : PS X e t) (i : ∀ D σ H, u D σ H → t D σ H) : PS X e u := ⟨fun pins s σ H D I q => h.run pins s σ H D I (i D σ H q)⟩
theorem _root_.L2.PSs.weak {X : Cx} {e : List Stmt} {t u : TS} (h : PSs X e t) (i : ∀ D σ H, u D σ H → t D σ H) : PSs X e u := ⟨fun pins s σ H D I q => h.run pins s σ H D I (i D σ H q)⟩
theorem _root_.L2.PW.weak {X : Cx} {e : Expr} {t u : TT} (h : PW X e t) (i : ∀ σ H Q, u σ H Q → t σ H Q) : PW X e u := ⟨fun wh pins s σ H Q I q => h.run wh pins s σ H Q I (i σ H Q q)⟩
abbrev DE (X : Cx) (W : WX) (e : Expr) (f : EF) : Prop := PE X e (eOf X.K W f)
abbrev DT (X : Cx) (W : WX) (e : Expr) (f : TF) : Prop := PT X e (tOf X.K W f)
abbrev DW (X : Cx) (W : WX) (e : Expr) (f : TF) : Prop := PW X e (tOf X.K W f)
abbrev DA (X : Cx) (W : WX) (es : List Expr) (f : AF) : Prop := PA X es (aOf X.K W f)
abbrev DS (X : Cx) (W : WX) (s : Stmt) (f : SF) : Prop := PS X s (sOf X.K W f)
abbrev DSs (X : Cx) (W : WX) (s : List Stmt) (f : SF) : Prop := PSs X s (sOf X.K W f)
end Dl

set_option Elab.async false
set_option linter.all false
set_option maxRecDepth 100000
set_option maxHeartbeats 4000000
/-! DExp: the rules of expressions, over executable readings. -/
namespace Dl
open PySem PySem.Spec PyProof.Rows L2
section
variable {X : Cx} {W : WX} {e a b c : Expr} {es : List Expr} {pos : Pos} {fa fb fc : EF} {ga' : AF}

/-! ### names, constants -/
def xVar (i : Nat) : EF := fun sd m => match sd[i]? with
  | some (some d) => .ok d m
  | _ => .stuck
theorem d_var {i : Nat} (h : PE X e (tVar i)) : DE X W e (xVar i) := h.weak fun σ H Q ⟨w, m, sd, wf, sl, r⟩ => by
  unfold xVar at r
  cases q : sd[i]? with
  | none => rw [q] at r; exact r.elim
  | some o => cases o with
    | none => rw [q] at r; exact r.elim
    | some d =>
      rw [q] at r
      obtain ⟨v, e1, rv⟩ := sl.get q
      exact ⟨v, e1, r w H (Le.refl w) wf v rv⟩
def xC (d : D) : EF := fun _ m => .ok d m
theorem d_c {v : V} {d : D} (h : PE X e (tC v)) (hr : ∀ w, rep X.K w d v) : DE X W e (xC d) := h.weak fun σ H Q ⟨w, m, sd, wf, sl, r⟩ => r w H (Le.refl w) wf v (hr w)
theorem d_int {i : Int} {j} : DE X W (.Constant (.int i) j pos) (xC (.int i)) := d_c pe_int fun _ => rfl
theorem d_bl {i : Bool} {j} : DE X W (.Constant (.bool i) j pos) (xC (.bl i)) := d_c pe_bl fun _ => rfl
theorem d_non {j} : DE X W (.Constant .none j pos) (xC .non) := d_c pe_non fun _ => rfl
theorem d_str {i : Str} {j} : DE X W (.Constant (.str i) j pos) (xC (.str i)) := d_c pe_str fun _ => rfl

/-! ### operations on values -/
abbrev Op2 := D → D → Mem → Option (D × Mem)
def vOk (K : PySem.W.Frag) (w : Wd) : Option (D × Mem) → VK → Prop
  | some (d, m), Q => ∀ w' H v, Le w w' → Wf K w' H m → rep K w' d v → Q v H
  | none, _ => False
def OSat (K : PySem.W.Frag) (r : R2) (o : Op2) : Prop := ∀ w H m d1 d2 x y Q, Wf K w H m → rep K w d1 x → rep K w d2 y → vOk K w (o d1 d2 m) Q → r x y H Q
theorem vOk_of {K : PySem.W.Frag} {W : WX} {σ : L2.St} {w : Wd} {o : Option (D × Mem)} {Q : VK} (h : rOk K W σ w (R.ofO o) (eK K Q)) : vOk K w o Q := by
  cases o with
  | none => exact h
  | some p => obtain ⟨d, m⟩ := p; exact fun w' H v l f r => h w' H l f v r
def xOp (o : Op2) (fa fb : EF) : EF := fun sd m => (fa sd m).bind fun d1 m1 => (fb sd m1).bind fun d2 m2 => R.ofO (o d1 d2 m2)
theorem s_op {K : PySem.W.Frag} {r : R2} {o : Op2} (hs : OSat K r o) (σ : L2.St) (H : Hp) (Q : VK) : eOf K W (xOp o fa fb) σ H Q → tOp r (eOf K W fa) (eOf K W fb) σ H Q := fun ⟨w, m, sd, wf, sl, h⟩ =>
  ⟨w, m, sd, wf, sl, h.bind.imp fun d1 m1 w1 H1 l1 wf1 h1 x rx => ⟨w1, m1, sd, wf1, sl.mono l1, h1.bind.imp fun d2 m2 w2 H2 l2 wf2 h2 y ry => hs w2 H2 m2 d1 d2 x y Q wf2 (rx.mono l2) ry (vOk_of h2)⟩⟩
theorem d_op {op : Operator} {r : R2} {o : Op2} (ho : OpR X (binaryOp op) r) (hs : OSat X.K r o) (ha : DE X W a fa) (hb : DE X W b fb) : DE X W (.BinOp a op b pos) (xOp o fa fb) :=
  (pe_op ho ha hb).weak (s_op hs)
theorem d_cmp {op : CmpOp} {r : R2} {o : Op2} (ho : OpR X (compareOp op) r) (hs : OSat X.K r o) (ha : DE X W a fa) (hb : DE X W b fb) (hm : behindInMarks op b = false) : DE X W (.Compare a [op] [b] pos) (xOp o fa fb) :=
  (pe_cmpR ho ha hb hm).weak (s_op hs)
/-- a value as a test: it must be a bool -/
def xT (f : EF) : TF := fun sd m => (f sd m).bind fun d m1 => match d with
  | .bl b => .ok b m1
  | _ => .stuck
theorem s_T {K : PySem.W.Frag} {f : EF} {t : TE} (i : ∀ σ H Q, eOf K W f σ H Q → t σ H Q) (σ : L2.St) (H : Hp) (Q : Bool → Hp → Prop) : tOf K W (xT f) σ H Q → t σ H (fun x H' => ∃ k, x = .bl k ∧ Q k H') := fun ⟨w, m, sd, wf, sl, h⟩ =>
  i σ H _ ⟨w, m, sd, wf, sl, h.bind.imp fun d1 m1 w1 H1 l1 wf1 h1 x rx => by
    cases d1 with
    | bl b => exact ⟨b, rx, h1 w1 H1 (Le.refl _) wf1⟩
    | _ => exact h1.elim⟩
theorem d_cmpT {op : CmpOp} {r : R2} {o : Op2} (ho : OpR X (compareOp op) r) (hs : OSat X.K r o) (ha : DE X W a fa) (hb : DE X W b fb) (hm : behindInMarks op b = false) : DT X W (.Compare a [op] [b] pos) (xT (xOp o fa fb)) :=
  (pt_cmpR ho ha hb hm).weak (s_T (s_op hs))
theorem d_val (h : DE X W e fa) (he : ∀ whole, isTrue e X.env whole = (do let v ← whole; standAt e.pos; holding [v] (truthy v)) := by intro _; rfl) : DT X W e (xT fa) :=
  (pt_val h he).weak (s_T fun _ _ _ q => q)
def xChain (o o' : Op2) (fa fb fc : EF) : EF := fun sd m => (fa sd m).bind fun d1 m1 => (fb sd m1).bind fun d2 m2 => (R.ofO (o d1 d2 m2)).bind fun z m3 => match z with
  | .bl true => (fc sd m3).bind fun d3 m4 => R.ofO (o' d2 d3 m4)
  | .bl false => .ok (.bl false) m3
  | _ => .stuck
theorem s_chain {K : PySem.W.Frag} {r r' : R2} {o o' : Op2} (hs : OSat K r o) (hs' : OSat K r' o') (σ : L2.St) (H : Hp) (Q : VK) : eOf K W (xChain o o' fa fb fc) σ H Q → tChain r r' (eOf K W fa) (eOf K W fb) (eOf K W fc) σ H Q := fun ⟨w, m, sd, wf, sl, h⟩ =>
  ⟨w, m, sd, wf, sl, h.bind.imp fun d1 m1 w1 H1 l1 wf1 h1 x rx => ⟨w1, m1, sd, wf1, sl.mono l1, h1.bind.imp fun d2 m2 w2 H2 l2 wf2 h2 y ry => by
    refine hs w2 H2 m2 d1 d2 x y _ wf2 (rx.mono l2) ry ?_
    have h3 := h2.bind
    cases q : o d1 d2 m2 with
    | none => rw [q] at h3; exact h3
    | some p =>
      obtain ⟨z, m3⟩ := p
      rw [q] at h3
      intro w3 H3 v l3 wf3 rv
      have h4 := h3 w3 H3 l3 wf3
      cases z with
      | bl k =>
        refine ⟨k, rv, ?_⟩
        cases k with
        | true =>
          show eOf K W fc σ H3 _
          exact ⟨w3, m3, sd, wf3, ((sl.mono l1).mono l2).mono l3, h4.bind.imp fun d3 m4 w4 H4 l4 wf4 h5 u ru => hs' w4 H4 m4 d2 d3 y u Q wf4 ((ry.mono l3).mono l4) ru (vOk_of h5)⟩
        | false =>
          show Q (.bl false) H3
          exact h4 w3 H3 (Le.refl _) wf3 _ rfl
      | _ => exact h4.elim⟩⟩
theorem d_chain {op op' : CmpOp} {r r' : R2} {o o' : Op2} (ho : OpR X (compareOp op) r) (ho' : OpR X (compareOp op') r') (hs : OSat X.K r o) (hs' : OSat X.K r' o') (ha : DE X W a fa) (hb : DE X W b fb) (hc : DE X W c fc)
    (hm : lastMarks [op, op'] [b, c] = false := by with_unfolding_all rfl) : DE X W (.Compare a [op, op'] [b, c] pos) (xChain o o' fa fb fc) := (pe_chain ho ho' ha hb hc hm).weak (s_chain hs hs')
theorem d_chainT {op op' : CmpOp} {r r' : R2} {o o' : Op2} (ho : OpR X (compareOp op) r) (ho' : OpR X (compareOp op') r') (hs : OSat X.K r o) (hs' : OSat X.K r' o') (ha : DE X W a fa) (hb : DE X W b fb) (hc : DE X W c fc)
    (hm : lastMarks [op, op'] [b, c] = false := by with_unfolding_all rfl) : DT X W (.Compare a [op, op'] [b, c] pos) (xT (xChain o o' fa fb fc)) := (pt_chain ho ho' ha hb hc hm).weak (s_T (s_chain hs hs'))
def xUn (o : D → Mem → Option (D × Mem)) (fa : EF) : EF := fun sd m => (fa sd m).bind fun d1 m1 => R.ofO (o d1 m1)
def oNeg : D → Mem → Option (D × Mem)
  | .int i, m => some (.int (-i), m)
  | _, _ => none
theorem d_neg (ha : DE X W a fa) : DE X W (.UnaryOp .USub a pos) (xUn oNeg fa) := (pe_un un_neg ha).weak fun σ H Q ⟨w, m, sd, wf, sl, h⟩ =>
  ⟨w, m, sd, wf, sl, h.bind.imp fun d1 m1 w1 H1 l1 wf1 h1 x rx => by
    cases d1 with
    | int i => exact ⟨i, rx, h1 w1 H1 (Le.refl _) wf1 _ rfl⟩
    | _ => exact h1.elim⟩

/-! ### and, or, not, if -/
variable {ta tb : TF} {rest : List Expr}
def xAnd (ta tb : TF) : TF := fun sd m => (ta sd m).bind fun k m1 => if k then tb sd m1 else .ok false m1
def xOr (ta tb : TF) : TF := fun sd m => (ta sd m).bind fun k m1 => if k then .ok true m1 else tb sd m1
def xNot (ta : TF) : TF := fun sd m => (ta sd m).bind fun k m1 => .ok (!k) m1
theorem dw_and1 (ha : DT X W a ta) : DW X W (.BoolOp .And [a] pos) ta := pw_and1 ha
theorem dw_or1 (ha : DT X W a ta) : DW X W (.BoolOp .Or [a] pos) ta := pw_or1 ha
theorem dw_and (ha : DT X W a ta) (hb : DW X W (.BoolOp .And (b :: rest) pos) tb) : DW X W (.BoolOp .And (a :: b :: rest) pos) (xAnd ta tb) := (pw_and ha hb).weak fun σ H Q ⟨w, m, sd, wf, sl, h⟩ =>
  ⟨w, m, sd, wf, sl, h.bind.imp fun k m1 w1 H1 l1 wf1 h1 => by
    cases k with
    | true => exact ⟨w1, m1, sd, wf1, sl.mono l1, h1⟩
    | false => exact h1 w1 H1 (Le.refl _) wf1⟩
theorem dw_or (ha : DT X W a ta) (hb : DW X W (.BoolOp .Or (b :: rest) pos) tb) : DW X W (.BoolOp .Or (a :: b :: rest) pos) (xOr ta tb) := (pw_or ha hb).weak fun σ H Q ⟨w, m, sd, wf, sl, h⟩ =>
  ⟨w, m, sd, wf, sl, h.bind.imp fun k m1 w1 H1 l1 wf1 h1 => by
    cases k with
    | true => exact h1 w1 H1 (Le.refl _) wf1
    | false => exact ⟨w1, m1, sd, wf1, sl.mono l1, h1⟩⟩
theorem d_notT (ha : DT X W a ta) : DT X W (.UnaryOp .Not a pos) (xNot ta) := (pt_not ha).weak fun σ H Q ⟨w, m, sd, wf, sl, h⟩ =>
  ⟨w, m, sd, wf, sl, h.bind.imp fun k m1 w1 H1 l1 wf1 h1 => h1 w1 H1 (Le.refl _) wf1⟩
def xIf (t : TF) (fa fb : EF) : EF := fun sd m => (t sd m).bind fun k m1 => if k then fa sd m1 else fb sd m1
theorem d_if {t : TF} (hc : DT X W c t) (ha : DE X W a fa) (hb : DE X W b fb) : DE X W (.IfExp c a b pos) (xIf t fa fb) := (pe_ifExp hc ha hb).weak fun σ H Q ⟨w, m, sd, wf, sl, h⟩ =>
  ⟨w, m, sd, wf, sl, h.bind.imp fun k m1 w1 H1 l1 wf1 h1 => by
    cases k with
    | true => exact ⟨w1, m1, sd, wf1, sl.mono l1, h1⟩
    | false => exact ⟨w1, m1, sd, wf1, sl.mono l1, h1⟩⟩
def xB (f : EF) (k : Bool → EF) : EF := fun sd m => (f sd m).bind fun d m1 => match d with
  | .bl b => k b sd m1
  | _ => .stuck
def xAndV (fa fb : EF) : EF := xB fa fun b sd m => if b then fb sd m else .ok (.bl false) m
def xOrV (fa fb : EF) : EF := xB fa fun b sd m => if b then .ok (.bl true) m else fb sd m
def xNotV (fa : EF) : EF := xB fa fun b _ m => .ok (.bl (!b)) m
theorem d_one {op} (h : DE X W a fa) : DE X W (.BoolOp op [a] pos) fa := pe_one h
theorem d_andV (ha : DE X W a fa) (hb : DE X W (.BoolOp .And (b :: rest) pos) fb) : DE X W (.BoolOp .And (a :: b :: rest) pos) (xAndV fa fb) := (pe_and ha hb).weak fun σ H Q ⟨w, m, sd, wf, sl, h⟩ =>
  ⟨w, m, sd, wf, sl, h.bind.imp fun d m1 w1 H1 l1 wf1 h1 x rx => by
    cases d with
    | bl k =>
      refine ⟨k, rx, ?_⟩
      cases k with
      | true => exact ⟨w1, m1, sd, wf1, sl.mono l1, h1⟩
      | false => exact h1 w1 H1 (Le.refl _) wf1 _ rfl
    | _ => exact h1.elim⟩
theorem d_orV (ha : DE X W a fa) (hb : DE X W (.BoolOp .Or (b :: rest) pos) fb) : DE X W (.BoolOp .Or (a :: b :: rest) pos) (xOrV fa fb) := (pe_or ha hb).weak fun σ H Q ⟨w, m, sd, wf, sl, h⟩ =>
  ⟨w, m, sd, wf, sl, h.bind.imp fun d m1 w1 H1 l1 wf1 h1 x rx => by
    cases d with
    | bl k =>
      refine ⟨k, rx, ?_⟩
      cases k with
      | true => exact h1 w1 H1 (Le.refl _) wf1 _ rfl
      | false => exact ⟨w1, m1, sd, wf1, sl.mono l1, h1⟩
    | _ => exact h1.elim⟩
theorem d_notV (ha : DE X W a fa) : DE X W (.UnaryOp .Not a pos) (xNotV fa) := (pe_not ha).weak fun σ H Q ⟨w, m, sd, wf, sl, h⟩ =>
  ⟨w, m, sd, wf, sl, h.bind.imp fun d m1 w1 H1 l1 wf1 h1 x rx => by
    cases d with
    | bl k => exact ⟨k, rx, h1 w1 H1 (Le.refl _) wf1 _ rfl⟩
    | _ => exact h1.elim⟩

/-! ### displays -/
def aNil : AF := fun _ m => .ok [] m
def aCons (f : EF) (r : AF) : AF := fun sd m => (f sd m).bind fun d m1 => (r sd m1).bind fun ds m2 => .ok (d :: ds) m2
theorem da_nil : DA X W [] aNil := pa_nil.weak fun σ H Q ⟨w, m, sd, wf, sl, h⟩ => h w H (Le.refl _) wf [] rfl
theorem da_cons {ar : AF} (ha : DE X W e fa) (hr : DA X W es ar) (hs : starEach (e :: es) X.env = (false, eval e X.env) :: starEach es X.env := by rfl) : DA X W (e :: es) (aCons fa ar) := (pa_cons ha hr hs).weak fun σ H Q ⟨w, m, sd, wf, sl, h⟩ =>
  ⟨w, m, sd, wf, sl, h.bind.imp fun d m1 w1 H1 l1 wf1 h1 x rx => ⟨w1, m1, sd, wf1, sl.mono l1, h1.bind.imp fun ds m2 w2 H2 l2 wf2 h2 xs rxs => h2 w2 H2 (Le.refl _) wf2 (x :: xs) ⟨x, xs, rfl, rx.mono l2, rxs⟩⟩⟩
/-- the most items that a list or a tuple is to have here -/
abbrev big : Nat := 16777216
theorem big_ok {n : Nat} (h : n ≤ big) : n ≤ sizeLine := by rw [sizeLine_eq]; exact h
theorem big_lt {n : Nat} (h : n < big) : n < sizeLine := by rw [sizeLine_eq]; exact h
def xTup (r : AF) : EF := fun sd m => (r sd m).bind fun ds m1 => if ds.length ≤ big then .ok (.tup ds) m1 else .stuck
def xLst (r : AF) : EF := fun sd m => (r sd m).bind fun ds m1 => if ds.length ≤ big then .ok (.lst ds) m1 else .stuck
/-- a list that is to change: a new cell -/
def xLstM (r : AF) : EF := fun sd m => (r sd m).bind fun ds m1 => if ds.length ≤ big then .ok (.loc m1.length) (m1 ++ [.lst ds]) else .stuck
theorem new_tup {K : PySem.W.Frag} {w : Wd} {H : Hp} {m : Mem} {p : Addr} {ds : List D} {xs : List V} (wf : Wf K w H m) (r : reps K w ds xs) (hp : H p = none) :
    Le w (w.add p (.tup xs)) ∧ Wf K (w.add p (.tup xs)) (upd H p (.tup xs)) m ∧ rep K (w.add p (.tup xs)) (.tup ds) (.ref p) := by
  obtain ⟨l, f⟩ := wf.add (o := .tup xs) hp
  exact ⟨l, f, p, xs, rfl, upd_same, r.mono l⟩
theorem new_lst {K : PySem.W.Frag} {w : Wd} {H : Hp} {m : Mem} {p : Addr} {ds : List D} {xs : List V} (wf : Wf K w H m) (r : reps K w ds xs) (hp : H p = none) :
    Le w (w.add p (.lst xs)) ∧ Wf K (w.add p (.lst xs)) (upd H p (.lst xs)) m ∧ rep K (w.add p (.lst xs)) (.lst ds) (.ref p) := by
  obtain ⟨l, f⟩ := wf.add (o := .lst xs) hp
  exact ⟨l, f, p, xs, rfl, upd_same, r.mono l⟩
theorem new_cell {K : PySem.W.Frag} {w : Wd} {H : Hp} {m : Mem} {p : Addr} {ds : List D} {xs : List V} (wf : Wf K w H m) (r : reps K w ds xs) (hp : H p = none) :
    Le w (w.cell p) ∧ Wf K (w.cell p) (upd H p (.lst xs)) (m ++ [.lst ds]) ∧ rep K (w.cell p) (.loc m.length) (.ref p) := by
  refine ⟨Le.cell, wf.new hp (fun a o h e => by rw [upd_ne h]; exact e) ⟨xs, upd_same, r.mono Le.cell⟩, p, rfl, ?_⟩
  show (w.adr ++ [p])[m.length]? = some p
  rw [← wf.len, List.getElem?_append_right (Nat.le_refl _), Nat.sub_self]
  rfl
theorem d_tup {x1} {r : AF} (h : DA X W es r) : DE X W (.Tuple es x1 pos) (xTup r) := (pe_tup h).weak fun σ H Q ⟨w, m, sd, wf, sl, h⟩ =>
  ⟨w, m, sd, wf, sl, h.bind.imp fun ds m1 w1 H1 l1 wf1 h1 xs rxs => by
    by_cases q : ds.length ≤ big
    · rw [if_pos q] at h1
      refine ⟨big_ok (by rw [rxs.length]; exact q), fun p hp => ?_⟩
      obtain ⟨l, f, rv⟩ := new_tup wf1 rxs hp
      exact h1 _ _ l f _ rv
    · rw [if_neg q] at h1; exact h1.elim⟩
theorem d_lst {r : AF} (h : DA X W es r) : DE X W (.List es pos) (xLst r) := (pe_lst h).weak fun σ H Q ⟨w, m, sd, wf, sl, h⟩ =>
  ⟨w, m, sd, wf, sl, h.bind.imp fun ds m1 w1 H1 l1 wf1 h1 xs rxs => by
    by_cases q : ds.length ≤ big
    · rw [if_pos q] at h1
      refine ⟨big_ok (by rw [rxs.length]; exact q), fun p hp => ?_⟩
      obtain ⟨l, f, rv⟩ := new_lst wf1 rxs hp
      exact h1 _ _ l f _ rv
    · rw [if_neg q] at h1; exact h1.elim⟩
theorem d_lstM {r : AF} (h : DA X W es r) : DE X W (.List es pos) (xLstM r) := (pe_lst h).weak fun σ H Q ⟨w, m, sd, wf, sl, h⟩ =>
  ⟨w, m, sd, wf, sl, h.bind.imp fun ds m1 w1 H1 l1 wf1 h1 xs rxs => by
    by_cases q : ds.length ≤ big
    · rw [if_pos q] at h1
      refine ⟨big_ok (by rw [rxs.length]; exact q), fun p hp => ?_⟩
      obtain ⟨l, f, rv⟩ := new_cell wf1 rxs hp
      exact h1 _ _ l f _ rv
    · rw [if_neg q] at h1; exact h1.elim⟩
end
end Dl

set_option Elab.async false
set_option linter.all false
set_option maxRecDepth 100000
set_option maxHeartbeats 4000000
/-! DOps: operations on values, each with its rule. -/
namespace Dl
open PySem PySem.Spec PyProof.Rows L2

/-! ### sequences -/
def D.seq? (m : Mem) : D → Option (List D)
  | .tup l => some l
  | .ctup l => some l
  | .lst l => some l
  | .scr l => some l
  | .loc n => match m[n]? with
    | some (.lst l) => some l
    | _ => none
  | _ => none
def D.lst? (m : Mem) : D → Option (List D)
  | .lst l => some l
  | .loc n => match m[n]? with
    | some (.lst l) => some l
    | _ => none
  | _ => none
def D.tup? : D → Option (List D)
  | .tup l => some l
  | .ctup l => some l
  | _ => none
def D.rdl? (m : Mem) : D → Option (List D)
  | .lst l => some l
  | .scr l => some l
  | .loc n => match m[n]? with
    | some (.lst l) => some l
    | _ => none
  | _ => none
section
variable {K : PySem.W.Frag} {w : Wd} {H : Hp} {m : Mem} {d : D} {v : V} {l : List D}
theorem lstR (wf : Wf K w H m) (r : rep K w d v) (h : d.lst? m = some l) : ∃ a xs, v = .ref a ∧ H a = some (.lst xs) ∧ reps K w l xs := by
  cases d with
  | lst l' =>
    have e : l' = l := Option.some.inj h
    subst e
    obtain ⟨a, xs, e, h, q⟩ := r
    exact ⟨a, xs, e, wf.subL h, q⟩
  | loc n =>
    have h' : (match m[n]? with
      | some (.lst l) => some l
      | _ => none) = some l := h
    cases q : m[n]? with
    | none => rw [q] at h'; cases h'
    | some c =>
      rw [q] at h'
      cases c with
      | lst l' =>
        have e : l' = l := Option.some.inj h'
        subst e
        obtain ⟨a, e, _, xs, h2, r2⟩ := wf.at r q
        exact ⟨a, xs, e, h2, r2⟩
      | _ => cases h'
  | _ => cases h
theorem tupR (wf : Wf K w H m) (r : rep K w d v) (h : d.tup? = some l) : ∃ a xs, v = .ref a ∧ SqT K H a xs ∧ reps K w l xs := by
  cases d with
  | tup l' =>
    have e : l' = l := Option.some.inj h
    subst e
    obtain ⟨a, xs, e, h, q⟩ := r
    exact ⟨a, xs, e, .of (wf.subT h), q⟩
  | ctup l' =>
    have e : l' = l := Option.some.inj h
    subst e
    obtain ⟨a, xs, e, h, q⟩ := r
    exact ⟨a, xs, e, h H, q⟩
  | _ => cases h
theorem rdlR (wf : Wf K w H m) (r : rep K w d v) (h : d.rdl? m = some l) : ∃ a xs, v = .ref a ∧ SqL K H a xs ∧ reps K w l xs := by
  cases d with
  | lst l' =>
    obtain ⟨a, xs, e, h, q⟩ := lstR wf r (show (D.lst l').lst? m = some l from h)
    exact ⟨a, xs, e, .of h, q⟩
  | loc n =>
    obtain ⟨a, xs, e, h, q⟩ := lstR wf r (show (D.loc n).lst? m = some l from h)
    exact ⟨a, xs, e, .of h, q⟩
  | scr l' =>
    have e : l' = l := Option.some.inj h
    subst e
    obtain ⟨a, xs, e, h, q⟩ := r
    exact ⟨a, xs, e, wf.subS h, q⟩
  | _ => cases h
theorem seqR (wf : Wf K w H m) (r : rep K w d v) (h : d.seq? m = some l) : ∃ a xs, v = .ref a ∧ (SqL K H a xs ∨ SqT K H a xs) ∧ reps K w l xs := by
  cases d with
  | tup l' =>
    obtain ⟨a, xs, e, h, q⟩ := tupR wf r (show (D.tup l').tup? = some l from h)
    exact ⟨a, xs, e, .inr h, q⟩
  | ctup l' =>
    obtain ⟨a, xs, e, h, q⟩ := tupR wf r (show (D.ctup l').tup? = some l from h)
    exact ⟨a, xs, e, .inr h, q⟩
  | lst l' =>
    obtain ⟨a, xs, e, h, q⟩ := rdlR wf r (show (D.lst l').rdl? m = some l from h)
    exact ⟨a, xs, e, .inl h, q⟩
  | loc n =>
    obtain ⟨a, xs, e, h, q⟩ := rdlR wf r (show (D.loc n).rdl? m = some l from h)
    exact ⟨a, xs, e, .inl h, q⟩
  | scr l' =>
    obtain ⟨a, xs, e, h, q⟩ := rdlR wf r (show (D.scr l').rdl? m = some l from h)
    exact ⟨a, xs, e, .inl h, q⟩
  | _ => cases h
theorem vOk.ret {Q : VK} {d : D} {v : V} (h : vOk K w (some (d, m)) Q) (wf : Wf K w H m) (r : rep K w d v) : Q v H := h w H v (Le.refl w) wf r
end

/-! ### arithmetic -/
def oAdd : Op2 := fun d1 d2 m => match d1, d2 with
  | .int i, .int j => some (.int (i + j), m)
  | .str s, .str t => if s.length + t.length ≤ big then some (.str (s ++ t), m) else none
  | _, _ => match d1.lst? m, d2.lst? m with
    | some a, some b => if a.length + b.length ≤ big then some (.lst (a ++ b), m) else none
    | _, _ => match d1.tup?, d2.tup? with
      | some a, some b => if a.length + b.length ≤ big then some (if a.isEmpty then d2 else if b.isEmpty then d1 else .tup (a ++ b), m) else none
      | _, _ => none
section
variable {X : Cx} {W : WX} {a b c e : Expr} {es : List Expr} {pos : Pos} {fa fb fc : EF}
theorem add_cases {d1 d2 : D} {m : Mem} {o : Option (D × Mem)} (h : oAdd d1 d2 m = o) : (∃ i j, d1 = .int i ∧ d2 = .int j ∧ o = some (.int (i + j), m)) ∨
    (∃ s t, d1 = .str s ∧ d2 = .str t ∧ o = if s.length + t.length ≤ big then some (.str (s ++ t), m) else none) ∨
    o = (match d1.lst? m, d2.lst? m with
      | some a, some b => if a.length + b.length ≤ big then some (.lst (a ++ b), m) else none
      | _, _ => match d1.tup?, d2.tup? with
        | some a, some b => if a.length + b.length ≤ big then some (if a.isEmpty then d2 else if b.isEmpty then d1 else .tup (a ++ b), m) else none
        | _, _ => none) := by
  unfold oAdd at h
  split at h
  · exact .inl ⟨_, _, rfl, rfl, h.symm⟩
  · exact .inr (.inl ⟨_, _, rfl, rfl, h.symm⟩)
  · exact .inr (.inr h.symm)
abbrev rAddA (X : Cx) : R2 := fun x y H Q => (((rI0 fun i j => .int (i + j)) x y H Q ∨ (∃ i j, x = .str i ∧ y = .str j ∧ i.length + j.length ≤ sizeLine ∧ Q (.str (i ++ j)) H)) ∨ rCat x y H Q) ∨ rCatA X.K x y H Q
theorem op_addA : OpR X (binaryOp .Add) (rAddA X) := ((op_add.or op_add_str).or op_cat).or op_catA
theorem s_add : OSat X.K (rAddA X) oAdd := by
  intro w H m d1 d2 x y Q wf r1 r2 h
  rcases add_cases (rfl : oAdd d1 d2 m = oAdd d1 d2 m) with ⟨i, j, rfl, rfl, _⟩ | ⟨s, t, rfl, rfl, _⟩ | e
  · exact .inl (.inl (.inl ⟨i, j, r1, r2, h.ret wf rfl⟩))
  · have h' : vOk X.K w (if s.length + t.length ≤ big then some (.str (s ++ t), m) else none) Q := h
    by_cases q : s.length + t.length ≤ big
    · rw [if_pos q] at h'
      exact .inl (.inl (.inr ⟨s, t, r1, r2, big_ok q, h'.ret wf rfl⟩))
    · rw [if_neg q] at h'; exact h'.elim
  · rw [e] at h
    split at h
    · rename_i a b e1 e2
      by_cases q : a.length + b.length ≤ big
      · rw [if_pos q] at h
        obtain ⟨p1, xs, rfl, h1, q1⟩ := lstR wf r1 e1
        obtain ⟨p2, ys, rfl, h2, q2⟩ := lstR wf r2 e2
        refine .inl (.inr ⟨p1, p2, xs, ys, rfl, rfl, h1, h2, big_ok (by rw [q1.length, q2.length]; exact q), fun p hp => ?_⟩)
        obtain ⟨l, f, rv⟩ := new_lst wf (q1.append q2) hp
        exact h _ _ _ l f rv
      · rw [if_neg q] at h; exact h.elim
    · split at h
      · rename_i a b e1 e2
        by_cases q : a.length + b.length ≤ big
        · rw [if_pos q] at h
          obtain ⟨p1, xs, rfl, h1, q1⟩ := tupR wf r1 e1
          obtain ⟨p2, ys, rfl, h2, q2⟩ := tupR wf r2 e2
          refine .inr ⟨p1, p2, xs, ys, rfl, rfl, h1, h2, big_ok (by rw [q1.length, q2.length]; exact q), fun z => ?_, fun z1 z2 => ?_, fun z1 z2 p hp => ?_⟩
          · have : a = [] := by
              have := q1.length
              rw [z] at this
              exact List.length_eq_zero_iff.mp this.symm
            subst this
            exact h.ret wf r2
          · have ha : a ≠ [] := fun z => z1 (by have := q1.length; rw [z] at this; exact List.length_eq_zero_iff.mp this)
            have hb : b = [] := by
              have := q2.length
              rw [z2] at this
              exact List.length_eq_zero_iff.mp this.symm
            subst hb
            cases a with
            | nil => exact absurd rfl ha
            | cons _ _ => exact h.ret wf r1
          · have ha : a ≠ [] := fun z => z1 (by have := q1.length; rw [z] at this; exact List.length_eq_zero_iff.mp this)
            have hb : b ≠ [] := fun z => z2 (by have := q2.length; rw [z] at this; exact List.length_eq_zero_iff.mp this)
            cases a with
            | nil => exact absurd rfl ha
            | cons a0 a =>
              cases b with
              | nil => exact absurd rfl hb
              | cons b0 b =>
                obtain ⟨l, f, rv⟩ := new_tup wf (q1.append q2) hp
                exact h _ _ _ l f rv
        · rw [if_neg q] at h; exact h.elim
      · exact h.elim
theorem d_add (ha : DE X W a fa) (hb : DE X W b fb) : DE X W (.BinOp a .Add b pos) (xOp oAdd fa fb) := d_op op_addA s_add ha hb
/-- ints in -/
def oI (g : Int → Int → Option D) : Op2 := fun d1 d2 m => match d1, d2 with
  | .int i, .int j => (g i j).map fun d => (d, m)
  | _, _ => none
theorem s_I0 {g : Int → Int → V} {g' : Int → Int → D} (h : ∀ K w i j, rep K w (g' i j) (g i j)) {K : PySem.W.Frag} : OSat K (rI0 g) (oI fun i j => some (g' i j)) := by
  intro w H m d1 d2 x y Q wf r1 r2 q
  cases d1 with
  | int i => cases d2 with
    | int j => exact ⟨i, j, r1, r2, q.ret wf (h K w i j)⟩
    | _ => exact q.elim
  | _ => exact q.elim
theorem s_I {C : Int → Int → Prop} {cb : Int → Int → Bool} (hC : ∀ i j, cb i j = true → C i j) {g : Int → Int → V} {g' : Int → Int → D} (h : ∀ K w i j, rep K w (g' i j) (g i j)) {K : PySem.W.Frag} : OSat K (rI C g) (oI fun i j => if cb i j = true then some (g' i j) else none) := by
  intro w H m d1 d2 x y Q wf r1 r2 q
  cases d1 with
  | int i => cases d2 with
    | int j =>
      have q' : vOk K w ((if cb i j = true then some (g' i j) else none).map fun d => (d, m)) Q := q
      by_cases hc : cb i j = true
      · rw [if_pos hc] at q'
        exact ⟨i, j, r1, r2, hC i j hc, q'.ret wf (h K w i j)⟩
      · rw [if_neg hc] at q'; exact q'.elim
    | _ => exact q.elim
  | _ => exact q.elim
def oSub : Op2 := oI fun i j => some (.int (i - j))
theorem d_sub (ha : DE X W a fa) (hb : DE X W b fb) : DE X W (.BinOp a .Sub b pos) (xOp oSub fa fb) := d_op op_sub (s_I0 (g := fun i j => .int (i - j)) (g' := fun i j => .int (i - j)) fun _ _ _ _ => rfl) ha hb
def cMod (_ j : Int) : Bool := decide (0 < j)
def oMod : Op2 := oI fun i j => if cMod i j = true then some (.int (i % j)) else none
theorem d_mod (ha : DE X W a fa) (hb : DE X W b fb) : DE X W (.BinOp a .Mod b pos) (xOp oMod fa fb) := d_op op_mod (s_I (C := fun _ j => 0 < j) (g := fun i j => .int (i % j)) (g' := fun i j => .int (i % j)) (fun _ _ h => of_decide_eq_true h) fun _ _ _ _ => rfl) ha hb
def cDivW (_ j : Int) : Bool := decide (0 < j) && decide (j.natAbs.log2 < 9000)
def oDiv : Op2 := oI fun i j => if cDivW i j = true then some (.int (i / j)) else none
theorem d_div (ha : DE X W a fa) (hb : DE X W b fb) : DE X W (.BinOp a .FloorDiv b pos) (xOp oDiv fa fb) := d_op op_fdivW (s_I (C := CDivW) (g := fun i j => .int (i / j)) (g' := fun i j => .int (i / j)) (fun _ _ h => by
  obtain ⟨h1, h2⟩ := Bool.and_eq_true_iff.mp h
  exact ⟨of_decide_eq_true h1, of_decide_eq_true h2⟩) fun _ _ _ _ => rfl) ha hb
def cPow (i j : Int) : Bool := decide (0 ≤ j) && (decide (j ≤ 1000000) && decide (i.natAbs < 2 ^ 64))
theorem cPow_ok {i j : Int} (h : cPow i j = true) : CPow i j := by
  obtain ⟨h1, h2⟩ := Bool.and_eq_true_iff.mp h
  obtain ⟨h2, h3⟩ := Bool.and_eq_true_iff.mp h2
  exact ⟨of_decide_eq_true h1, of_decide_eq_true h2, of_decide_eq_true h3⟩
def oPow : Op2 := oI fun i j => if cPow i j = true then some (.int (i ^ j.toNat)) else none
theorem d_pow (ha : DE X W a fa) (hb : DE X W b fb) : DE X W (.BinOp a .Pow b pos) (xOp oPow fa fb) := d_op op_pow (s_I (C := CPow) (g := fun i j => .int (i ^ j.toNat)) (g' := fun i j => .int (i ^ j.toNat)) (fun _ _ h => cPow_ok h) fun _ _ _ _ => rfl) ha hb
def oShl : Op2 := oI fun i j => if cPow i j = true then some (.int (i * 2 ^ j.toNat)) else none
theorem d_shl (ha : DE X W a fa) (hb : DE X W b fb) : DE X W (.BinOp a .LShift b pos) (xOp oShl fa fb) := d_op op_shl (s_I (C := CPow) (g := fun i j => .int (i * 2 ^ j.toNat)) (g' := fun i j => .int (i * 2 ^ j.toNat)) (fun _ _ h => cPow_ok h) fun _ _ _ _ => rfl) ha hb
/-- times: ints of any size below a million bits together, a list times an int -/
def cMulW (i j : Int) : Bool := decide (i.natAbs.log2 + j.natAbs.log2 < 1000000)
theorem cMulW_ok {i j : Int} (h : cMulW i j = true) : CMulW i j := by
  have h2 : i.natAbs.log2 + j.natAbs.log2 < 1000000 := of_decide_eq_true h
  exact h2
def repD (k : Nat) (l : List D) : List D := (List.replicate k l).flatten
theorem reps.times {K : PySem.W.Frag} {w : Wd} {ds : List D} {xs : List V} (h : reps K w ds xs) : ∀ k : Nat, reps K w (repD k ds) (List.replicate k xs).flatten
  | 0 => rfl
  | k + 1 => by
    unfold repD
    rw [List.replicate_succ, List.replicate_succ, List.flatten_cons, List.flatten_cons]
    exact h.append (reps.times h k)
/-- told apart by choice: the kernel must not count to these bounds -/
noncomputable def cIf {α : Type} (p : Prop) (a b : α) : α := @ite _ p (Classical.propDecidable p) a b
theorem cIf_pos {α : Type} {p : Prop} {a b : α} (h : p) : cIf p a b = a := @if_pos p (Classical.propDecidable p) h _ a b
theorem cIf_neg {α : Type} {p : Prop} {a b : α} (h : ¬ p) : cIf p a b = b := @if_neg p (Classical.propDecidable p) h _ a b
noncomputable def oMul : Op2 := fun d1 d2 m => match d1, d2 with
  | .int i, .int j => if cMulW i j = true then some (.int (i * j), m) else none
  | d, .int k => match d.lst? m with
    | some l => cIf (-(2 ^ 63) ≤ k ∧ k < 2 ^ 63 ∧ l.length * k.toNat ≤ big) (some (.lst (repD k.toNat l), m)) none
    | none => none
  | _, _ => none
theorem s_mul : OSat X.K (fun x y H Q => (rI CMulW fun i j => .int (i * j)) x y H Q ∨ rRep x y H Q) oMul := by
  intro w H m d1 d2 x y Q wf r1 r2 q
  unfold oMul at q
  split at q
  · rename_i i j
    by_cases hc : cMulW i j = true
    · rw [if_pos hc] at q
      exact .inl ⟨i, j, r1, r2, cMulW_ok hc, q.ret wf rfl⟩
    · rw [if_neg hc] at q; exact q.elim
  · rename_i d k _
    split at q
    · rename_i l e
      by_cases hc : -(2 ^ 63) ≤ k ∧ k < 2 ^ 63 ∧ l.length * k.toNat ≤ big
      · rw [cIf_pos hc] at q
        obtain ⟨p1, xs, rfl, h1, q1⟩ := lstR wf r1 e
        refine .inr ⟨p1, k, xs, rfl, r2, h1, hc.1, hc.2.1, big_ok (by rw [q1.length]; exact hc.2.2), fun p hp => ?_⟩
        obtain ⟨l, f, rv⟩ := new_lst wf (q1.times k.toNat) hp
        exact q _ _ _ l f rv
      · rw [cIf_neg hc] at q; exact q.elim
    · exact q.elim
  · exact q.elim
theorem d_mul (ha : DE X W a fa) (hb : DE X W b fb) : DE X W (.BinOp a .Mult b pos) (xOp oMul fa fb) := d_op (op_mulW.or op_rep) s_mul ha hb

/-! ### order of ints -/
def oLt : Op2 := oI fun i j => some (.bl (decide (i < j)))
def oLe : Op2 := oI fun i j => some (.bl (decide (i ≤ j)))
def oGt : Op2 := oI fun i j => some (.bl (decide (j < i)))
def oGe : Op2 := oI fun i j => some (.bl (decide (j ≤ i)))
theorem s_lt {K : PySem.W.Frag} : OSat K (rI0 fun i j => .bl (decide (i < j))) oLt := s_I0 (g := fun i j => .bl (decide (i < j))) (g' := fun i j => .bl (decide (i < j))) fun _ _ _ _ => rfl
theorem s_le {K : PySem.W.Frag} : OSat K (rI0 fun i j => .bl (decide (i ≤ j))) oLe := s_I0 (g := fun i j => .bl (decide (i ≤ j))) (g' := fun i j => .bl (decide (i ≤ j))) fun _ _ _ _ => rfl
theorem s_gt {K : PySem.W.Frag} : OSat K (rI0 fun i j => .bl (decide (j < i))) oGt := s_I0 (g := fun i j => .bl (decide (j < i))) (g' := fun i j => .bl (decide (j < i))) fun _ _ _ _ => rfl
theorem s_ge {K : PySem.W.Frag} : OSat K (rI0 fun i j => .bl (decide (j ≤ i))) oGe := s_I0 (g := fun i j => .bl (decide (j ≤ i))) (g' := fun i j => .bl (decide (j ≤ i))) fun _ _ _ _ => rfl
end

/-! ### equality of data -/
mutual
def D.toP : D → PyData
  | .non => .none
  | .bl b => .bool b
  | .int i => .int i
  | .str s => .str s
  | .tup l => .tuple (D.toPs l)
  | .ctup l => .tuple (D.toPs l)
  | .lst l => .list (D.toPs l)
  | .scr l => .list (D.toPs l)
  | .loc _ => .none
  | .ins _ _ => .none
  | .dK _ => .none
  | .dT _ => .none
  | .lk _ => .none
  | .fn _ => .none
  | .exn _ _ _ => .none
def D.toPs : List D → List PyData
  | [] => []
  | d :: ds => D.toP d :: D.toPs ds
end
mutual
/-- plain data of at most that depth -/
def D.ok : Nat → D → Bool
  | _, .non => true
  | _, .bl _ => true
  | _, .int _ => true
  | _, .str s => PyData.strOk s
  | 0, _ => false
  | n + 1, .tup l => D.oks n l
  | n + 1, .ctup l => D.oks n l
  | n + 1, .lst l => D.oks n l
  | n + 1, .scr l => D.oks n l
  | _, _ => false
def D.oks : Nat → List D → Bool
  | _, [] => true
  | n, d :: ds => D.ok n d && D.oks n ds
end
mutual
theorem ok_lay : ∀ (n : Nat) (d : D), d.ok n = true → d.toP.canLay0 = true ∧ d.toP.depth ≤ n
  | _, .non, _ => ⟨rfl, Nat.zero_le _⟩
  | _, .bl _, _ => ⟨rfl, Nat.zero_le _⟩
  | _, .int _, _ => ⟨rfl, Nat.zero_le _⟩
  | _, .str s, h => ⟨by cases ‹Nat› <;> exact h, Nat.zero_le _⟩
  | n + 1, .tup l, h => let ⟨a, b⟩ := oks_lay n l h; ⟨a, Nat.succ_le_succ b⟩
  | n + 1, .ctup l, h => let ⟨a, b⟩ := oks_lay n l h; ⟨a, Nat.succ_le_succ b⟩
  | n + 1, .lst l, h => let ⟨a, b⟩ := oks_lay n l h; ⟨a, Nat.succ_le_succ b⟩
  | n + 1, .scr l, h => let ⟨a, b⟩ := oks_lay n l h; ⟨a, Nat.succ_le_succ b⟩
  | 0, .tup l, h => by cases h
  | 0, .ctup l, h => by cases h
  | 0, .lst l, h => by cases h
  | 0, .scr l, h => by cases h
  | 0, .loc _, h => by cases h
  | 0, .ins _ _, h => by cases h
  | 0, .dK _, h => by cases h
  | 0, .dT _, h => by cases h
  | 0, .lk _, h => by cases h
  | 0, .fn _, h => by cases h
  | 0, .exn _ _ _, h => by cases h
  | _ + 1, .loc _, h => by cases h
  | _ + 1, .ins _ _, h => by cases h
  | _ + 1, .dK _, h => by cases h
  | _ + 1, .dT _, h => by cases h
  | _ + 1, .lk _, h => by cases h
  | _ + 1, .fn _, h => by cases h
  | _ + 1, .exn _ _ _, h => by cases h
theorem oks_lay : ∀ (n : Nat) (l : List D), D.oks n l = true → PyData.canLayAll0 (D.toPs l) = true ∧ PyData.depthAll (D.toPs l) ≤ n
  | _, [], _ => ⟨rfl, Nat.zero_le _⟩
  | n, d :: ds, h => by
    obtain ⟨h1, h2⟩ := Bool.and_eq_true_iff.mp (show (D.ok n d && D.oks n ds) = true by cases n <;> exact h)
    obtain ⟨a1, b1⟩ := ok_lay n d h1
    obtain ⟨a2, b2⟩ := oks_lay n ds h2
    exact ⟨Bool.and_eq_true_iff.mpr ⟨a1, a2⟩, Nat.max_le.mpr ⟨b1, b2⟩⟩
end
theorem ok_shaped {d : D} (h : d.ok 60 = true) : SeqAt.shaped d.toP = true := by
  obtain ⟨a, b⟩ := ok_lay 60 d h
  exact Bool.and_eq_true_iff.mpr ⟨a, decide_eq_true (by omega)⟩
section
variable {K : PySem.W.Frag} {w : Wd} {H : Hp} {m : Mem}
mutual
theorem dp_of (wf : Wf K w H m) : ∀ (n : Nat) (d : D) (v : V), d.ok n = true → rep K w d v → Dp K H v d.toP
  | _, .non, _, _, r => by cases r; exact .non
  | _, .bl b, _, _, r => by cases r; exact .bl b
  | _, .int i, _, _, r => by cases r; exact .int i
  | _, .str s, _, _, r => by cases r; exact .str s
  | n + 1, .tup l, _, h, r => by
    obtain ⟨a, xs, rfl, e, q⟩ := r
    exact .tup (.of (wf.subT e)) (dps_of wf n l xs h q)
  | n + 1, .ctup l, _, h, r => by
    obtain ⟨a, xs, rfl, e, q⟩ := r
    exact .tup (e H) (dps_of wf n l xs h q)
  | n + 1, .lst l, _, h, r => by
    obtain ⟨a, xs, rfl, e, q⟩ := r
    exact .lst (.of (wf.subL e)) (dps_of wf n l xs h q)
  | n + 1, .scr l, _, h, r => by
    obtain ⟨a, xs, rfl, e, q⟩ := r
    exact .lst (wf.subS e) (dps_of wf n l xs h q)
  | 0, .tup l, _, h, _ => by cases h
  | 0, .ctup l, _, h, _ => by cases h
  | 0, .lst l, _, h, _ => by cases h
  | 0, .scr l, _, h, _ => by cases h
  | 0, .loc _, _, h, _ => by cases h
  | 0, .ins _ _, _, h, _ => by cases h
  | 0, .dK _, _, h, _ => by cases h
  | 0, .dT _, _, h, _ => by cases h
  | 0, .lk _, _, h, _ => by cases h
  | 0, .fn _, _, h, _ => by cases h
  | 0, .exn _ _ _, _, h, _ => by cases h
  | _ + 1, .loc _, _, h, _ => by cases h
  | _ + 1, .ins _ _, _, h, _ => by cases h
  | _ + 1, .dK _, _, h, _ => by cases h
  | _ + 1, .dT _, _, h, _ => by cases h
  | _ + 1, .lk _, _, h, _ => by cases h
  | _ + 1, .fn _, _, h, _ => by cases h
  | _ + 1, .exn _ _ _, _, h, _ => by cases h
theorem dps_of (wf : Wf K w H m) : ∀ (n : Nat) (l : List D) (vs : List V), D.oks n l = true → reps K w l vs → DpAll K H vs (D.toPs l)
  | _, [], _, _, r => by cases r; exact .nil
  | n, d :: ds, _, h, r => by
    obtain ⟨y, ys, rfl, r1, r2⟩ := r
    obtain ⟨h1, h2⟩ := Bool.and_eq_true_iff.mp (show (D.ok n d && D.oks n ds) = true by cases n <;> exact h)
    exact .cons (dp_of wf n d y h1 r1) (dps_of wf n ds ys h2 r2)
end
end
/-- a list that may change, as it stands -/
def D.der (m : Mem) : D → D
  | .loc n => match m[n]? with
    | some (.lst l) => .lst l
    | _ => .loc n
  | d => d
theorem der_dp {K : PySem.W.Frag} {w : Wd} {H : Hp} {m : Mem} (wf : Wf K w H m) {n : Nat} {d : D} {v : V} (h : (d.der m).ok n = true) (r : rep K w d v) : Dp K H v (d.der m).toP := by
  cases d with
  | loc k =>
    have h' : (match m[k]? with
      | some (.lst l) => D.lst l
      | _ => .loc k).ok n = true := h
    show Dp K H v (match m[k]? with
      | some (.lst l) => D.lst l
      | _ => .loc k).toP
    cases q : m[k]? with
    | none => rw [q] at h'; cases n <;> cases h'
    | some c =>
      rw [q] at h'
      cases c with
      | lst l =>
        obtain ⟨a, rfl, _, xs, h2, r2⟩ := wf.at r q
        cases n with
        | zero => cases h'
        | succ n => exact .lst (.of h2) (dps_of wf n l xs h' r2)
      | _ => cases n <;> cases h'
  | _ => exact dp_of wf n _ v h r
def deq (d e : D) : Bool := PyData.eqv d.toP e.toP
def oEq : Op2 := fun d e m => if (d.der m).ok 60 && (e.der m).ok 60 then some (.bl (deq (d.der m) (e.der m)), m) else none
def oNe : Op2 := fun d e m => if (d.der m).ok 60 && (e.der m).ok 60 then some (.bl (!deq (d.der m) (e.der m)), m) else none
theorem s_eq {K : PySem.W.Frag} : OSat K (rEqD K) oEq := by
  intro w H m d1 d2 x y Q wf r1 r2 q
  unfold oEq at q
  by_cases h : ((d1.der m).ok 60 && (d2.der m).ok 60) = true
  · rw [if_pos h] at q
    obtain ⟨h1, h2⟩ := Bool.and_eq_true_iff.mp h
    exact ⟨_, _, der_dp wf h1 r1, der_dp wf h2 r2, ok_shaped h1, ok_shaped h2, q.ret wf rfl⟩
  · rw [if_neg h] at q; exact q.elim
theorem s_ne {K : PySem.W.Frag} : OSat K (rNeD K) oNe := by
  intro w H m d1 d2 x y Q wf r1 r2 q
  unfold oNe at q
  by_cases h : ((d1.der m).ok 60 && (d2.der m).ok 60) = true
  · rw [if_pos h] at q
    obtain ⟨h1, h2⟩ := Bool.and_eq_true_iff.mp h
    exact ⟨_, _, der_dp wf h1 r1, der_dp wf h2 r2, ok_shaped h1, ok_shaped h2, q.ret wf rfl⟩
  · rw [if_neg h] at q; exact q.elim
/-! ### is -/
def D.isNon : D → Bool
  | .non => true
  | _ => false
theorem rep_non {K : PySem.W.Frag} {w : Wd} {d : D} {v : V} (r : rep K w d v) : decide (v = .non) = d.isNon := by
  cases d with
  | non => cases r; rfl
  | bl b => cases r; rfl
  | int i => cases r; rfl
  | str i => cases r; rfl
  | tup l => obtain ⟨a, _, rfl, _⟩ := r; rfl
  | ctup l => obtain ⟨a, _, rfl, _⟩ := r; rfl
  | lst l => obtain ⟨a, _, rfl, _⟩ := r; rfl
  | scr l => obtain ⟨a, _, rfl, _⟩ := r; rfl
  | loc n => obtain ⟨a, rfl, _⟩ := r; rfl
  | ins C fs => obtain ⟨a, _, _, rfl, _⟩ := r; rfl
  | dK l => obtain ⟨a, _, rfl, _⟩ := r; rfl
  | dT l => obtain ⟨a, _, rfl, _⟩ := r; rfl
  | lk d => exact r.elim
  | fn x => cases r; rfl
  | exn x dx fs => obtain ⟨rfl, _⟩ := r; rfl
def oIsN : Op2 := fun d e m => match e with
  | .non => some (.bl d.isNon, m)
  | _ => none
def oNotN : Op2 := fun d e m => match e with
  | .non => some (.bl (!d.isNon), m)
  | _ => none
theorem s_isN {K : PySem.W.Frag} : OSat K (fun x y H Q => y = .non ∧ Q (.bl (decide (x = .non))) H) oIsN := by
  intro w H m d1 d2 x y Q wf r1 r2 q
  cases d2 with
  | non => exact ⟨r2, by rw [rep_non r1]; exact q.ret wf rfl⟩
  | _ => exact q.elim
theorem s_notN {K : PySem.W.Frag} : OSat K (fun x y H Q => y = .non ∧ Q (.bl (!decide (x = .non))) H) oNotN := by
  intro w H m d1 d2 x y Q wf r1 r2 q
  cases d2 with
  | non => exact ⟨r2, by rw [rep_non r1]; exact q.ret wf rfl⟩
  | _ => exact q.elim
/-! ### in -/
def D.flat : D → Bool
  | .non => true
  | .bl _ => true
  | .int _ => true
  | .str _ => true
  | _ => false
theorem flat_rep {K : PySem.W.Frag} {w : Wd} {d : D} {v : V} (h : d.flat = true) (r : rep K w d v) : flatV v = true ∧ ∀ e u, D.flat e = true → rep K w e u → eqV u v = PyData.eqv e.toP d.toP := by
  cases d with
  | non =>
    cases r
    refine ⟨rfl, fun e u h r => ?_⟩
    cases e with
    | non => cases r; rfl
    | bl => cases r; rfl
    | int => cases r; rfl
    | str => cases r; rfl
    | _ => cases h
  | bl b =>
    cases r
    refine ⟨rfl, fun e u h r => ?_⟩
    cases e with
    | non => cases r; rfl
    | bl => cases r; rfl
    | int => cases r; rfl
    | str => cases r; rfl
    | _ => cases h
  | int i =>
    cases r
    refine ⟨rfl, fun e u h r => ?_⟩
    cases e with
    | non => cases r; rfl
    | bl => cases r; rfl
    | int => cases r; rfl
    | str => cases r; rfl
    | _ => cases h
  | str s =>
    cases r
    refine ⟨rfl, fun e u h r => ?_⟩
    cases e with
    | non => cases r; rfl
    | bl => cases r; rfl
    | int => cases r; rfl
    | str => cases r; rfl
    | _ => cases h
  | _ => cases h
theorem flat_all {K : PySem.W.Frag} {w : Wd} : ∀ {l : List D} {xs : List V}, l.all D.flat = true → reps K w l xs → xs.all flatV = true
  | [], _, _, r => by cases r; rfl
  | d :: ds, _, h, ⟨y, ys, e, r1, r2⟩ => by
    subst e
    rw [List.all_cons] at h ⊢
    obtain ⟨h1, h2⟩ := Bool.and_eq_true_iff.mp h
    exact Bool.and_eq_true_iff.mpr ⟨(flat_rep h1 r1).1, flat_all h2 r2⟩
theorem in_all {K : PySem.W.Frag} {w : Wd} {d : D} {v : V} (hd : d.flat = true) (r : rep K w d v) : ∀ {l : List D} {xs : List V}, l.all D.flat = true → reps K w l xs → inV v xs = l.any fun z => PyData.eqv z.toP d.toP
  | [], _, _, q => by cases q; rfl
  | e :: ds, _, h, ⟨y, ys, q, r1, r2⟩ => by
    subst q
    rw [List.all_cons] at h
    obtain ⟨h1, h2⟩ := Bool.and_eq_true_iff.mp h
    unfold inV
    rw [List.any_cons, List.any_cons, (flat_rep hd r).2 e y h1 r1]
    have ih := in_all hd r h2 r2
    unfold inV at ih
    rw [ih]
def dIn (d : D) (l : List D) : Bool := l.any fun z => PyData.eqv z.toP d.toP
theorem toPs_any {p : PyData} : ∀ l : List D, ((D.toPs l).any fun z => PyData.eqv z p) = l.any fun z => PyData.eqv z.toP p
  | [] => rfl
  | d :: ds => by
    show (PyData.eqv d.toP p || (D.toPs ds).any fun z => PyData.eqv z p) = _
    rw [toPs_any ds, List.any_cons]
def oInB (neg : Bool) : Op2 := fun d e m => match e.seq? m with
  | some l => if d.flat && l.all D.flat then some (.bl (if neg then !dIn d l else dIn d l), m) else
    match e.rdl? m with
    | some l => if d.ok 60 && D.oks 59 l then some (.bl (if neg then !dIn d l else dIn d l), m) else none
    | none => none
  | none => none
def oIn : Op2 := oInB false
def oNotIn : Op2 := oInB true
theorem seq_der {m : Mem} {e : D} {l : List D} (h : e.rdl? m = some l) : (∃ a, e.der m = a ∧ a.toP = .list (D.toPs l)) ∧ ∀ n, D.oks n l = true → (e.der m).ok (n + 1) = true := by
  cases e with
  | lst l' => cases h; exact ⟨⟨_, rfl, rfl⟩, fun _ h => h⟩
  | scr l' => cases h; exact ⟨⟨_, rfl, rfl⟩, fun _ h => h⟩
  | loc k =>
    have h' : (match m[k]? with
      | some (.lst l) => some l
      | _ => none) = some l := h
    cases q : m[k]? with
    | none => rw [q] at h'; cases h'
    | some c =>
      rw [q] at h'
      cases c with
      | lst l' =>
        cases h'
        have e : D.der m (.loc k) = .lst l := by
          show (match m[k]? with
            | some (.lst l) => D.lst l
            | _ => .loc k) = _
          rw [q]
        exact ⟨⟨_, e, rfl⟩, fun n h => by rw [e]; exact h⟩
      | _ => cases h'
  | _ => cases h
abbrev rInA (K : PySem.W.Frag) : R2 := fun x y H Q => rIn K false x y H Q ∨ rInD K x y H Q
abbrev rNotInA (K : PySem.W.Frag) : R2 := fun x y H Q => rIn K true x y H Q ∨ rNotInD K x y H Q
theorem s_in {K : PySem.W.Frag} : OSat K (rInA K) oIn := by
  intro w H m d1 d2 x y Q wf r1 r2 q
  unfold oIn oInB at q
  split at q
  · rename_i l e
    by_cases h : (d1.flat && l.all D.flat) = true
    · rw [if_pos h] at q
      obtain ⟨h1, h2⟩ := Bool.and_eq_true_iff.mp h
      obtain ⟨a, xs, rfl, hs, rs⟩ := seqR wf r2 e
      refine .inl ⟨a, xs, rfl, hs, (flat_rep h1 r1).1, flat_all h2 rs, ?_⟩
      have q' := q.ret wf rfl
      rw [in_all h1 r1 h2 rs]
      exact q'
    · rw [if_neg h] at q
      split at q
      · rename_i l' e'
        by_cases h : (d1.ok 60 && D.oks 59 l') = true
        · rw [if_pos h] at q
          obtain ⟨h1, h2⟩ := Bool.and_eq_true_iff.mp h
          obtain ⟨⟨z, ez, hz⟩, hk⟩ := seq_der e'
          have dp := der_dp wf (hk 59 h2) r2
          have sh := ok_shaped (hk 59 h2)
          rw [ez, hz] at dp sh
          refine .inr ⟨_, _, dp_of wf 60 d1 x h1 r1, dp, ok_shaped h1, sh, ?_⟩
          have q' := q.ret wf rfl
          rw [toPs_any]
          exact q'
        · rw [if_neg h] at q; exact q.elim
      · exact q.elim
  · exact q.elim
theorem s_notIn {K : PySem.W.Frag} : OSat K (rNotInA K) oNotIn := by
  intro w H m d1 d2 x y Q wf r1 r2 q
  unfold oNotIn oInB at q
  split at q
  · rename_i l e
    by_cases h : (d1.flat && l.all D.flat) = true
    · rw [if_pos h] at q
      obtain ⟨h1, h2⟩ := Bool.and_eq_true_iff.mp h
      obtain ⟨a, xs, rfl, hs, rs⟩ := seqR wf r2 e
      refine .inl ⟨a, xs, rfl, hs, (flat_rep h1 r1).1, flat_all h2 rs, ?_⟩
      have q' := q.ret wf rfl
      rw [in_all h1 r1 h2 rs]
      exact q'
    · rw [if_neg h] at q
      split at q
      · rename_i l' e'
        by_cases h : (d1.ok 60 && D.oks 59 l') = true
        · rw [if_pos h] at q
          obtain ⟨h1, h2⟩ := Bool.and_eq_true_iff.mp h
          obtain ⟨⟨z, ez, hz⟩, hk⟩ := seq_der e'
          have dp := der_dp wf (hk 59 h2) r2
          have sh := ok_shaped (hk 59 h2)
          rw [ez, hz] at dp sh
          refine .inr ⟨_, _, dp_of wf 60 d1 x h1 r1, dp, ok_shaped h1, sh, ?_⟩
          have q' := q.ret wf rfl
          rw [toPs_any]
          exact q'
        · rw [if_neg h] at q; exact q.elim
      · exact q.elim
  · exact q.elim
section
variable {X : Cx}
theorem op_inA (hu : X.A.units + 65 < cLine) : OpR X (compareOp .In) (rInA X.K) := op_in_seq.or (op_inD hu)
theorem op_notInA (hu : X.A.units + 65 < cLine) : OpR X (compareOp .NotIn) (rNotInA X.K) := op_notIn_seq.or (op_notInD hu)
end
end Dl

set_option Elab.async false
set_option linter.all false
set_option maxRecDepth 100000
set_option maxHeartbeats 4000000
/-! DFz: cells that are let go: what is handed back of them is frozen. -/
namespace Dl
open PySem PySem.Spec PyProof.Rows L2
mutual
/-- no cell from the n-th on -/
def D.bel (n : Nat) : D → Bool
  | .non => true
  | .bl _ => true
  | .int _ => true
  | .str _ => true
  | .tup l => D.bels n l
  | .ctup l => D.bels n l
  | .lst l => D.bels n l
  | .scr l => D.bels n l
  | .loc k => decide (k < n)
  | .ins _ fs => D.belf n fs
  | .dK kvs => D.belk n kvs
  | .dT kvs => D.belt n kvs
  | .lk _ => false
  | .fn _ => true
  | .exn _ _ fs => D.belf n fs
def D.bels (n : Nat) : List D → Bool
  | [] => true
  | d :: ds => D.bel n d && D.bels n ds
def D.belf (n : Nat) : List (Str × D) → Bool
  | [] => true
  | (_, d) :: ds => D.bel n d && D.belf n ds
def D.belk (n : Nat) : List (Key × D) → Bool
  | [] => true
  | (_, d) :: ds => D.bel n d && D.belk n ds
def D.belt (n : Nat) : List (List Key × D) → Bool
  | [] => true
  | (_, d) :: ds => D.bel n d && D.belt n ds
end
def D.belc (n : Nat) : D → Bool
  | .lk d => d.bel n
  | d => d.bel n
def fz (m : Mem) (n : Nat) : Nat → D → D
  | 0, d => d
  | f + 1, .tup l => .tup (l.map (fz m n f))
  | f + 1, .lst l => .lst (l.map (fz m n f))
  | f + 1, .ins C fs => .ins C (fs.map fun p => (p.1, fz m n f p.2))
  | f + 1, .dK fs => .dK (fs.map fun p => (p.1, fz m n f p.2))
  | f + 1, .dT fs => .dT (fs.map fun p => (p.1, fz m n f p.2))
  | f + 1, .loc k => if k < n then .loc k else match m[k]? with
    | some (.lst l) => .lst (l.map (fz m n f))
    | some (.ins C fs) => .ins C (fs.map fun p => (p.1, fz m n f p.2))
    | some (.dK fs) => .dK (fs.map fun p => (p.1, fz m n f p.2))
    | some (.dT fs) => .dT (fs.map fun p => (p.1, fz m n f p.2))
    | _ => .loc k
  | _, d => d
/-- the world with the cells from the n-th on let go -/
def Wd.cut (w : Wd) (H : Hp) (n : Nat) : Wd := ⟨fun a => if a ∈ w.adr.drop n then H a else w.c a, w.adr.take n⟩
section
variable {K : PySem.W.Frag} {w : Wd} {H : Hp} {m : Mem} {n : Nat}
mutual
theorem rep_bel : ∀ {d : D} {v : V}, rep K w d v → d.bel w.adr.length = true
  | .non, _, _ => rfl
  | .bl _, _, _ => rfl
  | .int _, _, _ => rfl
  | .str _, _, _ => rfl
  | .tup _, _, ⟨a, xs, e, h, r⟩ => reps_bel r
  | .ctup _, _, ⟨a, xs, e, h, r⟩ => reps_bel r
  | .lst _, _, ⟨a, xs, e, h, r⟩ => reps_bel r
  | .scr _, _, ⟨a, xs, e, h, r⟩ => reps_bel r
  | .loc _, _, ⟨a, e, h⟩ => decide_eq_true (List.getElem?_eq_some_iff.mp h).1
  | .ins _ _, _, ⟨a, dx, xs, e, h, r⟩ => repf_bel r
  | .dK _, _, ⟨a, xs, e, h, r⟩ => repk_bel r
  | .dT _, _, ⟨a, xs, e, h, r⟩ => rept_bel r
  | .lk _, _, h => h.elim
  | .fn _, _, _ => rfl
  | .exn _ _ _, _, ⟨e, h⟩ => h.elim (fun z => by rw [z]; rfl) fun ⟨xs, c, r⟩ => repf_bel r
theorem reps_bel : ∀ {ds : List D} {xs : List V}, reps K w ds xs → D.bels w.adr.length ds = true
  | [], _, _ => rfl
  | _ :: _, _, ⟨y, ys, e, h, r⟩ => Bool.and_eq_true_iff.mpr ⟨rep_bel h, reps_bel r⟩
theorem repf_bel : ∀ {ds : List (Str × D)} {xs : List (Str × V)}, repf K w ds xs → D.belf w.adr.length ds = true
  | [], _, _ => rfl
  | (_, _) :: _, _, ⟨y, ys, e, h, r⟩ => Bool.and_eq_true_iff.mpr ⟨rep_bel h, repf_bel r⟩
theorem repk_bel : ∀ {ds : List (Key × D)} {xs : List (Key × V)}, repk K w ds xs → D.belk w.adr.length ds = true
  | [], _, _ => rfl
  | (_, _) :: _, _, ⟨y, ys, e, h, r⟩ => Bool.and_eq_true_iff.mpr ⟨rep_bel h, repk_bel r⟩
theorem rept_bel : ∀ {ds : List (List Key × D)} {xs : List (List Key × V)}, rept K w ds xs → D.belt w.adr.length ds = true
  | [], _, _ => rfl
  | (_, _) :: _, _, ⟨y, ys, e, h, r⟩ => Bool.and_eq_true_iff.mpr ⟨rep_bel h, rept_bel r⟩
end
theorem cut_c (wf : Wf K w H m) {a : Addr} {o : HO} (h : w.c a = some o) : (w.cut H n).c a = some o := by
  show (if a ∈ w.adr.drop n then H a else w.c a) = some o
  rw [if_neg fun z => ?_]
  · exact h
  · have := wf.out a (List.mem_of_mem_drop z)
    rw [h] at this; cases this
theorem cut_dk (wf : Wf K w H m) {a : Addr} {o : HO} (h : dkC w a o) : dkC (w.cut H n) a o := h.elim (fun h => .inl (cut_c wf h)) fun ⟨od, h⟩ => .inr ⟨od, cut_c wf h⟩
theorem cut_cell (wf : Wf K w H m) {k : Nat} {a : Addr} (hk : n ≤ k) (h : w.adr[k]? = some a) : (w.cut H n).c a = H a := by
  show (if a ∈ w.adr.drop n then H a else w.c a) = H a
  rw [if_pos]
  have e : (w.adr.drop n)[k - n]? = some a := by
    rw [List.getElem?_drop]
    have : n + (k - n) = k := by omega
    rw [this]; exact h
  exact List.mem_of_getElem? e
theorem cut_adr {k : Nat} {a : Addr} (hk : k < n) (h : w.adr[k]? = some a) : (w.cut H n).adr[k]? = some a := by
  show (w.adr.take n)[k]? = some a
  rw [List.getElem?_take_of_lt hk]
  exact h
mutual
theorem bel_rep (wf : Wf K w H m) : ∀ {d : D} {v : V}, d.bel n = true → rep K w d v → rep K (w.cut H n) d v
  | .non, _, _, h => h
  | .bl _, _, _, h => h
  | .int _, _, _, h => h
  | .str _, _, _, h => h
  | .tup _, _, b, ⟨a, xs, e, h, r⟩ => ⟨a, xs, e, cut_c wf h, bels_rep wf b r⟩
  | .ctup _, _, b, ⟨a, xs, e, h, r⟩ => ⟨a, xs, e, h, bels_rep wf b r⟩
  | .lst _, _, b, ⟨a, xs, e, h, r⟩ => ⟨a, xs, e, cut_c wf h, bels_rep wf b r⟩
  | .scr _, _, b, ⟨a, xs, e, h, r⟩ => ⟨a, xs, e, h.elim (fun ⟨o, h⟩ => .inl ⟨o, cut_c wf h⟩) .inr, bels_rep wf b r⟩
  | .loc _, _, b, ⟨a, e, h⟩ => ⟨a, e, cut_adr (of_decide_eq_true b) h⟩
  | .ins _ _, _, b, ⟨a, dx, xs, e, h, r⟩ => ⟨a, dx, xs, e, cut_c wf h, belf_rep wf b r⟩
  | .dK _, _, b, ⟨a, xs, e, h, r⟩ => ⟨a, xs, e, cut_dk wf h, belk_rep wf b r⟩
  | .dT _, _, b, ⟨a, xs, e, h, r⟩ => ⟨a, xs, e, cut_dk wf h, belt_rep wf b r⟩
  | .lk _, _, _, h => h.elim
  | .fn _, _, _, h => h
  | .exn _ _ _, _, b, ⟨e, h⟩ => ⟨e, h.elim .inl fun ⟨xs, c, r⟩ => .inr ⟨xs, cut_c wf c, belf_rep wf b r⟩⟩
theorem bels_rep (wf : Wf K w H m) : ∀ {ds : List D} {xs : List V}, D.bels n ds = true → reps K w ds xs → reps K (w.cut H n) ds xs
  | [], _, _, h => h
  | _ :: _, _, b, ⟨y, ys, e, h, r⟩ => let ⟨b1, b2⟩ := Bool.and_eq_true_iff.mp b; ⟨y, ys, e, bel_rep wf b1 h, bels_rep wf b2 r⟩
theorem belf_rep (wf : Wf K w H m) : ∀ {ds : List (Str × D)} {xs : List (Str × V)}, D.belf n ds = true → repf K w ds xs → repf K (w.cut H n) ds xs
  | [], _, _, h => h
  | (_, _) :: _, _, b, ⟨y, ys, e, h, r⟩ => let ⟨b1, b2⟩ := Bool.and_eq_true_iff.mp b; ⟨y, ys, e, bel_rep wf b1 h, belf_rep wf b2 r⟩
theorem belk_rep (wf : Wf K w H m) : ∀ {ds : List (Key × D)} {xs : List (Key × V)}, D.belk n ds = true → repk K w ds xs → repk K (w.cut H n) ds xs
  | [], _, _, h => h
  | (_, _) :: _, _, b, ⟨y, ys, e, h, r⟩ => let ⟨b1, b2⟩ := Bool.and_eq_true_iff.mp b; ⟨y, ys, e, bel_rep wf b1 h, belk_rep wf b2 r⟩
theorem belt_rep (wf : Wf K w H m) : ∀ {ds : List (List Key × D)} {xs : List (List Key × V)}, D.belt n ds = true → rept K w ds xs → rept K (w.cut H n) ds xs
  | [], _, _, h => h
  | (_, _) :: _, _, b, ⟨y, ys, e, h, r⟩ => let ⟨b1, b2⟩ := Bool.and_eq_true_iff.mp b; ⟨y, ys, e, bel_rep wf b1 h, belt_rep wf b2 r⟩
end
theorem map_reps {g : D → D} {w' : Wd} (hg : ∀ d v, rep K w d v → (g d).bel n = true → rep K w' (g d) v) : ∀ {ds : List D} {xs : List V}, reps K w ds xs → D.bels n (ds.map g) = true → reps K w' (ds.map g) xs
  | [], _, h, _ => h
  | d :: _, _, ⟨y, ys, e, h, r⟩, b => let ⟨b1, b2⟩ := Bool.and_eq_true_iff.mp b; ⟨y, ys, e, hg d y h b1, map_reps hg r b2⟩
theorem map_repf {g : D → D} {w' : Wd} (hg : ∀ d v, rep K w d v → (g d).bel n = true → rep K w' (g d) v) : ∀ {ds : List (Str × D)} {xs : List (Str × V)}, repf K w ds xs → D.belf n (ds.map fun p => (p.1, g p.2)) = true → repf K w' (ds.map fun p => (p.1, g p.2)) xs
  | [], _, h, _ => h
  | (_, d) :: _, _, ⟨y, ys, e, h, r⟩, b => let ⟨b1, b2⟩ := Bool.and_eq_true_iff.mp b; ⟨y, ys, e, hg d y h b1, map_repf hg r b2⟩
theorem map_repk {g : D → D} {w' : Wd} (hg : ∀ d v, rep K w d v → (g d).bel n = true → rep K w' (g d) v) : ∀ {ds : List (Key × D)} {xs : List (Key × V)}, repk K w ds xs → D.belk n (ds.map fun p => (p.1, g p.2)) = true → repk K w' (ds.map fun p => (p.1, g p.2)) xs
  | [], _, h, _ => h
  | (_, d) :: _, _, ⟨y, ys, e, h, r⟩, b => let ⟨b1, b2⟩ := Bool.and_eq_true_iff.mp b; ⟨y, ys, e, hg d y h b1, map_repk hg r b2⟩
theorem map_rept {g : D → D} {w' : Wd} (hg : ∀ d v, rep K w d v → (g d).bel n = true → rep K w' (g d) v) : ∀ {ds : List (List Key × D)} {xs : List (List Key × V)}, rept K w ds xs → D.belt n (ds.map fun p => (p.1, g p.2)) = true → rept K w' (ds.map fun p => (p.1, g p.2)) xs
  | [], _, h, _ => h
  | (_, d) :: _, _, ⟨y, ys, e, h, r⟩, b => let ⟨b1, b2⟩ := Bool.and_eq_true_iff.mp b; ⟨y, ys, e, hg d y h b1, map_rept hg r b2⟩
theorem fz_rep (wf : Wf K w H m) : ∀ (f : Nat) (d : D) (v : V), rep K w d v → (fz m n f d).bel n = true → rep K (w.cut H n) (fz m n f d) v
  | 0, d, v, r, b => bel_rep wf b r
  | f + 1, .tup l, _, ⟨a, xs, e, h, r⟩, b => ⟨a, xs, e, cut_c wf h, map_reps (fz_rep wf f) r b⟩
  | f + 1, .lst l, _, ⟨a, xs, e, h, r⟩, b => ⟨a, xs, e, cut_c wf h, map_reps (fz_rep wf f) r b⟩
  | f + 1, .ins C fs, _, ⟨a, dx, xs, e, h, r⟩, b => ⟨a, dx, xs, e, cut_c wf h, map_repf (fz_rep wf f) r b⟩
  | f + 1, .dK fs, _, ⟨a, xs, e, h, r⟩, b => ⟨a, xs, e, cut_dk wf h, map_repk (fz_rep wf f) r b⟩
  | f + 1, .dT fs, _, ⟨a, xs, e, h, r⟩, b => ⟨a, xs, e, cut_dk wf h, map_rept (fz_rep wf f) r b⟩
  | f + 1, .loc k, v, r, b => by
    by_cases hk : k < n
    · have e : fz m n (f + 1) (.loc k) = .loc k := by
        show (if k < n then _ else _) = _
        rw [if_pos hk]
      rw [e] at b ⊢
      exact bel_rep wf b r
    · have e : fz m n (f + 1) (.loc k) = (match m[k]? with
          | some (.lst l) => .lst (l.map (fz m n f))
          | some (.ins C fs) => .ins C (fs.map fun p => (p.1, fz m n f p.2))
          | some (.dK fs) => .dK (fs.map fun p => (p.1, fz m n f p.2))
          | some (.dT fs) => .dT (fs.map fun p => (p.1, fz m n f p.2))
          | _ => .loc k) := by
        show (if k < n then _ else _) = _
        rw [if_neg hk]
      rw [e] at b ⊢
      have hk' : n ≤ k := Nat.le_of_not_lt hk
      cases q : m[k]? with
      | none =>
        rw [q] at b
        exact absurd (of_decide_eq_true b) hk
      | some c =>
        rw [q] at b
        obtain ⟨a, rfl, ha, h2⟩ := wf.at r q
        cases c with
        | lst l =>
          obtain ⟨xs, h3, h4⟩ := h2
          exact ⟨a, xs, rfl, (cut_cell wf hk' ha).trans h3, map_reps (fz_rep wf f) h4 b⟩
        | ins C fs =>
          obtain ⟨dx, xs, h3, h4⟩ := h2
          exact ⟨a, dx, xs, rfl, (cut_cell wf hk' ha).trans h3, map_repf (fz_rep wf f) h4 b⟩
        | dK fs =>
          obtain ⟨xs, h3, h4⟩ := h2
          exact ⟨a, xs, rfl, .inl ((cut_cell wf hk' ha).trans h3), map_repk (fz_rep wf f) h4 b⟩
        | dT fs =>
          obtain ⟨xs, h3, h4⟩ := h2
          exact ⟨a, xs, rfl, .inl ((cut_cell wf hk' ha).trans h3), map_rept (fz_rep wf f) h4 b⟩
        | _ => exact absurd (of_decide_eq_true b) hk
  | f + 1, .non, _, r, b => bel_rep wf b r
  | f + 1, .bl _, _, r, b => bel_rep wf b r
  | f + 1, .int _, _, r, b => bel_rep wf b r
  | f + 1, .str _, _, r, b => bel_rep wf b r
  | f + 1, .ctup _, _, r, b => bel_rep wf b r
  | f + 1, .scr _, _, r, b => bel_rep wf b r
  | f + 1, .lk _, _, r, b => bel_rep wf b r
  | f + 1, .fn _, _, r, b => bel_rep wf b r
  | f + 1, .exn _ _ _, _, r, b => bel_rep wf b r
theorem cut_hold (wf : Wf K w H m) {a : Addr} : ∀ {d : D}, d.belc n = true → hold K w H a d → hold K (w.cut H n) H a d
  | .lst _, b, ⟨xs, h, r⟩ => ⟨xs, h, bels_rep wf b r⟩
  | .ins _ _, b, ⟨dx, xs, h, r⟩ => ⟨dx, xs, h, belf_rep wf b r⟩
  | .dK _, b, ⟨xs, h, r⟩ => ⟨xs, h, belk_rep wf b r⟩
  | .dT _, b, ⟨xs, h, r⟩ => ⟨xs, h, belt_rep wf b r⟩
  | .lk (.dK _), b, ⟨o, xs, h, r⟩ => ⟨o, xs, h, belk_rep wf b r⟩
  | .lk (.dT _), b, ⟨o, xs, h, r⟩ => ⟨o, xs, h, belt_rep wf b r⟩
theorem hold_bel {a : Addr} : ∀ {d : D}, hold K w H a d → d.belc w.adr.length = true
  | .lst _, ⟨xs, h, r⟩ => reps_bel r
  | .ins _ _, ⟨dx, xs, h, r⟩ => repf_bel r
  | .dK _, ⟨xs, h, r⟩ => repk_bel r
  | .dT _, ⟨xs, h, r⟩ => rept_bel r
  | .lk (.dK _), ⟨o, xs, h, r⟩ => repk_bel r
  | .lk (.dT _), ⟨o, xs, h, r⟩ => rept_bel r
theorem Wf.cut (wf : Wf K w H m) (hb : ∀ (k : Nat) c, k < n → m[k]? = some c → c.belc n = true) : Wf K (w.cut H n) H (m.take n) := by
  refine ⟨fun a o h => ?_, ?_, ?_, fun a ha => ?_, fun k a d e1 e2 => ?_⟩
  · have h' : (if a ∈ w.adr.drop n then H a else w.c a) = some o := h
    by_cases z : a ∈ w.adr.drop n
    · rw [if_pos z] at h'; exact .inl h'
    · rw [if_neg z] at h'; exact wf.sub a o h'
  · show (w.adr.take n).length = (m.take n).length
    rw [List.length_take, List.length_take, wf.len]
  · exact wf.nd.sublist (List.take_sublist _ _)
  · show (if a ∈ w.adr.drop n then H a else w.c a) = none
    have ha' : a ∈ w.adr.take n := ha
    rw [if_neg fun z => ?_]
    · exact wf.out a (List.mem_of_mem_take ha')
    · have nd := wf.nd
      rw [← List.take_append_drop n w.adr, List.nodup_append] at nd
      exact nd.2.2 a ha' a z rfl
  · have e1' : (w.adr.take n)[k]? = some a := e1
    have hk : k < n := by
      have := (List.getElem?_eq_some_iff.mp e1').1
      rw [List.length_take] at this
      omega
    rw [List.getElem?_take_of_lt hk] at e1' e2
    exact cut_hold wf (hb k d hk e2) (wf.cell k a d e1' e2)
theorem Le.cut {w0 : Wd} (wf : Wf K w H m) (l : Le w0 w) (hn : w0.adr.length = n) : Le w0 (w.cut H n) := by
  refine ⟨fun a o h => (l.cw a o h).elim (fun h => .inl (cut_c wf h)) fun ⟨hd, od, h⟩ => .inr ⟨hd, od, cut_c wf h⟩, ?_⟩
  show w0.adr <+: w.adr.take n
  obtain ⟨t, e⟩ := l.adr
  rw [← e, ← hn, List.take_left]
  exact List.prefix_refl _
end
end Dl

set_option Elab.async false
set_option linter.all false
set_option maxRecDepth 100000
set_option maxHeartbeats 4000000
/-! DFn: defs as functions on D, their calls; fields, methods, instances. -/
namespace Dl
open PySem PySem.Spec PyProof.Rows L2
abbrev FD := List D → Mem → R D
def wE (E : XK) : WX := fun c d _ H => E c d H
/-- what a def at this function promises -/
def spD (K : PySem.W.Frag) (F : FD) : Sp := fun vs H Q E => ∃ w m ds, Wf K w H m ∧ reps K w ds vs ∧ rOk K (wE E) [] w (F ds m) (eK K Q)
/-- a body as a function: n parameters, N names -/
def fnD (n N : Nat) (b : SF) : FD := fun ds m => if ds.length = n then match b (ds.map some ++ List.replicate (N - n) none) m with
  | .nx _ m' => .ok .non m'
  | .rt d m' => .ok d m'
  | .er e _ m' => .err e m'
  | _ => .stuck
  else .stuck
theorem fnD_len {n N : Nat} {b : SF} {ds : List D} {m : Mem} (h : fnD n N b ds m ≠ .stuck) : ds.length = n := by
  unfold fnD at h
  by_cases q : ds.length = n
  · exact q
  · rw [if_neg q] at h; exact absurd rfl h
theorem spD_len {K : PySem.W.Frag} {F : FD} {n : Nat} (hF : ∀ ds m, F ds m ≠ .stuck → ds.length = n) {vs : List V} {H : Hp} {Q : VK} {E : XK} (h : spD K F vs H Q E) : vs.length = n := by
  obtain ⟨w, m, ds, wf, r, h⟩ := h
  rw [r.length]
  refine hF ds m fun z => ?_
  rw [z] at h
  exact h
theorem spD_run {K : PySem.W.Frag} {n : Nat} {N : List Str} {b : SF} {vs : List V} {H : Hp} {Q : VK} {E : XK} (hn : n ≤ N.length) (h : spD K (fnD n N.length b) vs H Q E) :
    sOf K (wE E) b { nx := fun _ H' => Q .non H', rt := Q } (start N vs) H := by
  have hl := spD_len (n := n) (fun ds m => fnD_len) h
  obtain ⟨w, m, ds, wf, r, h⟩ := h
  have hd : ds.length = n := by rw [← r.length]; exact hl
  refine ⟨w, m, ds.map some ++ List.replicate (N.length - n) none, wf, ?_, ?_⟩
  · unfold L2.start
    rw [hl]
    exact slR.start _ r
  · unfold fnD at h
    rw [if_pos hd] at h
    cases q : b (ds.map some ++ List.replicate (N.length - n) none) m with
    | nx sd m' =>
      rw [q] at h
      exact fun w' H' σ l f _ => h w' H' l f _ rfl
    | rt d m' =>
      rw [q] at h
      exact fun w' H' v l f rv => h w' H' l f v rv
    | er e sd m' =>
      rw [q] at h
      exact fun w' H' σ cls dx l f _ er => h cls dx w' H' l f er
    | bk sd m' => rw [q] at h; exact h.elim
    | ct sd m' => rw [q] at h; exact h.elim
    | stuck => rw [q] at h; exact h.elim
/-- THE RULE of a def: its body's function is its promise -/
theorem fn_ok {P : Program} {w : World} {K : PySem.W.Frag} {mg : Str → Option Value} {base : Heap} {x qual : Str} {pa : Arguments} {body : List Stmt} {sc : Scope} {f : Addr} {fd : FuncData} {N ps : List Str} {k : Nat} {b : SF}
    (F : FunD K x qual pa body sc [] [] f fd) (S : FnScope N ps sc)
    (hb : ∀ (cdv : Value) (A : Around) (outer : List Env) (s : Shared) (H : Hp) (E : XK), Room k (A.deeper (envOfC qual sc s.heap.objs.size f cdv)) →
      ∀ (X : Cx), X = cxOf (L2N.CX P w) P w K mg base N qual sc f cdv A outer s H E → L2N.Takes X (wE E) → PassesOwn (model X.prog X.w) X.A X.env X.xe → DSs X (wE E) body b) :
    FnOk P w K mg base (L2N.CX P w) (k + 1) f fd ps (spD K (fnD ps.length N.length b)) := by
  have hn : ps.length ≤ N.length := by
    have := congrArg List.length S.pre
    rw [List.length_take] at this
    omega
  refine F.ok S (fun vs H Q E h => spD_len (fun ds m => fnD_len) h) (fun cdv A outer s H vs Q E hr h => ⟨sOf K (wE E) b, ?_, spD_run hn h⟩)
  exact hb cdv A outer s H E hr _ rfl (L2N.takes_of rfl rfl rfl rfl) (passes_of rfl)

/-! ### calls -/
section
variable {X : Cx} {W : WX} {CX : CXT} {k : Nat} {f C : Addr} {fd : FuncData} {ps : List Str} {x mm : Str} {p pos apos : Pos} {e o : Expr} {es : List Expr} {fa : EF} {ar : AF} {F : FD}
def xCall (F : FD) (ar : AF) : EF := fun sd m => (ar sd m).bind F
theorem s_sp {K : PySem.W.Frag} {σ : L2.St} {w : Wd} {m : Mem} {H : Hp} {ds : List D} {vs : List V} {Q : VK} (wf : Wf K w H m) (r : reps K w ds vs) (h : rOk K W σ w (F ds m) (eK K Q)) : spD K F vs H Q (WE W σ) := by
  refine ⟨w, m, ds, wf, r, ?_⟩
  cases q : F ds m with
  | ok d m' => rw [q] at h; exact h
  | err e m' => rw [q] at h; exact h
  | stuck => rw [q] at h; exact h
theorem d_call (G : FnOk X.prog X.w X.K X.mg X.base (L2N.CX X.prog X.w) k f fd ps (spD X.K F)) (hr : Room k X.A) (hm : X.mg x = some (.ref f)) (hk : PySem.W.keepIn X.K (.ref f) = true) (hb : Binds X.K fd ps []) (tk : L2N.Takes X W)
    (ha : DA X W (e :: es) ar) (hg : Gl X x := by rfl) (hdb : (x == ("__debug__" : Str)) = false := by decide) (he : starEach (e :: es) X.env = (false, eval e X.env) :: starEach es X.env := by rfl) (hpl : (backTo pos (starEach es X.env)).any (·.1) = false := by rfl) :
    DE X W (.Call (.Name x p) (e :: es) [] pos) (xCall F ar) := (pe_callS G hr hg hm hk hb (fun σ => L2N.passAt tk σ) ha hdb he hpl).weak fun σ H Q ⟨w, m, sd, wf, sl, h⟩ =>
  ⟨w, m, sd, wf, sl, h.bind.imp fun ds m1 w1 H1 l1 wf1 h1 vs rs => s_sp wf1 rs h1⟩
theorem d_call0 (G : FnOk X.prog X.w X.K X.mg X.base (L2N.CX X.prog X.w) k f fd ps (spD X.K F)) (hr : Room k X.A) (hm : X.mg x = some (.ref f)) (hk : PySem.W.keepIn X.K (.ref f) = true) (hb : Binds X.K fd ps []) {E : XK} (tk : L2N.Takes X (wE E))
    (hg : Gl X x := by rfl) (hdb : (x == ("__debug__" : Str)) = false := by decide) :
    DE X (wE E) (.Call (.Name x p) [] [] pos) (xCall F aNil) := (pe_call0 G hr hg hm hk hb .nil (E := E) (L2N.passes_call tk fun _ _ _ _ h => h) hdb).weak fun σ H Q ⟨w, m, sd, wf, sl, h⟩ =>
  s_sp (W := wE E) (σ := σ) wf (show reps X.K w [] [] from rfl) h
/-- the receiver: an instance of C -/
def insC (C : Str) (m : Mem) : D → Option (List (Str × D))
  | .ins C' fs => if C' = C then some fs else none
  | .loc n => match m[n]? with
    | some (.ins C' fs) => if C' = C then some fs else none
    | _ => none
  | _ => none
theorem insR {K : PySem.W.Frag} {w : Wd} {H : Hp} {m : Mem} {C : Str} {d : D} {v : V} {fs : List (Str × D)} (wf : Wf K w H m) (r : rep K w d v) (h : insC C m d = some fs) :
    ∃ a dx xs, v = .ref a ∧ H a = some (.ins (He.ga K C) dx xs) ∧ repf K w fs xs := by
  cases d with
  | ins C' fs' =>
    have h' : (if C' = C then some fs' else none) = some fs := h
    by_cases q : C' = C
    · rw [if_pos q] at h'; cases h'
      subst q
      obtain ⟨a, dx, xs, rfl, h2, r2⟩ := r
      exact ⟨a, dx, xs, rfl, wf.subI h2, r2⟩
    · rw [if_neg q] at h'; cases h'
  | loc n =>
    have h' : (match m[n]? with
      | some (.ins C' fs) => if C' = C then some fs else none
      | _ => none) = some fs := h
    cases z : m[n]? with
    | none => rw [z] at h'; cases h'
    | some c =>
      rw [z] at h'
      cases c with
      | ins C' fs' =>
        have h' : (if C' = C then some fs' else none) = some fs := h'
        by_cases q : C' = C
        · rw [if_pos q] at h'; cases h'
          subst q
          obtain ⟨a, rfl, _, dx, xs, h2, r2⟩ := wf.at r z
          exact ⟨a, dx, xs, rfl, h2, r2⟩
        · rw [if_neg q] at h'; cases h'
      | _ => cases h'
  | _ => cases h
/-- o.m(..) -/
def xMeth (C mm : Str) (F : FD) (fa : EF) (ar : AF) : EF := fun sd m => (fa sd m).bind fun d m1 => match insC C m1 d with
  | some fs => if (fs.lookup mm).isNone then (ar sd m1).bind fun ds m2 => F (d :: ds) m2 else .stuck
  | none => .stuck
theorem s_meth {K : PySem.W.Frag} {E : XK} {C mm : Str} (σ : L2.St) (H : Hp) (Q : VK) : eOf K (wE E) (xMeth C mm F fa ar) σ H Q → tMeth (He.ga K C) mm (spD K F) [] E (eOf K (wE E) fa) (aOf K (wE E) ar) σ H Q := fun ⟨w, m, sd, wf, sl, h⟩ =>
  ⟨w, m, sd, wf, sl, h.bind.imp fun d m1 w1 H1 l1 wf1 h1 v rv => by
    cases q : insC C m1 d with
    | none => rw [q] at h1; exact h1.elim
    | some fs =>
      rw [q] at h1
      obtain ⟨a, dx, xs, rfl, e1, r1⟩ := insR wf1 rv q
      have h1' : rOk K (wE E) σ w1 (if (fs.lookup mm).isNone = true then (ar sd m1).bind fun ds m2 => F (d :: ds) m2 else .stuck) (eK K Q) := h1
      by_cases z : (fs.lookup mm).isNone = true
      · rw [if_pos z] at h1'
        refine ⟨a, dx, xs, rfl, e1, r1.lookup_none (by simpa using z), w1, m1, sd, wf1, sl.mono l1, h1'.bind.imp fun ds m2 w2 H2 l2 wf2 h2 vs rs => ?_⟩
        show spD K F (V.ref a :: (vs ++ [])) H2 Q (WE (wE E) σ)
        rw [List.append_nil]
        exact s_sp (W := wE E) (σ := σ) wf2 (show reps K w2 (d :: ds) (V.ref a :: vs) from ⟨_, _, rfl, rv.mono l2, rs⟩) h2
      · rw [if_neg z] at h1'; exact h1'.elim⟩
theorem d_meth {E : XK} {C' : Str} {pl : Sem Bool} (he : DE X (wE E) o fa) (c : Cls X.K (He.ga X.K C')) (hm : Meth X.K (He.ga X.K C') mm f) (G : FnOk X.prog X.w X.K X.mg X.base (L2N.CX X.prog X.w) k f fd ps (spD X.K F)) (hr : Room k X.A)
    (hb : Binds X.K fd ps []) (tk : L2N.Takes X (wE E)) (ha : DA X (wE E) (e :: es) ar)
    (hst : starEach (e :: es) X.env = (false, eval e X.env) :: starEach es X.env := by rfl) (hpl : (backTo pos (starEach es X.env)).any (·.1) = false := by rfl)
    (ht : eval (.Call (.Attribute o mm apos) (e :: es) [] pos) X.env = (do
      let ov ← eval o X.env
      standAt apos.atName
      let (f, first) ← holding [ov] (getMethod ov mm pl)
      callWith pos f first (backTo pos (starEach (e :: es) X.env)) (backToKw pos (keywordEach [] X.env))) := by rfl) :
    DE X (wE E) (.Call (.Attribute o mm apos) (e :: es) [] pos) (xMeth C' mm F fa ar) := (pe_meth he c hm G hr hb .nil (E := E) (L2N.passes_call tk fun _ _ _ _ h => h) ha hst hpl ht).weak (s_meth (K := X.K))
theorem d_meth0 {E : XK} {C' : Str} {pl : Sem Bool} (he : DE X (wE E) o fa) (c : Cls X.K (He.ga X.K C')) (hm : Meth X.K (He.ga X.K C') mm f) (G : FnOk X.prog X.w X.K X.mg X.base (L2N.CX X.prog X.w) k f fd ps (spD X.K F)) (hr : Room k X.A)
    (hb : Binds X.K fd ps []) (tk : L2N.Takes X (wE E))
    (ht : eval (.Call (.Attribute o mm apos) [] [] pos) X.env = (do
      let ov ← eval o X.env
      standAt apos.atName
      let (f, first) ← holding [ov] (getMethod ov mm pl)
      callWith pos f first (backTo pos (starEach [] X.env)) (backToKw pos (keywordEach [] X.env))) := by rfl) :
    DE X (wE E) (.Call (.Attribute o mm apos) [] [] pos) (xMeth C' mm F fa aNil) := (pe_meth0 he c hm G hr hb .nil (E := E) (L2N.passes_call tk fun _ _ _ _ h => h) ht).weak fun σ H Q q => by
  have h := s_meth (K := X.K) σ H Q q
  obtain ⟨w, m, sd, wf, sl, h⟩ := h
  refine ⟨w, m, sd, wf, sl, h.imp fun d m1 w1 H1 l1 wf1 h1 v rv => ?_⟩
  obtain ⟨a, dx, fs, e1, e2, e3, w2, m2, sd2, wf2, sl2, h2⟩ := h1 v rv
  exact ⟨a, dx, fs, e1, e2, e3, h2 w2 H1 (Le.refl _) wf2 [] rfl⟩
/-- C(..), the instance a cell -/
def xMakeM (C : Str) (F : FD) (ar : AF) : EF := fun sd m => (ar sd m).bind fun ds m1 => (F (.loc m1.length :: ds) (m1 ++ [.ins C []])).bind fun d m2 => match d with
  | .non => .ok (.loc m1.length) m2
  | _ => .stuck
theorem new_ins {K : PySem.W.Frag} {w : Wd} {H : Hp} {m : Mem} {C : Str} {x dx : Addr} (wf : Wf K w H m) (hx : H x = none) (hd : H dx = none) (hne : dx ≠ x) :
    Wf K (w.cell x) (upd (upd H dx (.own x)) x (.ins (He.ga K C) dx [])) (m ++ [.ins C []]) ∧ rep K (w.cell x) (.loc m.length) (.ref x) := by
  refine ⟨wf.new hx (fun a o h e => ?_) ⟨dx, [], upd_same, rfl⟩, x, rfl, ?_⟩
  · rw [upd_ne h, upd_ne (ne_of_none e hd)]; exact e
  · show (w.adr ++ [x])[m.length]? = some x
    rw [← wf.len, List.getElem?_append_right (Nat.le_refl _), Nat.sub_self]
    rfl
theorem s_makeM {K : PySem.W.Frag} {E : XK} {C : Str} (σ : L2.St) (H : Hp) (Q : VK) : eOf K (wE E) (xMakeM C F ar) σ H Q → tMake (He.ga K C) (spD K F) [] E (aOf K (wE E) ar) σ H Q := fun ⟨w, m, sd, wf, sl, h⟩ =>
  ⟨w, m, sd, wf, sl, h.bind.imp fun ds m1 w1 H1 l1 wf1 h1 vs rs x dx hx hd hne => by
    obtain ⟨f, rv⟩ := new_ins (C := C) wf1 hx hd hne
    rw [List.append_nil]
    refine s_sp (W := wE E) (σ := σ) (ds := .loc m1.length :: ds) f ⟨_, _, rfl, rv, rs.mono Le.cell⟩ ?_
    exact ((rOk.mono (Le.cell (p := x)) h1).bind).imp fun d m2 w2 H2 l2 wf2 h2 v r2 => by
      cases d with
      | non => exact ⟨r2, h2 w2 H2 (Le.refl _) wf2 _ (rv.mono l2)⟩
      | _ => exact h2.elim⟩
theorem d_makeM {E : XK} {C' : Str} (M : Mk X.K (He.ga X.K C') f) (G : FnOk X.prog X.w X.K X.mg X.base (L2N.CX X.prog X.w) k f fd ps (spD X.K F)) (hr : Room (k + 1) X.A) (hm : X.mg x = some (.ref (He.ga X.K C'))) (hb : Binds X.K fd ps []) (tk : L2N.Takes X (wE E))
    (ha : DA X (wE E) (e :: es) ar) (hg : Gl X x := by rfl) (hdb : (x == ("__debug__" : Str)) = false := by decide) (he : starEach (e :: es) X.env = (false, eval e X.env) :: starEach es X.env := by rfl) (hpl : (backTo pos (starEach es X.env)).any (·.1) = false := by rfl) :
    DE X (wE E) (.Call (.Name x p) (e :: es) [] pos) (xMakeM C' F ar) := (pe_make M G hr hg hm hb .nil (E := E) (L2N.passes_call tk fun _ _ _ _ h => h) ha hdb he hpl).weak (s_makeM (K := X.K))
/-- what a call has made is let go: what it hands back is frozen -/
def Safe (m m' : Mem) (d : D) : Prop := m.length ≤ m'.length ∧ (fz m' m.length 6 d).bel m.length = true ∧ ∀ k c, k < m.length → m'[k]? = some c → m[k]? = some c ∨ c.belc m.length = true
open Classical in
noncomputable def letGo (m : Mem) (r : R D) : R D := match r with
  | .ok d m' => if Safe m m' d then .ok (fz m' m.length 6 d) (m'.take m.length) else .stuck
  | .err e m' => if m.length ≤ m'.length ∧ D.belf m.length e.fs = true ∧ ∀ k c, k < m.length → m'[k]? = some c → m[k]? = some c ∨ c.belc m.length = true then .err e (m'.take m.length) else .stuck
  | .stuck => .stuck
noncomputable def clos (F : FD) : FD := fun ds m => letGo m (F ds m)
theorem cells_bel {K : PySem.W.Frag} {w : Wd} {H : Hp} {m m' : Mem} (wf : Wf K w H m) (h : ∀ k c, k < m.length → m'[k]? = some c → m[k]? = some c ∨ c.belc m.length = true) : ∀ (k : Nat) c, k < m.length → m'[k]? = some c → c.belc m.length = true := fun k c hk e => by
  rcases h k c hk e with z | z
  · have hk' : k < w.adr.length := by rw [wf.len]; exact hk
    rw [← wf.len]
    exact hold_bel (wf.cell k _ c (List.getElem?_eq_getElem hk') z)
  · exact z
theorem s_letGo {K : PySem.W.Frag} {σ : L2.St} {w : Wd} {H : Hp} {m : Mem} {r : R D} {Q : VK} (wf : Wf K w H m) (h : rOk K W σ w (letGo m r) (eK K Q)) : rOk K W σ w r (eK K Q) := by
  cases r with
  | stuck => exact h
  | ok d m' =>
    unfold letGo at h
    by_cases z : Safe m m' d
    · simp only [if_pos z] at h
      intro w1 H1 l1 wf1 v rv
      have hb := cells_bel wf z.2.2
      have lc : Le w (w1.cut H1 m.length) := Le.cut wf1 l1 wf.len
      exact h _ H1 lc (wf1.cut hb) v (fz_rep wf1 6 d v rv z.2.1)
    · simp only [if_neg z] at h
      exact h.elim
  | err e m' =>
    unfold letGo at h
    by_cases z : m.length ≤ m'.length ∧ D.belf m.length e.fs = true ∧ ∀ k c, k < m.length → m'[k]? = some c → m[k]? = some c ∨ c.belc m.length = true
    · simp only [if_pos z] at h
      intro cls dx w1 H1 l1 wf1 er
      have hb := cells_bel wf z.2.2
      refine h cls dx _ H1 (Le.cut wf1 l1 wf.len) (wf1.cut hb) ⟨er.1, ?_⟩
      have er2 := er.2
      have zb := z.2.1
      cases q : e.fs with
      | nil => rw [q] at er2; exact er2
      | cons f r =>
        rw [q] at er2 zb
        obtain ⟨d, xs, e1, e2, e3⟩ := er2
        exact ⟨d, xs, e1, e2, belf_rep wf1 zb e3⟩
    · simp only [if_neg z] at h
      exact h.elim
theorem clos_ok {P : Program} {w : World} {K : PySem.W.Frag} {mg : Str → Option Value} {base : Heap} (G : FnOk P w K mg base (L2N.CX P w) k f fd ps (spD K F)) : FnOk P w K mg base (L2N.CX P w) k f fd ps (spD K (clos F)) :=
  G.imp fun vs H Q E ⟨w, m, ds, wf, r, h⟩ => ⟨w, m, ds, wf, r, s_letGo wf h⟩
/-- C(..), the instance frozen -/
noncomputable def xMakeF (C : Str) (F : FD) (ar : AF) : EF := fun sd m => (ar sd m).bind fun ds m1 => letGo m1 ((F (.loc m1.length :: ds) (m1 ++ [.ins C []])).bind fun d m2 => match d with
  | .non => .ok (.loc m1.length) m2
  | _ => .stuck)
theorem d_makeF {E : XK} {C' : Str} (M : Mk X.K (He.ga X.K C') f) (G : FnOk X.prog X.w X.K X.mg X.base (L2N.CX X.prog X.w) k f fd ps (spD X.K F)) (hr : Room (k + 1) X.A) (hm : X.mg x = some (.ref (He.ga X.K C'))) (hb : Binds X.K fd ps []) (tk : L2N.Takes X (wE E))
    (ha : DA X (wE E) (e :: es) ar) (hg : Gl X x := by rfl) (hdb : (x == ("__debug__" : Str)) = false := by decide) (he : starEach (e :: es) X.env = (false, eval e X.env) :: starEach es X.env := by rfl) (hpl : (backTo pos (starEach es X.env)).any (·.1) = false := by rfl) :
    DE X (wE E) (.Call (.Name x p) (e :: es) [] pos) (xMakeF C' F ar) := (pe_make M G hr hg hm hb .nil (E := E) (L2N.passes_call tk fun _ _ _ _ h => h) ha hdb he hpl).weak fun σ H Q ⟨w, m, sd, wf, sl, h⟩ =>
  ⟨w, m, sd, wf, sl, h.bind.imp fun ds m1 w1 H1 l1 wf1 h1 vs rs x dx hx hd hne => by
    obtain ⟨f, rv⟩ := new_ins (K := X.K) (C := C') wf1 hx hd hne
    rw [List.append_nil]
    refine s_sp (W := wE E) (σ := σ) (ds := .loc m1.length :: ds) f ⟨_, _, rfl, rv, rs.mono Le.cell⟩ ?_
    exact ((rOk.mono (Le.cell (p := x)) (s_letGo wf1 h1)).bind).imp fun d m2 w2 H2 l2 wf2 h2 v r2 => by
      cases d with
      | non => exact ⟨r2, h2 w2 H2 (Le.refl _) wf2 _ (rv.mono l2)⟩
      | _ => exact h2.elim⟩
/-- e.f -/
def xFld (C ff : Str) (fa : EF) : EF := fun sd m => (fa sd m).bind fun d m1 => match insC C m1 d with
  | some fs => match fs.lookup ff with
    | some y => .ok y m1
    | none => .stuck
  | none => .stuck
theorem d_fld {C' ff : Str} (he : DE X W e fa) (c : Cls X.K (He.ga X.K C')) (n : NoAttr X.K (He.ga X.K C') ff) (hb : attributeBase e ff X.env (eval e X.env) = eval e X.env := by rfl) : DE X W (.Attribute e ff pos) (xFld C' ff fa) := (pe_fld he hb).weak fun σ H Q ⟨w, m, sd, wf, sl, h⟩ =>
  ⟨w, m, sd, wf, sl, h.bind.imp fun d m1 w1 H1 l1 wf1 h1 v rv => by
    cases q : insC C' m1 d with
    | none => rw [q] at h1; exact h1.elim
    | some fs =>
      rw [q] at h1
      obtain ⟨a, dx, xs, rfl, e1, r1⟩ := insR wf1 rv q
      cases z : fs.lookup ff with
      | none => simp only [z] at h1; exact h1.elim
      | some y =>
        simp only [z] at h1
        obtain ⟨u, e2, r2⟩ := r1.lookup z
        exact ⟨a, _, dx, xs, u, rfl, e1, c, n, e2, h1 w1 H1 (Le.refl _) wf1 u r2⟩⟩
/-- the same for two classes, one above the other -/
def xFld2 (C C2 ff : Str) (fa : EF) : EF := fun sd m => (fa sd m).bind fun d m1 => match insC C m1 d with
  | some fs => match fs.lookup ff with
    | some y => .ok y m1
    | none => .stuck
  | none => match insC C2 m1 d with
    | some fs => match fs.lookup ff with
      | some y => .ok y m1
      | none => .stuck
    | none => .stuck
theorem d_fld2 {C' C2 ff : Str} (he : DE X W e fa) (c : Cls X.K (He.ga X.K C')) (n : NoAttr X.K (He.ga X.K C') ff) (c2 : Cls X.K (He.ga X.K C2)) (n2 : NoAttr X.K (He.ga X.K C2) ff) (hb : attributeBase e ff X.env (eval e X.env) = eval e X.env := by rfl) : DE X W (.Attribute e ff pos) (xFld2 C' C2 ff fa) := (pe_fld he hb).weak fun σ H Q ⟨w, m, sd, wf, sl, h⟩ =>
  ⟨w, m, sd, wf, sl, h.bind.imp fun d m1 w1 H1 l1 wf1 h1 v rv => by
    cases q : insC C' m1 d with
    | none =>
      simp only [q] at h1
      cases q : insC C2 m1 d with
      | none => simp only [q] at h1; exact h1.elim
      | some fs =>
        simp only [q] at h1
        obtain ⟨a, dx, xs, rfl, e1, r1⟩ := insR wf1 rv q
        cases z : fs.lookup ff with
        | none => simp only [z] at h1; exact h1.elim
        | some y =>
          simp only [z] at h1
          obtain ⟨u, e2, r2⟩ := r1.lookup z
          exact ⟨a, _, dx, xs, u, rfl, e1, c2, n2, e2, h1 w1 H1 (Le.refl _) wf1 u r2⟩
    | some fs =>
      simp only [q] at h1
      obtain ⟨a, dx, xs, rfl, e1, r1⟩ := insR wf1 rv q
      cases z : fs.lookup ff with
      | none => simp only [z] at h1; exact h1.elim
      | some y =>
        simp only [z] at h1
        obtain ⟨u, e2, r2⟩ := r1.lookup z
        exact ⟨a, _, dx, xs, u, rfl, e1, c, n, e2, h1 w1 H1 (Le.refl _) wf1 u r2⟩⟩
end
end Dl

set_option Elab.async false
set_option linter.all false
set_option maxRecDepth 100000
set_option maxHeartbeats 4000000
/-! DSt: the rules of statements. -/
namespace Dl
open PySem PySem.Spec PyProof.Rows L2
/-! ### targets -/
abbrev GF := D → Sl → Mem → Option (Sl × Mem)
def gOk (K : PySem.W.Frag) (w : Wd) : Option (Sl × Mem) → (L2.St → Hp → Prop) → Prop
  | some (sd, m), Q => ∀ w' H σ, Le w w' → Wf K w' H m → slR K w' sd σ → Q σ H
  | none, _ => False
def gOf (K : PySem.W.Frag) (g : GF) : TG := fun v σ H Q => ∃ w m sd d, Wf K w H m ∧ slR K w sd σ ∧ rep K w d v ∧ gOk K w (g d sd m) Q
theorem _root_.L2.PG.weak {X : Cx} {e : Expr} {t u : TG} (h : PG X e t) (i : ∀ v σ H Q, u v σ H Q → t v σ H Q) : PG X e u := ⟨fun pins s σ H v u Q I r q => h.run pins s σ H v u Q I r (i v σ H Q q)⟩
theorem _root_.L2.PGs.weak {X : Cx} {e : List Expr} {t u : TGs} (h : PGs X e t) (i : ∀ v σ H Q, u v σ H Q → t v σ H Q) : PGs X e u := ⟨fun pins s σ H v u Q I r q => h.run pins s σ H v u Q I r (i v σ H Q q)⟩
abbrev DG (X : Cx) (e : Expr) (g : GF) : Prop := PG X e (gOf X.K g)
abbrev GsF := List D → Sl → Mem → Option (Sl × Mem)
def gsOf (K : PySem.W.Frag) (g : GsF) : TGs := fun vs σ H Q => ∃ w m sd ds, Wf K w H m ∧ slR K w sd σ ∧ reps K w ds vs ∧ gOk K w (g ds sd m) Q
abbrev DGs (X : Cx) (e : List Expr) (g : GsF) : Prop := PGs X e (gsOf X.K g)
def tgN (i : Nat) : GF := fun d sd m => some (sd.set i (some d), m)
def tgNil : GsF := fun ds sd m => match ds with
  | [] => some (sd, m)
  | _ => none
def tgCons (g : GF) (r : GsF) : GsF := fun ds sd m => match ds with
  | d :: ds => match g d sd m with
    | some (sd1, m1) => r ds sd1 m1
    | none => none
  | [] => none
def tgT (n : Nat) (g : GsF) : GF := fun d sd m => match d.tup? with
  | some l => if l.length = n then g l sd m else none
  | none => none
section
variable {X : Cx} {W : WX} {e o a : Expr} {es : List Expr} {pos tpos : Pos} {fa fb : EF} {ta : TF} {st : Stmt} {rest body : List Stmt} {b b2 : SF}
theorem gOk.mono {K : PySem.W.Frag} {w w' : Wd} {r : Option (Sl × Mem)} {Q : L2.St → Hp → Prop} (l : Le w w') (h : gOk K w r Q) : gOk K w' r Q := by
  cases r with
  | none => exact h
  | some p => obtain ⟨sd, m⟩ := p; exact fun w2 H σ l2 => h w2 H σ (l.trans l2)
theorem dg_n {i : Nat} (h : PG X e (gName i)) : DG X e (tgN i) := h.weak fun v σ H Q ⟨w, m, sd, d, wf, sl, r, q⟩ => q w H _ (Le.refl _) wf (slR.set r i sl)
theorem dgs_nil : DGs X [] tgNil := pgs_nil.weak fun vs σ H Q ⟨w, m, sd, ds, wf, sl, r, q⟩ => by
  cases ds with
  | nil => cases r; exact ⟨rfl, q w H _ (Le.refl _) wf sl⟩
  | cons _ _ => exact q.elim
theorem dgs_cons {g : GF} {gs : GsF} (h1 : DG X e g) (h2 : DGs X es gs) (hs : (assignEach (e :: es) X.env).map (·.2) = assign e X.env :: (assignEach es X.env).map (·.2) := by rfl) : DGs X (e :: es) (tgCons g gs) := (pgs_cons h1 h2 hs).weak fun vs σ H Q ⟨w, m, sd, ds, wf, sl, r, q⟩ => by
  cases ds with
  | nil => exact q.elim
  | cons d ds =>
    obtain ⟨y, ys, rfl, r1, r2⟩ := r
    refine ⟨y, ys, rfl, w, m, sd, d, wf, sl, r1, ?_⟩
    have q' : gOk X.K w (match g d sd m with
      | some (sd1, m1) => gs ds sd1 m1
      | none => none) Q := q
    cases z : g d sd m with
    | none => rw [z] at q'; exact q'.elim
    | some p =>
      obtain ⟨sd1, m1⟩ := p
      rw [z] at q'
      exact fun w' H' σ' l f s => ⟨w', m1, sd1, ds, f, s, r2.mono l, q'.mono l⟩
theorem dg_tup {gs : GsF} {k n : Nat} (hc : X.calm = true) (h : DGs X es gs) (hn : (assignEach es X.env).length = n := by rfl) (hst : (assignEach es X.env).findIdx? (·.1) = none := by rfl) : DG X (.Tuple es k pos) (tgT n gs) := (pg_tup hc h hn hst).weak fun v σ H Q ⟨w, m, sd, d, wf, sl, r, q⟩ => by
  unfold tgT at q
  cases z : d.tup? with
  | none => rw [z] at q; exact q.elim
  | some l =>
    rw [z] at q
    have q' : gOk X.K w (if l.length = n then gs l sd m else none) Q := q
    by_cases hl : l.length = n
    · rw [if_pos hl] at q'
      obtain ⟨p, xs, rfl, h1, q1⟩ := tupR wf r z
      exact ⟨p, xs, rfl, h1, by rw [q1.length]; exact hl, w, m, sd, l, wf, sl, q1, q'⟩
    · rw [if_neg hl] at q'; exact q'.elim

/-! ### blocks -/
def sNext : SF := fun sd m => .nx sd m
def sSeq (f g : SF) : SF := fun sd m => match f sd m with
  | .nx sd1 m1 => g sd1 m1
  | r => r
theorem dss_nil : DSs X W [] sNext := pss_nil.weak fun D σ H ⟨w, m, sd, wf, sl, h⟩ => h w H σ (Le.refl _) wf sl
theorem dss_one (h : DS X W st b) : DSs X W [st] b := pss_one h
theorem dss_cons (h1 : DS X W st b) (h2 : DSs X W rest b2) : DSs X W (st :: rest) (sSeq b b2) := (pss_cons h1 h2).weak fun D σ H ⟨w, m, sd, wf, sl, h⟩ => ⟨w, m, sd, wf, sl, by
  unfold sSeq at h
  cases q : b sd m with
  | nx sd1 m1 => rw [q] at h; exact fun w' H' σ' l f s => ⟨w', m1, sd1, f, s, h.mono l⟩
  | rt d m1 => rw [q] at h; exact h
  | bk sd1 m1 => rw [q] at h; exact h
  | ct sd1 m1 => rw [q] at h; exact h
  | er e sd1 m1 => rw [q] at h; exact h
  | stuck => rw [q] at h; exact h⟩
/-- what an expression gives, or the statement's end -/
def SR.ofR {α : Type} (sd : Sl) (r : R α) (k : α → Mem → SR) : SR := match r with
  | .ok a m => k a m
  | .err e m => .er e sd m
  | .stuck => .stuck
@[simp] theorem SR.ofR_ok {α : Type} (sd : Sl) (a : α) (m : Mem) (k : α → Mem → SR) : SR.ofR sd (.ok a m) k = k a m := rfl
theorem sOk.ofR {K : PySem.W.Frag} {α : Type} {w : Wd} {sd : Sl} {σ : L2.St} {r : R α} {k : α → Mem → SR} {D : Ends} (sl : slR K w sd σ) (h : sOk K W w (SR.ofR sd r k) D) : rOk K W σ w r (fun a m w' _ => sOk K W w' (k a m) D) := by
  cases r with
  | ok a m => exact fun w' H l f => h.mono l
  | err e m => exact fun cls dx w' H l f er => h w' H σ cls dx l f (sl.mono l) er
  | stuck => exact h
def sExpr (f : EF) : SF := fun sd m => SR.ofR sd (f sd m) fun _ m1 => .nx sd m1
theorem ds_expr (he : DE X W e fa) (hs : swapsWith e none pos.line X.env = pure false := by rfl) : DS X W (.Expr e pos) (sExpr fa) := (ps_expr he hs).weak fun D σ H ⟨w, m, sd, wf, sl, h⟩ =>
  ⟨w, m, sd, wf, sl, (h.ofR sl).imp fun d m1 w1 H1 l1 wf1 h1 v rv => h1 w1 H1 σ (Le.refl _) wf1 (sl.mono l1)⟩
def sRet (f : EF) : SF := fun sd m => SR.ofR sd (f sd m) fun d m1 => .rt d m1
theorem ds_ret (he : DE X W e fa) : DS X W (.Return (some e) pos) (sRet fa) := (ps_ret he).weak fun D σ H ⟨w, m, sd, wf, sl, h⟩ =>
  ⟨w, m, sd, wf, sl, (h.ofR sl).imp fun d m1 w1 H1 l1 wf1 h1 v rv => h1 w1 H1 v (Le.refl _) wf1 rv⟩
def sRetN : SF := fun _ m => .rt .non m
theorem ds_retN : DS X W (.Return none pos) sRetN := ps_retN.weak fun D σ H ⟨w, m, sd, wf, sl, h⟩ => h w H _ (Le.refl _) wf rfl
def sBrk : SF := fun sd m => .bk sd m
def sCnt : SF := fun sd m => .ct sd m
theorem ds_pass : DS X W (.Pass pos) sNext := ps_pass.weak fun D σ H ⟨w, m, sd, wf, sl, h⟩ => h w H σ (Le.refl _) wf sl
theorem ds_break : DS X W (.Break pos) sBrk := ps_break.weak fun D σ H ⟨w, m, sd, wf, sl, h⟩ => h w H σ (Le.refl _) wf sl
theorem ds_continue : DS X W (.Continue pos) sCnt := ps_continue.weak fun D σ H ⟨w, m, sd, wf, sl, h⟩ => h w H σ (Le.refl _) wf sl
def sStuck : SF := fun _ _ => .stuck
theorem ds_never : DS X W st sStuck := ps_never.weak fun D σ H ⟨w, m, sd, wf, sl, h⟩ => h
theorem dss_never : DSs X W rest sStuck := pss_never.weak fun D σ H ⟨w, m, sd, wf, sl, h⟩ => h
def sIf (t : TF) (f g : SF) : SF := fun sd m => SR.ofR sd (t sd m) fun k m1 => if k then f sd m1 else g sd m1
theorem ds_if {c : Expr} {ss tt : List Stmt} (hc : DT X W c ta) (ha : DSs X W ss b) (hb : DSs X W tt b2) : DS X W (.If c ss tt pos) (sIf ta b b2) := (ps_if hc ha hb).weak fun D σ H ⟨w, m, sd, wf, sl, h⟩ =>
  ⟨w, m, sd, wf, sl, (h.ofR sl).imp fun k m1 w1 H1 l1 wf1 h1 => by
    cases k with
    | true => exact ⟨w1, m1, sd, wf1, sl.mono l1, h1⟩
    | false => exact ⟨w1, m1, sd, wf1, sl.mono l1, h1⟩⟩
/-- target = e -/
def sAsg (f : EF) (g : GF) : SF := fun sd m => SR.ofR sd (f sd m) fun d m1 => match g d sd m1 with
  | some (sd1, m2) => .nx sd1 m2
  | none => .stuck
theorem s_asg {K : PySem.W.Frag} {f : EF} {g : GF} {t : TG} (i : ∀ v σ H Q, gOf K g v σ H Q → t v σ H Q) (D : Ends) (σ : L2.St) (H : Hp) : sOf K W (sAsg f g) D σ H → tAsg (eOf K W f) t D σ H := fun ⟨w, m, sd, wf, sl, h⟩ =>
  ⟨w, m, sd, wf, sl, (h.ofR sl).imp fun d m1 w1 H1 l1 wf1 h1 v rv => i v σ H1 _ ⟨w1, m1, sd, d, wf1, sl.mono l1, rv, by
    cases q : g d sd m1 with
    | none => rw [q] at h1; exact h1
    | some p => obtain ⟨sd1, m2⟩ := p; rw [q] at h1; exact h1⟩⟩
theorem ds_asg {tg : Expr} {g : GF} (he : DE X W e fa) (hg : DG X tg g) (hs : swapsWithSole [tg] e pos.line X.env = pure false := by rfl) (hw : swappedStores [tg] e X.env = pure none := by rfl)
    (h1 : (assignEach [tg] X.env).map (·.2) = [assign tg X.env] := by rfl) : DS X W (.Assign [tg] e pos) (sAsg fa g) := (ps_asg he hg hs hw h1).weak (s_asg fun _ _ _ _ q => q)
theorem ds_set {i : Nat} {x : Str} {pos' : Pos} (hN : X.N.Nodup) (hi : X.N[i]? = some x) (hx : Loc X.env.scope x) (he : DE X W e fa) (hs : swapsWith e (some (.Name x pos')) pos.line X.env = pure false := by rfl) (hf : X.fn x = true ∨ X.env.scope.names.lookup x = some .local := by first | exact .inl rfl | exact .inr rfl | assumption) :
    DS X W (.Assign [.Name x pos'] e pos) (sAsg fa (tgN i)) := (ps_set hN hi hx he hs hf).weak (s_asg fun v σ H Q ⟨w, m, sd, d, wf, sl, r, q⟩ => q w H _ (Le.refl _) wf (slR.set r i sl))
/-- a, b = x, y (two local names): no tuple -/
def sPar (i j : Nat) (r : AF) : SF := fun sd m => SR.ofR sd (r sd m) fun ds m1 => match ds with
  | [d, d2] => .nx ((sd.set i (some d)).set j (some d2)) m1
  | _ => .stuck
theorem ds_par {i j : Nat} {x y : Str} {c d : Expr} {ar : AF} {px py pt : Pos} {kt k2 pt2} (hc : X.calm = true) (hN : X.N.Nodup) (hi : X.N[i]? = some x) (hj : X.N[j]? = some y) (hij : i ≠ j)
    (hx : X.env.scope.names.lookup x = some .local) (hy : X.env.scope.names.lookup y = some .local) (ha : DA X W [c, d] ar)
    (hw : swappedStores [.Tuple [.Name x px, .Name y py] kt pt] (.Tuple [c, d] k2 pt2) X.env = pure (some [x, y]) := by rfl)
    (hs : swapsWithSole [.Tuple [.Name x px, .Name y py] kt pt] (.Tuple [c, d] k2 pt2) pos.line X.env = pure false := by rfl) :
    DS X W (.Assign [.Tuple [.Name x px, .Name y py] kt pt] (.Tuple [c, d] k2 pt2) pos) (sPar i j ar) := (ps_par hc hN hi hj hij hx hy ha hw hs).weak fun D σ H ⟨w, m, sd, wf, sl, h⟩ =>
  ⟨w, m, sd, wf, sl, (h.ofR sl).imp fun ds m1 w1 H1 l1 wf1 h1 vs rs => by
    cases ds with
    | nil => exact h1.elim
    | cons d ds => cases ds with
      | nil => exact h1.elim
      | cons d2 ds => cases ds with
        | cons _ _ => exact h1.elim
        | nil =>
          obtain ⟨y, ys, rfl, r1, y2, ys2, rfl, r2, rfl⟩ := rs
          exact ⟨y, y2, rfl, h1 w1 H1 _ (Le.refl _) wf1 (slR.set r2 j (slR.set r1 i (sl.mono l1)))⟩⟩
/-- three local names -/
def sPar3 (i j l : Nat) (r : AF) : SF := fun sd m => SR.ofR sd (r sd m) fun ds m1 => match ds with
  | [d, d2, d3] => .nx (((sd.set i (some d)).set j (some d2)).set l (some d3)) m1
  | _ => .stuck

/-! ### cells written -/
/-- o.f = e, o a cell that holds an instance of C -/
def setFld (C ff : Str) (d y : D) (m : Mem) : Option Mem := match d with
  | .loc n => match m[n]? with
    | some (.ins C' fs) => if C' = C ∧ fs.length < 1000 then some (m.set n (.ins C' (putD ff y fs))) else none
    | _ => none
  | _ => none
theorem setFldR {K : PySem.W.Frag} {w : Wd} {H : Hp} {m m' : Mem} {C ff : Str} {d y : D} {v u : V} (wf : Wf K w H m) (r : rep K w d v) (ry : rep K w y u) (h : setFld C ff d y m = some m') :
    ∃ a dx xs, v = .ref a ∧ H a = some (.ins (He.ga K C) dx xs) ∧ xs.length < 1000 ∧ Wf K w (upd H a (.ins (He.ga K C) dx (putF ff u xs))) m' := by
  cases d with
  | loc n =>
    have h' : (match m[n]? with
      | some (.ins C' fs) => if C' = C ∧ fs.length < 1000 then some (m.set n (.ins C' (putD ff y fs))) else none
      | _ => none) = some m' := h
    cases z : m[n]? with
    | none => rw [z] at h'; cases h'
    | some c =>
      rw [z] at h'
      cases c with
      | ins C' fs =>
        have h' : (if C' = C ∧ fs.length < 1000 then some (m.set n (.ins C' (putD ff y fs))) else none) = some m' := h'
        by_cases q : C' = C ∧ fs.length < 1000
        · rw [if_pos q] at h'
          have em := Option.some.inj h'
          obtain ⟨rfl, hl⟩ := q
          obtain ⟨a, rfl, ha, dx, xs, h2, r2⟩ := wf.at r z
          refine ⟨a, dx, xs, rfl, h2, by rw [r2.length]; exact hl, ?_⟩
          rw [← em]
          exact wf.put ha (fun b hb _ => upd_ne hb) ⟨dx, _, upd_same, r2.put ry⟩
        · rw [if_neg q] at h'; cases h'
      | _ => cases h'
  | _ => cases h
def sFldSet (C ff : Str) (fo fe : EF) : SF := fun sd m => SR.ofR sd (fe sd m) fun y m1 => SR.ofR sd (fo sd m1) fun d m2 => match setFld C ff d y m2 with
  | some m3 => .nx sd m3
  | none => .stuck
theorem ds_fld {C ff : Str} {value : Expr} {pos' : Pos} (c : Cls X.K (He.ga X.K C)) (n : NoAttr X.K (He.ga X.K C) ff) (ha : DE X W o fa) (hv : DE X W value fb) (hs : swapsWith value (some (.Attribute o ff pos')) pos.line X.env = pure false := by rfl) :
    DS X W (.Assign [.Attribute o ff pos'] value pos) (sFldSet C ff fa fb) := (ps_fld ha hv hs).weak fun D σ H ⟨w, m, sd, wf, sl, h⟩ =>
  ⟨w, m, sd, wf, sl, (h.ofR sl).imp fun y m1 w1 H1 l1 wf1 h1 u ru => ⟨w1, m1, sd, wf1, sl.mono l1, (h1.ofR (sl.mono l1)).imp fun d m2 w2 H2 l2 wf2 h2 v rv => by
    cases q : setFld C ff d y m2 with
    | none => rw [q] at h2; exact h2.elim
    | some m3 =>
      rw [q] at h2
      obtain ⟨a, dx, xs, rfl, e1, e2, f⟩ := setFldR wf2 rv (ru.mono l2) q
      exact ⟨a, _, dx, xs, rfl, e1, c, n, e2, h2 w2 _ σ (Le.refl _) f ((sl.mono l1).mono l2)⟩⟩⟩
/-- an attribute as a target among several -/
theorem pg_fld {C ff : Str} {to : TE} (c : Cls X.K (He.ga X.K C)) (n : NoAttr X.K (He.ga X.K C) ff) (ho : PE X o to)
    (ha : ∀ v, assign (.Attribute o ff pos) X.env v = (do
      let ov ← holding [v] (eval o X.env)
      standAt pos
      holding [v, ov] (setAttr ov ff v)
      release [v, ov] []) := by intro _; rfl) :
    PG X (.Attribute o ff pos) (fun v σ H Q => to σ H fun x H1 => ∃ a dx fs, x = .ref a ∧ H1 a = some (.ins (He.ga X.K C) dx fs) ∧ fs.length < 1000 ∧ Q σ (upd H1 a (.ins (He.ga X.K C) dx (putF ff v fs)))) := by
  refine ⟨fun pins s σ H v u Q I r h => ?_⟩
  rw [ha]
  refine wpAny_bind (wpAny_holding (thn (ho.run pins s σ H _ I h) fun ov s1 ⟨x, H1, I1, r1, a, dx, fs, ex, ea, l, q1⟩ => ?_))
  subst ex
  obtain rfl : ov = Value.ref a := r1
  refine wpAny_bind (wpAny_standAt (wpAny_bind (wpAny_holding (setattr_ok I1 ea c n l r fun s3 I3 => ?_))))
  exact wpAny_release ⟨σ, _, I3, q1⟩
def tgF (C ff : Str) (fo : EF) : GF := fun y sd m => match fo sd m with
  | .ok d m1 => match setFld C ff d y m1 with
    | some m2 => some (sd, m2)
    | none => none
  | _ => none
theorem dg_fld {C ff : Str} (c : Cls X.K (He.ga X.K C)) (n : NoAttr X.K (He.ga X.K C) ff) (ho : DE X W o fa)
    (ha : ∀ v, assign (.Attribute o ff pos) X.env v = (do
      let ov ← holding [v] (eval o X.env)
      standAt pos
      holding [v, ov] (setAttr ov ff v)
      release [v, ov] []) := by intro _; rfl) : DG X (.Attribute o ff pos) (tgF C ff fa) := (pg_fld c n ho ha).weak fun v σ H Q ⟨w, m, sd, d, wf, sl, r, q⟩ => by
  refine ⟨w, m, sd, wf, sl, ?_⟩
  unfold tgF at q
  cases z : fa sd m with
  | err e m1 => rw [z] at q; exact q.elim
  | stuck => rw [z] at q; exact q.elim
  | ok d' m1 =>
    rw [z] at q
    intro w1 H1 l1 wf1 u ru
    have q' : gOk X.K w (match setFld C ff d' d m1 with
      | some m2 => some (sd, m2)
      | none => none) Q := q
    cases y : setFld C ff d' d m1 with
    | none => rw [y] at q'; exact q'.elim
    | some m2 =>
      rw [y] at q'
      obtain ⟨a, dx, xs, rfl, e1, e2, f⟩ := setFldR wf1 ru (r.mono l1) y
      exact ⟨a, dx, xs, rfl, e1, e2, q' w1 _ σ l1 f (sl.mono l1)⟩
/-- o[i] = e, o a cell that holds a list -/
def setIx (d i y : D) (m : Mem) : Option Mem := match d, i with
  | .loc n, .int k => match m[n]? with
    | some (.lst l) => match ixN l.length k with
      | some j => some (m.set n (.lst (l.set j y)))
      | none => none
    | _ => none
  | _, _ => none
theorem setIxR {K : PySem.W.Frag} {w : Wd} {H : Hp} {m m' : Mem} {d i y : D} {v vi u : V} (wf : Wf K w H m) (r : rep K w d v) (ri : rep K w i vi) (ry : rep K w y u) (h : setIx d i y m = some m') :
    ∃ a xs k j, v = .ref a ∧ vi = .int k ∧ H a = some (.lst xs) ∧ ixN xs.length k = some j ∧ Wf K w (upd H a (.lst (xs.set j u))) m' := by
  cases d with
  | loc n => cases i with
    | int k =>
      have h' : (match m[n]? with
        | some (.lst l) => match ixN l.length k with
          | some j => some (m.set n (.lst (l.set j y)))
          | none => none
        | _ => none) = some m' := h
      cases z : m[n]? with
      | none => rw [z] at h'; cases h'
      | some c =>
        rw [z] at h'
        cases c with
        | lst l =>
          have h' : (match ixN l.length k with
            | some j => some (m.set n (.lst (l.set j y)))
            | none => none) = some m' := h'
          cases q : ixN l.length k with
          | none => rw [q] at h'; cases h'
          | some j =>
            rw [q] at h'
            have em := Option.some.inj h'
            obtain ⟨a, rfl, ha, xs, h2, r2⟩ := wf.at r z
            refine ⟨a, xs, k, j, rfl, ri, h2, by rw [r2.length]; exact q, ?_⟩
            rw [← em]
            exact wf.put ha (fun b hb _ => upd_ne hb) ⟨_, upd_same, r2.set j ry⟩
        | _ => cases h'
    | _ => cases h
  | _ => cases h
def tgIx (fo fi : EF) : GF := fun y sd m => match fo sd m with
  | .ok d m1 => match fi sd m1 with
    | .ok i m2 => match setIx d i y m2 with
      | some m3 => some (sd, m3)
      | none => none
    | _ => none
  | _ => none
theorem dg_ix {i : Expr} (ho : DE X W o fa) (hi : DE X W i fb)
    (ha : ∀ v, assign (.Subscript o i pos) X.env v = (do
      let ov ← holding [v] (eval o X.env)
      let iv ← holding [v, ov] (eval i X.env)
      standAt pos
      holding [v, ov, iv] (setItem ov iv v)
      release [v, ov, iv] []) := by intro _; rfl) : DG X (.Subscript o i pos) (tgIx fa fb) := (pg_sub ho hi set_list ha).weak fun v σ H Q ⟨w, m, sd, y, wf, sl, r, q⟩ => by
  refine ⟨w, m, sd, wf, sl, ?_⟩
  unfold tgIx at q
  cases z : fa sd m with
  | err e m1 => rw [z] at q; exact q.elim
  | stuck => rw [z] at q; exact q.elim
  | ok d m1 =>
    rw [z] at q
    intro w1 H1 l1 wf1 u ru
    refine ⟨w1, m1, sd, wf1, sl.mono l1, ?_⟩
    simp only at q
    cases z2 : fb sd m1 with
    | err e m1 => rw [z2] at q; exact q.elim
    | stuck => rw [z2] at q; exact q.elim
    | ok iv m2 =>
      rw [z2] at q
      intro w2 H2 l2 wf2 u2 ru2
      simp only at q
      cases z3 : setIx d iv y m2 with
      | none => rw [z3] at q; exact q.elim
      | some m3 =>
        rw [z3] at q
        obtain ⟨a, xs, k, j, rfl, rfl, e1, e2, f⟩ := setIxR wf2 (ru.mono l2) ru2 ((r.mono l1).mono l2) z3
        exact ⟨a, xs, k, j, rfl, rfl, e1, e2, q w2 _ σ (l1.trans l2) f ((sl.mono l1).mono l2)⟩
/-- x op= e, by values -/
def sAug (i : Nat) (o : Op2) (f : EF) : SF := fun sd m => match sd[i]? with
  | some (some d) => SR.ofR sd (f sd m) fun y m1 => match o d y m1 with
    | some (z, m2) => .nx (sd.set i (some z)) m2
    | none => .stuck
  | _ => .stuck
theorem ds_aug {i : Nat} {x : Str} {op : Operator} {r : R2} {o : Op2} {pos' : Pos} (ho : OpR X (inplaceOp op) r) (hs : OSat X.K r o) (hN : X.N.Nodup) (hi : X.N[i]? = some x) (hx : Loc X.env.scope x) (he : DE X W e fa)
    (hf : X.fn x = true ∨ X.env.scope.names.lookup x = some .local := by first | exact .inl rfl | exact .inr rfl | assumption) : DS X W (.AugAssign (.Name x pos') op e pos) (sAug i o fa) :=
  (ps_aug (ti := r) hN hi hx he (fun pins s σ H x y v u Q I rx ry q => ho pins s σ H x y v u Q I rx ry q) hf).weak fun D σ H ⟨w, m, sd, wf, sl, h⟩ => by
  unfold sAug at h
  cases q : sd[i]? with
  | none => rw [q] at h; exact h.elim
  | some od => cases od with
    | none => rw [q] at h; exact h.elim
    | some d =>
      rw [q] at h
      obtain ⟨v, e1, rv⟩ := sl.get q
      refine ⟨v, e1, w, m, sd, wf, sl, (sOk.ofR sl h).imp fun y m1 w1 H1 l1 wf1 h1 u ru => ?_⟩
      refine hs w1 H1 m1 d y v u _ wf1 (rv.mono l1) ru ?_
      cases z : o d y m1 with
      | none => rw [z] at h1; exact h1
      | some p =>
        obtain ⟨zz, m2⟩ := p
        rw [z] at h1
        exact fun w2 H2 v2 l2 f2 r2 => h1 w2 H2 _ l2 f2 (slR.set r2 i ((sl.mono l1).mono l2))
end
end Dl

set_option Elab.async false
set_option linter.all false
set_option maxRecDepth 100000
set_option maxHeartbeats 4000000
/-! DLoop: while, for, list comprehensions. -/
namespace Dl
open PySem PySem.Spec PyProof.Rows L2
/-! ### while: with so much fuel -/
def whileD (t : TF) (b : SF) : Nat → Sl → Mem → SR
  | 0, _, _ => .stuck
  | n + 1, sd, m => SR.ofR sd (t sd m) fun k m1 => if k then match b sd m1 with
    | .nx sd2 m2 => whileD t b n sd2 m2
    | .ct sd2 m2 => whileD t b n sd2 m2
    | .bk sd2 m2 => .nx sd2 m2
    | r => r
    else .nx sd m1
def sWhile (n : Nat) (t : TF) (b : SF) : SF := fun sd m => whileD t b n sd m
section
variable {X : Cx} {W : WX} {e o c it tg elt : Expr} {es : List Expr} {pos tpos : Pos} {fa fb : EF} {ta : TF} {st : Stmt} {rest body : List Stmt} {b b2 : SF} {g : GF}
theorem ds_while (n : Nat) (hp : PassesOwn (model X.prog X.w) X.A X.env X.xe) (hc : DT X W c ta) (hb : DSs X W body b) : DS X W (.While c body [] pos) (sWhile n ta b) := (ps_while hp hc hb).weak fun D σ H ⟨w, m, sd, wf, sl, h⟩ => by
  refine ⟨fun k σ H => ∃ w m sd, Wf X.K w H m ∧ slR X.K w sd σ ∧ sOk X.K W w (whileD ta b k sd m) D, ⟨n, w, m, sd, wf, sl, h⟩, ?_⟩
  rintro k σ1 H1 ⟨w1, m1, sd1, wf1, sl1, h1⟩
  cases k with
  | zero => exact h1.elim
  | succ k =>
    refine ⟨w1, m1, sd1, wf1, sl1, (sOk.ofR sl1 h1).imp fun q m2 w2 H2 l2 wf2 h2 => ?_⟩
    cases q with
    | false => exact h2 w2 H2 σ1 (Le.refl _) wf2 (sl1.mono l2)
    | true =>
      refine ⟨fun σ H => ∃ w m sd, Wf X.K w H m ∧ slR X.K w sd σ ∧ sOk X.K W w (whileD ta b k sd m) D, fun σ' H' p => ⟨k, Nat.lt_succ_self _, p⟩, w2, m2, sd1, wf2, sl1.mono l2, ?_⟩
      have h3 : sOk X.K W w2 (match b sd1 m2 with
        | .nx sd2 m2 => whileD ta b k sd2 m2
        | .ct sd2 m2 => whileD ta b k sd2 m2
        | .bk sd2 m2 => .nx sd2 m2
        | r => r) D := h2
      cases z : b sd1 m2 with
      | nx sd3 m3 => rw [z] at h3; exact fun w' H' σ' l f s => ⟨w', m3, sd3, f, s, h3.mono l⟩
      | ct sd3 m3 => rw [z] at h3; exact fun w' H' σ' l f s => ⟨w', m3, sd3, f, s, h3.mono l⟩
      | bk sd3 m3 => rw [z] at h3; exact fun w' H' σ' l f s => h3 w' H' σ' l f s
      | rt d m3 => rw [z] at h3; exact h3
      | er e sd3 m3 => rw [z] at h3; exact h3
      | stuck => rw [z] at h3; exact h3

/-! ### for -/
def turnD (g : GF) (b : SF) (x : D) (r : Sl → Mem → SR) (sd : Sl) (m : Mem) : SR := match g x sd m with
  | some (sd1, m1) => match b sd1 m1 with
    | .nx sd2 m2 => r sd2 m2
    | .ct sd2 m2 => r sd2 m2
    | .bk sd2 m2 => .nx sd2 m2
    | r => r
  | none => .stuck
def forD (g : GF) (b : SF) : List D → Sl → Mem → SR
  | [], sd, m => .nx sd m
  | x :: xs, sd, m => turnD g b x (fun sd m => forD g b xs sd m) sd m
/-- over the list of a cell, as it stands at each turn -/
def forL (g : GF) (b : SF) (n : Nat) : Nat → Nat → Sl → Mem → SR
  | 0, i, sd, m => match (D.loc n).rdl? m with
    | none => .stuck
    | some l => match l[i]? with
      | none => .nx sd m
      | some _ => .stuck
  | k + 1, i, sd, m => match (D.loc n).rdl? m with
    | none => .stuck
    | some l => match l[i]? with
      | none => .nx sd m
      | some x => turnD g b x (fun sd m => forL g b n k (i + 1) sd m) sd m
def sFor (f : EF) (g : GF) (b : SF) : SF := fun sd m => SR.ofR sd (f sd m) fun d m1 => match d with
  | .tup l => forD g b l sd m1
  | .ctup l => forD g b l sd m1
  | .lst l => forD g b l sd m1
  | .scr l => forD g b l sd m1
  | .loc n => match m1[n]? with
    | some (.lst l) => forL g b n l.length 0 sd m1
    | _ => .stuck
  | _ => .stuck
theorem pi_or {w1 w2 : TI} (h1 : PI X tg it w1) (h2 : PI X tg it w2) : PI X tg it (fun σ H R => w1 σ H R ∨ w2 σ H R) := ⟨fun pins s σ H R I h => h.elim (h1.run pins s σ H R I) (h2.run pins s σ H R I)⟩
/-- the state between two turns -/
def Mid (K : PySem.W.Frag) (W : WX) (w0 : Wd) (En : Ends) (r : Sl → Mem → SR) : L2.St → Hp → Prop := fun σ H => ∃ w m sd, Le w0 w ∧ Wf K w H m ∧ slR K w sd σ ∧ sOk K W w (r sd m) En
theorem turn_step {K : PySem.W.Frag} {w0 w : Wd} {En : Ends} {r : Sl → Mem → SR} {x : D} {v : V} {sd : Sl} {m : Mem} {σ : L2.St} {H : Hp} (l : Le w0 w) (wf : Wf K w H m) (sl : slR K w sd σ) (rx : rep K w x v)
    (h : sOk K W w (turnD g b x r sd m) En) : gOf K g v σ H (fun σ2 H2 => sOf K W b { En with nx := Mid K W w0 En r, ct := Mid K W w0 En r, bk := En.nx } σ2 H2) := by
  refine ⟨w, m, sd, x, wf, sl, rx, ?_⟩
  unfold turnD at h
  cases z : g x sd m with
  | none => rw [z] at h; exact h.elim
  | some p =>
    obtain ⟨sd1, m1⟩ := p
    rw [z] at h
    intro w1 H1 σ1 l1 wf1 sl1
    refine ⟨w1, m1, sd1, wf1, sl1, ?_⟩
    have h2 : sOk K W w (match b sd1 m1 with
        | .nx sd2 m2 => r sd2 m2
        | .ct sd2 m2 => r sd2 m2
        | .bk sd2 m2 => .nx sd2 m2
        | r => r) En := h
    cases y : b sd1 m1 with
    | nx sd3 m3 => rw [y] at h2; exact fun w' H' σ' l' f s => ⟨w', m3, sd3, (l.trans l1).trans l', f, s, (h2.mono l1).mono l'⟩
    | ct sd3 m3 => rw [y] at h2; exact fun w' H' σ' l' f s => ⟨w', m3, sd3, (l.trans l1).trans l', f, s, (h2.mono l1).mono l'⟩
    | bk sd3 m3 => rw [y] at h2; exact fun w' H' σ' l' f s => (h2.mono l1) w' H' σ' l' f s
    | rt d m3 => rw [y] at h2; exact h2.mono l1
    | er e sd3 m3 => rw [y] at h2; exact h2.mono l1
    | stuck => rw [y] at h2; exact h2
theorem drop_get {l : List D} {i : Nat} {x : D} (h : l[i]? = some x) : l.drop i = x :: l.drop (i + 1) := by
  obtain ⟨hi, e⟩ := List.getElem?_eq_some_iff.mp h
  rw [List.drop_eq_getElem_cons hi, e]
theorem forD_cons {x : D} {xs : List D} {sd : Sl} {m : Mem} : forD g b (x :: xs) sd m = turnD g b x (fun sd m => forD g b xs sd m) sd m := rfl
theorem overT {K : PySem.W.Frag} {En : Ends} {w1 : Wd} {sd : Sl} {m1 : Mem} {σ : L2.St} {H1 : Hp} {l : List D} {a : Addr} {xs : List V} (sl : slR K w1 sd σ) (wf1 : Wf K w1 H1 m1) (hq : ∀ w2 H2 m2, Le w1 w2 → Wf K w2 H2 m2 → SqT K H2 a xs) (rs : reps K w1 l xs) (h1 : sOk K W w1 (forD g b l sd m1) En) :
      ∃ Wi : Nat → Nat → L2.St → Hp → Prop, (∃ m, Wi 0 m σ H1) ∧ ∀ i m σ H, Wi i m σ H →
        ((Itt K a).stop i H ∧ En.nx σ H) ∨ ((Itt K a).go i H ∧ ∃ N : L2.St → Hp → Prop, (∀ σ' H', N σ' H' → ∃ m', m' < m ∧ Wi (i + 1) m' σ' H') ∧ ∀ x H', (Itt K a).yld i H x H' → gOf K g x σ H' fun σ2 H2 => sOf K W b { En with nx := N, ct := N, bk := En.nx } σ2 H2) := by
  refine for_tup (K := K) (a := a) (xs := xs) (fun i => Mid K W w1 En (fun sd m => forD g b (l.drop i) sd m)) ⟨w1, m1, sd, Le.refl _, wf1, sl, by rw [List.drop_zero]; exact h1⟩ (fun i σ H _ ⟨w2, m2, sd2, l2, wf2, sl2, h2⟩ => hq w2 H m2 l2 wf2) ?_ ?_
  · rintro i x σ2 H2 hx ⟨w2, m2, sd2, l2, wf2, sl2, h2⟩
    have hil : i < l.length := by rw [← rs.length]; exact (List.getElem?_eq_some_iff.mp hx).1
    obtain ⟨v, e1, r1⟩ := rs.get (List.getElem?_eq_getElem hil)
    rw [hx] at e1
    cases e1
    rw [drop_get (List.getElem?_eq_getElem hil)] at h2
    exact turn_step l2 wf2 sl2 (r1.mono l2) h2
  · rintro σ2 H2 ⟨w2, m2, sd2, l2, wf2, sl2, h2⟩
    rw [rs.length, List.drop_length] at h2
    exact h2 w2 H2 σ2 (Le.refl _) wf2 sl2
theorem overL {K : PySem.W.Frag} {En : Ends} {w1 : Wd} {sd : Sl} {m1 : Mem} {σ : L2.St} {H1 : Hp} {l : List D} {a : Addr} {xs : List V} (sl : slR K w1 sd σ) (wf1 : Wf K w1 H1 m1) (hq : ∀ w2 H2 m2, Le w1 w2 → Wf K w2 H2 m2 → SqL K H2 a xs) (rs : reps K w1 l xs) (h1 : sOk K W w1 (forD g b l sd m1) En) :
      ∃ Wi : Nat → Nat → L2.St → Hp → Prop, (∃ m, Wi 0 m σ H1) ∧ ∀ i m σ H, Wi i m σ H →
        ((Itl K a).stop i H ∧ En.nx σ H) ∨ ((Itl K a).go i H ∧ ∃ N : L2.St → Hp → Prop, (∀ σ' H', N σ' H' → ∃ m', m' < m ∧ Wi (i + 1) m' σ' H') ∧ ∀ x H', (Itl K a).yld i H x H' → gOf K g x σ H' fun σ2 H2 => sOf K W b { En with nx := N, ct := N, bk := En.nx } σ2 H2) := by
  refine for_list (K := K) (a := a) (xs := xs) (fun i => Mid K W w1 En (fun sd m => forD g b (l.drop i) sd m)) ⟨w1, m1, sd, Le.refl _, wf1, sl, by rw [List.drop_zero]; exact h1⟩ (fun i σ H _ ⟨w2, m2, sd2, l2, wf2, sl2, h2⟩ => hq w2 H m2 l2 wf2) ?_ ?_
  · rintro i x σ2 H2 hx ⟨w2, m2, sd2, l2, wf2, sl2, h2⟩
    have hil : i < l.length := by rw [← rs.length]; exact (List.getElem?_eq_some_iff.mp hx).1
    obtain ⟨v, e1, r1⟩ := rs.get (List.getElem?_eq_getElem hil)
    rw [hx] at e1
    cases e1
    rw [drop_get (List.getElem?_eq_getElem hil)] at h2
    exact turn_step l2 wf2 sl2 (r1.mono l2) h2
  · rintro σ2 H2 ⟨w2, m2, sd2, l2, wf2, sl2, h2⟩
    rw [rs.length, List.drop_length] at h2
    exact h2 w2 H2 σ2 (Le.refl _) wf2 sl2
theorem overC {K : PySem.W.Frag} {En : Ends} {w1 : Wd} {sd : Sl} {m1 : Mem} {σ : L2.St} {H1 : Hp} {l : List D} {n : Nat} {a : Addr} (sl : slR K w1 sd σ) (wf1 : Wf K w1 H1 m1) (rv : rep K w1 (.loc n) (.ref a)) (h1 : sOk K W w1 (forL g b n l.length 0 sd m1) En) :
      ∃ Wi : Nat → Nat → L2.St → Hp → Prop, (∃ m, Wi 0 m σ H1) ∧ ∀ i m σ H, Wi i m σ H →
        ((Itl K a).stop i H ∧ En.nx σ H) ∨ ((Itl K a).go i H ∧ ∃ N : L2.St → Hp → Prop, (∀ σ' H', N σ' H' → ∃ m', m' < m ∧ Wi (i + 1) m' σ' H') ∧ ∀ x H', (Itl K a).yld i H x H' → gOf K g x σ H' fun σ2 H2 => sOf K W b { En with nx := N, ct := N, bk := En.nx } σ2 H2) := by
  refine ⟨fun i k σ H => Mid K W w1 En (fun sd m => forL g b n k i sd m) σ H, ⟨l.length, w1, m1, sd, Le.refl _, wf1, sl, h1⟩, ?_⟩
  have fin : ∀ {i : Nat} {σ2 : L2.St} {H2 : Hp} {w2 : Wd} {m2 : Mem} {sd2 : Sl} {l' : List D} {xs' : List V}, Wf K w2 H2 m2 → slR K w2 sd2 σ2 → SqL K H2 a xs' → reps K w2 l' xs' → l'[i]? = none → sOk K W w2 (.nx sd2 m2) En → (Itl K a).stop i H2 ∧ En.nx σ2 H2 := by
    intro i σ2 H2 w2 m2 sd2 l' xs' wf2 sl2 hs' rs' x h3
    refine ⟨⟨xs', hs', ?_⟩, h3 w2 H2 σ2 (Le.refl _) wf2 sl2⟩
    rw [rs'.length]
    exact List.getElem?_eq_none_iff.mp x
  rintro i k σ2 H2 ⟨w2, m2, sd2, l2, wf2, sl2, h2⟩
  cases k with
  | zero =>
    unfold forL at h2
    cases y : (D.loc n).rdl? m2 with
    | none => simp only [y] at h2; exact h2.elim
    | some l' =>
      obtain ⟨a', xs', ea, hs', rs'⟩ := rdlR wf2 (rv.mono l2) y
      cases ea
      cases x : l'[i]? with
      | none => simp only [y, x] at h2; exact .inl (fin wf2 sl2 hs' rs' x h2)
      | some y0 => simp only [y, x] at h2; exact h2.elim
  | succ k =>
    unfold forL at h2
    cases y : (D.loc n).rdl? m2 with
    | none => simp only [y] at h2; exact h2.elim
    | some l' =>
      obtain ⟨a', xs', ea, hs', rs'⟩ := rdlR wf2 (rv.mono l2) y
      cases ea
      cases x : l'[i]? with
      | none => simp only [y, x] at h2; exact .inl (fin wf2 sl2 hs' rs' x h2)
      | some y0 =>
        simp only [y, x] at h2
        obtain ⟨vx, e3, r3⟩ := rs'.get x
        refine .inr ⟨⟨xs', vx, hs', e3⟩, Mid K W w1 En (fun sd m => forL g b n k (i + 1) sd m), fun σ' H' p => ⟨k, Nat.lt_succ_self _, p⟩, ?_⟩
        rintro u H' ⟨rfl, hu⟩
        have eu := hu xs' hs'
        rw [e3] at eu
        cases eu
        exact turn_step l2 wf2 sl2 r3 h2
theorem ds_for (hp : PassesOwn (model X.prog X.w) X.A X.env X.xe) (hc : X.calm = true) (hi : DE X W it fa) (hg : DG X tg g) (hb : DSs X W body b)
    (hs : ∀ x, foldedSetIterable it X.env x = pure x := by intro _; rfl) : DS X W (.For tg it body [] pos) (sFor fa g b) := (ps_for hp hc (pi_or (pi_tup hi) (pi_list hi)) hg hb hs).weak fun En σ H ⟨w, m, sd, wf, sl, h⟩ => by
  have go := sOk.ofR sl h
  show (iTup X.K (eOf X.K W fa) σ H _) ∨ (iList X.K (eOf X.K W fa) σ H _)
  cases q : fa sd m with
  | err e m1 => exact .inl ⟨w, m, sd, wf, sl, by rw [q] at go ⊢; exact go⟩
  | stuck => exact .inl ⟨w, m, sd, wf, sl, by rw [q] at go ⊢; exact go⟩
  | ok d m1 =>
    rw [q] at go
    cases d with
    | tup l =>
      refine .inl ⟨w, m, sd, wf, sl, ?_⟩
      rw [q]
      intro w1 H1 l1 wf1 v rv
      have h1 := go w1 H1 l1 wf1
      obtain ⟨a, xs, rfl, h2, r2⟩ := rv
      exact ⟨a, rfl, ⟨xs, .of (wf1.subT h2)⟩, overT (sl.mono l1) wf1 (fun w2 H2 m2 l2 wf2 => .of (wf2.subT (l2.c _ _ h2))) r2 h1⟩
    | ctup l =>
      refine .inl ⟨w, m, sd, wf, sl, ?_⟩
      rw [q]
      intro w1 H1 l1 wf1 v rv
      have h1 := go w1 H1 l1 wf1
      obtain ⟨a, xs, rfl, h2, r2⟩ := rv
      exact ⟨a, rfl, ⟨xs, h2 H1⟩, overT (sl.mono l1) wf1 (fun w2 H2 m2 l2 wf2 => h2 H2) r2 h1⟩
    | lst l =>
      refine .inr ⟨w, m, sd, wf, sl, ?_⟩
      rw [q]
      intro w1 H1 l1 wf1 v rv
      have h1 := go w1 H1 l1 wf1
      obtain ⟨a, xs, rfl, h2, r2⟩ := rv
      exact ⟨a, rfl, ⟨xs, .of (wf1.subL h2)⟩, overL (sl.mono l1) wf1 (fun w2 H2 m2 l2 wf2 => .of (wf2.subL (l2.c _ _ h2))) r2 h1⟩
    | scr l =>
      refine .inr ⟨w, m, sd, wf, sl, ?_⟩
      rw [q]
      intro w1 H1 l1 wf1 v rv
      have h1 := go w1 H1 l1 wf1
      obtain ⟨a, xs, rfl, h2, r2⟩ := rv
      exact ⟨a, rfl, ⟨xs, (wf1.subS h2)⟩, overL (sl.mono l1) wf1 (fun w2 H2 m2 l2 wf2 => wf2.subS (h2.mono l2)) r2 h1⟩
    | loc n =>
      refine .inr ⟨w, m, sd, wf, sl, ?_⟩
      rw [q]
      intro w1 H1 l1 wf1 v rv
      have h1 := go w1 H1 l1 wf1
      cases z : m1[n]? with
      | none => simp only [z] at h1; exact h1.elim
      | some c =>
        simp only [z] at h1
        cases c with
        | lst l =>
          obtain ⟨a, rfl, ha, xs, e2, r2⟩ := wf1.at rv z
          exact ⟨a, rfl, ⟨xs, .of e2⟩, overC (sl.mono l1) wf1 rv h1⟩
        | _ => exact h1.elim
    | _ =>
      refine .inl ⟨w, m, sd, wf, sl, ?_⟩
      rw [q]
      intro w1 H1 l1 wf1 v rv
      exact (go w1 H1 l1 wf1).elim
/-- for i in range(..): so many turns from lo on, by st -/
def rngD (lo st : Int) (n : Nat) : List D := (List.range n).map fun (i : Nat) => D.int (lo + (i : Int) * st)
theorem rngD_get {lo st : Int} {n i : Nat} (h : i < n) : (rngD lo st n)[i]? = some (D.int (lo + (i : Int) * st)) := by
  unfold rngD
  rw [List.getElem?_map, List.getElem?_range h]
  rfl
theorem rngD_length {lo st : Int} {n : Nat} : (rngD lo st n).length = n := by
  unfold rngD
  rw [List.length_map, List.length_range]
/-- the turns of range(hi), range(lo, hi), range(lo, hi, st) where they are within the lines -/
noncomputable def rng1 (ds : List D) : Option (Int × Int × Nat) := match ds with
  | [.int j] => cIf (-(2 ^ 62) ≤ j ∧ j < 2 ^ 62) (some (0, 1, j.toNat)) none
  | _ => none
noncomputable def rng2 (ds : List D) : Option (Int × Int × Nat) := match ds with
  | [.int i, .int j] => cIf (-(2 ^ 62) ≤ i ∧ i < 2 ^ 62 ∧ -(2 ^ 62) ≤ j ∧ j < 2 ^ 62) (some (i, 1, (j - i).toNat)) none
  | _ => none
/-- down by ones -/
noncomputable def rng3 (ds : List D) : Option (Int × Int × Nat) := match ds with
  | [.int i, .int j, .int c] => cIf (c = -1 ∧ -(2 ^ 30) ≤ i ∧ i < 2 ^ 30 ∧ -(2 ^ 30) ≤ j ∧ j < 2 ^ 30) (some (i, -1, (i - j).toNat)) none
  | _ => none
noncomputable def sForR (rn : List D → Option (Int × Int × Nat)) (r : AF) (g : GF) (b : SF) : SF := fun sd m => SR.ofR sd (r sd m) fun ds m1 => match rn ds with
  | some (lo, st, n) => forD g b (rngD lo st n) sd m1
  | none => .stuck
theorem overR {K : PySem.W.Frag} {En : Ends} {w1 : Wd} {sd : Sl} {m1 : Mem} {σ : L2.St} {H1 : Hp} {lo : Int} {n : Nat} (sl : slR K w1 sd σ) (wf1 : Wf K w1 H1 m1) (h1 : sOk K W w1 (forD g b (rngD lo 1 n) sd m1) En) :
      ∃ Wi : Nat → Nat → L2.St → Hp → Prop, (∃ m, Wi 0 m σ H1) ∧ ∀ i m σ H, Wi i m σ H →
        ((Itr lo n).stop i H ∧ En.nx σ H) ∨ ((Itr lo n).go i H ∧ ∃ N : L2.St → Hp → Prop, (∀ σ' H', N σ' H' → ∃ m', m' < m ∧ Wi (i + 1) m' σ' H') ∧ ∀ x H', (Itr lo n).yld i H x H' → gOf K g x σ H' fun σ2 H2 => sOf K W b { En with nx := N, ct := N, bk := En.nx } σ2 H2) := by
  refine for_range (lo := lo) (n := n) (fun i => Mid K W w1 En (fun sd m => forD g b ((rngD lo 1 n).drop i) sd m)) ⟨w1, m1, sd, Le.refl _, wf1, sl, by rw [List.drop_zero]; exact h1⟩ ?_ ?_
  · rintro i σ2 H2 hi ⟨w2, m2, sd2, l2, wf2, sl2, h2⟩
    rw [drop_get (rngD_get hi), Int.mul_one] at h2
    exact turn_step l2 wf2 sl2 (show rep K w2 (D.int (lo + (i : Int))) (V.int (lo + (i : Int))) from rfl) h2
  · rintro σ2 H2 ⟨w2, m2, sd2, l2, wf2, sl2, h2⟩
    have e : (rngD lo 1 n).drop n = [] := List.drop_eq_nil_of_le (by rw [rngD_length]; exact Nat.le_refl _)
    rw [e] at h2
    exact h2 w2 H2 σ2 (Le.refl _) wf2 sl2
theorem rng1_ok {ds : List D} {lo st : Int} {n : Nat} (h : rng1 ds = some (lo, st, n)) : ∃ j : Int, ds = [.int j] ∧ -(2 ^ 62) ≤ j ∧ j < 2 ^ 62 ∧ lo = 0 ∧ st = 1 ∧ n = j.toNat := by
  unfold rng1 at h
  split at h
  · rename_i j
    by_cases q : -(2 ^ 62) ≤ j ∧ j < 2 ^ 62
    · rw [cIf_pos q] at h
      cases h
      exact ⟨j, rfl, q.1, q.2, rfl, rfl, rfl⟩
    · rw [cIf_neg q] at h; cases h
  · cases h
theorem rng2_ok {ds : List D} {lo st : Int} {n : Nat} (h : rng2 ds = some (lo, st, n)) : ∃ i j : Int, ds = [.int i, .int j] ∧ (-(2 ^ 62) ≤ i ∧ i < 2 ^ 62 ∧ -(2 ^ 62) ≤ j ∧ j < 2 ^ 62) ∧ lo = i ∧ st = 1 ∧ n = (j - i).toNat := by
  unfold rng2 at h
  split at h
  · rename_i i j
    by_cases q : -(2 ^ 62) ≤ i ∧ i < 2 ^ 62 ∧ -(2 ^ 62) ≤ j ∧ j < 2 ^ 62
    · rw [cIf_pos q] at h
      cases h
      exact ⟨_, j, rfl, q, rfl, rfl, rfl⟩
    · rw [cIf_neg q] at h; cases h
  · cases h
theorem rng3_ok {ds : List D} {lo st : Int} {n : Nat} (h : rng3 ds = some (lo, st, n)) : ∃ i j : Int, ds = [.int i, .int j, .int (-1)] ∧ (-(2 ^ 30) ≤ i ∧ i < 2 ^ 30 ∧ -(2 ^ 30) ≤ j ∧ j < 2 ^ 30) ∧ lo = i ∧ st = -1 ∧ n = (i - j).toNat := by
  unfold rng3 at h
  split at h
  · rename_i i j c
    by_cases q : c = -1 ∧ -(2 ^ 30) ≤ i ∧ i < 2 ^ 30 ∧ -(2 ^ 30) ≤ j ∧ j < 2 ^ 30
    · rw [cIf_pos q] at h
      cases h
      obtain ⟨rfl, q⟩ := q
      exact ⟨_, j, rfl, q, rfl, rfl, rfl⟩
    · rw [cIf_neg q] at h; cases h
  · cases h
theorem ds_forR1 {a : Expr} {r : AF} {p : Pos} (hp : PassesOwn (model X.prog X.w) X.A X.env X.xe) (hc : X.calm = true) (hm : X.mg "range" = none) (ha : DA X W [a] r) (hg : DG X tg g) (hb : DSs X W body b) (hgl : Gl X "range" := by rfl) (hst : starEach [a] X.env = [(false, eval a X.env)] := by rfl)
    (hs : ∀ x, foldedSetIterable (.Call (.Name "range" p) [a] [] tpos) X.env x = pure x := by intro _; rfl) : DS X W (.For tg (.Call (.Name "range" p) [a] [] tpos) body [] pos) (sForR rng1 r g b) := (ps_for hp hc (pi_range1 hgl hm ha hst) hg hb hs).weak fun En σ H ⟨w, m, sd, wf, sl, h⟩ =>
  ⟨w, m, sd, wf, sl, (sOk.ofR sl h).imp fun ds m1 w1 H1 l1 wf1 h1 vs rs => by
    cases e : rng1 ds with
    | none => simp only [e] at h1; exact h1.elim
    | some p =>
      obtain ⟨lo, st, n⟩ := p
      simp only [e] at h1
      obtain ⟨j, rfl, q1, q2, rfl, rfl, rfl⟩ := rng1_ok e
      obtain ⟨y, ys, rfl, rfl, rfl⟩ := rs
      exact ⟨j, rfl, q1, q2, overR (sl.mono l1) wf1 h1⟩⟩
theorem ds_forR2 {a c : Expr} {r : AF} {p : Pos} (hp : PassesOwn (model X.prog X.w) X.A X.env X.xe) (hc : X.calm = true) (hm : X.mg "range" = none) (ha : DA X W [a, c] r) (hg : DG X tg g) (hb : DSs X W body b) (hgl : Gl X "range" := by rfl)
    (hst : starEach [a, c] X.env = [(false, eval a X.env), (false, eval c X.env)] := by rfl) (hst2 : starEach [c] X.env = [(false, eval c X.env)] := by rfl)
    (hs : ∀ x, foldedSetIterable (.Call (.Name "range" p) [a, c] [] tpos) X.env x = pure x := by intro _; rfl) : DS X W (.For tg (.Call (.Name "range" p) [a, c] [] tpos) body [] pos) (sForR rng2 r g b) := (ps_for hp hc (pi_range2 hgl hm ha hst hst2) hg hb hs).weak fun En σ H ⟨w, m, sd, wf, sl, h⟩ =>
  ⟨w, m, sd, wf, sl, (sOk.ofR sl h).imp fun ds m1 w1 H1 l1 wf1 h1 vs rs => by
    cases e : rng2 ds with
    | none => simp only [e] at h1; exact h1.elim
    | some p =>
      obtain ⟨lo, st, n⟩ := p
      simp only [e] at h1
      obtain ⟨i, j, rfl, q, rfl, rfl, rfl⟩ := rng2_ok e
      obtain ⟨y, ys, rfl, rfl, y2, ys2, rfl, rfl, rfl⟩ := rs
      exact ⟨lo, j, rfl, q, overR (sl.mono l1) wf1 h1⟩⟩
theorem overRC {K : PySem.W.Frag} {En : Ends} {w1 : Wd} {sd : Sl} {m1 : Mem} {σ : L2.St} {H1 : Hp} {lo st : Int} {n : Nat} (sl : slR K w1 sd σ) (wf1 : Wf K w1 H1 m1) (h1 : sOk K W w1 (forD g b (rngD lo st n) sd m1) En) :
      ∃ Wi : Nat → Nat → L2.St → Hp → Prop, (∃ m, Wi 0 m σ H1) ∧ ∀ i m σ H, Wi i m σ H →
        ((Itc lo st n).stop i H ∧ En.nx σ H) ∨ ((Itc lo st n).go i H ∧ ∃ N : L2.St → Hp → Prop, (∀ σ' H', N σ' H' → ∃ m', m' < m ∧ Wi (i + 1) m' σ' H') ∧ ∀ x H', (Itc lo st n).yld i H x H' → gOf K g x σ H' fun σ2 H2 => sOf K W b { En with nx := N, ct := N, bk := En.nx } σ2 H2) := by
  refine for_rangeC (lo := lo) (c := st) (n := n) (fun i => Mid K W w1 En (fun sd m => forD g b ((rngD lo st n).drop i) sd m)) ⟨w1, m1, sd, Le.refl _, wf1, sl, by rw [List.drop_zero]; exact h1⟩ ?_ ?_
  · rintro i σ2 H2 hi ⟨w2, m2, sd2, l2, wf2, sl2, h2⟩
    rw [drop_get (rngD_get hi)] at h2
    exact turn_step l2 wf2 sl2 (show rep K w2 (D.int (lo + (i : Int) * st)) (V.int (lo + (i : Int) * st)) from rfl) h2
  · rintro σ2 H2 ⟨w2, m2, sd2, l2, wf2, sl2, h2⟩
    have e : (rngD lo st n).drop n = [] := List.drop_eq_nil_of_le (by rw [rngD_length]; exact Nat.le_refl _)
    rw [e] at h2
    exact h2 w2 H2 σ2 (Le.refl _) wf2 sl2
theorem ds_forR3 {a c d : Expr} {r : AF} {p : Pos} (hp : PassesOwn (model X.prog X.w) X.A X.env X.xe) (hc : X.calm = true) (hm : X.mg "range" = none) (ha : DA X W [a, c, d] r) (hg : DG X tg g) (hb : DSs X W body b) (hgl : Gl X "range" := by rfl)
    (hst : starEach [a, c, d] X.env = (false, eval a X.env) :: starEach [c, d] X.env := by rfl) (hpl : (backTo tpos (starEach [c, d] X.env)).any (·.1) = false := by rfl)
    (hs : ∀ x, foldedSetIterable (.Call (.Name "range" p) [a, c, d] [] tpos) X.env x = pure x := by intro _; rfl) : DS X W (.For tg (.Call (.Name "range" p) [a, c, d] [] tpos) body [] pos) (sForR rng3 r g b) := (ps_for hp hc (pi_range3 hgl hm ha hst hpl) hg hb hs).weak fun En σ H ⟨w, m, sd, wf, sl, h⟩ =>
  ⟨w, m, sd, wf, sl, (sOk.ofR sl h).imp fun ds m1 w1 H1 l1 wf1 h1 vs rs => by
    cases e : rng3 ds with
    | none => simp only [e] at h1; exact h1.elim
    | some p =>
      obtain ⟨lo, st, n⟩ := p
      simp only [e] at h1
      obtain ⟨i, j, rfl, q, rfl, rfl, rfl⟩ := rng3_ok e
      obtain ⟨y, ys, rfl, rfl, y2, ys2, rfl, rfl, y3, ys3, rfl, rfl, rfl⟩ := rs
      exact ⟨lo, j, -1, _, rfl, RgC.neg (by omega) (by omega) (by omega) (by omega), overRC (sl.mono l1) wf1 h1⟩⟩
end
end Dl

set_option Elab.async false
set_option linter.all false
set_option maxRecDepth 100000
set_option maxHeartbeats 4000000
/-! DComp: list comprehensions. -/
namespace Dl
open PySem PySem.Spec PyProof.Rows L2
def wipeD (sd : Sl) : List Nat → Sl
  | [] => sd
  | v :: vs => (wipeD sd vs).set v none
theorem slR.wipe {K : PySem.W.Frag} {w : Wd} {sd : Sl} {σ : L2.St} (h : slR K w sd σ) : ∀ vs : List Nat, slR K w (wipeD sd vs) (wipe σ vs)
  | [] => h
  | v :: vs => slR.del v (slR.wipe h vs)
theorem wipe_get (σ : L2.St) (k : Nat) : ∀ vs : List Nat, (wipe σ vs)[k]? = if k ∈ vs ∧ k < σ.length then some none else σ[k]?
  | [] => by simp [wipe]
  | v :: vs => by
    unfold wipe
    by_cases e : v = k
    · subst e
      by_cases h : v < σ.length
      · rw [List.getElem?_set_self (by rw [wipe_length]; exact h)]
        simp [h]
      · rw [List.getElem?_eq_none (by rw [List.length_set, wipe_length]; omega)]
        simp [h]
    · rw [List.getElem?_set_ne e, wipe_get σ k vs]
      have : (k ∈ v :: vs ∧ k < σ.length) ↔ (k ∈ vs ∧ k < σ.length) := by
        simp only [List.mem_cons]
        constructor
        · rintro ⟨h | h, h2⟩
          · exact absurd h.symm e
          · exact ⟨h, h2⟩
        · rintro ⟨h, h2⟩
          exact ⟨.inr h, h2⟩
      simp only [this]
theorem wipe_set {σ : L2.St} {i : Nat} {x : Option V} {vs : List Nat} (h : i ∈ vs) : wipe (σ.set i x) vs = wipe σ vs := by
  apply List.ext_getElem?
  intro k
  rw [wipe_get, wipe_get, List.length_set]
  by_cases c : k ∈ vs ∧ k < σ.length
  · rw [if_pos c, if_pos c]
  · rw [if_neg c, if_neg c]
    by_cases e : i = k
    · subst e
      rw [List.getElem?_eq_none (by rw [List.length_set]; exact Nat.le_of_not_lt fun z => c ⟨h, z⟩), List.getElem?_eq_none (Nat.le_of_not_lt fun z => c ⟨h, z⟩)]
    · rw [List.getElem?_set_ne e]
theorem wipe_wipe {σ : L2.St} {vs : List Nat} : wipe (wipe σ vs) vs = wipe σ vs := by
  apply List.ext_getElem?
  intro k
  rw [wipe_get, wipe_get, wipe_length]
  by_cases c : k ∈ vs ∧ k < σ.length
  · rw [if_pos c, if_pos c]
  · rw [if_neg c, if_neg c]
/-- a target of the block's own names -/
abbrev OF := D → Sl → Option Sl
def OwnT (K : PySem.W.Frag) (vs : List Nat) (gR : TG) (gd : OF) : Prop := ∀ (w : Wd) (H : Hp) (m : Mem) (x : D) (v : V) (sd : Sl) (σ : L2.St) (sd2 : Sl) (Q : L2.St → Hp → Prop), Wf K w H m → rep K w x v → slR K w sd (wipe σ vs) → gd x sd = some sd2 →
  (∀ σ2, slR K w sd2 σ2 → wipe σ2 vs = wipe σ vs → Q σ2 H) → gR v (wipe σ vs) H Q
def ogN (i : Nat) : OF := fun d sd => some (sd.set i (some d))
theorem own_n {K : PySem.W.Frag} {vs : List Nat} {i : Nat} (h : i ∈ vs) : OwnT K vs (gName i) (ogN i) := by
  intro w H m x v sd σ sd2 Q wf r sl e q
  have e := Option.some.inj e
  subst e
  refine q _ (slR.set r i sl) ?_
  rw [wipe_set h, wipe_wipe]
/-- several names, of a tuple -/
def gNs : List Nat → TGs
  | [] => gNil
  | i :: is => gCons (gName i) (gNs is)
def setAll : List Nat → List D → Sl → Option Sl
  | [], [], sd => some sd
  | i :: is, d :: ds, sd => setAll is ds (sd.set i (some d))
  | _, _, _ => none
def ogT (is : List Nat) : OF := fun d sd => match d.tup? with
  | some l => setAll is l sd
  | none => none
theorem setAll_len : ∀ {is : List Nat} {ds : List D} {sd sd2 : Sl}, setAll is ds sd = some sd2 → ds.length = is.length
  | [], [], _, _, _ => rfl
  | i :: is, d :: ds, sd, sd2, h => by
    have h' : setAll is ds (sd.set i (some d)) = some sd2 := h
    rw [List.length_cons, List.length_cons, setAll_len h']
  | [], _ :: _, _, _, h => by cases h
  | _ :: _, [], _, _, h => by cases h
theorem own_ns {K : PySem.W.Frag} {vs : List Nat} {w : Wd} {H : Hp} {Q : L2.St → Hp → Prop} {τ : L2.St} : ∀ {is : List Nat} {ds : List D} {xs : List V} {sd sd2 : Sl} {σ : L2.St}, (∀ i ∈ is, i ∈ vs) → reps K w ds xs → slR K w sd σ → wipe σ vs = τ → setAll is ds sd = some sd2 →
    (∀ σ2, slR K w sd2 σ2 → wipe σ2 vs = τ → Q σ2 H) → gNs is xs σ H Q
  | [], [], _, _, _, _, _, r, sl, e, h, q => by
    cases r
    cases h
    exact ⟨rfl, q _ sl e⟩
  | i :: is, d :: ds, _, sd, sd2, σ, hi, r, sl, e, h, q => by
    obtain ⟨y, ys, rfl, r1, r2⟩ := r
    have h' : setAll is ds (sd.set i (some d)) = some sd2 := h
    refine ⟨y, ys, rfl, ?_⟩
    exact own_ns (fun j hj => hi j (List.mem_cons_of_mem _ hj)) r2 (slR.set r1 i sl) (by rw [wipe_set (hi i List.mem_cons_self)]; exact e) h' q
  | [], _ :: _, _, _, _, _, _, _, _, _, h, _ => by cases h
  | _ :: _, [], _, _, _, _, _, _, _, _, h, _ => by cases h
theorem own_t {K : PySem.W.Frag} {vs is : List Nat} (h : ∀ i ∈ is, i ∈ vs) : OwnT K vs (gTup K is.length (gNs is)) (ogT is) := by
  intro w H m x v sd σ sd2 Q wf r sl e q
  unfold ogT at e
  cases z : x.tup? with
  | none => rw [z] at e; cases e
  | some l =>
    rw [z] at e
    have e : setAll is l sd = some sd2 := e
    obtain ⟨a, xs, rfl, h1, q1⟩ := tupR wf r z
    exact ⟨a, xs, rfl, h1, by rw [q1.length]; exact setAll_len e, own_ns h q1 sl wipe_wipe e q⟩

/-! ### the loop -/
def lcTurn (vs : List Nat) (gd : OF) (t : TF) (e : EF) (n : Nat) (sd : Sl) (x : D) (k : Mem → Option Mem) (m : Mem) : Option Mem := match gd x (wipeD sd vs) with
  | none => none
  | some sd1 => match t sd1 m with
    | .ok true m1 => match e sd1 m1 with
      | .ok d m2 => match m2[n]? with
        | some (.lst acc) => if acc.length < big then k (m2.set n (.lst (acc ++ [d]))) else none
        | _ => none
      | _ => none
    | .ok false m1 => k m1
    | _ => none
def lcD (vs : List Nat) (gd : OF) (t : TF) (e : EF) (n : Nat) (sd : Sl) : List D → Mem → Option Mem
  | [], m => some m
  | x :: xs, m => lcTurn vs gd t e n sd x (fun m => lcD vs gd t e n sd xs m) m
def lcL (vs : List Nat) (gd : OF) (t : TF) (e : EF) (n : Nat) (sd : Sl) (c : Nat) : Nat → Nat → Mem → Option Mem
  | 0, i, m => match (D.loc c).rdl? m with
    | none => none
    | some l => match l[i]? with
      | none => some m
      | some _ => none
  | k + 1, i, m => match (D.loc c).rdl? m with
    | none => none
    | some l => match l[i]? with
      | none => some m
      | some x => lcTurn vs gd t e n sd x (fun m => lcL vs gd t e n sd c k (i + 1) m) m
def lcEnd (n : Nat) : Option Mem → R D
  | some m => .ok (.loc n) m
  | none => .stuck
/-- over a value; the list is a cell -/
def lcV (vs : List Nat) (gd : OF) (t : TF) (e : EF) (sd : Sl) (d : D) (m : Mem) : R D := match d with
  | .tup l => lcEnd m.length (lcD vs gd t e m.length sd l (m ++ [.lst []]))
  | .ctup l => lcEnd m.length (lcD vs gd t e m.length sd l (m ++ [.lst []]))
  | .lst l => lcEnd m.length (lcD vs gd t e m.length sd l (m ++ [.lst []]))
  | .scr l => lcEnd m.length (lcD vs gd t e m.length sd l (m ++ [.lst []]))
  | .loc c => match m[c]? with
    | some (.lst l) => lcEnd m.length (lcL vs gd t e m.length sd c l.length 0 (m ++ [.lst []]))
    | _ => .stuck
  | _ => .stuck
/-- the list that is made: a cell (keep), or frozen (letGo) -/
abbrev Post := Mem → R D → R D
def keep : Post := fun _ r => r
def xLc (po : Post) (vs : List Nat) (src : EF) (gd : OF) (t : TF) (e : EF) : EF := fun sd m => (src sd m).bind fun d m1 => po m1 (lcV vs gd t e sd d m1)
def lcR (rn : List D → Option (Int × Int × Nat)) (vs : List Nat) (gd : OF) (t : TF) (e : EF) (sd : Sl) (ds : List D) (m : Mem) : R D := match rn ds with
  | some (lo, st, n) => lcEnd m.length (lcD vs gd t e m.length sd (rngD lo st n) (m ++ [.lst []]))
  | none => .stuck
noncomputable def xLcR (po : Post) (rn : List D → Option (Int × Int × Nat)) (vs : List Nat) (src : AF) (gd : OF) (t : TF) (e : EF) : EF := fun sd m => (src sd m).bind fun ds m1 => po m1 (lcR rn vs gd t e sd ds m1)
def PostOk (po : Post) : Prop := ∀ {K : PySem.W.Frag} {W : WX} {σ : L2.St} {w : Wd} {H : Hp} {m : Mem} {r : R D} {Q : VK}, Wf K w H m → rOk K W σ w (po m r) (eK K Q) → rOk K W σ w r (eK K Q)
theorem keep_ok : PostOk keep := fun _ h => h
theorem letGo_ok : PostOk letGo := fun wf h => s_letGo wf h
abbrev W0 : WX := wE fun _ _ _ => False
section
variable {X : Cx} {W : WX} {it tg elt a : Expr} {ifs : List Expr} {scope : Scope} {own : List (Str × Nat)} {pos : Pos} {fa fe : EF} {t : TF} {gR : TG} {gd : OF}
/-- behind i items -/
def LcI (K : PySem.W.Frag) (w0 : Wd) (Q : Hp → Prop) (r : Mem → Option Mem) : Hp → Prop := fun H => ∃ w m m2, Le w0 w ∧ Wf K w H m ∧ r m = some m2 ∧ ∀ w' H', Le w w' → Wf K w' H' m2 → Q H'
theorem lc_turn {K : PySem.W.Frag} {vs : List Nat} (ow : OwnT K vs gR gd) {w0 w : Wd} {H : Hp} {m m2 : Mem} {n : Nat} {p : Addr} {sd : Sl} {σ : L2.St} {x : D} {v : V} {Q : Hp → Prop} {r : Mem → Option Mem} (hp : w0.adr[n]? = some p) (l : Le w0 w) (wf : Wf K w H m) (sl : slR K w sd σ) (rx : rep K w x v)
    (h : lcTurn vs gd t fe n sd x r m = some m2) (q : ∀ w' H', Le w w' → Wf K w' H' m2 → Q H') :
    gR v (wipe σ vs) H fun σ2 H2 => wipe σ2 vs = wipe σ vs ∧ tOf K W0 t σ2 H2 fun b H3 => if b = true then eOf K W0 fe σ2 H3 fun y H4 => ∃ acc, H4 p = some (.lst acc) ∧ acc.length < sizeLine ∧ LcI K w0 Q r (upd H4 p (.lst (acc ++ [y]))) else LcI K w0 Q r H3 := by
  unfold lcTurn at h
  cases z : gd x (wipeD sd vs) with
  | none => rw [z] at h; cases h
  | some sd1 =>
    rw [z] at h
    refine ow w H m x v _ σ sd1 _ wf rx (sl.wipe vs) z fun σ2 sl2 ew => ⟨ew, w, m, sd1, wf, sl2, ?_⟩
    have h' : (match t sd1 m with
      | .ok true m1 => match fe sd1 m1 with
        | .ok d m2 => match m2[n]? with
          | some (.lst acc) => if acc.length < big then r (m2.set n (.lst (acc ++ [d]))) else none
          | _ => none
        | _ => none
      | .ok false m1 => r m1
      | _ => none) = some m2 := h
    cases y : t sd1 m with
    | err e m1 => rw [y] at h'; cases h'
    | stuck => rw [y] at h'; cases h'
    | ok k m1 =>
      rw [y] at h'
      intro w1 H1 l1 wf1
      cases k with
      | false =>
        show LcI K w0 Q r H1
        exact ⟨w1, m1, m2, l.trans l1, wf1, h', fun w' H' l' f => q w' H' (l1.trans l') f⟩
      | true =>
        show eOf K W0 fe σ2 H1 _
        refine ⟨w1, m1, sd1, wf1, sl2.mono l1, ?_⟩
        have h2 : (match fe sd1 m1 with
          | .ok d m2 => match m2[n]? with
            | some (.lst acc) => if acc.length < big then r (m2.set n (.lst (acc ++ [d]))) else none
            | _ => none
          | _ => none) = some m2 := h'
        cases y2 : fe sd1 m1 with
        | err e m1 => rw [y2] at h2; cases h2
        | stuck => rw [y2] at h2; cases h2
        | ok d m3 =>
          rw [y2] at h2
          intro w3 H3 l3 wf3 u ru
          have h3 : (match m3[n]? with
            | some (.lst acc) => if acc.length < big then r (m3.set n (.lst (acc ++ [d]))) else none
            | _ => none) = some m2 := h2
          cases y3 : m3[n]? with
          | none => rw [y3] at h3; cases h3
          | some c =>
            rw [y3] at h3
            cases c with
            | lst acc =>
              have h4 : (if acc.length < big then r (m3.set n (.lst (acc ++ [d]))) else none) = some m2 := h3
              by_cases hb : acc.length < big
              · rw [if_pos hb] at h4
                have hp3 : w3.adr[n]? = some p := ((l.trans l1).trans l3).get hp
                obtain ⟨xs, e1, r1⟩ := wf3.cell n p _ hp3 y3
                refine ⟨xs, e1, big_lt (by rw [r1.length]; exact hb), w3, _, m2, (l.trans l1).trans l3, ?_, h4, fun w' H' l' f => q w' H' ((l1.trans l3).trans l') f⟩
                exact wf3.put hp3 (fun b hb _ => upd_ne hb) ⟨_, upd_same, r1.append (.one ru)⟩
              · rw [if_neg hb] at h4; cases h4
            | _ => cases h3
theorem lc_start {K : PySem.W.Frag} {w : Wd} {H : Hp} {m : Mem} {p : Addr} (wf : Wf K w H m) (hp : H p = none) : Wf K (w.cell p) (upd H p (.lst [])) (m ++ [.lst []]) ∧ (w.cell p).adr[m.length]? = some p := by
  obtain ⟨l, f, a, e, h⟩ := new_cell (ds := []) (xs := []) wf rfl hp
  cases e
  exact ⟨f, h⟩
variable {vs : List Nat}
theorem lc_end {K : PySem.W.Frag} {w w0 : Wd} {n : Nat} {p : Addr} {Q : VK} {o : Option Mem} {σ : L2.St} (hp : w0.adr[n]? = some p) (h : rOk K W σ w0 (lcEnd n o) (eK K Q)) : ∃ m2, o = some m2 ∧ ∀ w' H', Le w0 w' → Wf K w' H' m2 → Q (.ref p) H' := by
  cases o with
  | none => exact h.elim
  | some m2 => exact ⟨m2, rfl, fun w' H' l f => h w' H' l f _ ⟨p, rfl, l.get hp⟩⟩
theorem s_lc {po : Post} (hpo : PostOk po) (ow : OwnT X.K vs gR gd) (σ : L2.St) (H : Hp) (Q : VK) : eOf X.K W (xLc po vs fa gd t fe) σ H Q → tLc (fun σ H R => iTup X.K (eOf X.K W fa) σ H R ∨ iList X.K (eOf X.K W fa) σ H R) gR (tOf X.K W0 t) (eOf X.K W0 fe) vs σ H Q := fun ⟨w, m, sd, wf, sl, h⟩ => by
  have go := h.bind
  show (iTup X.K (eOf X.K W fa) σ H _) ∨ (iList X.K (eOf X.K W fa) σ H _)
  cases q : fa sd m with
  | err e m1 => exact .inl ⟨w, m, sd, wf, sl, by rw [q] at go ⊢; exact go⟩
  | stuck => exact .inl ⟨w, m, sd, wf, sl, by rw [q] at go ⊢; exact go⟩
  | ok d m1 =>
    rw [q] at go
    have tupC : ∀ {l : List D} {w1 : Wd} {H1 : Hp} {a : Addr} {xs : List V}, Le w w1 → Wf X.K w1 H1 m1 → (∀ w2 H2 m2, Le w1 w2 → Wf X.K w2 H2 m2 → SqT X.K H2 a xs) → reps X.K w1 l xs → rOk X.K W σ w1 (lcEnd m1.length (lcD vs gd t fe m1.length sd l (m1 ++ [.lst []]))) (eK X.K Q) →
        ∀ D, H1 D = none → ∃ Wi : Nat → Nat → Hp → Prop, (∃ m, Wi 0 m (upd H1 D (.lst []))) ∧ ∀ i m H, Wi i m H →
          ((Itt X.K a).stop i H ∧ Q (.ref D) H) ∨ ((Itt X.K a).go i H ∧ ∃ Nx : Hp → Prop, (∀ H', Nx H' → ∃ m', m' < m ∧ Wi (i + 1) m' H') ∧ ∀ x H', (Itt X.K a).yld i H x H' → gR x (wipe σ vs) H' fun σ2 H2 => wipe σ2 vs = wipe σ vs ∧ tOf X.K W0 t σ2 H2 fun b H3 =>
            if b = true then eOf X.K W0 fe σ2 H3 fun y H4 => ∃ acc, H4 D = some (.lst acc) ∧ acc.length < sizeLine ∧ Nx (upd H4 D (.lst (acc ++ [y]))) else Nx H3) := by
      intro l w1 H1 a xs l1 wf1 hq rs h1 p hpn
      obtain ⟨wf2, hp⟩ := lc_start wf1 hpn
      obtain ⟨m2, e2, q2⟩ := lc_end (w := w1) hp (h1.mono (Le.cell (p := p)))
      refine lc_tup (K := X.K) (a := a) (xs := xs) (fun i H => LcI X.K (w1.cell p) (fun H => Q (.ref p) H) (fun m => lcD vs gd t fe m1.length sd (l.drop i) m) H) ⟨_, _, m2, Le.refl _, wf2, by rw [List.drop_zero]; exact e2, q2⟩ (fun i H _ ⟨w3, m3, m4, l3, wf3, _⟩ => hq w3 H m3 (Le.cell.trans l3) wf3) ?_ ?_
      · rintro i x H3 hx ⟨w3, m3, m4, l3, wf3, e3, q3⟩
        have hil : i < l.length := by rw [← rs.length]; exact (List.getElem?_eq_some_iff.mp hx).1
        obtain ⟨v, e1, r1⟩ := rs.get (List.getElem?_eq_getElem hil)
        rw [hx] at e1
        cases e1
        rw [drop_get (List.getElem?_eq_getElem hil)] at e3
        exact lc_turn ow hp l3 wf3 (sl.mono (l1.trans (Le.cell.trans l3))) (r1.mono (Le.cell.trans l3)) e3 q3
      · rintro H3 ⟨w3, m3, m4, l3, wf3, e3, q3⟩
        rw [rs.length, List.drop_length] at e3
        cases e3
        exact q3 w3 H3 (Le.refl _) wf3
    have lstC : ∀ {l : List D} {w1 : Wd} {H1 : Hp} {a : Addr} {xs : List V}, Le w w1 → Wf X.K w1 H1 m1 → (∀ w2 H2 m2, Le w1 w2 → Wf X.K w2 H2 m2 → SqL X.K H2 a xs) → reps X.K w1 l xs → rOk X.K W σ w1 (lcEnd m1.length (lcD vs gd t fe m1.length sd l (m1 ++ [.lst []]))) (eK X.K Q) →
        ∀ D, H1 D = none → ∃ Wi : Nat → Nat → Hp → Prop, (∃ m, Wi 0 m (upd H1 D (.lst []))) ∧ ∀ i m H, Wi i m H →
          ((Itl X.K a).stop i H ∧ Q (.ref D) H) ∨ ((Itl X.K a).go i H ∧ ∃ Nx : Hp → Prop, (∀ H', Nx H' → ∃ m', m' < m ∧ Wi (i + 1) m' H') ∧ ∀ x H', (Itl X.K a).yld i H x H' → gR x (wipe σ vs) H' fun σ2 H2 => wipe σ2 vs = wipe σ vs ∧ tOf X.K W0 t σ2 H2 fun b H3 =>
            if b = true then eOf X.K W0 fe σ2 H3 fun y H4 => ∃ acc, H4 D = some (.lst acc) ∧ acc.length < sizeLine ∧ Nx (upd H4 D (.lst (acc ++ [y]))) else Nx H3) := by
      intro l w1 H1 a xs l1 wf1 hq rs h1 p hpn
      obtain ⟨wf2, hp⟩ := lc_start wf1 hpn
      obtain ⟨m2, e2, q2⟩ := lc_end (w := w1) hp (h1.mono (Le.cell (p := p)))
      refine lc_list (K := X.K) (a := a) (xs := xs) (fun i H => LcI X.K (w1.cell p) (fun H => Q (.ref p) H) (fun m => lcD vs gd t fe m1.length sd (l.drop i) m) H) ⟨_, _, m2, Le.refl _, wf2, by rw [List.drop_zero]; exact e2, q2⟩ (fun i H _ ⟨w3, m3, m4, l3, wf3, _⟩ => hq w3 H m3 (Le.cell.trans l3) wf3) ?_ ?_
      · rintro i x H3 hx ⟨w3, m3, m4, l3, wf3, e3, q3⟩
        have hil : i < l.length := by rw [← rs.length]; exact (List.getElem?_eq_some_iff.mp hx).1
        obtain ⟨v, e1, r1⟩ := rs.get (List.getElem?_eq_getElem hil)
        rw [hx] at e1
        cases e1
        rw [drop_get (List.getElem?_eq_getElem hil)] at e3
        exact lc_turn ow hp l3 wf3 (sl.mono (l1.trans (Le.cell.trans l3))) (r1.mono (Le.cell.trans l3)) e3 q3
      · rintro H3 ⟨w3, m3, m4, l3, wf3, e3, q3⟩
        rw [rs.length, List.drop_length] at e3
        cases e3
        exact q3 w3 H3 (Le.refl _) wf3
    cases d with
    | tup l =>
      refine .inl ⟨w, m, sd, wf, sl, ?_⟩
      rw [q]
      intro w1 H1 l1 wf1 v rv
      have h1 := hpo wf1 (go w1 H1 l1 wf1)
      obtain ⟨a, xs, rfl, h2, r2⟩ := rv
      exact ⟨a, rfl, ⟨xs, .of (wf1.subT h2)⟩, tupC l1 wf1 (fun w2 H2 m2 l2 wf2 => .of (wf2.subT (l2.c _ _ h2))) r2 h1⟩
    | ctup l =>
      refine .inl ⟨w, m, sd, wf, sl, ?_⟩
      rw [q]
      intro w1 H1 l1 wf1 v rv
      have h1 := hpo wf1 (go w1 H1 l1 wf1)
      obtain ⟨a, xs, rfl, h2, r2⟩ := rv
      exact ⟨a, rfl, ⟨xs, h2 H1⟩, tupC l1 wf1 (fun w2 H2 m2 l2 wf2 => h2 H2) r2 h1⟩
    | lst l =>
      refine .inr ⟨w, m, sd, wf, sl, ?_⟩
      rw [q]
      intro w1 H1 l1 wf1 v rv
      have h1 := hpo wf1 (go w1 H1 l1 wf1)
      obtain ⟨a, xs, rfl, h2, r2⟩ := rv
      exact ⟨a, rfl, ⟨xs, .of (wf1.subL h2)⟩, lstC l1 wf1 (fun w2 H2 m2 l2 wf2 => .of (wf2.subL (l2.c _ _ h2))) r2 h1⟩
    | scr l =>
      refine .inr ⟨w, m, sd, wf, sl, ?_⟩
      rw [q]
      intro w1 H1 l1 wf1 v rv
      have h1 := hpo wf1 (go w1 H1 l1 wf1)
      obtain ⟨a, xs, rfl, h2, r2⟩ := rv
      exact ⟨a, rfl, ⟨xs, (wf1.subS h2)⟩, lstC l1 wf1 (fun w2 H2 m2 l2 wf2 => wf2.subS (h2.mono l2)) r2 h1⟩
    | loc c =>
      refine .inr ⟨w, m, sd, wf, sl, ?_⟩
      rw [q]
      intro w1 H1 l1 wf1 v rv
      have h1 := hpo wf1 (go w1 H1 l1 wf1)
      unfold lcV at h1
      cases z : m1[c]? with
      | none => simp only [z] at h1; exact h1.elim
      | some cc =>
        simp only [z] at h1
        cases cc with
        | lst l =>
          obtain ⟨a, rfl, ha, xs, e2, r2⟩ := wf1.at rv z
          refine ⟨a, rfl, ⟨xs, .of e2⟩, fun p hpn => ?_⟩
          obtain ⟨wf2, hp⟩ := lc_start wf1 hpn
          obtain ⟨m2, e3, q2⟩ := lc_end (w := w1) hp (rOk.mono (Le.cell (p := p)) h1)
          refine ⟨fun i k H => LcI X.K (w1.cell p) (fun H => Q (.ref p) H) (fun m => lcL vs gd t fe m1.length sd c k i m) H, ⟨l.length, _, _, m2, Le.refl _, wf2, e3, q2⟩, ?_⟩
          rintro i k H3 ⟨w3, m3, m4, l3, wf3, e4, q3⟩
          have rv3 : rep X.K w3 (.loc c) (.ref a) := rv.mono (Le.cell.trans l3)
          cases k with
          | zero =>
            have e4 : (match (D.loc c).rdl? m3 with
              | none => none
              | some l => match l[i]? with
                | none => some m3
                | some _ => none) = some m4 := e4
            cases y : (D.loc c).rdl? m3 with
            | none => rw [y] at e4; cases e4
            | some l' =>
              rw [y] at e4
              obtain ⟨a', xs', ea, hs', rs'⟩ := rdlR wf3 rv3 y
              cases ea
              have e5 : (match l'[i]? with
                | none => some m3
                | some _ => none) = some m4 := e4
              cases x : l'[i]? with
              | none =>
                rw [x] at e5
                cases e5
                exact .inl ⟨⟨xs', hs', by rw [rs'.length]; exact List.getElem?_eq_none_iff.mp x⟩, q3 w3 H3 (Le.refl _) wf3⟩
              | some y0 => rw [x] at e5; cases e5
          | succ k =>
            have e4 : (match (D.loc c).rdl? m3 with
              | none => none
              | some l => match l[i]? with
                | none => some m3
                | some x => lcTurn vs gd t fe m1.length sd x (fun m => lcL vs gd t fe m1.length sd c k (i + 1) m) m3) = some m4 := e4
            cases y : (D.loc c).rdl? m3 with
            | none => rw [y] at e4; cases e4
            | some l' =>
              rw [y] at e4
              obtain ⟨a', xs', ea, hs', rs'⟩ := rdlR wf3 rv3 y
              cases ea
              have e5 : (match l'[i]? with
                | none => some m3
                | some x => lcTurn vs gd t fe m1.length sd x (fun m => lcL vs gd t fe m1.length sd c k (i + 1) m) m3) = some m4 := e4
              cases x : l'[i]? with
              | none =>
                rw [x] at e5
                cases e5
                exact .inl ⟨⟨xs', hs', by rw [rs'.length]; exact List.getElem?_eq_none_iff.mp x⟩, q3 w3 H3 (Le.refl _) wf3⟩
              | some y0 =>
                rw [x] at e5
                obtain ⟨vx, e6, r6⟩ := rs'.get x
                refine .inr ⟨⟨xs', vx, hs', e6⟩, LcI X.K (w1.cell p) (fun H => Q (.ref p) H) (fun m => lcL vs gd t fe m1.length sd c k (i + 1) m), fun H' z => ⟨k, Nat.lt_succ_self _, z⟩, ?_⟩
                rintro u H' ⟨rfl, hu⟩
                have eu := hu xs' hs'
                rw [e6] at eu
                cases eu
                exact lc_turn ow hp l3 wf3 (sl.mono (l1.trans (Le.cell.trans l3))) r6 e5 q3
        | _ => exact h1.elim
    | _ =>
      refine .inl ⟨w, m, sd, wf, sl, ?_⟩
      rw [q]
      intro w1 H1 l1 wf1 v rv
      exact (hpo wf1 (go w1 H1 l1 wf1)).elim
theorem d_lc {po : Post} (hpo : PostOk po) (hc : X.calm = true) (hN : X.N.Nodup) (hi : DE X W it fa) (ok : BlkOk X.N X.env.scope scope own) (ow : OwnT X.K (own.map (·.2)) gR gd)
    (hg : ∀ (s : Shared) (H : Hp) (C : Addr) (cl : List (Str × Addr)) (fp : List Addr), PG (X.blk s H scope (compEnvC scope cl C X.env) fp) tg gR)
    (ht : ∀ (s : Shared) (H : Hp) (C : Addr) (cl : List (Str × Addr)) (fp : List Addr), PTs (X.blk s H scope (compEnvC scope cl C X.env) fp) ifs (tOf X.K W0 t))
    (he : ∀ (s : Shared) (H : Hp) (C : Addr) (cl : List (Str × Addr)) (fp : List Addr), DE (X.blk s H scope (compEnvC scope cl C X.env) fp) W0 elt fe) (hs : ∀ x, foldedSetIterable it X.env x = pure x := by intro _; rfl) :
    DE X W (.ListComp elt [⟨tg, it, ifs, 0⟩] scope pos) (xLc po (own.map (·.2)) fa gd t fe) := (pe_lc hc hN (pi_or (pi_tup hi) (pi_list hi)) ok hg ht he hs).weak (s_lc (X := X) hpo ow)
theorem ds_setLc {po : Post} {i : Nat} {y : Str} {py spos : Pos} (hpo : PostOk po) (hc : X.calm = true) (hN : X.N.Nodup) (hy : X.N[i]? = some y) (hyl : X.env.scope.names.lookup y = some .local)
    (hsw : swapsWith (.ListComp elt [⟨tg, it, ifs, 0⟩] scope pos) (some (.Name y py)) spos.line X.env = pure true) (hi : DE X W it fa) (ok : BlkOk X.N X.env.scope scope own) (ow : OwnT X.K (own.map (·.2)) gR gd)
    (hg : ∀ (s : Shared) (H : Hp) (C : Addr) (cl : List (Str × Addr)) (fp : List Addr), PG (X.blk s H scope (compEnvC scope cl C X.env) fp) tg gR)
    (ht : ∀ (s : Shared) (H : Hp) (C : Addr) (cl : List (Str × Addr)) (fp : List Addr), PTs (X.blk s H scope (compEnvC scope cl C X.env) fp) ifs (tOf X.K W0 t))
    (he : ∀ (s : Shared) (H : Hp) (C : Addr) (cl : List (Str × Addr)) (fp : List Addr), DE (X.blk s H scope (compEnvC scope cl C X.env) fp) W0 elt fe) (hs : ∀ x, foldedSetIterable it X.env x = pure x := by intro _; rfl) :
    DS X W (.Assign [.Name y py] (.ListComp elt [⟨tg, it, ifs, 0⟩] scope pos) spos) (sAsg (xLc po (own.map (·.2)) fa gd t fe) (tgN i)) := (ps_setLc hc hN hy hyl hsw (pi_or (pi_tup hi) (pi_list hi)) ok hg ht he hs).weak fun En σ H q => by
  have h := s_asg (K := X.K) (W := W) (t := gName i) (fun v σ H Q ⟨w, m, sd, d, wf, sl, r, q⟩ => q w H _ (Le.refl _) wf (slR.set r i sl)) En σ H q
  exact s_lc (X := X) hpo ow σ H _ h
/-! ### over a range -/
theorem s_lcR1 {po : Post} (hpo : PostOk po) {ar : AF} (ow : OwnT X.K vs gR gd) (σ : L2.St) (H : Hp) (Q : VK) : eOf X.K W (xLcR po rng1 vs ar gd t fe) σ H Q → tLc (iRng1 (aOf X.K W ar)) gR (tOf X.K W0 t) (eOf X.K W0 fe) vs σ H Q := fun ⟨w, m, sd, wf, sl, h⟩ =>
  ⟨w, m, sd, wf, sl, h.bind.imp fun ds m1 w1 H1 l1 wf1 h1 xs rs => by
    have h1 := hpo wf1 h1
    unfold lcR at h1
    cases e : rng1 ds with
    | none => simp only [e] at h1; exact h1.elim
    | some p =>
      obtain ⟨lo, st, n⟩ := p
      simp only [e] at h1
      obtain ⟨j, rfl, q1, q2, rfl, rfl, rfl⟩ := rng1_ok e
      obtain ⟨y, ys, rfl, rfl, rfl⟩ := rs
      refine ⟨j, rfl, q1, q2, fun p hpn => ?_⟩
      obtain ⟨wf2, hp⟩ := lc_start wf1 hpn
      obtain ⟨m2, e2, q2⟩ := lc_end (w := w1) hp (rOk.mono (Le.cell (p := p)) h1)
      refine lc_range (lo := 0) (n := j.toNat) (fun i H => LcI X.K (w1.cell p) (fun H => Q (.ref p) H) (fun m => lcD vs gd t fe m1.length sd ((rngD 0 1 j.toNat).drop i) m) H) ⟨_, _, m2, Le.refl _, wf2, by rw [List.drop_zero]; exact e2, q2⟩ ?_ ?_
      · rintro i H3 hi ⟨w3, m3, m4, l3, wf3, e3, q3⟩
        rw [drop_get (rngD_get hi), Int.mul_one] at e3
        exact lc_turn ow hp l3 wf3 (sl.mono (l1.trans (Le.cell.trans l3))) (show rep X.K w3 (D.int (0 + (i : Int))) (V.int (0 + (i : Int))) from rfl) e3 q3
      · rintro H3 ⟨w3, m3, m4, l3, wf3, e3, q3⟩
        have e : (rngD 0 1 j.toNat).drop j.toNat = [] := List.drop_eq_nil_of_le (by rw [rngD_length]; exact Nat.le_refl _)
        rw [e] at e3
        cases e3
        exact q3 w3 H3 (Le.refl _) wf3⟩
theorem d_lcR1 {po : Post} {ar : AF} {p cpos : Pos} (hpo : PostOk po) (hc : X.calm = true) (hN : X.N.Nodup) (hm : X.mg "range" = none) (ha : DA X W [a] ar) (ok : BlkOk X.N X.env.scope scope own) (ow : OwnT X.K (own.map (·.2)) gR gd)
    (hg : ∀ (s : Shared) (H : Hp) (C : Addr) (cl : List (Str × Addr)) (fp : List Addr), PG (X.blk s H scope (compEnvC scope cl C X.env) fp) tg gR)
    (ht : ∀ (s : Shared) (H : Hp) (C : Addr) (cl : List (Str × Addr)) (fp : List Addr), PTs (X.blk s H scope (compEnvC scope cl C X.env) fp) ifs (tOf X.K W0 t))
    (he : ∀ (s : Shared) (H : Hp) (C : Addr) (cl : List (Str × Addr)) (fp : List Addr), DE (X.blk s H scope (compEnvC scope cl C X.env) fp) W0 elt fe) (hgl : Gl X "range" := by rfl) (hst : starEach [a] X.env = [(false, eval a X.env)] := by rfl) (hs : ∀ x, foldedSetIterable (.Call (.Name "range" p) [a] [] cpos) X.env x = pure x := by intro _; rfl) :
    DE X W (.ListComp elt [⟨tg, .Call (.Name "range" p) [a] [] cpos, ifs, 0⟩] scope pos) (xLcR po rng1 (own.map (·.2)) ar gd t fe) := (pe_lc hc hN (pi_range1 hgl hm ha hst) ok hg ht he hs).weak (s_lcR1 (X := X) hpo ow)
theorem ds_setLcR1 {po : Post} {i : Nat} {y : Str} {py spos : Pos} {ar : AF} {p cpos : Pos} (hpo : PostOk po) (hc : X.calm = true) (hN : X.N.Nodup) (hy : X.N[i]? = some y) (hyl : X.env.scope.names.lookup y = some .local)
    (hsw : swapsWith (.ListComp elt [⟨tg, .Call (.Name "range" p) [a] [] cpos, ifs, 0⟩] scope pos) (some (.Name y py)) spos.line X.env = pure true) (hm : X.mg "range" = none) (ha : DA X W [a] ar) (ok : BlkOk X.N X.env.scope scope own) (ow : OwnT X.K (own.map (·.2)) gR gd)
    (hg : ∀ (s : Shared) (H : Hp) (C : Addr) (cl : List (Str × Addr)) (fp : List Addr), PG (X.blk s H scope (compEnvC scope cl C X.env) fp) tg gR)
    (ht : ∀ (s : Shared) (H : Hp) (C : Addr) (cl : List (Str × Addr)) (fp : List Addr), PTs (X.blk s H scope (compEnvC scope cl C X.env) fp) ifs (tOf X.K W0 t))
    (he : ∀ (s : Shared) (H : Hp) (C : Addr) (cl : List (Str × Addr)) (fp : List Addr), DE (X.blk s H scope (compEnvC scope cl C X.env) fp) W0 elt fe) (hgl : Gl X "range" := by rfl) (hst : starEach [a] X.env = [(false, eval a X.env)] := by rfl) (hs : ∀ x, foldedSetIterable (.Call (.Name "range" p) [a] [] cpos) X.env x = pure x := by intro _; rfl) :
    DS X W (.Assign [.Name y py] (.ListComp elt [⟨tg, .Call (.Name "range" p) [a] [] cpos, ifs, 0⟩] scope pos) spos) (sAsg (xLcR po rng1 (own.map (·.2)) ar gd t fe) (tgN i)) := (ps_setLc hc hN hy hyl hsw (pi_range1 hgl hm ha hst) ok hg ht he hs).weak fun En σ H q => by
  have h := s_asg (K := X.K) (W := W) (t := gName i) (fun v σ H Q ⟨w, m, sd, d, wf, sl, r, q⟩ => q w H _ (Le.refl _) wf (slR.set r i sl)) En σ H q
  exact s_lcR1 (X := X) hpo ow σ H _ h
/-! ### the tests of a clause -/
def tYesD : TF := fun _ m => .ok true m
theorem dts_nil {K : PySem.W.Frag} (hK : X.K = K) : PTs X [] (tOf K W0 tYesD) := ⟨fun pins s σ H Q I ⟨w, m, sd, wf, sl, h⟩ => pts_nil.run pins s σ H Q I (h w H (Le.refl _) wf)⟩
theorem dts_one {c : Expr} (h : DT X W0 c t) : PTs X [c] (tOf X.K W0 t) := pts_one h
end
end Dl

set_option Elab.async false
set_option linter.all false
set_option maxRecDepth 100000
set_option maxHeartbeats 4000000
/-! DMore: subscripts, slices, built-ins, isinstance, methods of lists. -/
namespace Dl
open PySem PySem.Spec PyProof.Rows L2
section
variable {X : Cx} {W : WX} {a b c e o : Expr} {es : List Expr} {pos : Pos} {fa fb fc : EF} {ar : AF}
/-! ### a[i] -/
def oIx : Op2 := fun d i m => match i with
  | .int k => match d with
    | .str s => if s.length ≤ big then match atI s.cps.toList k with
      | some c => some (.str ⟨#[c]⟩, m)
      | none => none
      else none
    | d => match d.seq? m with
      | some l => match atI l k with
        | some y => some (y, m)
        | none => none
      | none => none
  | _ => none
theorem reps.atI {K : PySem.W.Frag} {w : Wd} {l : List D} {xs : List V} (r : reps K w l xs) {k : Int} {d : D} (h : atI l k = some d) : ∃ v, atI xs k = some v ∧ rep K w d v := by
  unfold L2.atI at h ⊢
  rw [r.length]
  cases q : ixN l.length k with
  | none => rw [q] at h; cases h
  | some j =>
    rw [q] at h
    exact r.get (i := j) h
theorem s_ix {K : PySem.W.Frag} : OSat K (rIx K) oIx := by
  intro w H m d1 d2 x y Q wf r1 r2 q
  cases d2 with
  | int k =>
    have seqC : ∀ {d1 : D}, rep K w d1 x → vOk K w (match d1.seq? m with
      | some l => match L2.atI l k with
        | some y => some (y, m)
        | none => none
      | none => none) Q → rIx K x y H Q := by
      intro d1 r1 q
      cases z : d1.seq? m with
      | none => rw [z] at q; exact q.elim
      | some l =>
        rw [z] at q
        have q' : vOk K w (match L2.atI l k with
          | some y => some (y, m)
          | none => none) Q := q
        cases z2 : L2.atI l k with
        | none => rw [z2] at q'; exact q'.elim
        | some d =>
          rw [z2] at q'
          obtain ⟨p, xs, rfl, hs, rs⟩ := seqR wf r1 z
          obtain ⟨v, e1, rv⟩ := rs.atI z2
          rcases hs with hs | hs
          · exact .inl ⟨p, xs, k, v, rfl, r2, hs, e1, q'.ret wf rv⟩
          · exact .inr (.inl ⟨p, xs, k, v, rfl, r2, hs, e1, q'.ret wf rv⟩)
    cases d1 with
    | str s =>
      have q' : vOk K w (if s.length ≤ big then match L2.atI s.cps.toList k with
        | some c => some (.str ⟨#[c]⟩, m)
        | none => none
        else none) Q := q
      by_cases h : s.length ≤ big
      · rw [if_pos h] at q'
        cases z : L2.atI s.cps.toList k with
        | none => rw [z] at q'; exact q'.elim
        | some c =>
          rw [z] at q'
          exact .inr (.inr ⟨s, k, c, r1, r2, big_ok h, z, q'.ret wf rfl⟩)
      · rw [if_neg h] at q'; exact q'.elim
    | _ => exact seqC r1 q
  | _ => exact q.elim
theorem d_ix (ha : DE X W a fa) (hb : DE X W b fb) (hs : PlainIx b := by exact fun _ _ => rfl) : DE X W (.Subscript a b pos) (xOp oIx fa fb) := (pe_ix ix_seq ha hb hs).weak (s_op s_ix)
/-! ### slices -/
abbrev PF := Sl → Mem → R (Option Int)
def poOf (K : PySem.W.Frag) (W : WX) (f : PF) : TO := fun σ H Q => ∃ w m sd, Wf K w H m ∧ slR K w sd σ ∧ rOk K W σ w (f sd m) (fun o _ _ H => Q o H)
theorem _root_.L2.PO.weak {X : Cx} {e : Option Expr} {t u : TO} (h : PO X e t) (i : ∀ σ H Q, u σ H Q → t σ H Q) : PO X e u := ⟨fun pins s σ H Q I q => h.run pins s σ H Q I (i σ H Q q)⟩
abbrev DO (X : Cx) (W : WX) (e : Option Expr) (f : PF) : Prop := PO X e (poOf X.K W f)
def pNo : PF := fun _ m => .ok none m
def pSome (f : EF) : PF := fun sd m => (f sd m).bind fun d m1 => match d with
  | .int i => .ok (some i) m1
  | _ => .stuck
theorem do_none : DO X W none pNo := po_none.weak fun σ H Q ⟨w, m, sd, wf, sl, h⟩ => h w H (Le.refl _) wf
theorem do_some (h : DE X W e fa) : DO X W (some e) (pSome fa) := (po_some h).weak fun σ H Q ⟨w, m, sd, wf, sl, h⟩ =>
  ⟨w, m, sd, wf, sl, h.bind.imp fun d m1 w1 H1 l1 wf1 h1 v rv => by
    cases d with
    | int i => exact ⟨i, rv, h1 w1 H1 (Le.refl _) wf1⟩
    | _ => exact h1.elim⟩
def cutD (l : List D) (lo hi : Option Int) : List D := (l.drop (HT.sIx l.length 0 lo)).take (HT.sIx l.length l.length hi - HT.sIx l.length 0 lo)
theorem reps.cut {K : PySem.W.Frag} {w : Wd} {l : List D} {xs : List V} (r : reps K w l xs) (lo hi : Option Int) : reps K w (cutD l lo hi) (cutV xs lo hi) := by
  unfold cutD cutV
  rw [r.length]
  exact (r.drop _).take _
def oSl (d : D) (lo hi : Option Int) (m : Mem) : Option (D × Mem) := match d.rdl? m with
  | some l => some (.lst (cutD l lo hi), m)
  | none => match d.tup? with
    | some l => if HT.sIx l.length 0 lo = 0 ∧ HT.sIx l.length l.length hi = l.length then some (d, m) else some (.tup (cutD l lo hi), m)
    | none => none
def xSl (fa : EF) (lo hi : PF) : EF := fun sd m => (fa sd m).bind fun d m1 => (lo sd m1).bind fun l m2 => (hi sd m2).bind fun h m3 => R.ofO (oSl d l h m3)
theorem d_sl {lo hi : Option Expr} {fl fh : PF} {p2 : Pos} (ha : DE X W e fa) (hl : DO X W lo fl) (hh : DO X W hi fh) : DE X W (.Subscript e (.Slice lo hi none p2) pos) (xSl fa fl fh) := (pe_slice (sl_list.or sl_tupA) ha hl hh).weak fun σ H Q ⟨w, m, sd, wf, sl, h⟩ =>
  ⟨w, m, sd, wf, sl, h.bind.imp fun d m1 w1 H1 l1 wf1 h1 v rv => ⟨w1, m1, sd, wf1, sl.mono l1, h1.bind.imp fun l m2 w2 H2 l2 wf2 h2 => ⟨w2, m2, sd, wf2, (sl.mono l1).mono l2, h2.bind.imp fun u m3 w3 H3 l3 wf3 h3 => by
    have q := vOk_of h3
    have rv3 := (rv.mono l2).mono l3
    unfold oSl at q
    cases z : d.rdl? m3 with
    | some xs' =>
      rw [z] at q
      obtain ⟨p, xs, rfl, hs, rs⟩ := rdlR wf3 rv3 z
      refine .inl ⟨p, xs, rfl, hs, fun pn hp => ?_⟩
      obtain ⟨ll, f, r⟩ := new_lst wf3 (rs.cut l u) hp
      exact q _ _ _ ll f r
    | none =>
      rw [z] at q
      have q : vOk X.K w3 (match d.tup? with
        | some xs => if HT.sIx xs.length 0 l = 0 ∧ HT.sIx xs.length xs.length u = xs.length then some (d, m3) else some (.tup (cutD xs l u), m3)
        | none => none) Q := q
      cases z2 : d.tup? with
      | none => rw [z2] at q; exact q.elim
      | some ds =>
        rw [z2] at q
        obtain ⟨p, xs, rfl, hs, rs⟩ := tupR wf3 rv3 z2
        have q : vOk X.K w3 (if HT.sIx ds.length 0 l = 0 ∧ HT.sIx ds.length ds.length u = ds.length then some (d, m3) else some (.tup (cutD ds l u), m3)) Q := q
        refine .inr ⟨p, xs, rfl, hs, fun cc => ?_, fun cc pn hp => ?_⟩
        · rw [rs.length] at cc
          rw [if_pos cc] at q
          exact q.ret wf3 rv3
        · rw [rs.length] at cc
          rw [if_neg cc] at q
          obtain ⟨ll, f, r⟩ := new_tup wf3 (rs.cut l u) hp
          exact q _ _ _ ll f r⟩⟩⟩
/-! ### built-ins -/
abbrev OpN := List D → Mem → Option (D × Mem)
def CSat (K : PySem.W.Frag) (r : List V → Hp → VK → Prop) (o : OpN) : Prop := ∀ w H m ds vs Q, Wf K w H m → reps K w ds vs → vOk K w (o ds m) Q → r vs H Q
def xCB (o : OpN) (ar : AF) : EF := fun sd m => (ar sd m).bind fun ds m1 => R.ofO (o ds m1)
theorem s_cb {K : PySem.W.Frag} {r : List V → Hp → VK → Prop} {oo : OpN} (hs : CSat K r oo) (σ : L2.St) (H : Hp) (Q : VK) : eOf K W (xCB oo ar) σ H Q → tCB r (aOf K W ar) σ H Q := fun ⟨w, m, sd, wf, sl, h⟩ =>
  ⟨w, m, sd, wf, sl, h.bind.imp fun ds m1 w1 H1 l1 wf1 h1 vs rs => hs w1 H1 m1 ds vs Q wf1 rs (vOk_of h1)⟩
theorem d_cb {id : String} {r : List V → Hp → VK → Prop} {oo : OpN} {x : Str} {p : Pos} (hc : CallR X (.builtin id) r) (hs : CSat X.K r oo) (hm : X.mg x = none) (hv : bootBuiltins x = some (.builtin id)) (ha : DA X W (e :: es) ar) (hg : Gl X x := by rfl) (hn : x ≠ "__name__" := by decide) (hdb : (x == ("__debug__" : Str)) = false := by decide)
    (he : starEach (e :: es) X.env = (false, eval e X.env) :: starEach es X.env := by rfl) (hpl : (backTo pos (starEach es X.env)).any (·.1) = false := by rfl) : DE X W (.Call (.Name x p) (e :: es) [] pos) (xCB oo ar) := (pe_callB hc hg hm hv ha hn hdb he hpl).weak (s_cb hs)
theorem d_cty {T : String} {r : List V → Hp → VK → Prop} {oo : OpN} {x : Str} {p : Pos} (hc : CallR X (.type T) r) (hs : CSat X.K r oo) (hm : X.mg x = none) (hv : bootBuiltins x = some (.type T)) (ha : DA X W (e :: es) ar) (hg : Gl X x := by rfl) (hn : x ≠ "__name__" := by decide) (hdb : (x == ("__debug__" : Str)) = false := by decide)
    (he : starEach (e :: es) X.env = (false, eval e X.env) :: starEach es X.env := by rfl) (hpl : (backTo pos (starEach es X.env)).any (·.1) = false := by rfl) : DE X W (.Call (.Name x p) (e :: es) [] pos) (xCB oo ar) := (pe_callTy hc hg hm hv ha hn hdb he hpl).weak (s_cb hs)
def oLen : OpN := fun ds m => match ds with
  | [.str s] => if s.length ≤ big then some (.int s.length, m) else none
  | [d] => match d.seq? m with
    | some l => some (.int l.length, m)
    | none => none
  | _ => none
theorem s_len {K : PySem.W.Frag} : CSat K (fun xs H Q => ∃ x n, xs = [x] ∧ LenV K x H n ∧ Q (.int n) H) oLen := by
  intro w H m ds vs Q wf rs q
  unfold oLen at q
  split at q
  · rename_i s
    obtain ⟨y, ys, rfl, rfl, rfl⟩ := rs
    by_cases h : s.length ≤ big
    · rw [if_pos h] at q
      exact ⟨_, _, rfl, ⟨big_ok h, rfl⟩, q.ret wf rfl⟩
    · rw [if_neg h] at q; exact q.elim
  · rename_i d _
    cases z : d.seq? m with
    | none => simp only [z] at q; exact q.elim
    | some l =>
      simp only [z] at q
      obtain ⟨y, ys, rfl, r1, rfl⟩ := rs
      obtain ⟨p, xs, rfl, hs, rs⟩ := seqR wf r1 z
      refine ⟨_, xs.length, rfl, ?_, by rw [rs.length]; exact q.ret wf rfl⟩
      rcases hs with hs | hs
      · exact .inl ⟨xs, hs, rfl⟩
      · exact .inr ⟨xs, hs, rfl⟩
  · exact q.elim
theorem d_len {p : Pos} (hm : X.mg "len" = none) (ha : DA X W (e :: es) ar) (hg : Gl X "len" := by rfl)
    (he : starEach (e :: es) X.env = (false, eval e X.env) :: starEach es X.env := by rfl) (hpl : (backTo pos (starEach es X.env)).any (·.1) = false := by rfl) : DE X W (.Call (.Name "len" p) (e :: es) [] pos) (xCB oLen ar) := d_cb call_len s_len hm PySem.boot_len ha hg (by decide) (by decide) he hpl
def oInt : OpN := fun ds m => match ds with
  | [.int i] => some (.int i, m)
  | [.bl k] => some (.int (if k then 1 else 0), m)
  | _ => none
theorem s_int {K : PySem.W.Frag} : CSat K (fun xs H Q => (∃ i, xs = [.int i] ∧ Q (.int i) H) ∨ ∃ k, xs = [.bl k] ∧ Q (.int (if k then 1 else 0)) H) oInt := by
  intro w H m ds vs Q wf rs q
  unfold oInt at q
  split at q
  · obtain ⟨y, ys, rfl, rfl, rfl⟩ := rs
    exact .inl ⟨_, rfl, q.ret wf rfl⟩
  · obtain ⟨y, ys, rfl, rfl, rfl⟩ := rs
    exact .inr ⟨_, rfl, q.ret wf rfl⟩
  · exact q.elim
theorem d_intc {p : Pos} (hm : X.mg "int" = none) (ha : DA X W (e :: es) ar) (hg : Gl X "int" := by rfl)
    (he : starEach (e :: es) X.env = (false, eval e X.env) :: starEach es X.env := by rfl) (hpl : (backTo pos (starEach es X.env)).any (·.1) = false := by rfl) : DE X W (.Call (.Name "int" p) (e :: es) [] pos) (xCB oInt ar) := d_cty call_int1 s_int hm (by decide +kernel) ha hg (by decide) (by decide) he hpl
def oAbs : OpN := fun ds m => match ds with
  | [.int i] => some (.int (if i < 0 then -i else i), m)
  | _ => none
theorem s_abs {K : PySem.W.Frag} : CSat K (fun xs H Q => ∃ i, xs = [.int i] ∧ Q (.int (if i < 0 then -i else i)) H) oAbs := by
  intro w H m ds vs Q wf rs q
  unfold oAbs at q
  split at q
  · obtain ⟨y, ys, rfl, rfl, rfl⟩ := rs
    exact ⟨_, rfl, q.ret wf rfl⟩
  · exact q.elim
theorem d_abs {p : Pos} (hm : X.mg "abs" = none) (ha : DA X W (e :: es) ar) (hg : Gl X "abs" := by rfl)
    (he : starEach (e :: es) X.env = (false, eval e X.env) :: starEach es X.env := by rfl) (hpl : (backTo pos (starEach es X.env)).any (·.1) = false := by rfl) : DE X W (.Call (.Name "abs" p) (e :: es) [] pos) (xCB oAbs ar) := d_cb call_abs s_abs hm (by decide +kernel) ha hg (by decide) (by decide) he hpl
def oMax2 : OpN := fun ds m => match ds with
  | [.int i, .int j] => some (.int (if j > i then j else i), m)
  | _ => none
def oMin2 : OpN := fun ds m => match ds with
  | [.int i, .int j] => some (.int (if j < i then j else i), m)
  | _ => none
theorem s_max2 {K : PySem.W.Frag} : CSat K (fun xs H Q => ∃ i j, xs = [.int i, .int j] ∧ Q (.int (if j > i then j else i)) H) oMax2 := by
  intro w H m ds vs Q wf rs q
  unfold oMax2 at q
  split at q
  · obtain ⟨y, ys, rfl, rfl, y2, ys2, rfl, rfl, rfl⟩ := rs
    exact ⟨_, _, rfl, q.ret wf rfl⟩
  · exact q.elim
theorem s_min2 {K : PySem.W.Frag} : CSat K (fun xs H Q => ∃ i j, xs = [.int i, .int j] ∧ Q (.int (if j < i then j else i)) H) oMin2 := by
  intro w H m ds vs Q wf rs q
  unfold oMin2 at q
  split at q
  · obtain ⟨y, ys, rfl, rfl, y2, ys2, rfl, rfl, rfl⟩ := rs
    exact ⟨_, _, rfl, q.ret wf rfl⟩
  · exact q.elim
theorem d_max2 {p : Pos} (hc : X.calm = true) (hm : X.mg "max" = none) (ha : DA X W (e :: es) ar) (hg : Gl X "max" := by rfl)
    (he : starEach (e :: es) X.env = (false, eval e X.env) :: starEach es X.env := by rfl) (hpl : (backTo pos (starEach es X.env)).any (·.1) = false := by rfl) : DE X W (.Call (.Name "max" p) (e :: es) [] pos) (xCB oMax2 ar) := d_cb (call_max2 hc) s_max2 hm (by decide +kernel) ha hg (by decide) (by decide) he hpl
theorem d_min2 {p : Pos} (hc : X.calm = true) (hm : X.mg "min" = none) (ha : DA X W (e :: es) ar) (hg : Gl X "min" := by rfl)
    (he : starEach (e :: es) X.env = (false, eval e X.env) :: starEach es X.env := by rfl) (hpl : (backTo pos (starEach es X.env)).any (·.1) = false := by rfl) : DE X W (.Call (.Name "min" p) (e :: es) [] pos) (xCB oMin2 ar) := d_cb (call_min2 hc) s_min2 hm (by decide +kernel) ha hg (by decide) (by decide) he hpl
/-- list(x): a new list; frozen, or a cell -/
def oList : OpN := fun ds m => match ds with
  | [d] => match d.seq? m with
    | some l => some (.lst l, m)
    | none => none
  | _ => none
def oListM : OpN := fun ds m => match ds with
  | [d] => match d.seq? m with
    | some l => some (.loc m.length, m ++ [.lst l])
    | none => none
  | _ => none
abbrev rListOf (K : PySem.W.Frag) : List V → Hp → VK → Prop := fun xs H Q => ∃ p ys, xs = [.ref p] ∧ (SqL K H p ys ∨ SqT K H p ys) ∧ ∀ l, H l = none → Q (.ref l) (upd H l (.lst ys))
theorem s_list {K : PySem.W.Frag} : CSat K (rListOf K) oList := by
  intro w H m ds vs Q wf rs q
  unfold oList at q
  split at q
  · rename_i d
    cases z : d.seq? m with
    | none => simp only [z] at q; exact q.elim
    | some l =>
      simp only [z] at q
      obtain ⟨y, ys, rfl, r1, rfl⟩ := rs
      obtain ⟨p, xs, rfl, hs, rs⟩ := seqR wf r1 z
      refine ⟨p, xs, rfl, hs, fun pn hp => ?_⟩
      obtain ⟨ll, f, r⟩ := new_lst wf rs hp
      exact q _ _ _ ll f r
  · exact q.elim
theorem s_listM {K : PySem.W.Frag} : CSat K (rListOf K) oListM := by
  intro w H m ds vs Q wf rs q
  unfold oListM at q
  split at q
  · rename_i d
    cases z : d.seq? m with
    | none => simp only [z] at q; exact q.elim
    | some l =>
      simp only [z] at q
      obtain ⟨y, ys, rfl, r1, rfl⟩ := rs
      obtain ⟨p, xs, rfl, hs, rs⟩ := seqR wf r1 z
      refine ⟨p, xs, rfl, hs, fun pn hp => ?_⟩
      obtain ⟨ll, f, r⟩ := new_cell wf rs hp
      exact q _ _ _ ll f r
  · exact q.elim
theorem d_list {p : Pos} {oo : OpN} (hs : CSat X.K (rListOf X.K) oo) (hm : X.mg "list" = none) (ha : DA X W (e :: es) ar) (hg : Gl X "list" := by rfl)
    (he : starEach (e :: es) X.env = (false, eval e X.env) :: starEach es X.env := by rfl) (hpl : (backTo pos (starEach es X.env)).any (·.1) = false := by rfl) : DE X W (.Call (.Name "list" p) (e :: es) [] pos) (xCB oo ar) := d_cty call_list_of hs hm (by decide +kernel) ha hg (by decide) (by decide) he hpl
def oTuple : OpN := fun ds m => match ds with
  | [d] => match d.rdl? m with
    | some l => some (.tup l, m)
    | none => match d.tup? with
      | some _ => some (d, m)
      | none => none
  | _ => none
theorem s_tuple {K : PySem.W.Frag} : CSat K (fun xs H Q => ∃ p ys, xs = [.ref p] ∧ ((SqL K H p ys ∧ ∀ l, H l = none → Q (.ref l) (upd H l (.tup ys))) ∨ (SqT K H p ys ∧ Q (.ref p) H))) oTuple := by
  intro w H m ds vs Q wf rs q
  unfold oTuple at q
  split at q
  · rename_i d
    obtain ⟨y, ys, rfl, r1, rfl⟩ := rs
    cases z : d.rdl? m with
    | some l =>
      simp only [z] at q
      obtain ⟨p, xs, rfl, hs, rs⟩ := rdlR wf r1 z
      refine ⟨p, xs, rfl, .inl ⟨hs, fun pn hp => ?_⟩⟩
      obtain ⟨ll, f, r⟩ := new_tup wf rs hp
      exact q _ _ _ ll f r
    | none =>
      simp only [z] at q
      cases z2 : d.tup? with
      | none => simp only [z2] at q; exact q.elim
      | some l =>
        simp only [z2] at q
        obtain ⟨p, xs, rfl, hs, rs⟩ := tupR wf r1 z2
        exact ⟨p, xs, rfl, .inr ⟨hs, q.ret wf r1⟩⟩
  · exact q.elim
theorem d_tuple {p : Pos} (hm : X.mg "tuple" = none) (ha : DA X W (e :: es) ar) (hg : Gl X "tuple" := by rfl)
    (he : starEach (e :: es) X.env = (false, eval e X.env) :: starEach es X.env := by rfl) (hpl : (backTo pos (starEach es X.env)).any (·.1) = false := by rfl) : DE X W (.Call (.Name "tuple" p) (e :: es) [] pos) (xCB oTuple ar) := d_cty call_tuple_of s_tuple hm (by decide +kernel) ha hg (by decide) (by decide) he hpl
/-! ### isinstance, built-in classes -/
inductive Ty where
  | int | bool | str | tuple | list
  deriving DecidableEq
def Ty.name : Ty → String
  | .int => "int"
  | .bool => "bool"
  | .str => "str"
  | .tuple => "tuple"
  | .list => "list"
/-- a value's class, by its name -/
def D.ty (m : Mem) : D → Option String
  | .non => some "NoneType"
  | .bl _ => some "bool"
  | .int _ => some "int"
  | .str _ => some "str"
  | .tup _ => some "tuple"
  | .lst _ => some "list"
  | .scr _ => some "list"
  | .loc n => match m[n]? with
    | some (.lst _) => some "list"
    | _ => none
  | _ => none
def isTy (t : String) : Ty → Bool
  | .int => t == "int" || t == "bool"
  | .bool => t == "bool"
  | .str => t == "str"
  | .tuple => t == "tuple"
  | .list => t == "list"
theorem ty_rep {K : PySem.W.Frag} {w : Wd} {H : Hp} {m : Mem} {d : D} {v : V} {t : String} (wf : Wf K w H m) (r : rep K w d v) (h : d.ty m = some t) : TyX K H v (.type t) ∧ t ∈ ["NoneType", "bool", "int", "str", "tuple", "list"] := by
  cases d with
  | non => cases r; cases h; exact ⟨.base .non, by simp⟩
  | bl b => cases r; cases h; exact ⟨.base (.bl b), by simp⟩
  | int i => cases r; cases h; exact ⟨.base (.int i), by simp⟩
  | str s => cases r; cases h; exact ⟨.base (.str s), by simp⟩
  | tup l => cases h; obtain ⟨a, xs, rfl, e, _⟩ := r; exact ⟨.base (.tup (wf.subT e)), by simp⟩
  | lst l => cases h; obtain ⟨a, xs, rfl, e, _⟩ := r; exact ⟨.base (.lst (wf.subL e)), by simp⟩
  | scr l =>
    cases h
    obtain ⟨a, xs, rfl, e, _⟩ := r
    rcases e with ⟨o, e⟩ | ⟨o, its, n, e, c, _⟩
    · exact ⟨.base (.frz (wf.subF e)), by simp⟩
    · exact ⟨.kList e c, by simp⟩
  | loc n =>
    have h' : (match m[n]? with
      | some (.lst _) => some "list"
      | _ => none) = some t := h
    cases q : m[n]? with
    | none => rw [q] at h'; cases h'
    | some c =>
      rw [q] at h'
      cases c with
      | lst l =>
        cases h'
        obtain ⟨a, rfl, _, xs, h2, _⟩ := wf.at r q
        exact ⟨.base (.lst h2), by simp⟩
      | _ => cases h'
  | _ => cases h
theorem kit_is {K : PySem.W.Frag} {t : String} (ht : t ∈ ["NoneType", "bool", "int", "str", "tuple", "list"]) (T : Ty) : PySem.W.kitOne K (.type t) (.type T.name) = some (isTy t T) := by
  have all : ∀ t ∈ ["NoneType", "bool", "int", "str", "tuple", "list"], ∀ T ∈ [Ty.int, .bool, .str, .tuple, .list], kitB t T.name = some (isTy t T) := by decide +kernel
  exact kit_ty (all t ht T (by cases T <;> simp))
def oIsi (T : Ty) (d : D) (m : Mem) : Option (D × Mem) := match d.ty m with
  | some t => some (.bl (isTy t T), m)
  | none => none
def xIsi (T : Ty) (fa : EF) : EF := fun sd m => (fa sd m).bind fun d m1 => R.ofO (oIsi T d m1)
theorem d_isi (T : Ty) {x : Str} {p p2 : Pos} (hm : X.mg "isinstance" = none) (hm2 : X.mg x = none) (hv : bootBuiltins x = some (.type T.name)) (ha : DE X W e fa) (hg : Gl X "isinstance" := by rfl) (hg2 : Gl X x := by rfl) (hn : x ≠ "__name__" := by decide) (hdb : (x == ("__debug__" : Str)) = false := by decide)
    (he : starEach [e, .Name x p2] X.env = (false, eval e X.env) :: starEach [.Name x p2] X.env := by rfl) (hpl : (backTo pos (starEach [.Name x p2] X.env)).any (·.1) = false := by rfl)
    (he2 : starEach [.Name x p2] X.env = (false, eval (.Name x p2) X.env) :: starEach [] X.env := by rfl) :
    DE X W (.Call (.Name "isinstance" p) [e, .Name x p2] [] pos) (xIsi T fa) :=
  (pe_callB call_isi hg hm (by decide +kernel) (pa_cons ha (pa_cons (pe_bltn (v := .ty T.name) hg2 hm2 hv rfl hn hdb) pa_nil he2) he) (by decide) (by decide) he hpl).weak fun σ H Q ⟨w, m, sd, wf, sl, h⟩ =>
  ⟨w, m, sd, wf, sl, h.bind.imp fun d m1 w1 H1 l1 wf1 h1 v rv => by
    have q := vOk_of h1
    unfold oIsi at q
    cases z : d.ty m1 with
    | none => rw [z] at q; exact q.elim
    | some t =>
      rw [z] at q
      obtain ⟨tx, tm⟩ := ty_rep wf1 rv z
      exact ⟨v, .ty T.name, .type t, .type T.name, isTy t T, rfl, .ty _, tx, kit_is tm T, q.ret wf1 rfl⟩⟩
/-- isinstance(e, (T1, T2)) -/
def xIsi2 (T T2 : Ty) (fa : EF) : EF := fun sd m => (fa sd m).bind fun d m1 => match d.ty m1 with
  | some t => .ok (.bl (isTy t T || isTy t T2)) m1
  | none => .stuck
theorem d_isi2 (T T2 : Ty) {x x2 : Str} {k : Nat} {p p2 p3 p4 : Pos} (hm : X.mg "isinstance" = none) (hm2 : X.mg x = none) (hm3 : X.mg x2 = none) (hv : bootBuiltins x = some (.type T.name)) (hv2 : bootBuiltins x2 = some (.type T2.name)) (ha : DE X W e fa) (hg : Gl X "isinstance" := by rfl) (hg2 : Gl X x := by rfl) (hg3 : Gl X x2 := by rfl) (hn : x ≠ "__name__" := by decide) (hdb : (x == ("__debug__" : Str)) = false := by decide) (hn2 : x2 ≠ "__name__" := by decide) (hdb2 : (x2 == ("__debug__" : Str)) = false := by decide)
    (he : starEach [e, .Tuple [.Name x p2, .Name x2 p3] k p4] X.env = (false, eval e X.env) :: starEach [.Tuple [.Name x p2, .Name x2 p3] k p4] X.env := by rfl) (hpl : (backTo pos (starEach [.Tuple [.Name x p2, .Name x2 p3] k p4] X.env)).any (·.1) = false := by rfl)
    (he2 : starEach [.Tuple [.Name x p2, .Name x2 p3] k p4] X.env = (false, eval (.Tuple [.Name x p2, .Name x2 p3] k p4) X.env) :: starEach [] X.env := by rfl)
    (he3 : starEach [.Name x p2, .Name x2 p3] X.env = (false, eval (.Name x p2) X.env) :: starEach [.Name x2 p3] X.env := by rfl) (he4 : starEach [.Name x2 p3] X.env = (false, eval (.Name x2 p3) X.env) :: starEach [] X.env := by rfl) :
    DE X W (.Call (.Name "isinstance" p) [e, .Tuple [.Name x p2, .Name x2 p3] k p4] [] pos) (xIsi2 T T2 fa) :=
  (pe_callB call_isiT hg hm (by decide +kernel) (pa_cons ha (pa_cons (pe_tup (pa_cons (pe_bltn (v := .ty T.name) hg2 hm2 hv rfl hn hdb) (pa_cons (pe_bltn (v := .ty T2.name) hg3 hm3 hv2 rfl hn2 hdb2) pa_nil he4) he3)) pa_nil he2) he) (by decide) (by decide) he hpl).weak fun σ H Q ⟨w, m, sd, wf, sl, h⟩ =>
  ⟨w, m, sd, wf, sl, h.bind.imp fun d m1 w1 H1 l1 wf1 h1 v rv => by
    cases z : d.ty m1 with
    | none => simp only [z] at h1; exact h1.elim
    | some t =>
      simp only [z] at h1
      refine ⟨by show 2 ≤ sizeLine; decide, fun pn hp => ?_⟩
      obtain ⟨l2, f2⟩ := wf1.add (o := .tup [.ty T.name, .ty T2.name]) hp
      obtain ⟨tx, tm⟩ := ty_rep f2 (rv.mono l2) z
      refine ⟨v, pn, _, .type t, _, isTy t T || isTy t T2, rfl, upd_same, .cons (.ty _) (.cons (.ty _) .nil), tx, ?_, h1 _ _ l2 f2 _ rfl⟩
      refine kitAny_cons (kit_is tm T) (fun hb => kitAny_cons (kit_is tm T2) (fun hb2 => ?_) fun hb2 => ?_) fun hb => ?_
      · rw [hb, hb2]; exact kitAny_nil
      · rw [hb, hb2]; rfl
      · rw [hb]; rfl⟩
/-! ### methods of lists -/
def xBM0 (oo : D → Mem → Option (D × Mem)) (fa : EF) : EF := fun sd m => (fa sd m).bind fun d m1 => R.ofO (oo d m1)
def xBM (oo : D → List D → Mem → Option (D × Mem)) (fa : EF) (ar : AF) : EF := fun sd m => (fa sd m).bind fun d m1 => match d.lst? m1 with
  | some _ => (ar sd m1).bind fun ds m2 => R.ofO (oo d ds m2)
  | none => .stuck
theorem lst_ty {K : PySem.W.Frag} {w : Wd} {H : Hp} {m : Mem} {d : D} {v : V} {l : List D} (wf : Wf K w H m) (r : rep K w d v) (h : d.lst? m = some l) : tyV K "list" v H := by
  obtain ⟨a, xs, rfl, e, _⟩ := lstR wf r h
  exact .inl ⟨rfl, xs, .of e⟩
def oAppend (d : D) (ds : List D) (m : Mem) : Option (D × Mem) := match d, ds with
  | .loc n, [y] => match m[n]? with
    | some (.lst l) => if l.length < big then some (.non, m.set n (.lst (l ++ [y]))) else none
    | _ => none
  | _, _ => none
theorem s_bm {K : PySem.W.Frag} {r : V → List V → Hp → VK → Prop} {oo : D → List D → Mem → Option (D × Mem)} (hs : ∀ w H m d v ds vs Q, Wf K w H m → rep K w d v → reps K w ds vs → vOk K w (oo d ds m) Q → r v vs H Q) (σ : L2.St) (H : Hp) (Q : VK) : eOf K W (xBM oo fa ar) σ H Q → tBM K "list" r (eOf K W fa) (aOf K W ar) σ H Q := fun ⟨w, m, sd, wf, sl, h⟩ =>
  ⟨w, m, sd, wf, sl, h.bind.imp fun d m1 w1 H1 l1 wf1 h1 v rv => by
    cases z : d.lst? m1 with
    | none => simp only [z] at h1; exact h1.elim
    | some l =>
      simp only [z] at h1
      exact ⟨lst_ty wf1 rv z, w1, m1, sd, wf1, sl.mono l1, (rOk.bind h1).imp fun ds m2 w2 H2 l2 wf2 h2 vs rs => hs w2 H2 m2 d v ds vs Q wf2 (rv.mono l2) rs (vOk_of h2)⟩⟩
theorem s_append {K : PySem.W.Frag} : ∀ w H m d v ds vs Q, Wf K w H m → rep K w d v → reps K w ds vs → vOk K w (oAppend d ds m) Q → rAppend v vs H Q := by
  intro w H m d v ds vs Q wf r rs q
  unfold oAppend at q
  split at q
  · rename_i n y
    cases z : m[n]? with
    | none => simp only [z] at q; exact q.elim
    | some c =>
      simp only [z] at q
      cases c with
      | lst l =>
        by_cases h : l.length < big
        · simp only [if_pos h] at q
          obtain ⟨y', ys, rfl, ry, rfl⟩ := rs
          obtain ⟨a, rfl, ha, xs, e1, r1⟩ := wf.at r z
          refine ⟨a, xs, y', rfl, rfl, e1, big_lt (by rw [r1.length]; exact h), ?_⟩
          exact q w _ _ (Le.refl _) (wf.put ha (fun b hb _ => upd_ne hb) ⟨_, upd_same, r1.append (.one ry)⟩) rfl
        · simp only [if_neg h] at q; exact q.elim
      | _ => exact q.elim
  · exact q.elim
theorem d_append {apos : Pos} (ho : DE X W o fa) (ha : DA X W (e :: es) ar)
    (hbase : attributeBase o "append" X.env (eval o X.env) = eval o X.env := by rfl)
    (hfew : ((backTo pos (starEach (e :: es) X.env)).all (fun x => !x.1) && (backToKw pos (keywordEach [] X.env)).all (fun x => x.1.isSome)
      && decide ((e :: es).length + ([] : List Keyword).length + (if ([] : List Keyword).isEmpty then 0 else 1) < 30)) = true := by rfl)
    (hline : (apos.endLine == pos.line) = true := by rfl) (hs : starEach (e :: es) X.env = (false, eval e X.env) :: starEach es X.env := by rfl) (hplain : (backTo pos (starEach es X.env)).any (·.1) = false := by rfl) :
    DE X W (.Call (.Attribute o "append" apos) (e :: es) [] pos) (xBM oAppend fa ar) := (pe_bm PySem.F.plainAttrs_list PySem.F.slot_list_append PySem.F.type_list_append mt_append ho ha hbase hfew hline hs hplain).weak (s_bm s_append)
def oPop (d : D) (m : Mem) : Option (D × Mem) := match d with
  | .loc n => match m[n]? with
    | some (.lst l) => match l[l.length - 1]? with
      | some y => some (y, m.set n (.lst l.dropLast))
      | none => none
    | _ => none
  | _ => none
theorem d_pop {apos : Pos} (ho : DE X W o fa) (hbase : attributeBase o "pop" X.env (eval o X.env) = eval o X.env := by rfl) (hline : (apos.endLine == pos.line) = true := by rfl) :
    DE X W (.Call (.Attribute o "pop" apos) [] [] pos) (xBM0 oPop fa) := (pe_bm0 PySem.F.plainAttrs_list PySem.F.slot_list_pop PySem.F.type_list_pop mt_pop ho hbase hline).weak fun σ H Q ⟨w, m, sd, wf, sl, h⟩ =>
  ⟨w, m, sd, wf, sl, h.bind.imp fun d m1 w1 H1 l1 wf1 h1 v rv => by
    have q := vOk_of h1
    unfold oPop at q
    split at q
    · rename_i n
      cases z : m1[n]? with
      | none => simp only [z] at q; exact q.elim
      | some c =>
        simp only [z] at q
        cases c with
        | lst l =>
          simp only at q
          cases y : l[l.length - 1]? with
          | none => simp only [y] at q; exact q.elim
          | some d =>
            simp only [y] at q
            obtain ⟨a, rfl, ha, xs, e1, r1⟩ := wf1.at rv z
            obtain ⟨u, e2, ru⟩ := r1.get y
            refine ⟨.inl ⟨rfl, xs, .of e1⟩, a, xs, u, rfl, rfl, e1, by rw [r1.length]; exact e2, ?_⟩
            exact q w1 _ _ (Le.refl _) (wf1.put ha (fun b hb _ => upd_ne hb) ⟨_, upd_same, r1.dropLast⟩) ru
        | _ => exact q.elim
    · exact q.elim⟩
def oPopAt (d : D) (ds : List D) (m : Mem) : Option (D × Mem) := match d, ds with
  | .loc n, [.int i] => match m[n]? with
    | some (.lst l) => if 0 ≤ i ∧ i < 2 ^ 62 then match l[i.toNat]? with
      | some y => some (y, m.set n (.lst (l.eraseIdx i.toNat)))
      | none => none
      else none
    | _ => none
  | _, _ => none
theorem s_popAt {K : PySem.W.Frag} : ∀ w H m d v ds vs Q, Wf K w H m → rep K w d v → reps K w ds vs → vOk K w (oPopAt d ds m) Q → rPopAt v vs H Q := by
  intro w H m d v ds vs Q wf r rs q
  unfold oPopAt at q
  split at q
  · rename_i n i
    cases z : m[n]? with
    | none => simp only [z] at q; exact q.elim
    | some c =>
      simp only [z] at q
      cases c with
      | lst l =>
        simp only at q
        by_cases h : 0 ≤ i ∧ i < 2 ^ 62
        · rw [if_pos h] at q
          cases y : l[i.toNat]? with
          | none => simp only [y] at q; exact q.elim
          | some d =>
            simp only [y] at q
            obtain ⟨y', ys, rfl, rfl, rfl⟩ := rs
            obtain ⟨a, rfl, ha, xs, e1, r1⟩ := wf.at r z
            obtain ⟨u, e2, ru⟩ := r1.get y
            have hl : i.toNat < l.length := (List.getElem?_eq_some_iff.mp y).1
            have hix : ixN xs.length i = some i.toNat := by
              unfold ixN
              rw [if_pos h.1, if_pos (by rw [r1.length]; omega)]
            refine ⟨a, xs, i, i.toNat, u, rfl, rfl, e1, by omega, by omega, (ixN_seq hix).1, e2, ?_⟩
            exact q w _ _ (Le.refl _) (wf.put ha (fun b hb _ => upd_ne hb) ⟨_, upd_same, r1.eraseIdx _⟩) ru
        · rw [if_neg h] at q; exact q.elim
      | _ => exact q.elim
  · exact q.elim
theorem d_popAt {apos : Pos} (ho : DE X W o fa) (ha : DA X W (e :: es) ar)
    (hbase : attributeBase o "pop" X.env (eval o X.env) = eval o X.env := by rfl)
    (hfew : ((backTo pos (starEach (e :: es) X.env)).all (fun x => !x.1) && (backToKw pos (keywordEach [] X.env)).all (fun x => x.1.isSome)
      && decide ((e :: es).length + ([] : List Keyword).length + (if ([] : List Keyword).isEmpty then 0 else 1) < 30)) = true := by rfl)
    (hline : (apos.endLine == pos.line) = true := by rfl) (hs : starEach (e :: es) X.env = (false, eval e X.env) :: starEach es X.env := by rfl) (hplain : (backTo pos (starEach es X.env)).any (·.1) = false := by rfl) :
    DE X W (.Call (.Attribute o "pop" apos) (e :: es) [] pos) (xBM oPopAt fa ar) := (pe_bm PySem.F.plainAttrs_list PySem.F.slot_list_pop PySem.F.type_list_pop mt_popAt ho ha hbase hfew hline hs hplain).weak (s_bm s_popAt)
/-- xs.count(y), flat items -/
def rCountF (K : PySem.W.Frag) : V → List V → Hp → VK → Prop := fun x xs H Q => ∃ (p : Addr) (ys : List V) (y : V), x = .ref p ∧ xs = [y] ∧ SqL K H p ys ∧ flatV y = true ∧ ys.all flatV = true ∧ Q (.int (ys.countP (eqV · y) : Nat)) H
theorem count_eqU {x : V} : ∀ {xs : List V} {us : List Value}, Vals xs us → xs.all flatV = true → us.countP (eqU x) = xs.countP fun y => eqV y x
  | _, _, .nil, _ => rfl
  | y :: xs, u :: us, .cons r t, f => by
    rw [List.all_cons, Bool.and_eq_true] at f
    rw [List.countP_cons, List.countP_cons, eqU_of r f.1, count_eqU t f.2]
theorem mt_countF : MtR X "list.count" (rCountF X.K) := by
  intro pins s σ H x xs v us Q I rx rxs h
  obtain ⟨p, ys, y, rfl, rfl, hs, fy, fall, q⟩ := h
  cases rx
  obtain ⟨u, rfl, ru⟩ := rxs.one
  obtain ⟨its, rv, ⟨⟨cls, dd, data, sl⟩, n, ho, hc, hdn, hd⟩, hlen⟩ := I.list hs
  simp only at hc hd
  subst hc hd
  refine call_meets PySem.F.slot_list_count ⟨_, ho, rfl⟩ PySem.F.entry_list_count (PySem.F.args_list_count_2 _ _)
    (SeqAt.list_countAt p its.toArray n dd sl u (eqU y)) ⟨ho, fun z hz => mem_eqAt ru fy rv fall z (by simpa using hz), ?_⟩
  have ec : its.toArray.toList.countP (eqU y) = ys.countP (eqV · y) := count_eqU rv fall
  refine ⟨.int (ys.countP (eqV · y) : Nat), H, I.tok _, ⟨s.toks, ?_⟩, q⟩
  show Value.int ((its.toArray.toList.countP (eqU y) : Nat) : Int) s.toks = Value.int ((ys.countP (eqV · y) : Nat) : Int) s.toks
  rw [ec]
def oCount (d : D) (ds : List D) (m : Mem) : Option (D × Mem) := match ds with
  | [y] => match d.lst? m with
    | some l => if y.flat && l.all D.flat then some (.int (l.countP fun z => PyData.eqv z.toP y.toP : Nat), m) else none
    | none => none
  | _ => none
theorem count_all {K : PySem.W.Frag} {w : Wd} {d : D} {v : V} (hd : d.flat = true) (r : rep K w d v) : ∀ {l : List D} {xs : List V}, l.all D.flat = true → reps K w l xs → xs.countP (eqV · v) = l.countP fun z => PyData.eqv z.toP d.toP
  | [], _, _, q => by cases q; rfl
  | e :: ds, _, h, ⟨y, ys, q, r1, r2⟩ => by
    subst q
    rw [List.all_cons] at h
    obtain ⟨h1, h2⟩ := Bool.and_eq_true_iff.mp h
    rw [List.countP_cons, List.countP_cons, (flat_rep hd r).2 e y h1 r1, count_all hd r h2 r2]
theorem s_count {K : PySem.W.Frag} : ∀ w H m d v ds vs Q, Wf K w H m → rep K w d v → reps K w ds vs → vOk K w (oCount d ds m) Q → rCountF K v vs H Q := by
  intro w H m d v ds vs Q wf r rs q
  unfold oCount at q
  split at q
  · rename_i y
    cases z : d.lst? m with
    | none => simp only [z] at q; exact q.elim
    | some l =>
      simp only [z] at q
      by_cases h : (y.flat && l.all D.flat) = true
      · rw [if_pos h] at q
        obtain ⟨h1, h2⟩ := Bool.and_eq_true_iff.mp h
        obtain ⟨y', ys, rfl, ry, rfl⟩ := rs
        obtain ⟨a, xs, rfl, e1, r1⟩ := lstR wf r z
        refine ⟨a, xs, y', rfl, rfl, .of e1, (flat_rep h1 ry).1, flat_all h2 r1, ?_⟩
        rw [count_all h1 ry h2 r1]
        exact q.ret wf rfl
      · rw [if_neg h] at q; exact q.elim
  · exact q.elim
theorem d_count {apos : Pos} (ho : DE X W o fa) (ha : DA X W (e :: es) ar)
    (hbase : attributeBase o "count" X.env (eval o X.env) = eval o X.env := by rfl)
    (hfew : ((backTo pos (starEach (e :: es) X.env)).all (fun x => !x.1) && (backToKw pos (keywordEach [] X.env)).all (fun x => x.1.isSome)
      && decide ((e :: es).length + ([] : List Keyword).length + (if ([] : List Keyword).isEmpty then 0 else 1) < 30)) = true := by rfl)
    (hline : (apos.endLine == pos.line) = true := by rfl) (hs : starEach (e :: es) X.env = (false, eval e X.env) :: starEach es X.env := by rfl) (hplain : (backTo pos (starEach es X.env)).any (·.1) = false := by rfl) :
    DE X W (.Call (.Attribute o "count" apos) (e :: es) [] pos) (xBM oCount fa ar) := (pe_bm PySem.F.plainAttrs_list PySem.F.slot_list_count PySem.F.type_list_count mt_countF ho ha hbase hfew hline hs hplain).weak (s_bm s_count)
end
end Dl

set_option Elab.async false
set_option linter.all false
set_option maxRecDepth 100000
set_option maxHeartbeats 4000000
/-! DEnum: enumerate over tuples and lists. -/
namespace Dl
open PySem PySem.Spec PyProof.Rows L2
/-- the tuple at a, each item in a new pair -/
def IteT (K : PySem.W.Frag) (a : Addr) : It :=
  ⟨fun i H => ∃ (xs : List V) (x : V), SqT K H a xs ∧ xs[i]? = some x, fun i H v H' => ∃ T x, v = .ref T ∧ H T = none ∧ H' = upd H T (.tup [.int (i : Nat), x]) ∧ ∀ xs, SqT K H a xs → xs[i]? = some x, fun i H => ∃ xs : List V, SqT K H a xs ∧ xs.length ≤ i⟩
theorem turn_enumT {P : Program} {w : World} {K : PySem.W.Frag} {elts : List Expr} {kk : Nat} {tpos : Pos} (a e it : Addr) :
    Turn P w K (.Tuple elts kk tpos) (IteT K a) [e, it] e (fun i h => (∃ old, IsEnum h e it ((i : Nat) : Int) old) ∧ h.IsTupleIter it a i ∧ e ≠ it) where
  mem := by simp
  obj := fun i h st b hb => by
    obtain ⟨⟨old, he⟩, ⟨o, ho, hc, hd⟩, _⟩ := st
    have e' : b = e ∨ b = it := by simpa using hb
    rcases e' with z | z
    · rw [z]; exact ⟨_, he, fun v q => nomatch q⟩
    · rw [z]; exact ⟨o, ho, fun v q => by rw [hd] at q; cases q⟩
  keep := fun i h h' st k => let ⟨⟨old, he⟩, hi, hne⟩ := st; ⟨⟨old, k e (by simp) _ he⟩, hi.at fun o q => k it (by simp) o q, hne⟩
  item := by
    intro X hP hw hK hc i pins s σ H E I hf st hg
    subst hP hw hK
    obtain ⟨⟨old, he⟩, hit, hne⟩ := st
    obtain ⟨xs, x, hq, hx⟩ := hg
    obtain ⟨its, rv, p, hz⟩ := I.tuple hq
    obtain ⟨u, hu, ru⟩ := rv.get hx
    have hel : e < s.heap.objs.size := Heap.lt_size he
    have hil : it < s.heap.objs.size := by obtain ⟨_, q, _⟩ := hit; exact Heap.lt_size q
    have p' : s.heap.IsTuple a its.toArray := p
    have hai : a ≠ it := by
      rintro rfl
      obtain ⟨o1, h1, c1, _⟩ := hit
      obtain ⟨o2, h2, c2, _⟩ := p'
      rw [h1] at h2
      cases h2
      rw [c1] at c2
      exact absurd c2 (by decide)
    have hae : e ≠ a := by
      rintro rfl
      obtain ⟨o2, h2, c2, _⟩ := p'
      have he2 : s.heap.get? e = some _ := he
      rw [h2] at he2
      rw [Option.some.inj he2] at c2
      exact absurd c2 (by show ¬ (Value.type "enumerate" = Value.type "tuple"); intro z; exact absurd (Value.type.inj z) (by decide))
    have D := Draws.tuple (prog := X.prog) (w := X.w) (A := X.A.in1) (I.ok.hd hc) it a hai its.toArray
    have hin : i < its.toArray.size := by
      have := (List.getElem?_eq_some_iff.mp hu).1
      simpa using this
    refine wpAny_pyNext_enum_itemC D he ⟨hit, p'⟩ hin hne (by simp [hne, hae]) fun x' h' tk hx' ho hst' hT hsz hk => ?_
    have ex' : x' = u := by
      have hu' : its.toArray[i]? = some u := by simpa using hu
      have hx2 : its.toArray[i]? = some x' := hx'
      rw [hu'] at hx2
      exact (Option.some.inj hx2).symm
    subst ex'
    refine ⟨_, rfl, wpAny_letOwnedTupleGo_enum (s := { s with heap := h', toks := tk + 1 }) ho fun h'' he' sb => ?_⟩
    have hT2 : h''.get? s.heap.objs.size = some { cls := .type "tuple", data := .seq #[.int i tk, x'] } := (sb.2 _ (Nat.ne_of_gt hel)).trans hT
    have new : ObjOk X.prog X.w (upd H s.heap.objs.size (.tup [.int (i : Nat), x])) h'' s.heap.objs.size (.tup [.int (i : Nat), x]) :=
      ⟨by show 2 ≤ sizeLine; decide, [.int i tk, x'], .cons ⟨_, rfl⟩ (.cons ru .nil), ⟨_, hT2, rfl, _, rfl⟩⟩
    have I1 : Inv X pins σ (upd H s.heap.objs.size (.tup [.int (i : Nat), x])) { s with heap := h'', toks := tk + 1 } :=
      I.turnedNew (ch := [e, it]) (fun b ob hb q => (sb.2 b (fun z => hb (by simp [z]))).trans (hk b ob (fun z => hb (by simp [z])) (fun z => hb (by simp [z])) q)) hf (Nat.le_refl _) new
    refine ⟨.ref s.heap.objs.size, _, I1, rfl, ⟨_, x, rfl, I.hok.fresh (Nat.le_refl _), rfl, fun ys hy => by rw [I.tuple_inj hy hq]; exact hx⟩, ⟨⟨x', ?_⟩, hst'.1.at fun o q => (sb.2 it (Ne.symm hne)).trans q, hne⟩, fun b hb => ?_⟩
    · have e1 : ((i + 1 : Nat) : Int) = (i : Int) + 1 := by omega
      rw [e1]; exact he'
    · have hb' : b < s.heap.objs.size := by
        have e' : b = e ∨ b = it := by simpa using hb
        rcases e' with z | z
        · rw [z]; exact hel
        · rw [z]; exact hil
      rw [upd_ne (Nat.ne_of_lt hb')]
      exact (hf b hb).1
  done := by
    intro X hP hw hK hc i pins s σ H E I hf st hg
    subst hP hw hK
    obtain ⟨⟨old, he⟩, hit, hne⟩ := st
    obtain ⟨xs, hq, hx⟩ := hg
    obtain ⟨its, rv, p, hz⟩ := I.tuple hq
    obtain ⟨f0, f1, f2, f3, f4, f5⟩ := hf it (by simp)
    have hl := rv.length
    have p' : s.heap.IsTuple a its.toArray := p
    have hT : s.TypeIs (.ref e) "enumerate" := ⟨_, he, rfl⟩
    unfold pyNext
    refine wpAny_bind (wpAny_attempt (wpAny_callSpecial?_slot (name := Str.ofString "__next__") hT F.slot_enumerate_next
      (wpAny_call_entry F.slot_enumerate_next hT F.entry_enumerate_next ?_ (F.args_enumerate_next_1 _))))
    show wpAny _ _ (field (.ref e) 2 >>= _) _ _ _
    refine wpAny_bind (wpAny_field he rfl (x := .ref it) rfl ?_)
    refine wpAny_bind (wpAny_nextOf_tuple_end (I.ok.hd hc) hit p' (by simp; omega) fun h' x he' hx' => ?_)
    obtain ⟨o, ho, hc⟩ := hx'
    refine wpAny_bind (wpAny_isInstance (T := "StopIteration") (b := true) ⟨o, ho, hc⟩ isSubtype_stop ?_)
    exact wpAny_pure ⟨rfl, I.turned (t' := s.toks) (fun b o hb q => he' b o hb q) f0 f1 f3 f4 f5⟩
  self := fun A i s Q E st h => let ⟨⟨_, he⟩, _⟩ := st; wpAny_pyIter_enum he h
theorem meets_enumerate_newT (a : Addr) (items : Array Value) :
    Meets (Builtin.«enumerate.__new__» ⟨[.type "enumerate", .ref a], []⟩) (fun _ R s => s.heap.IsTuple a items ∧
      R (.ok (.ret (.ref (s.heap.push { cls := .type "tuple_iterator", data := .fields #[.ref a, .int 0 0] }).objs.size)))
        { s with heap := (s.heap.push { cls := .type "tuple_iterator", data := .fields #[.ref a, .int 0 0] }).push { cls := .type "enumerate", data := .fields #[.none, .bool false, .ref s.heap.objs.size, rawInt 0, .none, .none] } }) :=
  .of_wp fun prog w A R s h => by
    obtain ⟨hp, g, d, tk, os⟩ := s; obtain ⟨h1, h⟩ := h
    have hsub := sub_enumerate
    have q1 : ∀ {A' : Around} {E : Value → Shared → Prop} {Q : Value → Shared → Prop}, Q (.ref hp.objs.size) ⟨hp.push { cls := .type "tuple_iterator", data := .fields #[.ref a, .int 0 0] }, g, d, tk, os⟩ → wpAny (model prog w) A' (pyIter (.ref a)) Q E ⟨hp, g, d, tk, os⟩ :=
      fun q => (begins_tuple a items).iter prog w _ _ ⟨hp, g, d, tk, os⟩ _ h1 q
    wp_walk using q1
    refine wpAny_stack_any fun st => wpAny_pure ?_
    split
    · rename_i c _ _ _ _ _
      cases (c == Value.type "enumerate")
      · wp_walk using q1
        exact ⟨_, rfl, h⟩
      · wp_walk using q1
        exact ⟨_, rfl, h⟩
    · wp_walk using q1
      exact ⟨_, rfl, h⟩
theorem call_enumerate_tup {prog : Program} {w : World} {A : Around} {E : Value → Shared → Prop} {s : Shared} {l : Addr} {items : Array Value} {Q : Value → Shared → Prop} (hL : s.heap.IsTuple l items)
    (h : ∀ h', IsEnum h' (s.heap.objs.size + 1) s.heap.objs.size 0 .none → h'.IsTupleIter s.heap.objs.size l 0 → h'.objs.size = s.heap.objs.size + 2 →
      (∀ b o, s.heap.get? b = some o → h'.get? b = some o) → Q (.ref (s.heap.objs.size + 1)) { s with heap := h' }) :
    wpAny (model prog w) A (call (.type "enumerate") [.ref l]) Q E s := by
  refine callType_new F.called_enumerate (by decide) (F.typeCall_enumerate_1 _) (F.newCall_enumerate_1 _) (fun obj => F.args_object_init_2 obj _) F.entry_enumerate_new
    (meets_enumerate_newT l items) ⟨hL, ?_⟩
  have hz : (s.heap.push { cls := .type "tuple_iterator", data := .fields #[.ref l, .int 0 0] }).objs.size = s.heap.objs.size + 1 := Heap.size_push ..
  show _ ∧ _
  rw [hz]
  have he : IsEnum ((s.heap.push { cls := .type "tuple_iterator", data := .fields #[.ref l, .int 0 0] }).push
      { cls := .type "enumerate", data := .fields #[.none, .bool false, .ref s.heap.objs.size, rawInt 0, .none, .none] }) (s.heap.objs.size + 1) s.heap.objs.size 0 .none := by
    have := Heap.get?_push_size (s.heap.push { cls := .type "tuple_iterator", data := .fields #[.ref l, .int 0 0] })
      (o := { cls := .type "enumerate", data := .fields #[.none, .bool false, .ref s.heap.objs.size, rawInt 0, .none, .none] }) rfl
    rw [hz] at this; exact this
  refine ⟨⟨_, he, rfl⟩, h _ he ⟨_, Heap.get?_push_of_some _ (Heap.get?_push_size _ rfl), rfl, rfl⟩ (by rw [Heap.size_push, hz]) fun b o x => Heap.get?_push_of_some _ (Heap.get?_push_of_some _ x)⟩
def iEnumT (K : PySem.W.Frag) (ta : TA) : TI := fun σ H R => ta σ H fun vs H1 => ∃ a xs, vs = [.ref a] ∧ SqT K H1 a xs ∧ R (IteT K a) H1
theorem pi_enumT {X : Cx} {e : Expr} {ta : TA} {p pos tpos : Pos} {elts : List Expr} {kk : Nat} (hg : Gl X "enumerate") (hm : X.mg "enumerate" = none) (ha : PA X [e] ta) (hs : starEach [e] X.env = [(false, eval e X.env)] := by rfl) :
    PI X (.Tuple elts kk tpos) (.Call (.Name "enumerate" p) [e] [] pos) (iEnumT X.K ta) := by
  refine ⟨fun pins s σ H R I h => ?_⟩
  refine Call_ (ld_blt I hg hm boot_enumerate (PyProof.Rows.callWith_type1 (thn (ha.run pos pins s σ H _ I h) fun us s1 ⟨vs, H1, I1, r1, q1⟩ => ?_) hs rfl))
  obtain ⟨a, xs, ex, hq, q⟩ := q1
  subst ex
  cases r1 with
  | cons r rr =>
    cases rr
    cases r
    obtain ⟨its, rv, p', hz⟩ := I1.tuple hq
    refine call_enumerate_tup (show s1.heap.IsTuple a its.toArray from p') fun h' he hit hsz hk => wpAny_pyIter_enum he ?_
    have I2 : Inv X pins σ H1 { s1 with heap := h' } := I1.kept (t' := s1.toks) hk
    refine ⟨s1.heap.objs.size + 1, [s1.heap.objs.size + 1, s1.heap.objs.size], _, _, H1, rfl, I2, turn_enumT a (s1.heap.objs.size + 1) s1.heap.objs.size, ⟨⟨.none, he⟩, hit, Nat.succ_ne_self _⟩, fun b hb => ?_, q⟩
    have e' : b = s1.heap.objs.size + 1 ∨ b = s1.heap.objs.size := by simpa using hb
    have hle : s1.heap.objs.size ≤ b := by
      rcases e' with z | z
      · rw [z]; exact Nat.le_add_right _ _
      · rw [z]; exact Nat.le_refl _
    exact I1.fpOk hle (I1.hok.fresh hle)
section
variable {X : Cx} {W : WX} {e o c it tg elt : Expr} {es : List Expr} {pos tpos : Pos} {fa fb : EF} {ar : AF} {ta : TF} {st : Stmt} {rest body : List Stmt} {b b2 : SF} {g : GF}
def enF : Nat → List D → List D
  | _, [] => []
  | i, x :: xs => .tup [.int (i : Nat), x] :: enF (i + 1) xs
def forLE (g : GF) (b : SF) (n : Nat) : Nat → Nat → Sl → Mem → SR
  | 0, i, sd, m => match (D.loc n).rdl? m with
    | none => .stuck
    | some l => match l[i]? with
      | none => .nx sd m
      | some _ => .stuck
  | k + 1, i, sd, m => match (D.loc n).rdl? m with
    | none => .stuck
    | some l => match l[i]? with
      | none => .nx sd m
      | some x => turnD g b (.tup [.int (i : Nat), x]) (fun sd m => forLE g b n k (i + 1) sd m) sd m
def sForE (r : AF) (g : GF) (b : SF) : SF := fun sd m => SR.ofR sd (r sd m) fun ds m1 => match ds with
  | [.tup l] => forD g b (enF 0 l) sd m1
  | [.ctup l] => forD g b (enF 0 l) sd m1
  | [.lst l] => forD g b (enF 0 l) sd m1
  | [.scr l] => forD g b (enF 0 l) sd m1
  | [.loc n] => match m1[n]? with
    | some (.lst l) => forLE g b n l.length 0 sd m1
    | _ => .stuck
  | _ => .stuck
theorem enum_turn {K : PySem.W.Frag} {w0 w : Wd} {En : Ends} {r : Sl → Mem → SR} {x : D} {v : V} {i : Nat} {sd : Sl} {m : Mem} {σ : L2.St} {H : Hp} {T : Addr} (l : Le w0 w) (wf : Wf K w H m) (sl : slR K w sd σ) (rx : rep K w x v) (hT : H T = none)
    (h : sOk K W w (turnD g b (.tup [.int (i : Nat), x]) r sd m) En) : gOf K g (.ref T) σ (upd H T (.tup [.int (i : Nat), v])) (fun σ2 H2 => sOf K W b { En with nx := Mid K W w0 En r, ct := Mid K W w0 En r, bk := En.nx } σ2 H2) := by
  obtain ⟨l2, f, rv⟩ := new_tup (ds := [.int (i : Nat), x]) (xs := [.int (i : Nat), v]) wf ⟨_, _, rfl, rfl, _, _, rfl, rx, rfl⟩ hT
  exact turn_step (l.trans l2) f (sl.mono l2) rv (h.mono l2)
theorem overET {K : PySem.W.Frag} {En : Ends} {w1 : Wd} {sd : Sl} {m1 : Mem} {σ : L2.St} {H1 : Hp} {l : List D} {a : Addr} {xs : List V} (sl : slR K w1 sd σ) (wf1 : Wf K w1 H1 m1) (hq : ∀ w2 H2 m2, Le w1 w2 → Wf K w2 H2 m2 → SqT K H2 a xs) (rs : reps K w1 l xs) (h1 : sOk K W w1 (forD g b (enF 0 l) sd m1) En) :
      ∃ Wi : Nat → Nat → L2.St → Hp → Prop, (∃ m, Wi 0 m σ H1) ∧ ∀ i m σ H, Wi i m σ H →
        ((IteT K a).stop i H ∧ En.nx σ H) ∨ ((IteT K a).go i H ∧ ∃ N : L2.St → Hp → Prop, (∀ σ' H', N σ' H' → ∃ m', m' < m ∧ Wi (i + 1) m' σ' H') ∧ ∀ x H', (IteT K a).yld i H x H' → gOf K g x σ H' fun σ2 H2 => sOf K W b { En with nx := N, ct := N, bk := En.nx } σ2 H2) := by
  refine for_it (J := IteT K a) (n := xs.length) (G := fun H => SqT K H a xs) (Y := fun i H v H' => ∃ T x, v = .ref T ∧ H T = none ∧ H' = upd H T (.tup [.int (i : Nat), x]) ∧ xs[i]? = some x)
    ⟨fun i H hi q => ⟨xs, xs[i], q, by simp [hi]⟩, fun H q => ⟨xs, q, Nat.le_refl _⟩, fun i H v H' hi q y => let ⟨T, x, e1, e2, e3, e4⟩ := y; ⟨T, x, e1, e2, e3, e4 xs q⟩⟩
    (fun i => Mid K W w1 En (fun sd m => forD g b (enF i (l.drop i)) sd m)) ⟨w1, m1, sd, Le.refl _, wf1, sl, by rw [List.drop_zero]; exact h1⟩ (fun i σ H _ ⟨w2, m2, sd2, l2, wf2, sl2, h2⟩ => hq w2 H m2 l2 wf2) ?_ ?_
  · rintro i x σ2 H2 H3 hi ⟨w2, m2, sd2, l2, wf2, sl2, h2⟩ ⟨T, v, rfl, hT, rfl, hx⟩
    have hil : i < l.length := by rw [← rs.length]; exact hi
    obtain ⟨v', e1, r1⟩ := rs.get (List.getElem?_eq_getElem hil)
    rw [hx] at e1
    cases e1
    rw [drop_get (List.getElem?_eq_getElem hil)] at h2
    exact enum_turn l2 wf2 sl2 (r1.mono l2) hT h2
  · rintro σ2 H2 ⟨w2, m2, sd2, l2, wf2, sl2, h2⟩
    rw [rs.length, List.drop_length] at h2
    exact h2 w2 H2 σ2 (Le.refl _) wf2 sl2
theorem overEL {K : PySem.W.Frag} {En : Ends} {w1 : Wd} {sd : Sl} {m1 : Mem} {σ : L2.St} {H1 : Hp} {l : List D} {a : Addr} {xs : List V} (sl : slR K w1 sd σ) (wf1 : Wf K w1 H1 m1) (hq : ∀ w2 H2 m2, Le w1 w2 → Wf K w2 H2 m2 → SqL K H2 a xs) (rs : reps K w1 l xs) (h1 : sOk K W w1 (forD g b (enF 0 l) sd m1) En) :
      ∃ Wi : Nat → Nat → L2.St → Hp → Prop, (∃ m, Wi 0 m σ H1) ∧ ∀ i m σ H, Wi i m σ H →
        ((Ite K a).stop i H ∧ En.nx σ H) ∨ ((Ite K a).go i H ∧ ∃ N : L2.St → Hp → Prop, (∀ σ' H', N σ' H' → ∃ m', m' < m ∧ Wi (i + 1) m' σ' H') ∧ ∀ x H', (Ite K a).yld i H x H' → gOf K g x σ H' fun σ2 H2 => sOf K W b { En with nx := N, ct := N, bk := En.nx } σ2 H2) := by
  refine for_it (J := Ite K a) (n := xs.length) (G := fun H => SqL K H a xs) (Y := fun i H v H' => ∃ T x, v = .ref T ∧ H T = none ∧ H' = upd H T (.tup [.int (i : Nat), x]) ∧ xs[i]? = some x)
    ⟨fun i H hi q => ⟨xs, xs[i], q, by simp [hi]⟩, fun H q => ⟨xs, q, Nat.le_refl _⟩, fun i H v H' hi q y => let ⟨T, x, e1, e2, e3, e4⟩ := y; ⟨T, x, e1, e2, e3, e4 xs q⟩⟩
    (fun i => Mid K W w1 En (fun sd m => forD g b (enF i (l.drop i)) sd m)) ⟨w1, m1, sd, Le.refl _, wf1, sl, by rw [List.drop_zero]; exact h1⟩ (fun i σ H _ ⟨w2, m2, sd2, l2, wf2, sl2, h2⟩ => hq w2 H m2 l2 wf2) ?_ ?_
  · rintro i x σ2 H2 H3 hi ⟨w2, m2, sd2, l2, wf2, sl2, h2⟩ ⟨T, v, rfl, hT, rfl, hx⟩
    have hil : i < l.length := by rw [← rs.length]; exact hi
    obtain ⟨v', e1, r1⟩ := rs.get (List.getElem?_eq_getElem hil)
    rw [hx] at e1
    cases e1
    rw [drop_get (List.getElem?_eq_getElem hil)] at h2
    exact enum_turn l2 wf2 sl2 (r1.mono l2) hT h2
  · rintro σ2 H2 ⟨w2, m2, sd2, l2, wf2, sl2, h2⟩
    rw [rs.length, List.drop_length] at h2
    exact h2 w2 H2 σ2 (Le.refl _) wf2 sl2
theorem overEC {K : PySem.W.Frag} {En : Ends} {w1 : Wd} {sd : Sl} {m1 : Mem} {σ : L2.St} {H1 : Hp} {l : List D} {n : Nat} {a : Addr} (sl : slR K w1 sd σ) (wf1 : Wf K w1 H1 m1) (rv : rep K w1 (.loc n) (.ref a)) (h1 : sOk K W w1 (forLE g b n l.length 0 sd m1) En) :
      ∃ Wi : Nat → Nat → L2.St → Hp → Prop, (∃ m, Wi 0 m σ H1) ∧ ∀ i m σ H, Wi i m σ H →
        ((Ite K a).stop i H ∧ En.nx σ H) ∨ ((Ite K a).go i H ∧ ∃ N : L2.St → Hp → Prop, (∀ σ' H', N σ' H' → ∃ m', m' < m ∧ Wi (i + 1) m' σ' H') ∧ ∀ x H', (Ite K a).yld i H x H' → gOf K g x σ H' fun σ2 H2 => sOf K W b { En with nx := N, ct := N, bk := En.nx } σ2 H2) := by
  refine ⟨fun i k σ H => Mid K W w1 En (fun sd m => forLE g b n k i sd m) σ H, ⟨l.length, w1, m1, sd, Le.refl _, wf1, sl, h1⟩, ?_⟩
  have fin : ∀ {i : Nat} {σ2 : L2.St} {H2 : Hp} {w2 : Wd} {m2 : Mem} {sd2 : Sl} {l' : List D} {xs' : List V}, Wf K w2 H2 m2 → slR K w2 sd2 σ2 → SqL K H2 a xs' → reps K w2 l' xs' → l'[i]? = none → sOk K W w2 (.nx sd2 m2) En → (Ite K a).stop i H2 ∧ En.nx σ2 H2 := by
    intro i σ2 H2 w2 m2 sd2 l' xs' wf2 sl2 hs' rs' x h3
    refine ⟨⟨xs', hs', ?_⟩, h3 w2 H2 σ2 (Le.refl _) wf2 sl2⟩
    rw [rs'.length]
    exact List.getElem?_eq_none_iff.mp x
  rintro i k σ2 H2 ⟨w2, m2, sd2, l2, wf2, sl2, h2⟩
  cases k with
  | zero =>
    unfold forLE at h2
    cases y : (D.loc n).rdl? m2 with
    | none => simp only [y] at h2; exact h2.elim
    | some l' =>
      obtain ⟨a', xs', ea, hs', rs'⟩ := rdlR wf2 (rv.mono l2) y
      cases ea
      cases x : l'[i]? with
      | none => simp only [y, x] at h2; exact .inl (fin wf2 sl2 hs' rs' x h2)
      | some y0 => simp only [y, x] at h2; exact h2.elim
  | succ k =>
    unfold forLE at h2
    cases y : (D.loc n).rdl? m2 with
    | none => simp only [y] at h2; exact h2.elim
    | some l' =>
      obtain ⟨a', xs', ea, hs', rs'⟩ := rdlR wf2 (rv.mono l2) y
      cases ea
      cases x : l'[i]? with
      | none => simp only [y, x] at h2; exact .inl (fin wf2 sl2 hs' rs' x h2)
      | some y0 =>
        simp only [y, x] at h2
        obtain ⟨vx, e3, r3⟩ := rs'.get x
        refine .inr ⟨⟨xs', vx, hs', e3⟩, Mid K W w1 En (fun sd m => forLE g b n k (i + 1) sd m), fun σ' H' p => ⟨k, Nat.lt_succ_self _, p⟩, ?_⟩
        rintro u H' ⟨T, vv, rfl, hT, rfl, hu⟩
        have eu := hu xs' hs'
        rw [e3] at eu
        cases eu
        exact enum_turn l2 wf2 sl2 r3 hT h2
theorem ds_forE {elts : List Expr} {kk : Nat} {p cpos : Pos} (hp : PassesOwn (model X.prog X.w) X.A X.env X.xe) (hc : X.calm = true) (hm : X.mg "enumerate" = none) (ha : DA X W [e] ar) (hg : DG X (.Tuple elts kk tpos) g) (hb : DSs X W body b)
    (hgl : Gl X "enumerate" := by rfl) (hst : starEach [e] X.env = [(false, eval e X.env)] := by rfl)
    (hs : ∀ x, foldedSetIterable (.Call (.Name "enumerate" p) [e] [] cpos) X.env x = pure x := by intro _; rfl) : DS X W (.For (.Tuple elts kk tpos) (.Call (.Name "enumerate" p) [e] [] cpos) body [] pos) (sForE ar g b) := (ps_for hp hc (pi_or (pi_enumT hgl hm ha hst) (pi_enum hgl hm ha hst)) hg hb hs).weak fun En σ H ⟨w, m, sd, wf, sl, h⟩ => by
  have go := sOk.ofR sl h
  show (iEnumT X.K (aOf X.K W ar) σ H _) ∨ (iEnum X.K (aOf X.K W ar) σ H _)
  cases q : ar sd m with
  | err e m1 => exact .inl ⟨w, m, sd, wf, sl, by rw [q] at go ⊢; exact go⟩
  | stuck => exact .inl ⟨w, m, sd, wf, sl, by rw [q] at go ⊢; exact go⟩
  | ok ds m1 =>
    rw [q] at go
    have non : ∀ (z : ∀ w1 H1, Le w w1 → Wf X.K w1 H1 m1 → False), (iEnumT X.K (aOf X.K W ar) σ H fun J H2 => ∃ Wi : Nat → Nat → L2.St → Hp → Prop, (∃ m, Wi 0 m σ H2) ∧ ∀ i m σ H, Wi i m σ H →
        (J.stop i H ∧ En.nx σ H) ∨ (J.go i H ∧ ∃ N : L2.St → Hp → Prop, (∀ σ' H', N σ' H' → ∃ m', m' < m ∧ Wi (i + 1) m' σ' H') ∧ ∀ x H', J.yld i H x H' → gOf X.K g x σ H' fun σ2 H2 => sOf X.K W b { En with nx := N, ct := N, bk := En.nx } σ2 H2)) := by
      intro z
      refine ⟨w, m, sd, wf, sl, ?_⟩
      rw [q]
      intro w1 H1 l1 wf1 v rv
      exact (z w1 H1 l1 wf1).elim
    match ds, go with
    | [], go => exact .inl (non go)
    | _ :: _ :: _, go => exact .inl (non fun w1 H1 l1 wf1 => by have h1 := go w1 H1 l1 wf1; simp only at h1; exact h1)
    | [d], go =>
      cases d with
      | tup l =>
        refine .inl ⟨w, m, sd, wf, sl, ?_⟩
        rw [q]
        intro w1 H1 l1 wf1 v rv
        have h1 := go w1 H1 l1 wf1
        obtain ⟨v, _, rfl, rv, rfl⟩ := rv
        obtain ⟨a, xs, rfl, h2, r2⟩ := rv
        exact ⟨a, xs, rfl, .of (wf1.subT h2), overET (sl.mono l1) wf1 (fun w2 H2 m2 l2 wf2 => .of (wf2.subT (l2.c _ _ h2))) r2 h1⟩
      | ctup l =>
        refine .inl ⟨w, m, sd, wf, sl, ?_⟩
        rw [q]
        intro w1 H1 l1 wf1 v rv
        have h1 := go w1 H1 l1 wf1
        obtain ⟨v, _, rfl, rv, rfl⟩ := rv
        obtain ⟨a, xs, rfl, h2, r2⟩ := rv
        exact ⟨a, xs, rfl, h2 H1, overET (sl.mono l1) wf1 (fun w2 H2 m2 l2 wf2 => h2 H2) r2 h1⟩
      | lst l =>
        refine .inr ⟨w, m, sd, wf, sl, ?_⟩
        rw [q]
        intro w1 H1 l1 wf1 v rv
        have h1 := go w1 H1 l1 wf1
        obtain ⟨v, _, rfl, rv, rfl⟩ := rv
        obtain ⟨a, xs, rfl, h2, r2⟩ := rv
        exact ⟨a, xs, rfl, .of (wf1.subL h2), overEL (sl.mono l1) wf1 (fun w2 H2 m2 l2 wf2 => .of (wf2.subL (l2.c _ _ h2))) r2 h1⟩
      | scr l =>
        refine .inr ⟨w, m, sd, wf, sl, ?_⟩
        rw [q]
        intro w1 H1 l1 wf1 v rv
        have h1 := go w1 H1 l1 wf1
        obtain ⟨v, _, rfl, rv, rfl⟩ := rv
        obtain ⟨a, xs, rfl, h2, r2⟩ := rv
        exact ⟨a, xs, rfl, (wf1.subS h2), overEL (sl.mono l1) wf1 (fun w2 H2 m2 l2 wf2 => wf2.subS (h2.mono l2)) r2 h1⟩
      | loc n =>
        refine .inr ⟨w, m, sd, wf, sl, ?_⟩
        rw [q]
        intro w1 H1 l1 wf1 v rv
        have h1 := go w1 H1 l1 wf1
        obtain ⟨v, _, rfl, rv, rfl⟩ := rv
        cases z : m1[n]? with
        | none => simp only [z] at h1; exact h1.elim
        | some c =>
          simp only [z] at h1
          cases c with
          | lst l =>
            obtain ⟨a, rfl, ha, xs, e2, r2⟩ := wf1.at rv z
            exact ⟨a, xs, rfl, .of e2, overEC (sl.mono l1) wf1 rv h1⟩
          | _ => exact h1.elim
      | _ => exact .inl (non go)
end
end Dl

set_option Elab.async false
set_option linter.all false
set_option maxRecDepth 100000
set_option maxHeartbeats 4000000
/-! DSup: an own exception whose __init__ says super().__init__(x) and stores x. -/
namespace Dl
open PySem PySem.Spec PyProof.Rows L2
/-- the class, its __init__ as it stands, the code's file -/
structure SupD where
  cls : Str
  qual : Str
  fld : Str
  params : Arguments
  body : List Stmt
  scope : Scope
  file : Str
abbrev SupW : Type := Option (Str × Str × Arguments × FuncBody × Scope × Addr × List Str × Addr)
def SupD.fa (K : PySem.W.Frag) (d : SupD) : Addr := He.fAd K (d.cls, some "__init__")
def supW (K : PySem.W.Frag) (d : SupD) : SupW := match K.lookup (d.fa K) with
  | some ⟨_, _, .func fd, _⟩ => some (fd.name, fd.qualname, fd.params, fd.body, fd.scope, fd.globals, fd.closure.map (·.1), fd.builtins)
  | _ => none
def SupD.val (d : SupD) : SupW := some ("__init__", d.qual, d.params, .stmts d.body, d.scope, mainGlobals, ["__class__"], builtinsNs)
def isNoneV : Value → Bool
  | .none => true
  | _ => false
def oexB (K : PySem.W.Frag) (C : Addr) : Bool := match K.lookup C with
  | some ⟨.type t, _, .cls cd, sl⟩ => decide (t = "type") && (match cd.mro, sl.toList with
    | .ref C' :: bm, [_, _, _, _, some (.builtin n), _] => decide (C' = C) && (decide (n = "ValueError.__new__") && (!cd.hasDel && (cd.hasDict && PySem.HandSPX.refsVE bm)))
    | _, _ => false)
  | _ => false
def SupD.ok (K : PySem.W.Frag) (d : SupD) : Bool :=
  oexB K (He.ga K d.cls) && (decide (PySem.W.keepIn K (.ref (He.ga K d.cls)) = true) && (decide (PySem.W.subIn K (.ref (He.ga K d.cls)) (.type "BaseException") = some true) && (decide (PySem.W.typeIn K (.ref (He.ga K d.cls)) = some (.type "type")) &&
  (He.eqO (PySem.W.findIn K (.ref (He.ga K d.cls)) "__init__") (some (some (.ref (d.fa K)))) && (decide (PySem.W.typeIn K (.ref (d.fa K)) = some (.type "function")) && (He.eqO (PySem.W.findIn K (.ref (He.ga K d.cls)) "__setattr__") (some (some (.builtin "object.__setattr__"))) &&
  (decide (PySem.W.mroIn K (He.ga K d.cls) (.ref (He.ga K d.cls)) = some true) && (He.eqO (PySem.W.nsIn K mainGlobals "super") (some none) && (He.eqO (PySem.W.nsIn K cStatics "thirdparty.any") (some none) &&
  (decide (PySem.W.ks_superIn K (He.ga K d.cls) (He.ga K d.cls) "__init__" = some (some (.builtin "ValueError.__init__"))) && (decide (PySem.W.subIn K (.ref (He.ga K d.cls)) (.type "ValueError") = some true) && (He.eqO (PySem.W.findIn K (.ref (He.ga K d.cls)) d.fld) (some none) &&
  (match K.lookup (d.fa K) with
    | some ⟨_, _, .func fd, _⟩ => PySem.W.codeIn K fd.code d.qual && (isNoneV fd.defaults && ((match fd.code with
      | .ref c => (match K.lookup c with
        | some ⟨_, _, .fields vs, _⟩ => (match vs[2]? with
          | some (Value.str f _) => decide (f = d.file)
          | _ => false)
        | _ => false)
      | _ => false) && (match fd.closure with
      | [(_, cc)] => (match K.lookup cc with
        | some ⟨_, _, .cell (some (.ref D)), _⟩ => decide (D = He.ga K d.cls)
        | _ => false)
      | _ => false)))
    | _ => false)))))))))))))
/-- what is known of such a class -/
structure SupC (K : PySem.W.Frag) (d : SupD) (C fI : Addr) : Prop where
  oex : OexC K C
  iC : PySem.W.findIn K (.ref C) "__init__" = some (some (.ref fI))
  tI : PySem.W.typeIn K (.ref fI) = some (.type "function")
  mro : PySem.W.mroIn K C (.ref C) = some true
  sup : PySem.W.nsIn K mainGlobals "super" = some none
  stat : PySem.W.nsIn K cStatics "thirdparty.any" = some none
  hm : PySem.W.ks_superIn K C C "__init__" = some (some (.builtin "ValueError.__init__"))
  hB : PySem.W.subIn K (.ref C) (.type "ValueError") = some true
  hF : PySem.W.findIn K (.ref C) d.fld = some none
  fn : ∃ (oc kV doc pm ct : Value) (od an : Option Addr) (osl : Array (Option Value)) (cda cc : Addr), K.lookup fI = some ⟨oc, od, .func (PySem.W.ksFn "__init__" d.qual d.params d.body d.scope .none kV doc pm an (.ref cda) ct cc), osl⟩ ∧ PySem.W.codeIn K (.ref cda) d.qual = true ∧
    (∃ ccl cdd vs ccs tf, K.lookup cda = some ⟨ccl, cdd, .fields vs, ccs⟩ ∧ vs[2]? = some (.str d.file tf)) ∧ ∃ cl cld csl, K.lookup cc = some ⟨cl, cld, .cell (some (.ref C)), csl⟩
theorem oexB_ok {K : PySem.W.Frag} {C : Addr} (h : oexB K C = true) : ∃ nm q N bs bm sn sub ab col dd k0 k1 k2 k3 k5, K.lookup C = some (excClassObj nm q C N bs bm true sn sub ab col dd k0 k1 k2 k3 k5 "ValueError.__new__") ∧ PySem.HandSPX.refsVE bm = true := by
  unfold oexB at h
  split at h
  · rename_i t dd cd sl ho
    obtain ⟨h1, h2⟩ := Bool.and_eq_true_iff.mp h
    have ht := of_decide_eq_true h1
    subst ht
    split at h2
    · rename_i C' bm k0 k1 k2 k3 n k5 hm hs
      simp only [Bool.and_eq_true, decide_eq_true_eq, Bool.not_eq_true'] at h2
      obtain ⟨rfl, rfl, hdel, hdict, hr⟩ := h2
      obtain ⟨nm, bs, mro, ns, qn, hd, sn, sub, ab, col, del⟩ := cd
      dsimp only at hm hdel hdict
      subst hm hdel hdict
      have hsl : sl = #[k0, k1, k2, k3, some (.builtin "ValueError.__new__"), k5] := by
        have := congrArg List.toArray hs
        simpa using this
      subst hsl
      exact ⟨_, _, _, _, _, _, _, _, _, _, _, _, _, _, _, ho, hr⟩
    · cases h2
  · cases h
abbrev oexB' (K : PySem.W.Frag) (C : Addr) : Prop := ∃ nm q N bs bm sn sub ab col dd k0 k1 k2 k3 k5, K.lookup C = some (excClassObj nm q C N bs bm true sn sub ab col dd k0 k1 k2 k3 k5 "ValueError.__new__") ∧ PySem.HandSPX.refsVE bm = true
theorem SupD.ok_c {K : PySem.W.Frag} {d : SupD} (e : supW K d = d.val) (h : d.ok K = true) : SupC K d (He.ga K d.cls) (d.fa K) := by
  unfold SupD.ok at h
  obtain ⟨h1, h⟩ := Bool.and_eq_true_iff.mp h
  obtain ⟨h2, h⟩ := Bool.and_eq_true_iff.mp h
  obtain ⟨h3, h⟩ := Bool.and_eq_true_iff.mp h
  obtain ⟨h4, h⟩ := Bool.and_eq_true_iff.mp h
  obtain ⟨h5, h⟩ := Bool.and_eq_true_iff.mp h
  obtain ⟨h6, h⟩ := Bool.and_eq_true_iff.mp h
  obtain ⟨h7, h⟩ := Bool.and_eq_true_iff.mp h
  obtain ⟨h8, h⟩ := Bool.and_eq_true_iff.mp h
  obtain ⟨h9, h⟩ := Bool.and_eq_true_iff.mp h
  obtain ⟨h10, h⟩ := Bool.and_eq_true_iff.mp h
  obtain ⟨h11, h⟩ := Bool.and_eq_true_iff.mp h
  obtain ⟨h12, h⟩ := Bool.and_eq_true_iff.mp h
  obtain ⟨h13, h⟩ := Bool.and_eq_true_iff.mp h
  refine ⟨⟨oexB_ok h1, He.eqO_ok h7, of_decide_eq_true h3, of_decide_eq_true h4, of_decide_eq_true h2⟩, He.eqO_ok h5, of_decide_eq_true h6, of_decide_eq_true h8, He.eqO_ok h9, He.eqO_ok h10, of_decide_eq_true h11, of_decide_eq_true h12, He.eqO_ok h13, ?_⟩
  unfold supW at e
  cases q : K.lookup (d.fa K) with
  | none => rw [q] at h; cases h
  | some o =>
    obtain ⟨oc, od, dt, osl⟩ := o
    rw [q] at h e
    cases dt with
    | func fd =>
      obtain ⟨n1, n2, n3, n4, n5, n6, n7, n8, n9, n10, n11, n12, n13, n14, n15⟩ := fd
      have e2 : (some (n1, n2, n3, n4, n5, n6, n7.map (·.1), n15) : SupW) = (some ("__init__", d.qual, d.params, .stmts d.body, d.scope, mainGlobals, ["__class__"], builtinsNs) : SupW) := e
      simp only [Option.some.injEq, Prod.mk.injEq] at e2
      obtain ⟨g1, g2, g3, g4, g5, g6, g7, g8⟩ := e2
      subst g1 g2 g3 g4 g5 g6 g8
      cases n13 with
      | ref cda =>
        cases n7 with
        | nil => cases g7
        | cons p r =>
          cases r with
          | cons _ _ => simp at g7
          | nil =>
            obtain ⟨px, cc⟩ := p
            have px2 : px = ("__class__" : Str) := by simpa using g7
            subst px2
            have h' : (PySem.W.codeIn K (.ref cda) d.qual && (isNoneV n8 && ((match K.lookup cda with
              | some ⟨_, _, .fields vs, _⟩ => (match vs[2]? with
                | some (Value.str f _) => decide (f = d.file)
                | _ => false)
              | _ => false) && (match K.lookup cc with
              | some ⟨_, _, .cell (some (.ref D)), _⟩ => decide (D = He.ga K d.cls)
              | _ => false)))) = true := h
            obtain ⟨c1, ca⟩ := Bool.and_eq_true_iff.mp h'
            obtain ⟨c0, cb⟩ := Bool.and_eq_true_iff.mp ca
            obtain ⟨c2, c3⟩ := Bool.and_eq_true_iff.mp cb
            clear ca
            have e8 : n8 = .none := by cases n8 <;> first | rfl | (cases c0)
            subst e8
            refine ⟨oc, n9, n10, n11, n14, od, n12, osl, cda, cc, rfl, c1, ?_, ?_⟩
            · cases z : K.lookup cda with
              | none => rw [z] at c2; cases c2
              | some o2 =>
                obtain ⟨oc2, od2, dt2, osl2⟩ := o2
                rw [z] at c2
                cases dt2 with
                | fields vs =>
                  have c2' : (match vs[2]? with
                    | some (Value.str f _) => decide (f = d.file)
                    | _ => false) = true := c2
                  cases z2 : vs[2]? with
                  | none => rw [z2] at c2'; cases c2'
                  | some u =>
                    rw [z2] at c2'
                    cases u with
                    | str f tf =>
                      have ef : f = d.file := of_decide_eq_true c2'
                      exact ⟨_, _, _, _, tf, rfl, by rw [z2, ef]⟩
                    | _ => cases c2'
                | _ => cases c2
            · cases z : K.lookup cc with
              | none => rw [z] at c3; cases c3
              | some o2 =>
                obtain ⟨oc2, od2, dt2, osl2⟩ := o2
                rw [z] at c3
                cases dt2 with
                | cell v =>
                  cases v with
                  | none => cases c3
                  | some u =>
                    cases u with
                    | ref D =>
                      have ed : D = He.ga K d.cls := of_decide_eq_true c3
                      exact ⟨_, _, _, by rw [ed]⟩
                    | _ => cases c3
                | _ => cases c3
      | _ =>
        have h' : (PySem.W.codeIn K _ d.qual && (isNoneV n8 && (false && _))) = true := h
        simp at h'
    | _ => cases h
end Dl

set_option Elab.async false
set_option linter.all false
set_option maxRecDepth 100000
set_option maxHeartbeats 4000000
/-! DEnd: the module's constants; the head's facts; a law's end. -/
namespace Dl
open PySem PySem.Spec PyProof.Rows L2
mutual
def cB (K : PySem.W.Frag) : D → Value → Bool
  | .non, .none => true
  | .bl b, .bool c => b == c
  | .int i, .int j _ => decide (i = j)
  | .str s, .str z _ => decide (s = z)
  | .ctup l, .ref a => (match K.lookup a with
    | some ⟨.type c, _, .seq its _, _⟩ => decide (c = "tuple") && (decide (its.size ≤ sizeLine) && cBs K l its.toList)
    | _ => false)
  | _, _ => false
def cBs (K : PySem.W.Frag) : List D → List Value → Bool
  | [], [] => true
  | d :: ds, u :: us => cB K d u && cBs K ds us
  | _, _ => false
end
mutual
theorem cB_ok {K : PySem.W.Frag} : ∀ {d : D} {u : Value}, cB K d u = true → ∃ v, RelV v u ∧ ∀ w, rep K w d v
  | .non, u, h => by
    cases u with
    | none => exact ⟨.non, rfl, fun _ => rfl⟩
    | _ => cases h
  | .bl b, u, h => by
    cases u with
    | bool c =>
      have e : b = c := eq_of_beq (show (b == c) = true from h)
      exact ⟨.bl b, by rw [e]; rfl, fun _ => rfl⟩
    | _ => cases h
  | .int i, u, h => by
    cases u with
    | int j t =>
      have e : i = j := of_decide_eq_true h
      exact ⟨.int i, ⟨t, by rw [e]⟩, fun _ => rfl⟩
    | _ => cases h
  | .str i, u, h => by
    cases u with
    | str j t =>
      have e : i = j := of_decide_eq_true h
      exact ⟨.str i, ⟨t, by rw [e]⟩, fun _ => rfl⟩
    | _ => cases h
  | .ctup l, u, h => by
    cases u with
    | ref a =>
      have h1 : (match K.lookup a with
        | some ⟨.type c, _, .seq its _, _⟩ => decide (c = "tuple") && (decide (its.size ≤ sizeLine) && cBs K l its.toList)
        | _ => false) = true := h
      cases q : K.lookup a with
      | none => rw [q] at h1; cases h1
      | some o =>
        obtain ⟨oc, od, dt, osl⟩ := o
        rw [q] at h1
        cases oc with
        | type c =>
          cases dt with
          | seq its n =>
            obtain ⟨h2, h3⟩ := Bool.and_eq_true_iff.mp (show (decide (c = "tuple") && (decide (its.size ≤ sizeLine) && cBs K l its.toList)) = true from h1)
            obtain ⟨h4, h5⟩ := Bool.and_eq_true_iff.mp h3
            obtain ⟨vs, r1, r2⟩ := cBs_ok h5
            refine ⟨.ref a, rfl, fun w => ⟨a, vs, rfl, fun H => .inr ⟨_, its, n, q, congrArg Value.type (of_decide_eq_true h2), rfl, of_decide_eq_true h4, r1⟩, r2 w⟩⟩
          | _ => cases h1
        | _ => cases dt <;> cases h1
    | _ => cases h
  | .tup _, _, h => by cases h
  | .lst _, _, h => by cases h
  | .scr _, _, h => by cases h
  | .loc _, _, h => by cases h
  | .ins _ _, _, h => by cases h
  | .dK _, _, h => by cases h
  | .dT _, _, h => by cases h
  | .lk _, _, h => by cases h
  | .fn _, _, h => by cases h
  | .exn _ _ _, _, h => by cases h
theorem cBs_ok {K : PySem.W.Frag} : ∀ {ds : List D} {us : List Value}, cBs K ds us = true → ∃ vs, Vals vs us ∧ ∀ w, reps K w ds vs
  | [], [], _ => ⟨[], .nil, fun _ => rfl⟩
  | [], _ :: _, h => by cases h
  | _ :: _, [], h => by cases h
  | d :: ds, u :: us, h => by
    obtain ⟨h1, h2⟩ := Bool.and_eq_true_iff.mp (show (cB K d u && cBs K ds us) = true from h)
    obtain ⟨v, r1, r2⟩ := cB_ok h1
    obtain ⟨vs, r3, r4⟩ := cBs_ok h2
    exact ⟨v :: vs, .cons r1 r3, fun w => ⟨v, vs, rfl, r2 w, r4 w⟩⟩
end
/-- the module's name x is d -/
def glD (K : PySem.W.Frag) (p : Str × D) : Bool := match PySem.W.nsIn K mainGlobals p.1 with
  | some (some u) => cB K p.2 u
  | _ => false
theorem glD_ok {K : PySem.W.Frag} {h : Heap} {mg : Str → Option Value} (X : K.In h) (G : h.Ns mainGlobals mg) {x : Str} {d : D} (c : glD K (x, d) = true) : ∃ u v, mg x = some u ∧ RelV v u ∧ ∀ w, rep K w d v := by
  unfold glD at c
  cases e : PySem.W.nsIn K mainGlobals x with
  | none => simp only [e] at c; cases c
  | some o =>
    cases o with
    | none => simp only [e] at c; cases c
    | some u =>
      simp only [e] at c
      obtain ⟨v, r1, r2⟩ := cB_ok c
      exact ⟨u, v, PySem.W.mg_of X G e, r1, r2⟩
/-! ### more facts -/
inductive Fx where
  | kit (x y : Str) (b : Bool)
  | kitT (x : Str) (T : String) (b : Bool)
  | excC (x : Str)
  | xf (x f : Str)
def excCB (K : PySem.W.Frag) (D : Addr) : Bool :=
  He.eqO (PySem.W.findIn K (.ref D) "__getattribute__") (some (some (.builtin "BaseException.__getattribute__"))) &&
  (He.eqO (PySem.W.findIn K (.ref D) "__getattr__") (some none) &&
  (decide (PySem.W.subIn K (.ref D) (.type "BaseException") = some true) &&
  (PySem.W.hasDictIn K D &&
  (He.eqO (PySem.W.findIn K (.ref D) "__class__") (some (some (.builtin "object.__class__"))) &&
  (He.eqO (PySem.W.specialIn K (.builtin "object.__class__") "__get__") (some (some (.builtin "getset_descriptor.__get__"))) &&
  (decide (PySem.W.takesIn K (.builtin "object.__class__") = some true) &&
  decide (PySem.W.mroIn K D (.type "object") = some true)))))))
theorem excCB_ok {K : PySem.W.Frag} {D : Addr} (h : excCB K D = true) : ExcC K D := by
  unfold excCB at h
  obtain ⟨h1, h⟩ := Bool.and_eq_true_iff.mp h
  obtain ⟨h2, h⟩ := Bool.and_eq_true_iff.mp h
  obtain ⟨h3, h⟩ := Bool.and_eq_true_iff.mp h
  obtain ⟨h4, h⟩ := Bool.and_eq_true_iff.mp h
  obtain ⟨h5, h⟩ := Bool.and_eq_true_iff.mp h
  obtain ⟨h6, h⟩ := Bool.and_eq_true_iff.mp h
  obtain ⟨h7, h8⟩ := Bool.and_eq_true_iff.mp h
  exact ⟨He.eqO_ok h1, He.eqO_ok h2, of_decide_eq_true h3, h4, He.eqO_ok h5, He.eqO_ok h6, of_decide_eq_true h7, of_decide_eq_true h8⟩
def Fx.ok (K : PySem.W.Frag) : Fx → Bool
  | .kit x y b => decide (PySem.W.kitOne K (.ref (He.ga K x)) (.ref (He.ga K y)) = some b)
  | .kitT x T b => decide (PySem.W.kitOne K (.ref (He.ga K x)) (.type T) = some b)
  | .excC x => excCB K (He.ga K x)
  | .xf x f => xfB K (He.ga K x) && He.eqO (PySem.W.findIn K (.ref (He.ga K x)) f) (some none)
/-- what a head is asked beside its defs: constants, classes with an __init__ that says super, facts -/
structure Cs where
  con : List (Str × D)
  su : List SupD := []
  fx : List Fx := []
/-! ### the Hook -/
abbrev AlC : Type := He.AlD × Bool × List SupW
def obsC (fa : List He.Fa) (fn : List He.DefD) (cs : Cs) (K : PySem.W.Frag) : AlC := (He.obsD fa fn K, cs.con.all (glD K) && (cs.su.all (SupD.ok K) && cs.fx.all (Fx.ok K)), cs.su.map (supW K))
def valC (fn : List He.DefD) (cs : Cs) : AlC := (He.valD fn, true, cs.su.map SupD.val)
def SaysC (fa : List He.Fa) (fn : List He.DefD) (cs : Cs) (K : PySem.W.Frag) : Prop := obsC fa fn cs K = valC fn cs
def obsCG (n : Nat) (fa : List He.Fa) (fn : List He.DefD) (cs : Cs) (g : Addr → Option Obj) : AlC := obsC fa fn cs (He.frG g (cStatics :: He.asD g n))
def hookC (n : Nat) (fa : List He.Fa) (fn : List He.DefD) (cs : Cs) : PySem.W.Hook where
  α := AlC
  obs := fun s => obsCG n fa fn cs s.heap.get?
  val := fun _ => valC fn cs
  says := fun _ h => ∃ K : PySem.W.Frag, K.In h ∧ SaysC fa fn cs K
  of := fun _ _ e => ⟨_, He.frG_in, e⟩
  keeps := fun _ _ _ ⟨K, hK, c⟩ k => ⟨K, PySem.W.Frag.In.keeps hK k, c⟩
theorem obsCG_eq {n : Nat} {fa : List He.Fa} {fn : List He.DefD} {cs : Cs} {g : Addr → Option Obj} {s : Shared} (h : ∀ a, g a = s.heap.get? a) : obsCG n fa fn cs g = (hookC n fa fn cs).obs s := by
  have e : g = s.heap.get? := funext h
  rw [e] <;> rfl
theorem SaysC.d {fa : List He.Fa} {fn : List He.DefD} {cs : Cs} {K : PySem.W.Frag} (c : SaysC fa fn cs K) : He.SaysD fa fn K := congrArg (fun z : AlC => z.1) c
theorem SaysC.all {fa : List He.Fa} {fn : List He.DefD} {cs : Cs} {K : PySem.W.Frag} (c : SaysC fa fn cs K) : cs.con.all (glD K) = true ∧ cs.su.all (SupD.ok K) = true ∧ cs.fx.all (Fx.ok K) = true := by
  have c1 : (cs.con.all (glD K) && (cs.su.all (SupD.ok K) && cs.fx.all (Fx.ok K))) = true := congrArg (fun z : AlC => z.2.1) c
  obtain ⟨h1, h2⟩ := Bool.and_eq_true_iff.mp c1
  exact ⟨h1, Bool.and_eq_true_iff.mp h2⟩
theorem SaysC.con {fa : List He.Fa} {fn : List He.DefD} {cs : Cs} {K : PySem.W.Frag} (c : SaysC fa fn cs K) (i : Nat) {p : Str × D} (h : cs.con[i]? = some p := by rfl) : glD K p = true := List.all_eq_true.mp c.all.1 p (List.mem_of_getElem? h)
theorem SaysC.sup {fa : List He.Fa} {fn : List He.DefD} {cs : Cs} {K : PySem.W.Frag} (c : SaysC fa fn cs K) (i : Nat) {d : SupD} (h : cs.su[i]? = some d := by rfl) : SupC K d (He.ga K d.cls) (d.fa K) := by
  have c1 : cs.su.map (supW K) = cs.su.map SupD.val := congrArg (fun z : AlC => z.2.2) c
  have c2 : (cs.su.map (supW K))[i]? = (cs.su.map SupD.val)[i]? := by rw [c1]
  rw [List.getElem?_map, List.getElem?_map, h] at c2
  exact SupD.ok_c (Option.some.inj c2) (List.all_eq_true.mp c.all.2.1 d (List.mem_of_getElem? h))
theorem SaysC.fact {fa : List He.Fa} {fn : List He.DefD} {cs : Cs} {K : PySem.W.Frag} (c : SaysC fa fn cs K) (i : Nat) {f : Fx} (h : cs.fx[i]? = some f := by rfl) : f.ok K = true := List.all_eq_true.mp c.all.2.2 f (List.mem_of_getElem? h)
end Dl

set_option Elab.async false
set_option linter.all false
set_option maxRecDepth 100000
set_option maxHeartbeats 4000000
/-! DRules: defs by their facts, calls by them; three names at once; list + list, list * n that are to change. -/
namespace Dl
open PySem PySem.Spec PyProof.Rows L2
/-- what is asked of the program's text -/
structure PrgOk (P : Program) (file : Str) : Prop where
  file : ((P.main.file : Str) == file) = true
  sup : (P.main.scope.names.lookup ("super" : Str)).isSome = false
structure Hy (P : Program) (fa : List He.Fa) (fn : List He.DefD) (cs : Cs) (K : PySem.W.Frag) (mg : Str → Option Value) : Prop where
  ex : ∃ h : Heap, K.In h ∧ h.Ns mainGlobals mg ∧ SaysC fa fn cs K
  pr : ∀ d ∈ cs.su, PrgOk P d.file
section
variable {P : Program} {fa : List He.Fa} {fn : List He.DefD} {cs : Cs} {K : PySem.W.Frag} {mg : Str → Option Value}
theorem hy_glo (y : Hy P fa fn cs K mg) (i : Nat) {x : Str} (h : fa[i]? = some (.glo x) := by rfl) : mg x = some (.ref (He.ga K x)) := let ⟨_, X, G, c⟩ := y.ex; He.glo_ok X G (c.d.fact i h)
theorem hy_free (y : Hy P fa fn cs K mg) (i : Nat) {x : Str} (h : fa[i]? = some (.free x) := by rfl) : mg x = none := let ⟨_, X, G, c⟩ := y.ex; He.free_ok X G (c.d.fact i h)
theorem hy_cls (y : Hy P fa fn cs K mg) (i : Nat) {x : Str} (h : fa[i]? = some (.cls x) := by rfl) : Cls K (He.ga K x) := let ⟨_, X, G, c⟩ := y.ex; He.cls_ok (c.d.fact i h)
theorem hy_noat (y : Hy P fa fn cs K mg) (i : Nat) {x f : Str} (h : fa[i]? = some (.noat x f) := by rfl) : NoAttr K (He.ga K x) f := let ⟨_, X, G, c⟩ := y.ex; He.noat_ok (c.d.fact i h)
theorem hy_meth (y : Hy P fa fn cs K mg) (i : Nat) {x f : Str} (h : fa[i]? = some (.meth x f) := by rfl) : Meth K (He.ga K x) f (He.ma K (He.ga K x) f) := let ⟨_, X, G, c⟩ := y.ex; He.meth_ok (c.d.fact i h)
theorem hy_mkr (y : Hy P fa fn cs K mg) (i : Nat) {x : Str} (h : fa[i]? = some (.mkr x) := by rfl) : Mk K (He.ga K x) (He.ma K (He.ga K x) "__init__") := let ⟨_, X, G, c⟩ := y.ex; He.mkr_ok (c.d.fact i h)
theorem hy_con (y : Hy P fa fn cs K mg) (i : Nat) {x : Str} {d : D} (h : cs.con[i]? = some (x, d) := by rfl) : ∃ u v, mg x = some u ∧ RelV v u ∧ ∀ w, rep K w d v := let ⟨_, X, G, c⟩ := y.ex; glD_ok X G (c.con i h)
theorem hy_sup (y : Hy P fa fn cs K mg) (i : Nat) {d : SupD} (h : cs.su[i]? = some d := by rfl) : SupC K d (He.ga K d.cls) (d.fa K) := let ⟨_, _, _, c⟩ := y.ex; c.sup i h
theorem hy_prg (y : Hy P fa fn cs K mg) (i : Nat) {d : SupD} (h : cs.su[i]? = some d := by rfl) : PrgOk P d.file := y.pr d (List.mem_of_getElem? h)
theorem hy_kit (y : Hy P fa fn cs K mg) (i : Nat) {x z : Str} {b : Bool} (h : cs.fx[i]? = some (.kit x z b) := by rfl) : PySem.W.kitOne K (.ref (He.ga K x)) (.ref (He.ga K z)) = some b := let ⟨_, _, _, c⟩ := y.ex; of_decide_eq_true (c.fact i h)
theorem hy_kitT (y : Hy P fa fn cs K mg) (i : Nat) {x : Str} {T : String} {b : Bool} (h : cs.fx[i]? = some (.kitT x T b) := by rfl) : PySem.W.kitOne K (.ref (He.ga K x)) (.type T) = some b := let ⟨_, _, _, c⟩ := y.ex; of_decide_eq_true (c.fact i h)
theorem hy_excC (y : Hy P fa fn cs K mg) (i : Nat) {x : Str} (h : cs.fx[i]? = some (.excC x) := by rfl) : ExcC K (He.ga K x) := let ⟨_, _, _, c⟩ := y.ex; excCB_ok (c.fact i h)
theorem hy_xf (y : Hy P fa fn cs K mg) (i : Nat) {x f : Str} (h : cs.fx[i]? = some (.xf x f) := by rfl) : XfC K (He.ga K x) ∧ PySem.W.findIn K (.ref (He.ga K x)) f = some none := let ⟨_, _, _, c⟩ := y.ex
  let ⟨h1, h2⟩ := Bool.and_eq_true_iff.mp (show (xfB K (He.ga K x) && He.eqO (PySem.W.findIn K (.ref (He.ga K x)) f) (some none)) = true from c.fact i h)
  ⟨xfB_ok h1, He.eqO_ok h2⟩
theorem hy_def (y : Hy P fa fn cs K mg) (i : Nat) {d : He.DefD} (h : fn[i]? = some d := by rfl) : ∃ fd, FunD K d.name d.qual d.params d.body d.scope (d.dvs K) (d.kws K) (He.fAd K d.at_) fd := let ⟨_, X, G, c⟩ := y.ex; c.d.def_ i h
end
/-- the def at f with these parameters does F -/
def FnB (P : Program) (w : World) (K : PySem.W.Frag) (mg : Str → Option Value) (base : Heap) (k : Nat) (f : Addr) (ps : List Str) (F : FD) : Prop := ∃ fd : FuncData, FnOk P w K mg base (L2N.CX P w) k f fd ps (spD K F) ∧ Binds K fd ps [] ∧ PySem.W.keepIn K (.ref f) = true ∧ ∀ (s : Shared) (us : List Value), us.length = ps.length → BindsTo s fd ⟨us, []⟩ (ps.zip us)
section
variable {P : Program} {w : World} {K : PySem.W.Frag} {mg : Str → Option Value} {base : Heap}
theorem FnB.of {x qual : Str} {pa : Arguments} {body : List Stmt} {sc : Scope} {f : Addr} {fd : FuncData} {N ps : List Str} {k : Nat} {b : SF}
    (F : FunD K x qual pa body sc [] [] f fd) (S : FnScope N ps sc)
    (hbind : ∀ (kV doc pm : Value) (an : Option Addr) (cdv ct : Value) (us : List Value), us.length = ps.length → bindArgs (PySem.W.fnOf x qual pa body sc .none kV doc pm an cdv ct) ⟨us, []⟩ = pure (ps.zip us))
    (hb : ∀ (cdv : Value) (A : Around) (outer : List Env) (s : Shared) (H : Hp) (E : XK), Room k (A.deeper (envOfC qual sc s.heap.objs.size f cdv)) →
      ∀ (X : Cx), X = cxOf (L2N.CX P w) P w K mg base N qual sc f cdv A outer s H E → L2N.Takes X (wE E) → PassesOwn (model X.prog X.w) X.A X.env X.xe → DSs X (wE E) body b) :
    FnB P w K mg base (k + 1) f ps (fnD ps.length N.length b) := ⟨fd, fn_ok F S hb, F.bindsN hbind, F.kp, fun s us hl => F.bindsA hbind s us hl⟩
theorem FnB.clos {k : Nat} {f : Addr} {ps : List Str} {F : FD} (h : FnB P w K mg base k f ps F) : FnB P w K mg base k f ps (clos F) := let ⟨fd, a, b, c, d⟩ := h; ⟨fd, clos_ok a, b, c, d⟩
theorem FnB.mono {j k : Nat} {f : Addr} {ps : List Str} {F : FD} (h : FnB P w K mg base j f ps F) (q : j ≤ k) : FnB P w K mg base k f ps F := let ⟨fd, a, b, c, d⟩ := h; ⟨fd, a.mono q, b, c, d⟩
/-- no fuel -/
theorem FnB.nil {x qual : Str} {pa : Arguments} {body : List Stmt} {sc : Scope} {f : Addr} {fd : FuncData} {ps : List Str} {k : Nat}
    (F : FunD K x qual pa body sc [] [] f fd)
    (hbind : ∀ (kV doc pm : Value) (an : Option Addr) (cdv ct : Value) (us : List Value), us.length = ps.length → bindArgs (PySem.W.fnOf x qual pa body sc .none kV doc pm an cdv ct) ⟨us, []⟩ = pure (ps.zip us)) :
    FnB P w K mg base k f ps (fun _ _ => .stuck) :=
  ⟨fd, ⟨fun vs H Q E h => let ⟨_, _, _, _, _, z⟩ := h; z.elim, fun A outer s H args us vs Q E _ _ _ _ h => let ⟨_, _, _, _, _, z⟩ := h; z.elim⟩, F.bindsN hbind, F.kp, fun s us hl => F.bindsA hbind s us hl⟩
end
section
variable {X : Cx} {W : WX} {k j : Nat} {f C : Addr} {ps : List Str} {x mm : Str} {p pos apos : Pos} {e o : Expr} {es : List Expr} {fa : EF} {ar : AF} {F : FD} {E : XK} {C' : Str}
theorem c_call (G : FnB X.prog X.w X.K X.mg X.base k f ps F) (hr : Room j X.A) (hk : k ≤ j) (hm : X.mg x = some (.ref f)) (tk : L2N.Takes X W)
    (ha : DA X W (e :: es) ar) (hg : Gl X x := by rfl) (hdb : (x == ("__debug__" : Str)) = false := by decide) (he : starEach (e :: es) X.env = (false, eval e X.env) :: starEach es X.env := by rfl) (hpl : (backTo pos (starEach es X.env)).any (·.1) = false := by rfl) :
    DE X W (.Call (.Name x p) (e :: es) [] pos) (xCall F ar) := let ⟨_, a, b, c, _⟩ := G; d_call a (hr.mono hk) hm c b tk ha hg hdb he hpl
theorem c_call0 (G : FnB X.prog X.w X.K X.mg X.base k f ps F) (hr : Room j X.A) (hk : k ≤ j) (hm : X.mg x = some (.ref f)) (tk : L2N.Takes X (wE E))
    (hg : Gl X x := by rfl) (hdb : (x == ("__debug__" : Str)) = false := by decide) :
    DE X (wE E) (.Call (.Name x p) [] [] pos) (xCall F aNil) := let ⟨_, a, b, c, _⟩ := G; d_call0 a (hr.mono hk) hm c b tk hg hdb
theorem c_meth {pl : Sem Bool} (he : DE X (wE E) o fa) (c : Cls X.K (He.ga X.K C')) (hm : Meth X.K (He.ga X.K C') mm f) (G : FnB X.prog X.w X.K X.mg X.base k f ps F) (hr : Room j X.A) (hk : k ≤ j)
    (tk : L2N.Takes X (wE E)) (ha : DA X (wE E) (e :: es) ar)
    (hst : starEach (e :: es) X.env = (false, eval e X.env) :: starEach es X.env := by rfl) (hpl : (backTo pos (starEach es X.env)).any (·.1) = false := by rfl)
    (ht : eval (.Call (.Attribute o mm apos) (e :: es) [] pos) X.env = (do
      let ov ← eval o X.env
      standAt apos.atName
      let (f, first) ← holding [ov] (getMethod ov mm pl)
      callWith pos f first (backTo pos (starEach (e :: es) X.env)) (backToKw pos (keywordEach [] X.env))) := by rfl) :
    DE X (wE E) (.Call (.Attribute o mm apos) (e :: es) [] pos) (xMeth C' mm F fa ar) := let ⟨_, a, b, _⟩ := G; d_meth he c hm a (hr.mono hk) b tk ha hst hpl ht
theorem c_meth0 {pl : Sem Bool} (he : DE X (wE E) o fa) (c : Cls X.K (He.ga X.K C')) (hm : Meth X.K (He.ga X.K C') mm f) (G : FnB X.prog X.w X.K X.mg X.base k f ps F) (hr : Room j X.A) (hk : k ≤ j)
    (tk : L2N.Takes X (wE E))
    (ht : eval (.Call (.Attribute o mm apos) [] [] pos) X.env = (do
      let ov ← eval o X.env
      standAt apos.atName
      let (f, first) ← holding [ov] (getMethod ov mm pl)
      callWith pos f first (backTo pos (starEach [] X.env)) (backToKw pos (keywordEach [] X.env))) := by rfl) :
    DE X (wE E) (.Call (.Attribute o mm apos) [] [] pos) (xMeth C' mm F fa aNil) := let ⟨_, a, b, _⟩ := G; d_meth0 he c hm a (hr.mono hk) b tk ht
theorem c_makeM (M : Mk X.K (He.ga X.K C') f) (G : FnB X.prog X.w X.K X.mg X.base k f ps F) (hr : Room j X.A) (hk : k + 1 ≤ j) (hm : X.mg x = some (.ref (He.ga X.K C'))) (tk : L2N.Takes X (wE E))
    (ha : DA X (wE E) (e :: es) ar) (hg : Gl X x := by rfl) (hdb : (x == ("__debug__" : Str)) = false := by decide) (he : starEach (e :: es) X.env = (false, eval e X.env) :: starEach es X.env := by rfl) (hpl : (backTo pos (starEach es X.env)).any (·.1) = false := by rfl) :
    DE X (wE E) (.Call (.Name x p) (e :: es) [] pos) (xMakeM C' F ar) := let ⟨_, a, b, _⟩ := G; d_makeM M a (hr.mono hk) hm b tk ha hg hdb he hpl
theorem c_makeF (M : Mk X.K (He.ga X.K C') f) (G : FnB X.prog X.w X.K X.mg X.base k f ps F) (hr : Room j X.A) (hk : k + 1 ≤ j) (hm : X.mg x = some (.ref (He.ga X.K C'))) (tk : L2N.Takes X (wE E))
    (ha : DA X (wE E) (e :: es) ar) (hg : Gl X x := by rfl) (hdb : (x == ("__debug__" : Str)) = false := by decide) (he : starEach (e :: es) X.env = (false, eval e X.env) :: starEach es X.env := by rfl) (hpl : (backTo pos (starEach es X.env)).any (·.1) = false := by rfl) :
    DE X (wE E) (.Call (.Name x p) (e :: es) [] pos) (xMakeF C' F ar) := let ⟨_, a, b, _⟩ := G; d_makeF M a (hr.mono hk) hm b tk ha hg hdb he hpl
/-- a constant of the module -/
theorem c_con {d : D} (h : ∃ u v, X.mg x = some u ∧ RelV v u ∧ ∀ w, rep X.K w d v) (hg : Gl X x := by rfl) (hd : (x == ("__debug__" : Str)) = false := by decide) : DE X W (.Name x p) (xC d) := let ⟨_, _, e1, e2, e3⟩ := h; d_c (pe_glob hg e1 e2 hd) e3
/-- eq, ne, in, not in by the room -/
theorem room_u (hr : Room j X.A) : X.A.units + 64 < cLine := by have := hr.un; omega
theorem room_u1 (hr : Room j X.A) : X.A.units + 65 < cLine := by have := hr.un; omega
theorem ds_par3 {i j l : Nat} {x y z : Str} {a c d : Expr} {ar : AF} {px py pz pt : Pos} {kt k2 pt2} (hc : X.calm = true) (hN : X.N.Nodup) (hi : X.N[i]? = some x) (hj : X.N[j]? = some y) (hl : X.N[l]? = some z) (hij : i ≠ j) (hil : i ≠ l) (hjl : j ≠ l)
    (hx : X.env.scope.names.lookup x = some .local) (hy : X.env.scope.names.lookup y = some .local) (hz : X.env.scope.names.lookup z = some .local) (ha : DA X W [a, c, d] ar)
    (hw : swappedStores [.Tuple [.Name x px, .Name y py, .Name z pz] kt pt] (.Tuple [a, c, d] k2 pt2) X.env = pure (some [x, y, z]) := by rfl)
    (hs : swapsWithSole [.Tuple [.Name x px, .Name y py, .Name z pz] kt pt] (.Tuple [a, c, d] k2 pt2) pos.line X.env = pure false := by rfl) :
    DS X W (.Assign [.Tuple [.Name x px, .Name y py, .Name z pz] kt pt] (.Tuple [a, c, d] k2 pt2) pos) (sPar3 i j l ar) := (ps_par3 hc hN hi hj hl hij hil hjl hx hy hz ha hw hs).weak fun D σ H ⟨w, m, sd, wf, sl, h⟩ =>
  ⟨w, m, sd, wf, sl, (h.ofR sl).imp fun ds m1 w1 H1 l1 wf1 h1 vs rs => by
    cases ds with
    | nil => exact h1.elim
    | cons d ds => cases ds with
      | nil => exact h1.elim
      | cons d2 ds => cases ds with
        | nil => exact h1.elim
        | cons d3 ds => cases ds with
          | cons _ _ => exact h1.elim
          | nil =>
            obtain ⟨y, ys, rfl, r1, y2, ys2, rfl, r2, y3, ys3, rfl, r3, rfl⟩ := rs
            exact ⟨y, y2, y3, rfl, h1 w1 H1 _ (Le.refl _) wf1 (slR.set r3 l (slR.set r2 j (slR.set r1 i (sl.mono l1))))⟩⟩
/-- list + list, the sum a cell -/
def oAddM : Op2 := fun d1 d2 m => match d1.lst? m, d2.lst? m with
  | some a, some b => if a.length + b.length ≤ big then some (.loc m.length, m ++ [.lst (a ++ b)]) else none
  | _, _ => none
theorem s_addM {K : PySem.W.Frag} : OSat K rCat oAddM := by
  intro w H m d1 d2 x y Q wf r1 r2 h
  unfold oAddM at h
  split at h
  · rename_i a b e1 e2
    by_cases q : a.length + b.length ≤ big
    · rw [if_pos q] at h
      obtain ⟨p1, xs, rfl, h1, q1⟩ := lstR wf r1 e1
      obtain ⟨p2, ys, rfl, h2, q2⟩ := lstR wf r2 e2
      refine ⟨p1, p2, xs, ys, rfl, rfl, h1, h2, big_ok (by rw [q1.length, q2.length]; exact q), fun p hp => ?_⟩
      obtain ⟨l, f, rv⟩ := new_cell wf (q1.append q2) hp
      exact h _ _ _ l f rv
    · rw [if_neg q] at h; exact h.elim
  · exact h.elim
theorem d_addM {a b : Expr} {fb : EF} (ha : DE X W a fa) (hb : DE X W b fb) : DE X W (.BinOp a .Add b pos) (xOp oAddM fa fb) := d_op op_cat s_addM ha hb
end
end Dl

set_option Elab.async false
set_option linter.all false
set_option maxRecDepth 100000
set_option maxHeartbeats 4000000
/-! DLaw: the end of a law. -/
namespace Dl
open PySem PySem.Spec PyProof.Rows L2
theorem law_sp {K : PySem.W.Frag} {F : FD} {H : Hp} {a : Addr} {ns : List Int} (hO : Only H) (hS : SqL K H a (ns.map V.int)) (h : ∃ m, F [.scr (ns.map D.int)] [] = .ok (.bl true) m) : spD K F [.ref a] H (fun v _ => v = .bl true) fun _ _ _ => False := by
  obtain ⟨m, e⟩ := h
  have rint : ∀ (w : Wd) (l : List Int), reps K w (l.map D.int) (l.map V.int) := by
    intro w l
    induction l with
    | nil => rfl
    | cons i l ih => exact ⟨_, _, rfl, rfl, ih⟩
  have wf : Wf K ⟨H, []⟩ H [] := ⟨fun _ _ h => .inl h, rfl, List.nodup_nil, (fun _ h => nomatch h), (fun n a d e _ => by cases (show (none : Option Addr) = some a by simpa using e))⟩
  refine ⟨⟨H, []⟩, [], [.scr (ns.map D.int)], wf, ⟨_, _, rfl, ⟨a, _, rfl, ?_, rint _ _⟩, rfl⟩, ?_⟩
  · rcases hS with (h | ⟨o, h⟩) | h
    · rcases hO a with z | ⟨o, xs, z⟩
      · rw [z] at h; cases h
      · rw [z] at h; cases h
    · exact .inl ⟨o, h⟩
    · exact .inr h
  · rw [e]
    exact fun w' H' _ _ v r => r
theorem cx_none {P : Program} (w : World) (H : Hp) (s : Shared) (e : Value) (s' : Shared) : L2N.CX P w [] H s (fun _ _ _ => False) e s' → False := fun ⟨_, _, _, _, _, _, _, _, _, _, _, _, z⟩ => z
theorem walk_ofD {l : PySem.W.OpenLaw} {n k : Nat} {q : Program} {loose : List Str} {XP : (Str → Option Value) → Heap → Prop} {YP : World → Heap → Prop} {d : DefRec} {x : Str} {Fl : FD}
    (hn : l.most = some n) (hn2 : n ≤ sizeLine) (hdf : d.params.defaults = []) (hr : Room k callerA)
    (F : ∀ (w : World) (mg : Str → Option Value) (fa : Addr) (h : Heap), YP w h → h.Ns mainGlobals mg → mg d.name = some (.ref fa) →
      ∃ (K : PySem.W.Frag) (fd : FuncData), K.In h ∧ (∀ (s : Shared) (u : Value), BindsTo s fd ⟨[u], []⟩ [(x, u)]) ∧
        ∀ base : Heap, K.In base → base.Ns mainGlobals mg → FnOk l.prog w K mg base (L2N.CX l.prog w) k fa fd [x] (spD K Fl))
    (plain : ∀ ns : List Int, ns.length ≤ n → (∀ z ∈ ns, Builtin.Int.intBits z ≤ 1048576) → ∃ m, Fl [.scr (ns.map D.int)] [] = .ok (.bl true) m) :
    PySem.W.WalkO q loose XP YP l.row.toRowW d [] (fun f vs => PySem.call f vs) := by
  refine Att.attach_callB hn hdf fun w s₀ s₁ mg mb fa o pm cd doc a vs ns G Y ho hd hcd hmg hobj hints hlen hbits hg => ?_
  obtain ⟨K, fd, KX, hb, hF⟩ := F w mg fa _ Y G.T.g hmg
  exact law_call KX G.T.g G.T.b G.T.builtins G.T.nolimit hg hobj hints (Nat.le_trans hlen hn2) hr hF hb (fun H hO hS => law_sp hO hS (plain ns hlen hbits)) fun H e s' => cx_none w H s₁ e s'
end Dl

set_option Elab.async false
set_option linter.all false
set_option maxRecDepth 100000
set_option maxHeartbeats 4000000
/-! DPlain: the readings as equations for simp; what is let go. -/
namespace Dl
open PySem PySem.Spec L2
section
variable {sd : Sl} {m : Mem} {fa fb fc : EF} {ta tb : TF} {f g b : SF} {ar : AF}
@[simp] theorem q_var (i : Nat) : xVar i sd m = match sd[i]? with
  | some (some d) => .ok d m
  | _ => .stuck := rfl
@[simp] theorem q_c (d : D) : xC d sd m = .ok d m := rfl
@[simp] theorem q_op (o : Op2) : xOp o fa fb sd m = (fa sd m).bind fun d1 m1 => (fb sd m1).bind fun d2 m2 => R.ofO (o d1 d2 m2) := rfl
@[simp] theorem q_un (o : D → Mem → Option (D × Mem)) : xUn o fa sd m = (fa sd m).bind fun d1 m1 => R.ofO (o d1 m1) := rfl
@[simp] theorem q_chain (o o' : Op2) : xChain o o' fa fb fc sd m = (fa sd m).bind fun d1 m1 => (fb sd m1).bind fun d2 m2 => (R.ofO (o d1 d2 m2)).bind fun z m3 => match z with
  | .bl true => (fc sd m3).bind fun d3 m4 => R.ofO (o' d2 d3 m4)
  | .bl false => .ok (.bl false) m3
  | _ => .stuck := rfl
@[simp] theorem q_T : xT fa sd m = (fa sd m).bind fun d m1 => match d with
  | .bl b => .ok b m1
  | _ => .stuck := rfl
@[simp] theorem q_and : xAnd ta tb sd m = (ta sd m).bind fun k m1 => if k then tb sd m1 else .ok false m1 := rfl
@[simp] theorem q_or : xOr ta tb sd m = (ta sd m).bind fun k m1 => if k then .ok true m1 else tb sd m1 := rfl
@[simp] theorem q_not : xNot ta sd m = (ta sd m).bind fun k m1 => .ok (!k) m1 := rfl
@[simp] theorem q_if : xIf ta fa fb sd m = (ta sd m).bind fun k m1 => if k then fa sd m1 else fb sd m1 := rfl
@[simp] theorem q_andV : xAndV fa fb sd m = (fa sd m).bind fun d m1 => match d with
  | .bl b => if b then fb sd m1 else .ok (.bl false) m1
  | _ => .stuck := rfl
@[simp] theorem q_orV : xOrV fa fb sd m = (fa sd m).bind fun d m1 => match d with
  | .bl b => if b then .ok (.bl true) m1 else fb sd m1
  | _ => .stuck := rfl
@[simp] theorem q_notV : xNotV fa sd m = (fa sd m).bind fun d m1 => match d with
  | .bl b => .ok (.bl (!b)) m1
  | _ => .stuck := rfl
@[simp] theorem q_nil : aNil sd m = .ok [] m := rfl
@[simp] theorem q_cons : aCons fa ar sd m = (fa sd m).bind fun d m1 => (ar sd m1).bind fun ds m2 => .ok (d :: ds) m2 := rfl
@[simp] theorem q_tup : xTup ar sd m = (ar sd m).bind fun ds m1 => if ds.length ≤ big then .ok (.tup ds) m1 else .stuck := rfl
@[simp] theorem q_lst : xLst ar sd m = (ar sd m).bind fun ds m1 => if ds.length ≤ big then .ok (.lst ds) m1 else .stuck := rfl
@[simp] theorem q_lstM : xLstM ar sd m = (ar sd m).bind fun ds m1 => if ds.length ≤ big then .ok (.loc m1.length) (m1 ++ [.lst ds]) else .stuck := rfl
@[simp] theorem q_call (F : FD) : xCall F ar sd m = (ar sd m).bind F := rfl
@[simp] theorem q_meth (C mm : Str) (F : FD) : xMeth C mm F fa ar sd m = (fa sd m).bind fun d m1 => match insC C m1 d with
  | some fs => if (fs.lookup mm).isNone then (ar sd m1).bind fun ds m2 => F (d :: ds) m2 else .stuck
  | none => .stuck := rfl
@[simp] theorem q_makeM (C : Str) (F : FD) : xMakeM C F ar sd m = (ar sd m).bind fun ds m1 => (F (.loc m1.length :: ds) (m1 ++ [.ins C []])).bind fun d m2 => match d with
  | .non => .ok (.loc m1.length) m2
  | _ => .stuck := rfl
def mkEnd (m1 : Mem) : D → Mem → R D := fun d m2 => match d with
  | .non => .ok (.loc m1.length) m2
  | _ => .stuck
noncomputable def makeF (C : Str) (F : FD) (ds : List D) (m1 : Mem) : R D := letGo m1 ((F (.loc m1.length :: ds) (m1 ++ [.ins C []])).bind (mkEnd m1))
@[simp] theorem q_makeF (C : Str) (F : FD) : xMakeF C F ar sd m = (ar sd m).bind (makeF C F) := rfl
@[simp] theorem q_fld (C ff : Str) : xFld C ff fa sd m = (fa sd m).bind fun d m1 => match insC C m1 d with
  | some fs => match fs.lookup ff with
    | some y => .ok y m1
    | none => .stuck
  | none => .stuck := rfl
@[simp] theorem q_cb (o : OpN) : xCB o ar sd m = (ar sd m).bind fun ds m1 => R.ofO (o ds m1) := rfl
@[simp] theorem q_isi (T : Ty) : xIsi T fa sd m = (fa sd m).bind fun d m1 => R.ofO (oIsi T d m1) := rfl
@[simp] theorem q_isi2 (T T2 : Ty) : xIsi2 T T2 fa sd m = (fa sd m).bind fun d m1 => match d.ty m1 with
  | some t => .ok (.bl (isTy t T || isTy t T2)) m1
  | none => .stuck := rfl
@[simp] theorem q_bm0 (oo : D → Mem → Option (D × Mem)) : xBM0 oo fa sd m = (fa sd m).bind fun d m1 => R.ofO (oo d m1) := rfl
@[simp] theorem q_bm (oo : D → List D → Mem → Option (D × Mem)) : xBM oo fa ar sd m = (fa sd m).bind fun d m1 => match d.lst? m1 with
  | some _ => (ar sd m1).bind fun ds m2 => R.ofO (oo d ds m2)
  | none => .stuck := rfl
@[simp] theorem q_no : pNo sd m = .ok none m := rfl
@[simp] theorem q_some : pSome fa sd m = (fa sd m).bind fun d m1 => match d with
  | .int i => .ok (some i) m1
  | _ => .stuck := rfl
@[simp] theorem q_sl (lo hi : PF) : xSl fa lo hi sd m = (fa sd m).bind fun d m1 => (lo sd m1).bind fun l m2 => (hi sd m2).bind fun h m3 => R.ofO (oSl d l h m3) := rfl
@[simp] theorem q_lc (po : Post) (vs : List Nat) (gd : OF) (t : TF) (e : EF) : xLc po vs fa gd t e sd m = (fa sd m).bind fun d m1 => po m1 (lcV vs gd t e sd d m1) := rfl
@[simp] theorem q_lcR (po : Post) (rn : List D → Option (Int × Int × Nat)) (vs : List Nat) (gd : OF) (t : TF) (e : EF) : xLcR po rn vs ar gd t e sd m = (ar sd m).bind fun ds m1 => po m1 (lcR rn vs gd t e sd ds m1) := rfl
@[simp] theorem q_ofR_er {α : Type} (e : Er) (k : α → Mem → SR) : SR.ofR sd (.err e m) k = .er e sd m := rfl
@[simp] theorem q_ofR_st {α : Type} (k : α → Mem → SR) : SR.ofR sd (.stuck : R α) k = .stuck := rfl
@[simp] theorem q_next : sNext sd m = .nx sd m := rfl
@[simp] theorem q_seq : sSeq f g sd m = match f sd m with
  | .nx sd1 m1 => g sd1 m1
  | r => r := rfl
@[simp] theorem q_expr : sExpr fa sd m = SR.ofR sd (fa sd m) fun _ m1 => .nx sd m1 := rfl
@[simp] theorem q_ret : sRet fa sd m = SR.ofR sd (fa sd m) fun d m1 => .rt d m1 := rfl
@[simp] theorem q_retN : sRetN sd m = .rt .non m := rfl
@[simp] theorem q_brk : sBrk sd m = .bk sd m := rfl
@[simp] theorem q_cnt : sCnt sd m = .ct sd m := rfl
@[simp] theorem q_stuck : sStuck sd m = .stuck := rfl
@[simp] theorem q_sif : sIf ta f g sd m = SR.ofR sd (ta sd m) fun k m1 => if k then f sd m1 else g sd m1 := rfl
@[simp] theorem q_asg (gg : GF) : sAsg fa gg sd m = SR.ofR sd (fa sd m) fun d m1 => match gg d sd m1 with
  | some (sd1, m2) => .nx sd1 m2
  | none => .stuck := rfl
@[simp] theorem q_par (i j : Nat) : sPar i j ar sd m = SR.ofR sd (ar sd m) fun ds m1 => match ds with
  | [d, d2] => .nx ((sd.set i (some d)).set j (some d2)) m1
  | _ => .stuck := rfl
@[simp] theorem q_par3 (i j l : Nat) : sPar3 i j l ar sd m = SR.ofR sd (ar sd m) fun ds m1 => match ds with
  | [d, d2, d3] => .nx (((sd.set i (some d)).set j (some d2)).set l (some d3)) m1
  | _ => .stuck := rfl
@[simp] theorem q_fset (C ff : Str) : sFldSet C ff fa fb sd m = SR.ofR sd (fb sd m) fun y m1 => SR.ofR sd (fa sd m1) fun d m2 => match setFld C ff d y m2 with
  | some m3 => .nx sd m3
  | none => .stuck := rfl
@[simp] theorem q_aug (i : Nat) (o : Op2) : sAug i o fa sd m = match sd[i]? with
  | some (some d) => SR.ofR sd (fa sd m) fun y m1 => match o d y m1 with
    | some (z, m2) => .nx (sd.set i (some z)) m2
    | none => .stuck
  | _ => .stuck := rfl
@[simp] theorem q_while (n : Nat) : sWhile n ta b sd m = whileD ta b n sd m := rfl
@[simp] theorem q_for (gg : GF) : sFor fa gg b sd m = SR.ofR sd (fa sd m) fun d m1 => match d with
  | .tup l => forD gg b l sd m1
  | .ctup l => forD gg b l sd m1
  | .lst l => forD gg b l sd m1
  | .scr l => forD gg b l sd m1
  | .loc n => match m1[n]? with
    | some (.lst l) => forL gg b n l.length 0 sd m1
    | _ => .stuck
  | _ => .stuck := rfl
@[simp] theorem q_forR (rn : List D → Option (Int × Int × Nat)) (gg : GF) : sForR rn ar gg b sd m = SR.ofR sd (ar sd m) fun ds m1 => match rn ds with
  | some (lo, st, n) => forD gg b (rngD lo st n) sd m1
  | none => .stuck := rfl
@[simp] theorem q_forE (gg : GF) : sForE ar gg b sd m = SR.ofR sd (ar sd m) fun ds m1 => match ds with
  | [.tup l] => forD gg b (enF 0 l) sd m1
  | [.ctup l] => forD gg b (enF 0 l) sd m1
  | [.lst l] => forD gg b (enF 0 l) sd m1
  | [.scr l] => forD gg b (enF 0 l) sd m1
  | [.loc n] => match m1[n]? with
    | some (.lst l) => forLE gg b n l.length 0 sd m1
    | _ => .stuck
  | _ => .stuck := rfl
@[simp] theorem q_tgN (i : Nat) (d : D) : tgN i d sd m = some (sd.set i (some d), m) := rfl
@[simp] theorem q_tgNil : tgNil [] sd m = some (sd, m) := rfl
@[simp] theorem q_tgCons (gg : GF) (r : GsF) (d : D) (ds : List D) : tgCons gg r (d :: ds) sd m = match gg d sd m with
  | some (sd1, m1) => r ds sd1 m1
  | none => none := rfl
@[simp] theorem q_tgT (n : Nat) (gs : GsF) (d : D) : tgT n gs d sd m = match d.tup? with
  | some l => if l.length = n then gs l sd m else none
  | none => none := rfl
@[simp] theorem q_tgIx (y : D) : tgIx fa fb y sd m = match fa sd m with
  | .ok d m1 => match fb sd m1 with
    | .ok i m2 => match setIx d i y m2 with
      | some m3 => some (sd, m3)
      | none => none
    | _ => none
  | _ => none := rfl
@[simp] theorem q_tgF (C ff : Str) (y : D) : tgF C ff fa y sd m = match fa sd m with
  | .ok d m1 => match setFld C ff d y m1 with
    | some m2 => some (sd, m2)
    | none => none
  | _ => none := rfl
@[simp] theorem q_forD_nil (gg : GF) : forD gg b [] sd m = .nx sd m := rfl
theorem q_fn (n N : Nat) (ds : List D) : fnD n N b ds m = if ds.length = n then match b (ds.map some ++ List.replicate (N - n) none) m with
  | .nx _ m' => .ok .non m'
  | .rt d m' => .ok d m'
  | .er e _ m' => .err e m'
  | _ => .stuck
  else .stuck := rfl
/-! operations -/
@[simp] theorem o_addI (i j : Int) : oAdd (.int i) (.int j) m = some (.int (i + j), m) := rfl
@[simp] theorem o_subI (i j : Int) : oSub (.int i) (.int j) m = some (.int (i - j), m) := rfl
@[simp] theorem o_lt (i j : Int) : oLt (.int i) (.int j) m = some (.bl (decide (i < j)), m) := rfl
@[simp] theorem o_le (i j : Int) : oLe (.int i) (.int j) m = some (.bl (decide (i ≤ j)), m) := rfl
@[simp] theorem o_gt (i j : Int) : oGt (.int i) (.int j) m = some (.bl (decide (j < i)), m) := rfl
@[simp] theorem o_ge (i j : Int) : oGe (.int i) (.int j) m = some (.bl (decide (j ≤ i)), m) := rfl
@[simp] theorem o_neg (i : Int) : oNeg (.int i) m = some (.int (-i), m) := rfl
theorem o_mod {i j : Int} (h : 0 < j) : oMod (.int i) (.int j) m = some (.int (i % j), m) := by
  show (Option.map (fun d => (d, m)) (if decide (0 < j) = true then some (D.int (i % j)) else none)) = _
  rw [if_pos (decide_eq_true h)]
  rfl
theorem o_div {i j : Int} (h : 0 < j) (h2 : j.natAbs.log2 < 9000) : oDiv (.int i) (.int j) m = some (.int (i / j), m) := by
  show (Option.map (fun d => (d, m)) (if cDivW i j = true then some (D.int (i / j)) else none)) = _
  rw [if_pos (by unfold cDivW; simp [h, h2])]
  rfl
theorem o_mul {i j : Int} (h : i.natAbs.log2 + j.natAbs.log2 < 1000000) : oMul (.int i) (.int j) m = some (.int (i * j), m) := by
  show (if cMulW i j = true then some (D.int (i * j), m) else none) = _
  rw [if_pos (by unfold cMulW; simp [h])]
end
end Dl

set_option Elab.async false
set_option linter.all false
set_option maxRecDepth 100000
set_option maxHeartbeats 4000000
/-! DGo: letting go, in plain words. -/
namespace Dl
open PySem PySem.Spec L2
mutual
theorem bel_mono {n k : Nat} (h : n ≤ k) : ∀ d : D, d.bel n = true → d.bel k = true
  | .non, _ => rfl
  | .bl _, _ => rfl
  | .int _, _ => rfl
  | .str _, _ => rfl
  | .tup l, q => bels_mono h l q
  | .ctup l, q => bels_mono h l q
  | .lst l, q => bels_mono h l q
  | .scr l, q => bels_mono h l q
  | .loc j, q => decide_eq_true (Nat.lt_of_lt_of_le (of_decide_eq_true q) h)
  | .ins _ l, q => belf_mono h l q
  | .dK l, q => belk_mono h l q
  | .dT l, q => belt_mono h l q
  | .lk _, q => q
  | .fn _, _ => rfl
  | .exn _ _ l, q => belf_mono h l q
theorem bels_mono {n k : Nat} (h : n ≤ k) : ∀ l : List D, D.bels n l = true → D.bels k l = true
  | [], _ => rfl
  | d :: l, q => by
    obtain ⟨a, b⟩ := Bool.and_eq_true_iff.mp (show (d.bel n && D.bels n l) = true from q)
    exact Bool.and_eq_true_iff.mpr ⟨bel_mono h d a, bels_mono h l b⟩
theorem belf_mono {n k : Nat} (h : n ≤ k) : ∀ l : List (Str × D), D.belf n l = true → D.belf k l = true
  | [], _ => rfl
  | (_, d) :: l, q => by
    obtain ⟨a, b⟩ := Bool.and_eq_true_iff.mp (show (d.bel n && D.belf n l) = true from q)
    exact Bool.and_eq_true_iff.mpr ⟨bel_mono h d a, belf_mono h l b⟩
theorem belk_mono {n k : Nat} (h : n ≤ k) : ∀ l : List (Key × D), D.belk n l = true → D.belk k l = true
  | [], _ => rfl
  | (_, d) :: l, q => by
    obtain ⟨a, b⟩ := Bool.and_eq_true_iff.mp (show (d.bel n && D.belk n l) = true from q)
    exact Bool.and_eq_true_iff.mpr ⟨bel_mono h d a, belk_mono h l b⟩
theorem belt_mono {n k : Nat} (h : n ≤ k) : ∀ l : List (List Key × D), D.belt n l = true → D.belt k l = true
  | [], _ => rfl
  | (_, d) :: l, q => by
    obtain ⟨a, b⟩ := Bool.and_eq_true_iff.mp (show (d.bel n && D.belt n l) = true from q)
    exact Bool.and_eq_true_iff.mpr ⟨bel_mono h d a, belt_mono h l b⟩
end
theorem bels_mem {n : Nat} : ∀ {l : List D}, D.bels n l = true → ∀ d ∈ l, d.bel n = true
  | [], _, _, h => by cases h
  | d :: l, q, e, h => by
    obtain ⟨a, b⟩ := Bool.and_eq_true_iff.mp (show (d.bel n && D.bels n l) = true from q)
    rcases List.mem_cons.mp h with z | z
    · rw [z]; exact a
    · exact bels_mem b e z
theorem belf_mem {n : Nat} : ∀ {l : List (Str × D)}, D.belf n l = true → ∀ d ∈ l, d.2.bel n = true
  | [], _, _, h => by cases h
  | (_, d) :: l, q, e, h => by
    obtain ⟨a, b⟩ := Bool.and_eq_true_iff.mp (show (d.bel n && D.belf n l) = true from q)
    rcases List.mem_cons.mp h with z | z
    · rw [z]; exact a
    · exact belf_mem b e z
theorem belk_mem {n : Nat} : ∀ {l : List (Key × D)}, D.belk n l = true → ∀ d ∈ l, d.2.bel n = true
  | [], _, _, h => by cases h
  | (_, d) :: l, q, e, h => by
    obtain ⟨a, b⟩ := Bool.and_eq_true_iff.mp (show (d.bel n && D.belk n l) = true from q)
    rcases List.mem_cons.mp h with z | z
    · rw [z]; exact a
    · exact belk_mem b e z
theorem belt_mem {n : Nat} : ∀ {l : List (List Key × D)}, D.belt n l = true → ∀ d ∈ l, d.2.bel n = true
  | [], _, _, h => by cases h
  | (_, d) :: l, q, e, h => by
    obtain ⟨a, b⟩ := Bool.and_eq_true_iff.mp (show (d.bel n && D.belt n l) = true from q)
    rcases List.mem_cons.mp h with z | z
    · rw [z]; exact a
    · exact belt_mem b e z
theorem map_same {α : Type} {g : α → α} : ∀ {l : List α}, (∀ x ∈ l, g x = x) → l.map g = l
  | [], _ => rfl
  | x :: l, h => by rw [List.map_cons, h x List.mem_cons_self, map_same fun y hy => h y (List.mem_cons_of_mem _ hy)]
/-- what holds no new cell stays as it is -/
theorem fz_same {m : Mem} {n : Nat} : ∀ (f : Nat) (d : D), d.bel n = true → fz m n f d = d
  | 0, _, _ => rfl
  | f + 1, .tup l, h => congrArg D.tup (map_same fun x hx => fz_same f x (bels_mem h x hx))
  | f + 1, .lst l, h => congrArg D.lst (map_same fun x hx => fz_same f x (bels_mem h x hx))
  | f + 1, .ins C l, h => congrArg (D.ins C) (map_same fun x hx => by rw [fz_same f x.2 (belf_mem h x hx)])
  | f + 1, .dK l, h => congrArg D.dK (map_same fun x hx => by rw [fz_same f x.2 (belk_mem h x hx)])
  | f + 1, .dT l, h => congrArg D.dT (map_same fun x hx => by rw [fz_same f x.2 (belt_mem h x hx)])
  | f + 1, .loc k, h => if_pos (of_decide_eq_true h)
  | f + 1, .non, _ => rfl
  | f + 1, .bl _, _ => rfl
  | f + 1, .int _, _ => rfl
  | f + 1, .str _, _ => rfl
  | f + 1, .ctup _, _ => rfl
  | f + 1, .scr _, _ => rfl
  | f + 1, .lk _, _ => rfl
  | f + 1, .fn _, _ => rfl
  | f + 1, .exn _ _ _, _ => rfl
/-- the cells of m1 are those of m, or hold no new cell -/
def Cells (m m1 : Mem) : Prop := m1.length = m.length ∧ ∀ (k : Nat) c, m1[k]? = some c → m[k]? = some c ∨ c.belc m.length = true
theorem Cells.refl (m : Mem) : Cells m m := ⟨rfl, fun _ _ h => .inl h⟩
theorem Cells.set {m : Mem} (n : Nat) {c : D} (h : c.belc m.length = true) : Cells m (m.set n c) := by
  refine ⟨List.length_set, fun k x e => ?_⟩
  by_cases q : n = k
  · subst q
    by_cases hl : n < m.length
    · rw [List.getElem?_set_self hl] at e; cases e; exact .inr h
    · rw [List.getElem?_eq_none (by rw [List.length_set]; omega)] at e; cases e
  · rw [List.getElem?_set_ne q] at e; exact .inl e
theorem Cells.cons {r r' : D} {m : Mem} (h : r'.belc (m.length + 1) = true) : Cells (r :: m) (r' :: m) := Cells.set (m := r :: m) 0 (by simpa using h)
theorem letGo_ok2 {m m1 ex : Mem} {d d' : D} (hc : Cells m m1) (e : fz (m1 ++ ex) m.length 6 d = d') (hb : d'.bel m.length = true) : letGo m (.ok d (m1 ++ ex)) = .ok d' m1 := by
  have hl := hc.1
  have s : Safe m (m1 ++ ex) d := by
    refine ⟨by rw [List.length_append, hl]; omega, by rw [e]; exact hb, fun k c hk h => ?_⟩
    rw [List.getElem?_append_left (by rw [hl]; exact hk)] at h
    exact hc.2 k c h
  unfold letGo
  simp only [if_pos s]
  rw [e, ← hl, List.take_left]
/-- nothing new is handed back -/
theorem letGo_old {m m1 ex : Mem} {d : D} (hc : Cells m m1) (hb : d.bel m.length = true) : letGo m (.ok d (m1 ++ ex)) = .ok d m1 := letGo_ok2 hc (fz_same 6 d hb) hb
theorem letGo_same {m : Mem} {d : D} (hb : d.bel m.length = true) : letGo m (.ok d m) = .ok d m := by
  have := letGo_old (ex := []) (Cells.refl m) hb
  rwa [List.append_nil] at this
theorem letGo_ex {m ex : Mem} {d : D} (hb : d.bel m.length = true) : letGo m (.ok d (m ++ ex)) = .ok d m := letGo_old (Cells.refl m) hb
theorem clos_same {F : FD} {ds : List D} {m : Mem} {d : D} (h : F ds m = .ok d m) (hb : d.bel 0 = true) : clos F ds m = .ok d m := by
  show letGo m (F ds m) = _
  rw [h]
  exact letGo_same (bel_mono (Nat.zero_le _) d hb)
theorem fz_cellL {m : Mem} {n f k : Nat} {l : List D} (h : n ≤ k) (e : m[k]? = some (.lst l)) : fz m n (f + 1) (.loc k) = .lst (l.map (fz m n f)) := by
  rw [fz, if_neg (Nat.not_lt.mpr h)]
  simp only [e]
theorem fz_cellI {m : Mem} {n f k : Nat} {C : Str} {l : List (Str × D)} (h : n ≤ k) (e : m[k]? = some (.ins C l)) : fz m n (f + 1) (.loc k) = .ins C (l.map fun p => (p.1, fz m n f p.2)) := by
  rw [fz, if_neg (Nat.not_lt.mpr h)]
  simp only [e]
/-- a new instance, frozen -/
theorem letGo_ins {m : Mem} {C : Str} {fs : List (Str × D)} (hb : D.belf 0 fs = true) : letGo m (.ok (.loc m.length) (m ++ [.ins C fs])) = .ok (.ins C fs) m := by
  have hb' : D.belf m.length fs = true := belf_mono (Nat.zero_le _) fs hb
  refine letGo_ok2 (Cells.refl m) ?_ (show D.belf m.length fs = true from hb')
  rw [show (6 : Nat) = 5 + 1 from rfl, fz_cellI (Nat.le_refl _) (by rw [List.getElem?_append_right (Nat.le_refl _), Nat.sub_self]; rfl)]
  rw [map_same fun x hx => by rw [fz_same 5 x.2 (belf_mem hb' x hx)]]
/-- a new list, frozen -/
theorem letGo_lst {m m1 : Mem} {l : List D} (hc : Cells m m1) (hb : D.bels m.length l = true) (ex : Mem) : letGo m (.ok (.loc m.length) (m1 ++ .lst l :: ex)) = .ok (.lst l) m1 := by
  refine letGo_ok2 hc ?_ (show D.bels m.length l = true from hb)
  rw [show (6 : Nat) = 5 + 1 from rfl, fz_cellL (Nat.le_refl _) (by rw [← hc.1, List.getElem?_append_right (Nat.le_refl _), Nat.sub_self]; rfl)]
  rw [map_same fun x hx => fz_same 5 x (bels_mem hb x hx)]
/-! a new cell at the end -/
theorem get_last (m : Mem) (c : D) (ex : Mem) : (m ++ c :: ex)[m.length]? = some c := by rw [List.getElem?_append_right (Nat.le_refl _), Nat.sub_self]; rfl
theorem set_last (m : Mem) (c d : D) (ex : Mem) : (m ++ c :: ex).set m.length d = m ++ d :: ex := by simp
theorem setFld_last {m : Mem} {C f : Str} {fs : List (Str × D)} {y : D} {ex : Mem} (h : fs.length < 1000) : setFld C f (.loc m.length) y (m ++ D.ins C fs :: ex) = some (m ++ D.ins C (putD f y fs) :: ex) := by
  simp only [setFld, get_last, set_last, h, and_self, if_true]
@[simp] theorem putD_nil (f : Str) (d : D) : putD f d [] = [(f, d)] := rfl
theorem putD_ne {f g : Str} {d x : D} {r : List (Str × D)} (h : g ≠ f) : putD f d ((g, x) :: r) = (g, x) :: putD f d r := if_neg h
theorem insC_ins (C : Str) (m : Mem) (fs : List (Str × D)) : insC C m (.ins C fs) = some fs := if_pos rfl
theorem oAppend_last {m : Mem} {l : List D} {y : D} {ex : Mem} (h : l.length < big) : oAppend (.loc m.length) [y] (m ++ D.lst l :: ex) = some (.non, m ++ D.lst (l ++ [y]) :: ex) := by
  simp only [oAppend, get_last, set_last, h, if_true]
theorem oPop_last {m : Mem} {l : List D} {y : D} {ex : Mem} : oPop (.loc m.length) (m ++ D.lst (l ++ [y]) :: ex) = some (y, m ++ D.lst l :: ex) := by
  have e : (l ++ [y])[(l ++ [y]).length - 1]? = some y := by rw [List.length_append, List.length_singleton, Nat.add_sub_cancel, List.getElem?_append_right (Nat.le_refl _), Nat.sub_self]; rfl
  simp only [oPop, get_last, set_last, e, List.dropLast_concat]
theorem lst_last {m : Mem} {l : List D} {ex : Mem} : (D.loc m.length).lst? (m ++ D.lst l :: ex) = some l := by
  simp only [D.lst?, get_last]
/-! equality of flat things -/
theorem oEq_ok {d e : D} {m : Mem} (h1 : (d.der m).ok 60 = true) (h2 : (e.der m).ok 60 = true) : oEq d e m = some (.bl (deq (d.der m) (e.der m)), m) := by
  unfold oEq
  rw [h1, h2]
  rfl
theorem oNe_ok {d e : D} {m : Mem} (h1 : (d.der m).ok 60 = true) (h2 : (e.der m).ok 60 = true) : oNe d e m = some (.bl (!deq (d.der m) (e.der m)), m) := by
  unfold oNe
  rw [h1, h2]
  rfl
theorem oEq_int (s t : Int) (m : Mem) : oEq (.int s) (.int t) m = some (.bl (decide (s = t)), m) := by
  rw [oEq_ok (by rfl) (by rfl)]
  show some (D.bl (s == t), m) = _
  congr
theorem oNe_int (s t : Int) (m : Mem) : oNe (.int s) (.int t) m = some (.bl (!decide (s = t)), m) := by
  rw [oNe_ok (by rfl) (by rfl)]
  show some (D.bl (!(s == t)), m) = _
  congr
end Dl

set_option Elab.async false
set_option linter.all false
set_option maxRecDepth 100000
set_option maxHeartbeats 4000000
/-! DComp2: comprehensions and loops, in plain words. -/
namespace Dl
open PySem PySem.Spec L2
/-- item by item -/
def Each {α β : Type} (P : α → β → Prop) : List α → List β → Prop
  | [], [] => True
  | x :: xs, y :: ys => P x y ∧ Each P xs ys
  | _, _ => False
theorem Each.len {α β : Type} {P : α → β → Prop} : ∀ {xs : List α} {ys : List β}, Each P xs ys → ys.length = xs.length
  | [], [], _ => rfl
  | _ :: _, _ :: _, ⟨_, b⟩ => congrArg (· + 1) (Each.len b)
  | [], _ :: _, h => h.elim
  | _ :: _, [], h => h.elim
theorem Each.get {α β : Type} {P : α → β → Prop} : ∀ {xs : List α} {ys : List β} {i : Nat} {x : α}, Each P xs ys → xs[i]? = some x → ∃ y, ys[i]? = some y ∧ P x y
  | _ :: _, _ :: _, 0, _, ⟨a, _⟩, e => by cases e; exact ⟨_, rfl, a⟩
  | _ :: _, _ :: _, i + 1, _, ⟨_, b⟩, e => Each.get (i := i) b e
  | [], [], _, _, _, e => by cases e
  | [], _ :: _, _, _, h, _ => h.elim
  | _ :: _, [], _, _, h, _ => h.elim
theorem Each.imp {α β : Type} {P Q : α → β → Prop} (h : ∀ x y, P x y → Q x y) : ∀ {xs : List α} {ys : List β}, Each P xs ys → Each Q xs ys
  | [], [], _ => trivial
  | _ :: _, _ :: _, ⟨a, b⟩ => ⟨h _ _ a, Each.imp h b⟩
  | [], _ :: _, h => h.elim
  | _ :: _, [], h => h.elim
theorem Each.right {α β : Type} {P : α → β → Prop} {Q : β → Prop} (h : ∀ x y, P x y → Q y) : ∀ {xs : List α} {ys : List β}, Each P xs ys → ∀ y ∈ ys, Q y
  | [], [], _, _, e => by cases e
  | x :: _, y :: _, ⟨a, b⟩, z, e => by
    rcases List.mem_cons.mp e with e | e
    · rw [e]; exact h _ _ a
    · exact Each.right h b z e
  | [], _ :: _, h, _, _ => h.elim
  | _ :: _, [], h, _, _ => h.elim
theorem bels_of {k : Nat} : ∀ {l : List D}, (∀ d ∈ l, d.bel k = true) → D.bels k l = true
  | [], _ => rfl
  | d :: l, h => Bool.and_eq_true_iff.mpr ⟨h d List.mem_cons_self, bels_of fun x hx => h x (List.mem_cons_of_mem _ hx)⟩
section
variable {vs : List Nat} {gd : OF} {t : TF} {e : EF} {sd : Sl}
/-- memory m that each turn may change into one of St; the list at the end -/
theorem lcD_st {P : D → D → Prop} {St : Mem → Prop} {n : Nat} : ∀ {xs acc : List D} {m : Mem},
    (∀ x ∈ xs, ∀ m acc, St m → ∃ sd1, gd x (wipeD sd vs) = some sd1 ∧ t sd1 (m ++ [.lst acc]) = .ok true (m ++ [.lst acc]) ∧ ∃ y m', e sd1 (m ++ [.lst acc]) = .ok y (m' ++ [.lst acc]) ∧ St m' ∧ P x y) →
    (∀ m, St m → m.length = n) → St m → acc.length + xs.length ≤ big → ∃ ys m', Each P xs ys ∧ St m' ∧ lcD vs gd t e n sd xs (m ++ [.lst acc]) = some (m' ++ [.lst (acc ++ ys)])
  | [], acc, m, _, _, hm, _ => ⟨[], m, trivial, hm, by rw [List.append_nil]; rfl⟩
  | x :: xs, acc, m, h, hn, hm, hl => by
    rw [List.length_cons] at hl
    obtain ⟨sd1, e1, e2, y, m1, e3, h1, p⟩ := h x List.mem_cons_self m acc hm
    obtain ⟨ys, m2, z, h2, e4⟩ := lcD_st (xs := xs) (acc := acc ++ [y]) (m := m1) (fun x hx => h x (List.mem_cons_of_mem _ hx)) hn h1 (by rw [List.length_append, List.length_singleton]; omega)
    refine ⟨y :: ys, m2, ⟨p, z⟩, h2, ?_⟩
    have en := hn m1 h1
    show lcTurn vs gd t e n sd x (fun m => lcD vs gd t e n sd xs m) (m ++ [.lst acc]) = _
    unfold lcTurn
    have hlt : acc.length < big := by omega
    subst en
    simp only [e1, e2, e3, get_last, hlt, if_true, set_last]
    rw [e4, List.append_assoc]
    rfl
/-- each item gives one, the memory stays -/
theorem lcD_all {P : D → D → Prop} {xs : List D} {m : Mem} (h : ∀ x ∈ xs, ∀ m' : Mem, ∃ sd1, gd x (wipeD sd vs) = some sd1 ∧ t sd1 m' = .ok true m' ∧ ∃ y, e sd1 m' = .ok y m' ∧ P x y) (hl : xs.length ≤ big) :
    ∃ ys, Each P xs ys ∧ lcD vs gd t e m.length sd xs (m ++ [.lst []]) = some (m ++ [.lst ys]) := by
  obtain ⟨ys, m', z, rfl, e4⟩ := lcD_st (P := P) (St := fun m' => m' = m) (n := m.length) (sd := sd) (vs := vs) (gd := gd) (t := t) (e := e) (xs := xs) (acc := []) (m := m)
    (fun x hx m1 acc hm => by
      obtain ⟨sd1, e1, e2, y, e3, p⟩ := h x hx (m1 ++ [.lst acc])
      exact ⟨sd1, e1, e2, y, m1, e3, hm, p⟩) (fun m' hm => by rw [hm]) rfl (by simpa using hl)
  exact ⟨ys, z, by simpa using e4⟩
/-- a filter -/
theorem lcD_fil {p : D → Bool} {g : D → D} {m : Mem} {n : Nat} (hn : n = m.length) : ∀ {xs acc : List D}, (∀ x ∈ xs, ∀ m' : Mem, ∃ sd1, gd x (wipeD sd vs) = some sd1 ∧ t sd1 m' = .ok (p x) m' ∧ (p x = true → e sd1 m' = .ok (g x) m')) → acc.length + xs.length ≤ big →
    lcD vs gd t e n sd xs (m ++ [.lst acc]) = some (m ++ [.lst (acc ++ (xs.filter p).map g)])
  | [], acc, _, _ => by rw [List.filter_nil, List.map_nil, List.append_nil]; rfl
  | x :: xs, acc, h, hl => by
    rw [List.length_cons] at hl
    obtain ⟨sd1, e1, e2, e3⟩ := h x List.mem_cons_self (m ++ [.lst acc])
    show lcTurn vs gd t e n sd x (fun m => lcD vs gd t e n sd xs m) (m ++ [.lst acc]) = _
    unfold lcTurn
    subst hn
    cases q : p x with
    | false =>
      rw [q] at e2
      simp only [e1, e2]
      rw [List.filter_cons_of_neg (by simp [q])]
      exact lcD_fil rfl (fun x hx => h x (List.mem_cons_of_mem _ hx)) (by omega)
    | true =>
      rw [q] at e2
      have hlt : acc.length < big := by omega
      simp only [e1, e2, e3 q, get_last, hlt, if_true, set_last]
      rw [List.filter_cons_of_pos q, lcD_fil rfl (fun x hx => h x (List.mem_cons_of_mem _ hx)) (by rw [List.length_append, List.length_singleton]; omega), List.map_cons, List.append_assoc]
      rfl
theorem lc_go {m m' : Mem} {l : List D} (hc : Cells m m') (hb : D.bels m.length l = true) : letGo m (lcEnd m.length (some (m' ++ [.lst l]))) = .ok (.lst l) m' := letGo_lst hc hb []
end
end Dl

set_option Elab.async false
set_option linter.all false
set_option maxRecDepth 100000
set_option maxHeartbeats 4000000
/-! DComp3: comprehensions over a value or a cell, filtered and mapped. -/
namespace Dl
open PySem PySem.Spec L2
def D.sq? (m : Mem) : D → Option (List D)
  | .tup l => some l
  | .ctup l => some l
  | .lst l => some l
  | .scr l => some l
  | .loc c => match m[c]? with
    | some (.lst l) => some l
    | _ => none
  | _ => none
section
variable {α : Type} {vs : List Nat} {gd : OF} {t : TF} {e : EF} {sd : Sl} {p : α → Bool} {f g : α → D} {m : Mem}
/-- what one item does -/
def ItF (vs : List Nat) (gd : OF) (t : TF) (e : EF) (sd : Sl) (m : Mem) (p : α → Bool) (f g : α → D) (a : α) : Prop :=
  ∀ acc : List D, ∃ sd1, gd (f a) (wipeD sd vs) = some sd1 ∧ t sd1 (m ++ [.lst acc]) = .ok (p a) (m ++ [.lst acc]) ∧ (p a = true → e sd1 (m ++ [.lst acc]) = .ok (g a) (m ++ [.lst acc]))
theorem lcTurn_f {a : α} {k : Mem → Option Mem} {acc : List D} (h : ItF vs gd t e sd m p f g a) (hl : acc.length < big) : lcTurn vs gd t e m.length sd (f a) k (m ++ [.lst acc]) = k (m ++ [.lst (if p a = true then acc ++ [g a] else acc)]) := by
  obtain ⟨sd1, e1, e2, e3⟩ := h acc
  unfold lcTurn
  cases q : p a with
  | false =>
    rw [q] at e2
    simp only [e1, e2]
    rfl
  | true =>
    rw [q] at e2
    simp only [e1, e2, e3 q, get_last, hl, if_true, set_last]
theorem lcD_f : ∀ {l : List α} {acc : List D}, (∀ a ∈ l, ItF vs gd t e sd m p f g a) → acc.length + l.length ≤ big →
    lcD vs gd t e m.length sd (l.map f) (m ++ [.lst acc]) = some (m ++ [.lst (acc ++ (l.filter p).map g)])
  | [], acc, _, _ => by rw [List.filter_nil, List.map_nil, List.map_nil, List.append_nil]; rfl
  | x :: xs, acc, h, hl => by
    rw [List.length_cons] at hl
    rw [List.map_cons]
    show lcTurn vs gd t e m.length sd (f x) (fun m' => lcD vs gd t e m.length sd (xs.map f) m') (m ++ [.lst acc]) = _
    rw [lcTurn_f (h x List.mem_cons_self) (by omega)]
    cases q : p x with
    | false =>
      rw [List.filter_cons_of_neg (by simp [q])]
      exact lcD_f (fun x hx => h x (List.mem_cons_of_mem _ hx)) (by simp only [Bool.false_eq_true, if_false]; omega)
    | true =>
      rw [List.filter_cons_of_pos q, List.map_cons]
      simp only [if_true]
      rw [lcD_f (acc := acc ++ [g x]) (fun x hx => h x (List.mem_cons_of_mem _ hx)) (by rw [List.length_append, List.length_singleton]; omega), List.append_assoc]
      rfl
theorem lcL_f {l : List α} {c : Nat} (hc : m[c]? = some (.lst (l.map f))) (h : ∀ a ∈ l, ItF vs gd t e sd m p f g a) : ∀ (k i : Nat) (acc : List D), k + i = l.length → acc.length + k ≤ big →
    lcL vs gd t e m.length sd c k i (m ++ [.lst acc]) = some (m ++ [.lst (acc ++ ((l.drop i).filter p).map g)])
  | 0, i, acc, hk, _ => by
    have hcl : c < m.length := (List.getElem?_eq_some_iff.mp hc).1
    have hr : (D.loc c).rdl? (m ++ [D.lst acc]) = some (l.map f) := by
      show (match (m ++ [D.lst acc])[c]? with
        | some (.lst l) => some l
        | _ => none) = some _
      rw [List.getElem?_append_left hcl, hc]
    have e1 : (l.map f)[i]? = none := List.getElem?_eq_none (by rw [List.length_map]; omega)
    have e2 : l.drop i = [] := List.drop_eq_nil_of_le (by omega)
    unfold lcL
    simp only [hr, e1, e2, List.filter_nil, List.map_nil, List.append_nil]
  | k + 1, i, acc, hk, hl => by
    have hcl : c < m.length := (List.getElem?_eq_some_iff.mp hc).1
    have hr : (D.loc c).rdl? (m ++ [D.lst acc]) = some (l.map f) := by
      show (match (m ++ [D.lst acc])[c]? with
        | some (.lst l) => some l
        | _ => none) = some _
      rw [List.getElem?_append_left hcl, hc]
    have hi : i < l.length := by omega
    have e1 : (l.map f)[i]? = some (f l[i]) := by rw [List.getElem?_map, List.getElem?_eq_getElem hi]; rfl
    have e2 : l.drop i = l[i] :: l.drop (i + 1) := List.drop_eq_getElem_cons hi
    unfold lcL
    simp only [hr, e1]
    rw [lcTurn_f (h l[i] (List.getElem_mem hi)) (by omega), e2]
    cases q : p l[i] with
    | false =>
      rw [List.filter_cons_of_neg (by simp [q])]
      exact lcL_f hc h k (i + 1) acc (by omega) (by omega)
    | true =>
      rw [List.filter_cons_of_pos q, List.map_cons]
      simp only [if_true]
      rw [lcL_f hc h k (i + 1) (acc ++ [g l[i]]) (by omega) (by rw [List.length_append, List.length_singleton]; omega), List.append_assoc]
      rfl
theorem lcV_f {l : List α} {d : D} (hd : d.sq? m = some (l.map f)) (h : ∀ a ∈ l, ItF vs gd t e sd m p f g a) (hl : l.length ≤ big) : lcV vs gd t e sd d m = lcEnd m.length (some (m ++ [.lst ((l.filter p).map g)])) := by
  have h1 := lcD_f (acc := []) h (by simpa using hl)
  cases d with
  | tup z => cases (show some z = some (l.map f) from hd); exact congrArg (lcEnd m.length) h1
  | ctup z => cases (show some z = some (l.map f) from hd); exact congrArg (lcEnd m.length) h1
  | lst z => cases (show some z = some (l.map f) from hd); exact congrArg (lcEnd m.length) h1
  | scr z => cases (show some z = some (l.map f) from hd); exact congrArg (lcEnd m.length) h1
  | loc c =>
    have hd' : (match m[c]? with
      | some (.lst l) => some l
      | _ => none) = some (l.map f) := hd
    have hc : m[c]? = some (.lst (l.map f)) := by
      cases z : m[c]? with
      | none => rw [z] at hd'; cases hd'
      | some o =>
        rw [z] at hd'
        cases o with
        | lst y => cases hd'; rfl
        | _ => cases hd'
    have h2 := lcL_f hc h (l.map f).length 0 [] (by rw [List.length_map]; rfl) (by rw [List.length_map]; simpa using hl)
    show (match m[c]? with
      | some (.lst l) => lcEnd m.length (lcL vs gd t e m.length sd c l.length 0 (m ++ [D.lst []]))
      | _ => R.stuck) = _
    rw [hc]
    simp only [h2]
    rfl
  | _ => cases hd
/-- the comprehension, frozen -/
theorem lc_goF {l : List α} {d : D} (hd : d.sq? m = some (l.map f)) (h : ∀ a ∈ l, ItF vs gd t e sd m p f g a) (hl : l.length ≤ big) (hb : ∀ a ∈ l, (g a).bel m.length = true) : letGo m (lcV vs gd t e sd d m) = .ok (.lst ((l.filter p).map g)) m := by
  rw [lcV_f hd h hl]
  exact lc_go (Cells.refl m) (bels_of fun x hx => by
    obtain ⟨a, ha, rfl⟩ := List.mem_map.mp hx
    exact hb a (List.mem_filter.mp ha).1)
theorem lc_goM {l : List α} {d : D} (hd : d.sq? m = some (l.map f)) (h : ∀ a ∈ l, ItF vs gd t e sd m (fun _ => true) f g a) (hl : l.length ≤ big) (hb : ∀ a ∈ l, (g a).bel m.length = true) : letGo m (lcV vs gd t e sd d m) = .ok (.lst (l.map g)) m := by
  have h1 := lc_goF hd h hl hb
  rwa [List.filter_eq_self.mpr fun _ _ => rfl] at h1
end
end Dl

set_option Elab.async false
set_option linter.all false
set_option maxRecDepth 100000
set_option maxHeartbeats 4000000
/-! DRng: e in range(n). -/
namespace Dl
open PySem PySem.Spec PyProof.Rows L2
section
variable {X : Cx} {W : WX} {a b : Expr} {pos pos2 : Pos} {fa fb : EF}
theorem cr_range1 : CallR X (.type "range") (fun vs H Q => ∃ j, vs = [V.int j] ∧ ∀ p, H p = none → Q (.ref p) (upd H p (.rng 0 j))) := by
  intro pins s σ H vs us Q I r h
  obtain ⟨j, rfl, q⟩ := h
  obtain ⟨u1, u2, ri, rn, rfl⟩ : ∃ u1 u2, RelV (.int j) u1 ∧ u2 = ([] : List Value) ∧ us = u1 :: u2 := by
    cases r with
    | cons h1 h2 => cases h2; exact ⟨_, _, h1, rfl, rfl⟩
  subst rn
  obtain ⟨t, rfl⟩ := ri
  refine call_range_1 ⟨.ref s.heap.objs.size, upd H s.heap.objs.size (.rng 0 j), I.laid (t' := s.toks + 1 + 1) (fun b o e => Heap.get?_push_of_some _ e) (Nat.le_refl _) ?_, rfl, q _ (I.hok.fresh (Nat.le_refl _))⟩
  exact ⟨s.toks, t, s.toks + 1, Heap.get?_push_size _ rfl⟩
def xInRng (fa fb : EF) : EF := fun sd m => (fa sd m).bind fun d1 m1 => (fb sd m1).bind fun d2 m2 => match d1, d2 with
  | .int i, .int n => .ok (.bl (decide (0 ≤ i ∧ i < n))) m2
  | _, _ => .stuck
@[simp] theorem q_inRng {sd : Sl} {m : Mem} : xInRng fa fb sd m = (fa sd m).bind fun d1 m1 => (fb sd m1).bind fun d2 m2 => match d1, d2 with
  | .int i, .int n => .ok (.bl (decide (0 ≤ i ∧ i < n))) m2
  | _, _ => .stuck := rfl
theorem s_inRng (σ : L2.St) (H : Hp) (Q : VK) : eOf X.K W (xInRng fa fb) σ H Q → tOp (fun x y H Q => ∃ i a lo hi, x = V.int i ∧ y = V.ref a ∧ H a = some (.rng lo hi) ∧ Q (.bl (decide (lo ≤ i ∧ i < hi))) H) (eOf X.K W fa) (tCB (fun vs H Q => ∃ j, vs = [V.int j] ∧ ∀ p, H p = none → Q (.ref p) (upd H p (.rng 0 j))) (aOf X.K W (aCons fb aNil))) σ H Q := fun ⟨w, m, sd, wf, sl, h⟩ =>
  ⟨w, m, sd, wf, sl, h.bind.imp fun d1 m1 w1 H1 l1 wf1 h1 x rx => ⟨w1, m1, sd, wf1, sl.mono l1, by
    show rOk X.K W σ w1 ((fb sd m1).bind fun d m2 => R.ok [d] m2) _
    cases q : fb sd m1 with
    | stuck => rw [q] at h1; exact h1
    | err e m2 => rw [q] at h1; exact h1
    | ok d2 m2 =>
      rw [q] at h1
      intro w2 H2 l2 wf2 vs rs
      obtain ⟨y, ys, rfl, ry, rfl⟩ := rs
      have h2 : rOk X.K W σ w1 (match d1, d2 with
        | .int i, .int n => R.ok (.bl (decide (0 ≤ i ∧ i < n))) m2
        | _, _ => .stuck) (eK X.K Q) := h1
      split at h2
      · rename_i i n
        have rx' : x = .int i := rx
        have ry' : y = .int n := ry
        subst rx' ry'
        refine ⟨n, rfl, fun p hp => ⟨i, p, 0, n, rfl, rfl, upd_same, ?_⟩⟩
        obtain ⟨l3, wf3⟩ := wf2.add (o := .rng 0 n) hp
        exact h2 _ _ (l2.trans l3) wf3 _ rfl
      · exact h2.elim⟩⟩
theorem d_inRng {p : Pos} (hm : X.mg "range" = none) (ha : DE X W a fa) (hb : DE X W b fb) (hg : Gl X "range" := by rfl)
    (he : starEach [b] X.env = (false, eval b X.env) :: starEach [] X.env := by rfl) (hpl : (backTo pos2 (starEach [] X.env)).any (·.1) = false := by rfl) (hk : behindInMarks .In (.Call (.Name "range" p) [b] [] pos2) = false := by rfl) :
    DE X W (.Compare a [.In] [.Call (.Name "range" p) [b] [] pos2] pos) (xInRng fa fb) :=
  (pe_cmpR op_in_rng ha (pe_callTy cr_range1 hg hm (by decide +kernel) (da_cons hb da_nil he) (by decide) (by decide) he hpl) hk).weak s_inRng
theorem d_inRngT {p : Pos} (hm : X.mg "range" = none) (ha : DE X W a fa) (hb : DE X W b fb) (hg : Gl X "range" := by rfl)
    (he : starEach [b] X.env = (false, eval b X.env) :: starEach [] X.env := by rfl) (hpl : (backTo pos2 (starEach [] X.env)).any (·.1) = false := by rfl) (hk : behindInMarks .In (.Call (.Name "range" p) [b] [] pos2) = false := by rfl) :
    DT X W (.Compare a [.In] [.Call (.Name "range" p) [b] [] pos2] pos) (xT (xInRng fa fb)) :=
  (pt_cmpR op_in_rng ha (pe_callTy cr_range1 hg hm (by decide +kernel) (da_cons hb da_nil he) (by decide) (by decide) he hpl) hk).weak (s_T s_inRng)
end
end Dl

set_option Elab.async false
set_option linter.all false
set_option maxRecDepth 100000
set_option maxHeartbeats 4000000
/-! DDict: dicts with int and text keys (dK) and with flat tuple keys (dT): new, read, stored, walked. -/
namespace Dl
open PySem PySem.Spec PyProof.Rows L2
def D.kd? (m : Mem) : D → Option (List (Key × D))
  | .dK kvs => some kvs
  | .loc n => match m[n]? with
    | some (.dK kvs) => some kvs
    | some (.lk (.dK kvs)) => some kvs
    | _ => none
  | _ => none
def D.td? (m : Mem) : D → Option (List (List Key × D))
  | .dT kvs => some kvs
  | .loc n => match m[n]? with
    | some (.dT kvs) => some kvs
    | some (.lk (.dT kvs)) => some kvs
    | _ => none
  | _ => none
def D.key? : D → Option Key
  | .int i => some (.inl i)
  | .str s => some (.inr s)
  | _ => none
def D.keys? : List D → Option (List Key)
  | [] => some []
  | d :: ds => match d.key?, D.keys? ds with
    | some k, some ks => some (k :: ks)
    | _, _ => none
def D.tkey? : D → Option (List Key)
  | .tup l => D.keys? l
  | _ => none
section
variable {κ : Type} [DecidableEq κ]
def lookK (kvs : List (κ × D)) (k : κ) : Option D := (kvs.find? fun kv => decide (kv.1 = k)).map (·.2)
def putKD (kvs : List (κ × D)) (k : κ) (v : D) : List (κ × D) :=
  if (kvs.any fun kv => decide (kv.1 = k)) = true then kvs.map (fun kv => if kv.1 = k then (kv.1, v) else kv) else kvs ++ [(k, v)]
end
section
variable {K : PySem.W.Frag} {w w' : Wd} {H : Hp} {m : Mem}
/-- alike, item by item -/
def repg {κ : Type} (K : PySem.W.Frag) (w : Wd) : List (κ × D) → List (κ × V) → Prop
  | [], xs => xs = []
  | (f, d) :: ds, xs => ∃ y ys, xs = (f, y) :: ys ∧ rep K w d y ∧ repg K w ds ys
theorem repk_g : ∀ {ds : List (Key × D)} {xs : List (Key × V)}, repk K w ds xs ↔ repg K w ds xs
  | [], _ => Iff.rfl
  | (_, _) :: _, _ => ⟨fun ⟨y, ys, e, h, r⟩ => ⟨y, ys, e, h, repk_g.mp r⟩, fun ⟨y, ys, e, h, r⟩ => ⟨y, ys, e, h, repk_g.mpr r⟩⟩
theorem rept_g : ∀ {ds : List (List Key × D)} {xs : List (List Key × V)}, rept K w ds xs ↔ repg K w ds xs
  | [], _ => Iff.rfl
  | (_, _) :: _, _ => ⟨fun ⟨y, ys, e, h, r⟩ => ⟨y, ys, e, h, rept_g.mp r⟩, fun ⟨y, ys, e, h, r⟩ => ⟨y, ys, e, h, rept_g.mpr r⟩⟩
section
variable {κ : Type} [DecidableEq κ]
theorem repg.mono (l : Le w w') : ∀ {ds : List (κ × D)} {xs : List (κ × V)}, repg K w ds xs → repg K w' ds xs
  | [], _, h => h
  | (_, _) :: _, _, ⟨y, ys, e, h, r⟩ => ⟨y, ys, e, rep.mono l h, repg.mono l r⟩
theorem repg.len : ∀ {ds : List (κ × D)} {xs : List (κ × V)}, repg K w ds xs → xs.length = ds.length
  | [], _, h => by cases h; rfl
  | (_, _) :: ds, _, ⟨y, ys, e, _, r⟩ => by rw [e, List.length_cons, List.length_cons, repg.len r]
theorem repg.val (k : κ) : ∀ {ds : List (κ × D)} {xs : List (κ × V)}, repg K w ds xs → (∀ d, lookK ds k = some d → ∃ v, valV xs k = some v ∧ rep K w d v) ∧ (lookK ds k = none → valV xs k = none)
  | [], _, h => by
    cases h
    refine ⟨fun d e => ?_, fun _ => rfl⟩
    have e' : (none : Option D) = some d := e
    cases e'
  | (f, d) :: ds, _, ⟨y, ys, e, h, r⟩ => by
    subst e
    have ih := repg.val k r
    by_cases q : f = k
    · have e1 : lookK ((f, d) :: ds) k = some d := by simp [lookK, List.find?_cons, q]
      have e2 : valV ((f, y) :: ys) k = some y := valV_pos q
      rw [e1, e2]
      exact ⟨fun d' z => by cases z; exact ⟨y, rfl, h⟩, fun z => by cases z⟩
    · have e1 : lookK ((f, d) :: ds) k = lookK ds k := by simp [lookK, List.find?_cons, q]
      have e2 : valV ((f, y) :: ys) k = valV ys k := valV_neg q
      rw [e1, e2]
      exact ih
theorem repg.app : ∀ {ds es : List (κ × D)} {xs ys : List (κ × V)}, repg K w ds xs → repg K w es ys → repg K w (ds ++ es) (xs ++ ys)
  | [], _, _, _, h, k => by cases h; exact k
  | (_, _) :: _, _, _, _, ⟨y, ys, e, h, r⟩, k => by subst e; exact ⟨y, _, rfl, h, repg.app r k⟩
theorem repg.any (k : κ) : ∀ {ds : List (κ × D)} {xs : List (κ × V)}, repg K w ds xs → (xs.any fun kv => decide (kv.1 = k)) = (ds.any fun kv => decide (kv.1 = k))
  | [], _, h => by cases h; rfl
  | (f, d) :: ds, _, ⟨y, ys, e, h, r⟩ => by subst e; rw [List.any_cons, List.any_cons, repg.any k r]
theorem repg.upd {k : κ} {z : D} {v : V} (hz : rep K w z v) : ∀ {ds : List (κ × D)} {xs : List (κ × V)}, repg K w ds xs → repg K w (ds.map fun kv => if kv.1 = k then (kv.1, z) else kv) (xs.map fun kv => if kv.1 = k then (kv.1, v) else kv)
  | [], _, h => by cases h; rfl
  | (f, d) :: ds, _, ⟨y, ys, e, h, r⟩ => by
    subst e
    rw [List.map_cons, List.map_cons]
    by_cases q : f = k
    · rw [if_pos q, if_pos q]; exact ⟨v, _, rfl, hz, repg.upd hz r⟩
    · rw [if_neg q, if_neg q]; exact ⟨y, _, rfl, h, repg.upd hz r⟩
theorem repg.put {k : κ} {z : D} {v : V} (hz : rep K w z v) {ds : List (κ × D)} {xs : List (κ × V)} (h : repg K w ds xs) : repg K w (putKD ds k z) (putK xs k v) := by
  unfold putKD putK
  rw [h.any k]
  split
  · exact h.upd hz
  · exact h.app ⟨v, [], rfl, hz, rfl⟩
end
theorem kdR (wf : Wf K w H m) {d : D} {v : V} {kvs : List (Key × D)} (r : rep K w d v) (h : d.kd? m = some kvs) : ∃ a xs, v = .ref a ∧ Rd H a (.dK xs) ∧ repg K w kvs xs := by
  cases d with
  | dK l =>
    cases h
    obtain ⟨a, xs, e, h2, r2⟩ := r
    exact ⟨a, xs, e, wf.subC h2 rfl, repk_g.mp r2⟩
  | loc n =>
    have h' : (match m[n]? with
      | some (.dK kvs) => some kvs
      | some (.lk (.dK kvs)) => some kvs
      | _ => none) = some kvs := h
    cases z : m[n]? with
    | none => rw [z] at h'; cases h'
    | some c =>
      rw [z] at h'
      obtain ⟨a, e, ha, hold⟩ := wf.at r z
      cases c with
      | dK l =>
        cases h'
        obtain ⟨xs, h2, r2⟩ := hold
        exact ⟨a, xs, e, .inl h2, repk_g.mp r2⟩
      | lk c2 =>
        cases c2 with
        | dK l =>
          cases h'
          obtain ⟨o, xs, h2, r2⟩ := hold
          exact ⟨a, xs, e, .inr ⟨o, h2⟩, repk_g.mp r2⟩
        | _ => cases h'
      | _ => cases h'
  | _ => cases h
theorem tdR (wf : Wf K w H m) {d : D} {v : V} {kvs : List (List Key × D)} (r : rep K w d v) (h : d.td? m = some kvs) : ∃ a xs, v = .ref a ∧ Rd H a (.dT xs) ∧ repg K w kvs xs := by
  cases d with
  | dT l =>
    cases h
    obtain ⟨a, xs, e, h2, r2⟩ := r
    exact ⟨a, xs, e, wf.subC h2 rfl, rept_g.mp r2⟩
  | loc n =>
    have h' : (match m[n]? with
      | some (.dT kvs) => some kvs
      | some (.lk (.dT kvs)) => some kvs
      | _ => none) = some kvs := h
    cases z : m[n]? with
    | none => rw [z] at h'; cases h'
    | some c =>
      rw [z] at h'
      obtain ⟨a, e, ha, hold⟩ := wf.at r z
      cases c with
      | dT l =>
        cases h'
        obtain ⟨xs, h2, r2⟩ := hold
        exact ⟨a, xs, e, .inl h2, rept_g.mp r2⟩
      | lk c2 =>
        cases c2 with
        | dT l =>
          cases h'
          obtain ⟨o, xs, h2, r2⟩ := hold
          exact ⟨a, xs, e, .inr ⟨o, h2⟩, rept_g.mp r2⟩
        | _ => cases h'
      | _ => cases h'
  | _ => cases h
theorem keyR {d : D} {v : V} {k : Key} (r : rep K w d v) (h : d.key? = some k) : v = kV k := by
  cases d with
  | int i => cases h; exact r
  | str s => cases h; exact r
  | _ => cases h
theorem keysR : ∀ {ds : List D} {vs : List V} {ks : List Key}, reps K w ds vs → D.keys? ds = some ks → vs = ks.map kV
  | [], _, ks, r, h => by cases h; cases r; rfl
  | d :: ds, _, ks, ⟨y, ys, e, r1, r2⟩, h => by
    have h' : (match d.key?, D.keys? ds with
      | some k, some ks => some (k :: ks)
      | _, _ => none) = some ks := h
    cases z : d.key? with
    | none => rw [z] at h'; cases h'
    | some k =>
      cases z2 : D.keys? ds with
      | none => rw [z, z2] at h'; cases h'
      | some ks' =>
        rw [z, z2] at h'
        cases h'
        rw [e, keyR r1 z, keysR r2 z2]
        rfl
theorem tkeyR (wf : Wf K w H m) {d : D} {v : V} {ks : List Key} (r : rep K w d v) (h : d.tkey? = some ks) : ∃ b, v = .ref b ∧ H b = some (.tup (ks.map kV)) := by
  cases d with
  | tup l =>
    obtain ⟨a, xs, e, h2, r2⟩ := r
    have := keysR r2 (show D.keys? l = some ks from h)
    subst this
    exact ⟨a, e, wf.subT h2⟩
  | _ => cases h
/-- what a dict d tells for a key k: none if d is no dict or k no key of its kind -/
def dLook (d k : D) (m : Mem) : Option (Option D) := match d.kd? m with
  | some kvs => match k.key? with
    | some x => some (lookK kvs x)
    | none => none
  | none => match d.td? m with
    | some kvs => match k.tkey? with
      | some x => some (lookK kvs x)
      | none => none
    | none => none
theorem dLookR (wf : Wf K w H m) {d k : D} {v y : V} {r : Option D} (rd : rep K w d v) (rk : rep K w k y) (h : dLook d k m = some r) :
    ∃ a o, v = .ref a ∧ DGet H a y o ∧ IsD H a ∧ (∀ z, r = some z → ∃ u, o = some u ∧ rep K w z u) ∧ (r = none → o = none) := by
  unfold dLook at h
  cases z : d.kd? m with
  | some kvs =>
    rw [z] at h
    simp only at h
    cases z2 : k.key? with
    | none => rw [z2] at h; cases h
    | some x =>
      rw [z2] at h
      cases h
      obtain ⟨a, xs, e, h1, r1⟩ := kdR wf rd z
      have hk := keyR rk z2
      subst hk
      obtain ⟨f1, f2⟩ := r1.val x
      exact ⟨a, valV xs x, e, .inl ⟨xs, x, h1, rfl, rfl⟩, .inl ⟨xs, h1⟩, fun z e => f1 z e, f2⟩
  | none =>
    rw [z] at h
    simp only at h
    cases z3 : d.td? m with
    | none => rw [z3] at h; cases h
    | some kvs =>
      rw [z3] at h
      simp only at h
      cases z2 : k.tkey? with
      | none => rw [z2] at h; cases h
      | some x =>
        rw [z2] at h
        cases h
        obtain ⟨a, xs, e, h1, r1⟩ := tdR wf rd z3
        obtain ⟨b, rfl, hb⟩ := tkeyR wf rk z2
        obtain ⟨f1, f2⟩ := r1.val x
        exact ⟨a, valV xs x, e, .inr ⟨xs, x, b, h1, rfl, hb, rfl⟩, .inr ⟨xs, h1⟩, fun z e => f1 z e, f2⟩
end
section
variable {X : Cx} {W : WX} {a b c e o i : Expr} {pos pos' : Pos} {fa fb fc : EF}
/-! ### new ones -/
def xDNewK : EF := fun _ m => .ok (.loc m.length) (m ++ [.dK []])
def xDNewT : EF := fun _ m => .ok (.loc m.length) (m ++ [.dT []])
@[simp] theorem q_dnewK {sd : Sl} {m : Mem} : xDNewK sd m = .ok (.loc m.length) (m ++ [.dK []]) := rfl
@[simp] theorem q_dnewT {sd : Sl} {m : Mem} : xDNewT sd m = .ok (.loc m.length) (m ++ [.dT []]) := rfl
theorem new_dict {K : PySem.W.Frag} {w : Wd} {H : Hp} {m : Mem} {p : Addr} {d : D} {u : HO} (wf : Wf K w H m) (hp : H p = none) (hd : hold K (w.cell p) (upd H p u) p d) :
    Le w (w.cell p) ∧ Wf K (w.cell p) (upd H p u) (m ++ [d]) ∧ rep K (w.cell p) (.loc m.length) (.ref p) := by
  refine ⟨Le.cell, wf.new hp (fun a o h e => by rw [upd_ne h]; exact e) hd, p, rfl, ?_⟩
  show (w.adr ++ [p])[m.length]? = some p
  rw [← wf.len, List.getElem?_append_right (Nat.le_refl _), Nat.sub_self]
  rfl
theorem d_dnewK : DE X W (.Dict [] [] pos) xDNewK := pe_dnewK.weak fun σ H Q ⟨w, m, sd, wf, sl, h⟩ p hp => by
  obtain ⟨l, f, r⟩ := new_dict (d := .dK []) (u := .dK []) wf hp ⟨[], upd_same, rfl⟩
  exact h _ _ l f _ r
theorem d_dnewT : DE X W (.Dict [] [] pos) xDNewT := pe_dnewT.weak fun σ H Q ⟨w, m, sd, wf, sl, h⟩ p hp => by
  obtain ⟨l, f, r⟩ := new_dict (d := .dT []) (u := .dT []) wf hp ⟨[], upd_same, rfl⟩
  exact h _ _ l f _ r
/-! ### read -/
def oDGet : Op2 := fun d k m => match dLook d k m with
  | some (some z) => some (z, m)
  | _ => none
def oDIn (neg : Bool) : Op2 := fun k d m => match dLook d k m with
  | some r => some (.bl (if neg then !r.isSome else r.isSome), m)
  | none => none
theorem d_dget (hu : X.A.units + 1 < cLine) (ha : DE X W a fa) (hb : DE X W b fb) (hs : NoSl b := by exact fun _ _ => rfl) : DE X W (.Subscript a b pos) (xOp oDGet fa fb) :=
  (pe_dget hu ha hb hs).weak fun σ H Q ⟨w, m, sd, wf, sl, h⟩ => ⟨w, m, sd, wf, sl, h.bind.imp fun d1 m1 w1 H1 l1 wf1 h1 x rx => ⟨w1, m1, sd, wf1, sl.mono l1, h1.bind.imp fun d2 m2 w2 H2 l2 wf2 h2 y ry => by
    have q := vOk_of h2
    unfold oDGet at q
    cases z : dLook d1 d2 m2 with
    | none => rw [z] at q; exact q.elim
    | some r =>
      rw [z] at q
      obtain ⟨p, ov, rfl, g, _, f1, f2⟩ := dLookR wf2 (rx.mono l2) ry z
      cases r with
      | none => exact q.elim
      | some d =>
        obtain ⟨u, rfl, ru⟩ := f1 d rfl
        exact ⟨p, u, rfl, g, q w2 H2 u (Le.refl _) wf2 ru⟩⟩⟩
theorem s_din {K : PySem.W.Frag} {neg : Bool} (σ : L2.St) (H : Hp) (Q : VK) : eOf K W (xOp (oDIn neg) fa fb) σ H Q → (fun σ H Q => eOf K W fa σ H fun y H1 => eOf K W fb σ H1 fun x H2 => ∃ a o, x = .ref a ∧ DGet H2 a y o ∧ Q (.bl (if neg then !o.isSome else o.isSome)) H2) σ H Q :=
  fun ⟨w, m, sd, wf, sl, h⟩ => ⟨w, m, sd, wf, sl, h.bind.imp fun d1 m1 w1 H1 l1 wf1 h1 y ry => ⟨w1, m1, sd, wf1, sl.mono l1, h1.bind.imp fun d2 m2 w2 H2 l2 wf2 h2 x rx => by
    have q := vOk_of h2
    unfold oDIn at q
    cases z : dLook d2 d1 m2 with
    | none => rw [z] at q; exact q.elim
    | some r =>
      rw [z] at q
      obtain ⟨p, ov, rfl, g, _, f1, f2⟩ := dLookR wf2 rx (ry.mono l2) z
      have e : ov.isSome = r.isSome := by
        cases r with
        | none => rw [f2 rfl]; rfl
        | some d => obtain ⟨u, rfl, _⟩ := f1 d rfl; rfl
      exact ⟨p, ov, rfl, g, by rw [e]; exact q w2 H2 _ (Le.refl _) wf2 rfl⟩⟩⟩
theorem d_din (hu : X.A.units + 1 < cLine) (ha : DE X W a fa) (hb : DE X W b fb) (hk : behindInMarks .In b = false := by first | rfl | exact nobehind _ (by decide) (by decide)) : DE X W (.Compare a [.In] [b] pos) (xOp (oDIn false) fa fb) :=
  (pe_cmp (pc_din hu ha hb) hk).weak (s_din (neg := false))
theorem d_dnotin (hu : X.A.units + 1 < cLine) (ha : DE X W a fa) (hb : DE X W b fb) (hk : behindInMarks .NotIn b = false := by first | rfl | exact nobehind _ (by decide) (by decide)) : DE X W (.Compare a [.NotIn] [b] pos) (xOp (oDIn true) fa fb) :=
  (pe_cmp (pc_dnotin hu ha hb) hk).weak (s_din (neg := true))
theorem d_dinT (hu : X.A.units + 1 < cLine) (ha : DE X W a fa) (hb : DE X W b fb) (hk : behindInMarks .In b = false := by first | rfl | exact nobehind _ (by decide) (by decide)) : DT X W (.Compare a [.In] [b] pos) (xT (xOp (oDIn false) fa fb)) :=
  (pt_cmp (pc_din hu ha hb) hk).weak (s_T (s_din (neg := false)))
theorem d_dnotinT (hu : X.A.units + 1 < cLine) (ha : DE X W a fa) (hb : DE X W b fb) (hk : behindInMarks .NotIn b = false := by first | rfl | exact nobehind _ (by decide) (by decide)) : DT X W (.Compare a [.NotIn] [b] pos) (xT (xOp (oDIn true) fa fb)) :=
  (pt_cmp (pc_dnotin hu ha hb) hk).weak (s_T (s_din (neg := true)))
def xDGet2 (fa fb fc : EF) : EF := fun sd m => (fa sd m).bind fun d m1 => if (d.kd? m1).isSome || (d.td? m1).isSome then (fb sd m1).bind fun k m2 => (fc sd m2).bind fun x m3 => match dLook d k m3 with
  | some r => .ok (r.getD x) m3
  | none => .stuck
  else .stuck
@[simp] theorem q_dget2 {sd : Sl} {m : Mem} : xDGet2 fa fb fc sd m = (fa sd m).bind fun d m1 => if (d.kd? m1).isSome || (d.td? m1).isSome then (fb sd m1).bind fun k m2 => (fc sd m2).bind fun x m3 => match dLook d k m3 with
  | some r => .ok (r.getD x) m3
  | none => .stuck
  else .stuck := rfl
theorem isDR {K : PySem.W.Frag} {w : Wd} {H : Hp} {m : Mem} {d : D} {v : V} (wf : Wf K w H m) (r : rep K w d v) (h : ((d.kd? m).isSome || (d.td? m).isSome) = true) : ∃ a, v = .ref a ∧ IsD H a := by
  cases z : d.kd? m with
  | some kvs => obtain ⟨a, xs, e, h1, _⟩ := kdR wf r z; exact ⟨a, e, .inl ⟨xs, h1⟩⟩
  | none =>
    cases z2 : d.td? m with
    | some kvs => obtain ⟨a, xs, e, h1, _⟩ := tdR wf r z2; exact ⟨a, e, .inr ⟨xs, h1⟩⟩
    | none => rw [z, z2] at h; cases h
theorem d_dget2 {apos cpos : Pos} (hu : X.A.units + 1 < cLine) (ho : DE X W o fa) (hi : DE X W e fb) (hc : DE X W c fc) (M : M2 X o "get" apos e c cpos) : DE X W (.Call (.Attribute o "get" apos) [e, c] [] cpos) (xDGet2 fa fb fc) :=
  (pe_dget2 hu ho hi hc M).weak fun σ H Q ⟨w, m, sd, wf, sl, h⟩ => ⟨w, m, sd, wf, sl, h.bind.imp fun d m1 w1 H1 l1 wf1 h1 x rx => by
    by_cases q : ((d.kd? m1).isSome || (d.td? m1).isSome) = true
    · rw [if_pos q] at h1
      obtain ⟨p, rfl, hd⟩ := isDR wf1 rx q
      refine ⟨p, rfl, hd, w1, m1, sd, wf1, sl.mono l1, h1.bind.imp fun k m2 w2 H2 l2 wf2 h2 y ry => ⟨w2, m2, sd, wf2, (sl.mono l1).mono l2, h2.bind.imp fun z m3 w3 H3 l3 wf3 h3 u ru => ?_⟩⟩
      cases t : dLook d k m3 with
      | none => simp only [t] at h3; exact h3.elim
      | some r =>
        simp only [t] at h3
        obtain ⟨p', ov, e1, g, _, f1, f2⟩ := dLookR wf3 ((rx.mono l2).mono l3) (ry.mono l3) t
        cases e1
        refine ⟨ov, g, h3 w3 H3 (Le.refl _) wf3 _ ?_⟩
        cases r with
        | none => rw [f2 rfl]; exact ru
        | some d' => obtain ⟨u', rfl, ru'⟩ := f1 d' rfl; exact ru'
    · rw [if_neg q] at h1; exact h1.elim⟩
/-! ### stored -/
def dPut (d k v : D) (m : Mem) : Option Mem := match d with
  | .loc n => match m[n]? with
    | some (.dK kvs) => match k.key? with
      | some x => if kvs.length < big then some (m.set n (.dK (putKD kvs x v))) else none
      | none => none
    | some (.dT kvs) => match k.tkey? with
      | some x => if kvs.length < big then some (m.set n (.dT (putKD kvs x v))) else none
      | none => none
    | _ => none
  | _ => none
theorem dPutR {K : PySem.W.Frag} {w : Wd} {H : Hp} {m m' : Mem} {d k z : D} {v y u : V} (wf : Wf K w H m) (rd : rep K w d v) (rk : rep K w k y) (rz : rep K w z u) (h : dPut d k z m = some m') :
    ∃ a H4, v = .ref a ∧ DPut H a y u H4 ∧ Wf K w H4 m' := by
  cases d with
  | loc n =>
    have h' : (match m[n]? with
      | some (.dK kvs) => match k.key? with
        | some x => if kvs.length < big then some (m.set n (.dK (putKD kvs x z))) else none
        | none => none
      | some (.dT kvs) => match k.tkey? with
        | some x => if kvs.length < big then some (m.set n (.dT (putKD kvs x z))) else none
        | none => none
      | _ => none) = some m' := h
    cases t : m[n]? with
    | none => rw [t] at h'; cases h'
    | some cc =>
      rw [t] at h'
      obtain ⟨a, e, ha, hold⟩ := wf.at rd t
      cases cc with
      | dK kvs =>
        have h2 : (match k.key? with
          | some x => if kvs.length < big then some (m.set n (.dK (putKD kvs x z))) else none
          | none => none) = some m' := h'
        cases t2 : k.key? with
        | none => rw [t2] at h2; cases h2
        | some x =>
          rw [t2] at h2
          have h3 : (if kvs.length < big then some (m.set n (.dK (putKD kvs x z))) else none) = some m' := h2
          by_cases q : kvs.length < big
          · rw [if_pos q] at h3
            cases h3
            obtain ⟨xs, e1, r1⟩ := hold
            have r1' := repk_g.mp r1
            have hk := keyR rk t2
            subst hk
            refine ⟨a, _, e, .inl ⟨xs, x, e1, rfl, big_lt (by rw [r1'.len]; exact q), rfl⟩, ?_⟩
            exact wf.put ha (fun b hb _ => upd_ne hb) ⟨_, upd_same, repk_g.mpr (r1'.put rz)⟩
          · rw [if_neg q] at h3; cases h3
      | dT kvs =>
        have h2 : (match k.tkey? with
          | some x => if kvs.length < big then some (m.set n (.dT (putKD kvs x z))) else none
          | none => none) = some m' := h'
        cases t2 : k.tkey? with
        | none => rw [t2] at h2; cases h2
        | some x =>
          rw [t2] at h2
          have h3 : (if kvs.length < big then some (m.set n (.dT (putKD kvs x z))) else none) = some m' := h2
          by_cases q : kvs.length < big
          · rw [if_pos q] at h3
            cases h3
            obtain ⟨xs, e1, r1⟩ := hold
            have r1' := rept_g.mp r1
            obtain ⟨b, rfl, hb⟩ := tkeyR wf rk t2
            refine ⟨a, _, e, .inr ⟨xs, x, b, e1, rfl, hb, big_lt (by rw [r1'.len]; exact q), rfl⟩, ?_⟩
            exact wf.put ha (fun b hb _ => upd_ne hb) ⟨_, upd_same, rept_g.mpr (r1'.put rz)⟩
          · rw [if_neg q] at h3; cases h3
      | _ => cases h'
  | _ => cases h
def sDPutD (fo fi fv : EF) : SF := fun sd m => SR.ofR sd (fv sd m) fun v m1 => SR.ofR sd (fo sd m1) fun d m2 => SR.ofR sd (fi sd m2) fun k m3 => match dPut d k v m3 with
  | some m4 => .nx sd m4
  | none => .stuck
@[simp] theorem q_dput {sd : Sl} {m : Mem} : sDPutD fa fb fc sd m = SR.ofR sd (fc sd m) fun v m1 => SR.ofR sd (fa sd m1) fun d m2 => SR.ofR sd (fb sd m2) fun k m3 => match dPut d k v m3 with
  | some m4 => .nx sd m4
  | none => .stuck := rfl
theorem ds_dput (hu : X.A.units + 1 < cLine) (ho : DE X W o fa) (hi : DE X W i fb) (hv : DE X W e fc) (hs : swapsWith e (some (.Subscript o i pos')) pos.line X.env = pure false := by rfl) : DS X W (.Assign [.Subscript o i pos'] e pos) (sDPutD fa fb fc) :=
  (ps_dput hu ho hi hv hs).weak fun En σ H ⟨w, m, sd, wf, sl, h⟩ => ⟨w, m, sd, wf, sl, (sOk.ofR sl h).imp fun v m1 w1 H1 l1 wf1 h1 vv rv => ⟨w1, m1, sd, wf1, sl.mono l1, (sOk.ofR (sl.mono l1) h1).imp fun d m2 w2 H2 l2 wf2 h2 x rx => ⟨w2, m2, sd, wf2, (sl.mono l1).mono l2, (sOk.ofR ((sl.mono l1).mono l2) h2).imp fun k m3 w3 H3 l3 wf3 h3 y ry => by
    cases t : dPut d k v m3 with
    | none => simp only [t] at h3; exact h3.elim
    | some m4 =>
      simp only [t] at h3
      obtain ⟨a, H4, rfl, g, f⟩ := dPutR wf3 (rx.mono l3) ry ((rv.mono l2).mono l3) t
      exact ⟨a, H4, rfl, g, h3 w3 H4 σ (Le.refl _) f (((sl.mono l1).mono l2).mono l3)⟩⟩⟩⟩
end
end Dl

set_option Elab.async false
set_option linter.all false
set_option maxRecDepth 100000
set_option maxHeartbeats 4000000
/-! DWalk: loops and comprehensions over anything that hands out a fixed list of items: keys of a dict, reversed, zip. -/
namespace Dl
open PySem PySem.Spec PyProof.Rows L2 RT RZ
/-- J hands out the items of l, from world w1 on -/
structure WalkD (K : PySem.W.Frag) (w1 : Wd) (J : It) (l : List D) : Prop where
  go : ∀ i w H m, Le w1 w → Wf K w H m → i < l.length → J.go i H
  stop : ∀ i w H m, Le w1 w → Wf K w H m → i = l.length → J.stop i H
  yld : ∀ i w H m d x H', Le w1 w → Wf K w H m → l[i]? = some d → J.yld i H x H' → ∃ w', Le w w' ∧ Wf K w' H' m ∧ rep K w' d x
abbrev IF := Sl → Mem → R (List D)
def iOf (K : PySem.W.Frag) (W : WX) (f : IF) : TI := fun σ H R' => ∃ w m sd, Wf K w H m ∧ slR K w sd σ ∧ rOk K W σ w (f sd m) fun l _ w1 H1 => ∃ J, WalkD K w1 J l ∧ R' J H1
/-- the walked thing, told for whatever is done with it -/
def DI (X : Cx) (W : WX) (tg it : Expr) (f : IF) : Prop := ∃ wi : TI, PI X tg it wi ∧ ∀ σ H (R' : It → Hp → Prop), (∃ w m sd, Wf X.K w H m ∧ slR X.K w sd σ ∧ rOk X.K W σ w (f sd m) fun l _ w1 H1 => ∀ J, WalkD X.K w1 J l → R' J H1) → wi σ H R'
section
variable {X : Cx} {W : WX} {tg it : Expr} {g : GF} {b : SF} {body : List Stmt} {pos : Pos} {f : IF} {fa fb : EF}
theorem overJ {K : PySem.W.Frag} {En : Ends} {w1 : Wd} {sd : Sl} {m1 : Mem} {σ : L2.St} {H1 : Hp} {l : List D} {J : It} (hJ : WalkD K w1 J l) (sl : slR K w1 sd σ) (wf1 : Wf K w1 H1 m1) (h1 : sOk K W w1 (forD g b l sd m1) En) :
      ∃ Wi : Nat → Nat → L2.St → Hp → Prop, (∃ m, Wi 0 m σ H1) ∧ ∀ i m σ H, Wi i m σ H →
        (J.stop i H ∧ En.nx σ H) ∨ (J.go i H ∧ ∃ N : L2.St → Hp → Prop, (∀ σ' H', N σ' H' → ∃ m', m' < m ∧ Wi (i + 1) m' σ' H') ∧ ∀ x H', J.yld i H x H' → gOf K g x σ H' fun σ2 H2 => sOf K W b { En with nx := N, ct := N, bk := En.nx } σ2 H2) := by
  refine ⟨fun i k σ H => k = l.length - i ∧ i ≤ l.length ∧ Mid K W w1 En (fun sd m => forD g b (l.drop i) sd m) σ H, ⟨l.length, by omega, Nat.zero_le _, w1, m1, sd, Le.refl _, wf1, sl, by rw [List.drop_zero]; exact h1⟩, ?_⟩
  rintro i k σ2 H2 ⟨hk, hi, w2, m2, sd2, l2, wf2, sl2, h2⟩
  by_cases q : i = l.length
  · refine .inl ⟨hJ.stop i w2 H2 m2 l2 wf2 q, ?_⟩
    have e : l.drop i = [] := List.drop_eq_nil_of_le (by omega)
    rw [e] at h2
    exact h2 w2 H2 σ2 (Le.refl _) wf2 sl2
  · have hlt : i < l.length := by omega
    have hx := List.getElem?_eq_getElem hlt
    rw [drop_get hx] at h2
    refine .inr ⟨hJ.go i w2 H2 m2 l2 wf2 hlt, Mid K W w1 En (fun sd m => forD g b (l.drop (i + 1)) sd m), fun σ' H' p => ⟨l.length - (i + 1), by omega, rfl, by omega, p⟩, fun x H' hy => ?_⟩
    obtain ⟨w3, l3, wf3, rx⟩ := hJ.yld i w2 H2 m2 _ x H' l2 wf2 hx hy
    exact turn_step (l2.trans l3) wf3 (sl2.mono l3) rx (h2.mono l3)
def sForI (f : IF) (g : GF) (b : SF) : SF := fun sd m => SR.ofR sd (f sd m) fun l m1 => forD g b l sd m1
@[simp] theorem q_forI {sd : Sl} {m : Mem} : sForI f g b sd m = SR.ofR sd (f sd m) fun l m1 => forD g b l sd m1 := rfl
theorem ds_forI (hp : PassesOwn (model X.prog X.w) X.A X.env X.xe) (hc : X.calm = true) (hi : DI X W tg it f) (hg : DG X tg g) (hb : DSs X W body b)
    (hs : ∀ x, foldedSetIterable it X.env x = pure x := by intro _; rfl) : DS X W (.For tg it body [] pos) (sForI f g b) := by
  obtain ⟨wi, h1, h2⟩ := hi
  refine (ps_for hp hc h1 hg hb hs).weak fun En σ H ⟨w, m, sd, wf, sl, h⟩ => h2 σ H _ ⟨w, m, sd, wf, sl, ?_⟩
  exact (sOk.ofR sl h).imp fun l m1 w1 H1 l1 wf1 h3 J hJ => overJ hJ (sl.mono l1) wf1 h3
/-! comprehensions -/
variable {elt : Expr} {ifs : List Expr} {scope : Scope} {own : List (Str × Nat)} {t : TF} {fe : EF} {gR : TG} {gd : OF} {vs : List Nat}
def xLcI (po : Post) (vs : List Nat) (src : IF) (gd : OF) (t : TF) (e : EF) : EF := fun sd m => (src sd m).bind fun l m1 => po m1 (lcEnd m1.length (lcD vs gd t e m1.length sd l (m1 ++ [.lst []])))
@[simp] theorem q_lcI {sd : Sl} {m : Mem} (po : Post) : xLcI po vs f gd t fe sd m = (f sd m).bind fun l m1 => po m1 (lcEnd m1.length (lcD vs gd t fe m1.length sd l (m1 ++ [.lst []]))) := rfl
theorem lcJ {K : PySem.W.Frag} {σ : L2.St} {w1 : Wd} {H1 : Hp} {m1 : Mem} {sd : Sl} {l : List D} {J : It} {Q : VK} (ow : OwnT K vs gR gd) (hJ : WalkD K w1 J l) (sl : slR K w1 sd σ) (wf1 : Wf K w1 H1 m1)
    (h1 : rOk K W σ w1 (lcEnd m1.length (lcD vs gd t fe m1.length sd l (m1 ++ [.lst []]))) (eK K Q)) :
    ∀ D, H1 D = none → ∃ Wi : Nat → Nat → Hp → Prop, (∃ m, Wi 0 m (upd H1 D (.lst []))) ∧ ∀ i m H, Wi i m H →
      (J.stop i H ∧ Q (.ref D) H) ∨ (J.go i H ∧ ∃ Nx : Hp → Prop, (∀ H', Nx H' → ∃ m', m' < m ∧ Wi (i + 1) m' H') ∧ ∀ x H', J.yld i H x H' → gR x (wipe σ vs) H' fun σ2 H2 => wipe σ2 vs = wipe σ vs ∧ tOf K W0 t σ2 H2 fun b H3 =>
        if b = true then eOf K W0 fe σ2 H3 fun y H4 => ∃ acc, H4 D = some (.lst acc) ∧ acc.length < sizeLine ∧ Nx (upd H4 D (.lst (acc ++ [y]))) else Nx H3) := by
  intro p hpn
  obtain ⟨wf2, hp⟩ := lc_start wf1 hpn
  obtain ⟨m2, e2, q2⟩ := lc_end (w := w1) hp (h1.mono (Le.cell (p := p)))
  refine ⟨fun i k H => k = l.length - i ∧ i ≤ l.length ∧ LcI K (w1.cell p) (fun H => Q (.ref p) H) (fun m => lcD vs gd t fe m1.length sd (l.drop i) m) H, ⟨l.length, by omega, Nat.zero_le _, _, _, m2, Le.refl _, wf2, by rw [List.drop_zero]; exact e2, q2⟩, ?_⟩
  rintro i k H3 ⟨hk, hi, w3, m3, m4, l3, wf3, e3, q3⟩
  by_cases q : i = l.length
  · refine .inl ⟨hJ.stop i w3 H3 m3 (Le.cell.trans l3) wf3 q, ?_⟩
    have e : l.drop i = [] := List.drop_eq_nil_of_le (by omega)
    rw [e] at e3
    cases e3
    exact q3 w3 H3 (Le.refl _) wf3
  · have hlt : i < l.length := by omega
    have hx := List.getElem?_eq_getElem hlt
    rw [drop_get hx] at e3
    refine .inr ⟨hJ.go i w3 H3 m3 (Le.cell.trans l3) wf3 hlt, LcI K (w1.cell p) (fun H => Q (.ref p) H) (fun m => lcD vs gd t fe m1.length sd (l.drop (i + 1)) m), fun H' z => ⟨l.length - (i + 1), by omega, rfl, by omega, z⟩, fun x H' hy => ?_⟩
    obtain ⟨w5, l5, wf5, rx⟩ := hJ.yld i w3 H3 m3 _ x H' (Le.cell.trans l3) wf3 hx hy
    exact lc_turn ow hp (l3.trans l5) wf5 (sl.mono (Le.cell.trans (l3.trans l5))) rx e3 fun w' H'' l' f' => q3 w' H'' (l5.trans l') f'
theorem s_lcI {po : Post} (hpo : PostOk po) (ow : OwnT X.K vs gR gd) {wi : TI} (h2 : ∀ σ H (R' : It → Hp → Prop), (∃ w m sd, Wf X.K w H m ∧ slR X.K w sd σ ∧ rOk X.K W σ w (f sd m) fun l _ w1 H1 => ∀ J, WalkD X.K w1 J l → R' J H1) → wi σ H R')
    (σ : L2.St) (H : Hp) (Q : VK) : eOf X.K W (xLcI po vs f gd t fe) σ H Q → tLc wi gR (tOf X.K W0 t) (eOf X.K W0 fe) vs σ H Q := fun ⟨w, m, sd, wf, sl, h⟩ =>
  h2 σ H _ ⟨w, m, sd, wf, sl, h.bind.imp fun l m1 w1 H1 l1 wf1 h3 J hJ => lcJ (W := W) ow hJ (sl.mono l1) wf1 (hpo wf1 h3)⟩
theorem d_lcI {po : Post} (hpo : PostOk po) (hc : X.calm = true) (hN : X.N.Nodup) (hi : DI X W tg it f) (ok : BlkOk X.N X.env.scope scope own) (ow : OwnT X.K (own.map (·.2)) gR gd)
    (hg : ∀ (s : Shared) (H : Hp) (C : Addr) (cl : List (Str × Addr)) (fp : List Addr), PG (X.blk s H scope (compEnvC scope cl C X.env) fp) tg gR)
    (ht : ∀ (s : Shared) (H : Hp) (C : Addr) (cl : List (Str × Addr)) (fp : List Addr), PTs (X.blk s H scope (compEnvC scope cl C X.env) fp) ifs (tOf X.K W0 t))
    (he : ∀ (s : Shared) (H : Hp) (C : Addr) (cl : List (Str × Addr)) (fp : List Addr), DE (X.blk s H scope (compEnvC scope cl C X.env) fp) W0 elt fe) (hs : ∀ x, foldedSetIterable it X.env x = pure x := by intro _; rfl) :
    DE X W (.ListComp elt [⟨tg, it, ifs, 0⟩] scope pos) (xLcI po (own.map (·.2)) f gd t fe) := by
  obtain ⟨wi, h1, h2⟩ := hi
  exact (pe_lc hc hN h1 ok hg ht he hs).weak (s_lcI (X := X) hpo ow h2)
theorem ds_setLcI {po : Post} {i : Nat} {y : Str} {py spos : Pos} (hpo : PostOk po) (hc : X.calm = true) (hN : X.N.Nodup) (hy : X.N[i]? = some y) (hyl : X.env.scope.names.lookup y = some .local)
    (hsw : swapsWith (.ListComp elt [⟨tg, it, ifs, 0⟩] scope pos) (some (.Name y py)) spos.line X.env = pure true) (hi : DI X W tg it f) (ok : BlkOk X.N X.env.scope scope own) (ow : OwnT X.K (own.map (·.2)) gR gd)
    (hg : ∀ (s : Shared) (H : Hp) (C : Addr) (cl : List (Str × Addr)) (fp : List Addr), PG (X.blk s H scope (compEnvC scope cl C X.env) fp) tg gR)
    (ht : ∀ (s : Shared) (H : Hp) (C : Addr) (cl : List (Str × Addr)) (fp : List Addr), PTs (X.blk s H scope (compEnvC scope cl C X.env) fp) ifs (tOf X.K W0 t))
    (he : ∀ (s : Shared) (H : Hp) (C : Addr) (cl : List (Str × Addr)) (fp : List Addr), DE (X.blk s H scope (compEnvC scope cl C X.env) fp) W0 elt fe) (hs : ∀ x, foldedSetIterable it X.env x = pure x := by intro _; rfl) :
    DS X W (.Assign [.Name y py] (.ListComp elt [⟨tg, it, ifs, 0⟩] scope pos) spos) (sAsg (xLcI po (own.map (·.2)) f gd t fe) (tgN i)) := by
  obtain ⟨wi, h1, h2⟩ := hi
  refine (ps_setLc (te := eOf X.K W0 fe) (tt := tOf X.K W0 t) hc hN hy hyl hsw h1 ok hg ht he hs).weak fun En σ H q => ?_
  have h := s_asg (K := X.K) (W := W) (t := gName i) (fun v σ H Q ⟨w, m, sd, d, wf, sl, r, q⟩ => q w H _ (Le.refl _) wf (slR.set r i sl)) En σ H q
  exact s_lcI (X := X) hpo ow h2 σ H _ h
/-! ### a dict, locked from now on -/
def tFz (t : TE) : TE := fun σ H Q => t σ H fun v H1 => ∃ a u, v = .ref a ∧ ((∃ od, H1 a = some (.frz od u) ∧ Q v H1) ∨ (H1 a = some u ∧ Mut (some u) ∧ ∀ od, Q v (upd H1 a (.frz od u))))
theorem pe_frz {e : Expr} {t : TE} (h : PE X e t) : PE X e (tFz t) := by
  refine ⟨fun pins s σ H Q I hw => thn (h.run pins s σ H _ I hw) fun v s1 ⟨x, H1, I1, r, a, u, e, q⟩ => ?_⟩
  rcases q with ⟨od, _, q⟩ | ⟨hd, mu, q⟩
  · exact ⟨x, H1, I1, r, q⟩
  · obtain ⟨od, I2⟩ := I1.lock hd mu
    exact ⟨x, _, I2, r, q od⟩
/-- the world that knows the lock -/
def Wd.lock (w : Wd) (a : Addr) (od : Obj) (u : HO) : Wd := ⟨upd w.c a (.frz od u), w.adr⟩
theorem Le.lock {w : Wd} {a : Addr} {od : Obj} {u : HO} (h : w.c a = some u) (hd : isDict u = true) : Le w (w.lock a od u) := by
  refine ⟨fun p o e => ?_, List.prefix_refl _⟩
  by_cases q : p = a
  · subst q
    rw [h] at e
    cases e
    exact .inr ⟨hd, od, upd_same⟩
  · exact .inl (by show upd w.c a _ p = _; rw [upd_ne q]; exact e)
theorem Wf.lockW {K : PySem.W.Frag} {w : Wd} {H : Hp} {m : Mem} {a : Addr} {od : Obj} {u : HO} (W : Wf K w H m) (h : w.c a = some u) (hd : isDict u = true) {H' : Hp} (ha : H' a = some (.frz od u)) (hn : ∀ p, p ≠ a → H' p = H p) : Wf K (w.lock a od u) H' m := by
  have ne : ∀ p ∈ w.adr, p ≠ a := fun p hp z => by
    have := W.out p hp
    rw [z, h] at this
    cases this
  refine ⟨fun p o e => ?_, W.len, W.nd, fun p hp => ?_, fun n p d e1 e2 => ?_⟩
  · have e' : upd w.c a (.frz od u) p = some o := e
    by_cases q : p = a
    · subst q
      rw [upd_same] at e'
      cases e'
      exact .inl ha
    · rw [upd_ne q] at e'
      rw [hn p q]
      exact W.sub p o e'
  · show upd w.c a _ p = none
    rw [upd_ne (ne p hp)]
    exact W.out p hp
  · have hp : p ∈ w.adr := List.mem_of_getElem? e1
    exact hold.mono (Le.lock h hd) (fun o q => by rw [hn p (ne p hp)]; exact q) (W.cell n p d e1 e2)
theorem hold_noT {K : PySem.W.Frag} {w : Wd} {H : Hp} {a : Addr} {xs : List V} (h : H a = some (.tup xs)) : ∀ {d : D}, hold K w H a d → False
  | .lst _, ⟨ys, e, _⟩ => by rw [h] at e; cases e
  | .ins _ _, ⟨dx, ys, e, _⟩ => by rw [h] at e; cases e
  | .dK _, ⟨ys, e, _⟩ => by rw [h] at e; cases e
  | .dT _, ⟨ys, e, _⟩ => by rw [h] at e; cases e
  | .lk (.dK _), ⟨o, ys, e, _⟩ => by rw [h] at e; cases e
  | .lk (.dT _), ⟨o, ys, e, _⟩ => by rw [h] at e; cases e
/-- a tuple that stands there, known from now on -/
theorem know_tup {K : PySem.W.Frag} {w : Wd} {H : Hp} {m : Mem} {q : Addr} {xs : List V} (W : Wf K w H m) (h : H q = some (.tup xs)) : ∃ w', Le w w' ∧ Wf K w' H m ∧ w'.c q = some (.tup xs) := by
  have nq : q ∉ w.adr := fun z => by
    obtain ⟨n, hn, e⟩ := List.getElem_of_mem z
    have e1 : w.adr[n]? = some q := by rw [List.getElem?_eq_getElem hn, e]
    have hm : n < m.length := by rw [← W.len]; exact hn
    exact hold_noT h (W.cell n q m[n] e1 (List.getElem?_eq_getElem hm))
  cases z : w.c q with
  | some o =>
    have e : o = .tup xs := by
      rcases W.sub q o z with z2 | ⟨_, od, z2⟩
      · rw [h] at z2; cases z2; rfl
      · rw [h] at z2; cases z2
    subst e
    exact ⟨w, Le.refl _, W, z⟩
  | none =>
    have l : Le w ⟨upd w.c q (.tup xs), w.adr⟩ := ⟨fun a o e => .inl (by show upd w.c q _ a = _; rw [upd_ne (ne_of_none e z)]; exact e), List.prefix_refl _⟩
    refine ⟨⟨upd w.c q (.tup xs), w.adr⟩, l, ⟨fun a o e => ?_, W.len, W.nd, fun a ha => ?_, fun n a d e1 e2 => (W.cell n a d e1 e2).mono l fun _ q => q⟩, upd_same⟩
    · have e' : upd w.c q (.tup xs) a = some o := e
      by_cases p : a = q
      · subst p; rw [upd_same] at e'; cases e'; exact .inl h
      · rw [upd_ne p] at e'; exact W.sub a o e'
    · show upd w.c q _ a = none
      rw [upd_ne fun p => nq (by rw [← p]; exact ha)]
      exact W.out a ha
def keyD : Key → D
  | .inl i => .int i
  | .inr s => .str s
theorem keyD_rep {K : PySem.W.Frag} {w : Wd} (k : Key) : rep K w (keyD k) (kV k) := by cases k <;> rfl
theorem keyD_reps {K : PySem.W.Frag} {w : Wd} : ∀ (ks : List Key), reps K w (ks.map keyD) (ks.map kV)
  | [] => rfl
  | k :: ks => ⟨_, _, rfl, keyD_rep k, keyD_reps ks⟩
theorem repg.get {K : PySem.W.Frag} {w : Wd} {κ : Type} : ∀ {ds : List (κ × D)} {xs : List (κ × V)} {i : Nat} {k : κ} {v : V}, repg K w ds xs → xs[i]? = some (k, v) → ∃ d, ds[i]? = some (k, d) ∧ rep K w d v
  | [], _, i, k, v, h, e => by cases h; simp at e
  | (f, d) :: ds, _, 0, k, v, ⟨y, ys, e0, h, r⟩, e => by subst e0; simp at e; obtain ⟨rfl, rfl⟩ := e; exact ⟨d, rfl, h⟩
  | (f, d) :: ds, _, i + 1, k, v, ⟨y, ys, e0, h, r⟩, e => by subst e0; simp at e; obtain ⟨d', e1, r1⟩ := repg.get r e; exact ⟨d', by simpa using e1, r1⟩
theorem repg.len' {K : PySem.W.Frag} {w : Wd} {κ : Type} : ∀ {ds : List (κ × D)} {xs : List (κ × V)}, repg K w ds xs → xs.length = ds.length
  | [], _, h => by cases h; rfl
  | (_, _) :: ds, _, ⟨y, ys, e, _, r⟩ => by rw [e, List.length_cons, List.length_cons, repg.len' r]
theorem walk_keys {K : PySem.W.Frag} {w0 w1 : Wd} {a : Addr} {od : Obj} {kvs : List (Key × D)} {xs : List (Key × V)} (h : w1.c a = some (.frz od (.dK xs))) (r : repg K w0 kvs xs) : WalkD K w1 (Itk a od xs) (kvs.map fun p => keyD p.1) := by
  have len := r.len'
  refine ⟨fun i w H m l f hi => ⟨f.subF (l.c _ _ h), by rw [List.length_map] at hi; omega⟩, fun i w H m l f hi => ⟨f.subF (l.c _ _ h), by rw [List.length_map] at hi; omega⟩, fun i w H m d x H' l f hd ⟨e, k, v, e1, e2⟩ => ?_⟩
  subst e e2
  obtain ⟨d', e3, _⟩ := r.get e1
  rw [List.getElem?_map, e3] at hd
  cases hd
  exact ⟨w, Le.refl _, f, keyD_rep k⟩
theorem walk_keysT {K : PySem.W.Frag} {w0 w1 : Wd} {a : Addr} {od : Obj} {kvs : List (List Key × D)} {xs : List (List Key × V)} (h : w1.c a = some (.frz od (.dT xs))) (r : repg K w0 kvs xs) : WalkD K w1 (Itkt a od xs) (kvs.map fun p => D.tup (p.1.map keyD)) := by
  have len := r.len'
  refine ⟨fun i w H m l f hi => ⟨f.subF (l.c _ _ h), by rw [List.length_map] at hi; omega⟩, fun i w H m l f hi => ⟨f.subF (l.c _ _ h), by rw [List.length_map] at hi; omega⟩, fun i w H m d x H' l f hd ⟨e, k, v, q, e1, e2, e4⟩ => ?_⟩
  subst e e2
  obtain ⟨d', e3, _⟩ := r.get e1
  rw [List.getElem?_map, e3] at hd
  cases hd
  obtain ⟨w', l', f', hc⟩ := know_tup f e4
  exact ⟨w', l', f', q, _, rfl, hc, keyD_reps k⟩
def xKeysI (fa : EF) : IF := fun sd m => (fa sd m).bind fun d m1 => match d with
  | .dK kvs => .ok (kvs.map fun p => keyD p.1) m1
  | .dT kvs => .ok (kvs.map fun p => D.tup (p.1.map keyD)) m1
  | _ => .stuck
@[simp] theorem q_keysI {sd : Sl} {m : Mem} : xKeysI fa sd m = (fa sd m).bind fun d m1 => match d with
  | .dK kvs => .ok (kvs.map fun p => keyD p.1) m1
  | .dT kvs => .ok (kvs.map fun p => D.tup (p.1.map keyD)) m1
  | _ => .stuck := rfl
theorem lock_cases {K : PySem.W.Frag} {w : Wd} {H : Hp} {m : Mem} {a : Addr} {u : HO} (wf : Wf K w H m) (h : dkC w a u) (hd : isDict u = true) (mu : Mut (some u)) (P : Hp → Prop)
    (k : ∀ (od : Obj) (w' : Wd) (H' : Hp), Le w w' → Wf K w' H' m → w'.c a = some (.frz od u) → H' a = some (.frz od u) → P H') : (∃ od, H a = some (.frz od u) ∧ P H) ∨ (H a = some u ∧ Mut (some u) ∧ ∀ od, P (upd H a (.frz od u))) := by
  rcases h with h | ⟨od, h⟩
  · rcases wf.sub _ _ h with z | ⟨_, od, z⟩
    · exact .inr ⟨z, mu, fun od => k od _ _ (Le.lock h hd) (wf.lockW (od := od) h hd upd_same fun p hp => upd_ne hp) upd_same upd_same⟩
    · exact .inl ⟨od, z, k od _ _ (Le.lock h hd) (wf.lockW h hd z fun _ _ => rfl) upd_same z⟩
  · exact .inl ⟨od, wf.subF h, k od w H (Le.refl _) wf h (wf.subF h)⟩
theorem di_keys {e : Expr} (he : DE X W e fa) : DI X W tg e (xKeysI fa) := by
  refine ⟨_, pi_keys (pe_frz he), fun σ H R' ⟨w, m, sd, wf, sl, h⟩ => ?_⟩
  show tFz (eOf X.K W fa) σ H _
  refine ⟨w, m, sd, wf, sl, h.bind.imp fun d m1 w1 H1 l1 wf1 h1 v rv => ?_⟩
  cases d with
  | dK kvs =>
    obtain ⟨a, xs, rfl, hc, r⟩ := rv
    refine ⟨a, .dK xs, rfl, lock_cases wf1 hc rfl trivial (fun H1 => ∃ d o, (V.ref a : V) = .ref d ∧ ((∃ kvs, H1 d = some (.frz o (.dK kvs)) ∧ R' (Itk d o kvs) H1) ∨ ∃ kvs, H1 d = some (.frz o (.dT kvs)) ∧ R' (Itkt d o kvs) H1)) fun od w2 H2 l2 wf2 hc2 hH2 => ⟨a, od, rfl, .inl ⟨xs, hH2, h1 w2 H2 l2 wf2 _ (walk_keys hc2 (repk_g.mp r))⟩⟩⟩
  | dT kvs =>
    obtain ⟨a, xs, rfl, hc, r⟩ := rv
    refine ⟨a, .dT xs, rfl, lock_cases wf1 hc rfl trivial (fun H1 => ∃ d o, (V.ref a : V) = .ref d ∧ ((∃ kvs, H1 d = some (.frz o (.dK kvs)) ∧ R' (Itk d o kvs) H1) ∨ ∃ kvs, H1 d = some (.frz o (.dT kvs)) ∧ R' (Itkt d o kvs) H1)) fun od w2 H2 l2 wf2 hc2 hH2 => ⟨a, od, rfl, .inr ⟨xs, hH2, h1 w2 H2 l2 wf2 _ (walk_keysT hc2 (rept_g.mp r))⟩⟩⟩
  | _ => exact h1.elim
/-! ### reversed(xs), a list or tuple that stays -/
def D.fro? : D → Option (List D × Bool)
  | .tup l => some (l, true)
  | .ctup l => some (l, true)
  | .lst l => some (l, false)
  | _ => none
theorem froR {K : PySem.W.Frag} {w : Wd} {d : D} {v : V} {l : List D} {k : Bool} (r : rep K w d v) (h : d.fro? = some (l, k)) :
    ∃ a xs, v = .ref a ∧ reps K w l xs ∧ (∀ w2 H2 m2, Le w w2 → Wf K w2 H2 m2 → if k = true then SqT K H2 a xs else SqL K H2 a xs) := by
  cases d with
  | tup l =>
    cases h
    obtain ⟨a, xs, e, h2, r2⟩ := r
    exact ⟨a, xs, e, r2, fun w2 H2 m2 l f => by rw [if_pos rfl]; exact .of (f.subT (l.c _ _ h2))⟩
  | ctup l =>
    cases h
    obtain ⟨a, xs, e, h2, r2⟩ := r
    exact ⟨a, xs, e, r2, fun w2 H2 m2 l f => by rw [if_pos rfl]; exact h2 H2⟩
  | lst l =>
    cases h
    obtain ⟨a, xs, e, h2, r2⟩ := r
    exact ⟨a, xs, e, r2, fun w2 H2 m2 l f => by rw [if_neg (by decide)]; exact .of (f.subL (l.c _ _ h2))⟩
  | _ => cases h
theorem rev_at {l : List D} {xs : List V} {K : PySem.W.Frag} {w : Wd} (r : reps K w l xs) {i : Nat} {d : D} {x : V} (hd : l.reverse[i]? = some d) (hx : xs[xs.length - 1 - i]? = some x) : rep K w d x := by
  have len := r.length
  have hi : i < l.length := by
    have := (List.getElem?_eq_some_iff.mp hd).1
    rwa [List.length_reverse] at this
  rw [List.getElem?_reverse hi] at hd
  obtain ⟨v, e1, r1⟩ := r.get hd
  rw [← len, hx] at e1
  cases e1
  exact r1
theorem walk_rev {K : PySem.W.Frag} {w0 w1 : Wd} {a : Addr} {l : List D} {xs : List V} (r : reps K w0 l xs) (l0 : Le w0 w1) (h : ∀ w2 H2 m2, Le w1 w2 → Wf K w2 H2 m2 → SqL K H2 a xs) : WalkD K w1 (Itv K a xs.length) l.reverse := by
  have len := r.length
  refine ⟨fun i w H m le f hi => ?_, fun i w H m le f hi => ?_, fun i w H m d x H' le f hd ⟨e, e1⟩ => ?_⟩
  · rw [List.length_reverse] at hi
    have hx : xs.length - 1 - i < xs.length := by omega
    exact ⟨by omega, xs, xs[xs.length - 1 - i], h w H m le f, List.getElem?_eq_getElem hx⟩
  · rw [List.length_reverse] at hi
    show xs.length ≤ i
    omega
  · subst e
    exact ⟨w, Le.refl _, f, (rev_at r hd (e1 xs (h w H' m le f))).mono (l0.trans le)⟩
theorem walk_revT {K : PySem.W.Frag} {w0 w1 : Wd} {a : Addr} {l : List D} {xs : List V} (r : reps K w0 l xs) (l0 : Le w0 w1) (h : ∀ w2 H2 m2, Le w1 w2 → Wf K w2 H2 m2 → SqT K H2 a xs) : WalkD K w1 (ItvT K a xs.length) l.reverse := by
  have len := r.length
  refine ⟨fun i w H m le f hi => ?_, fun i w H m le f hi => ?_, fun i w H m d x H' le f hd ⟨e, e1⟩ => ?_⟩
  · rw [List.length_reverse] at hi
    have hx : xs.length - 1 - i < xs.length := by omega
    exact ⟨by omega, xs, xs[xs.length - 1 - i], h w H m le f, List.getElem?_eq_getElem hx⟩
  · rw [List.length_reverse] at hi
    show xs.length ≤ i
    omega
  · subst e
    exact ⟨w, Le.refl _, f, (rev_at r hd (e1 xs (h w H' m le f))).mono (l0.trans le)⟩
def xRevI (fa : EF) : IF := fun sd m => (fa sd m).bind fun d m1 => match d.fro? with
  | some (l, _) => .ok l.reverse m1
  | none => .stuck
@[simp] theorem q_revI {sd : Sl} {m : Mem} : xRevI fa sd m = (fa sd m).bind fun d m1 => match d.fro? with
  | some (l, _) => .ok l.reverse m1
  | none => .stuck := rfl
theorem di_rev {e : Expr} {p pos2 : Pos} (hm : X.mg "reversed" = none) (he : DE X W e fa) (hg : Gl X "reversed" := by rfl) (hs : starEach [e] X.env = (false, eval e X.env) :: starEach [] X.env := by rfl) : DI X W tg (.Call (.Name "reversed" p) [e] [] pos2) (xRevI fa) := by
  refine ⟨_, pi_revA hg hm he hs, fun σ H R' ⟨w, m, sd, wf, sl, h⟩ => ⟨w, m, sd, wf, sl, h.bind.imp fun d m1 w1 H1 l1 wf1 h1 v rv => ?_⟩⟩
  cases z : d.fro? with
  | none => simp only [z] at h1; exact h1.elim
  | some p =>
    obtain ⟨l, k⟩ := p
    simp only [z] at h1
    obtain ⟨a, xs, rfl, r, q⟩ := froR rv z
    cases k with
    | true =>
      have q' : ∀ w2 H2 m2, Le w1 w2 → Wf X.K w2 H2 m2 → SqT X.K H2 a xs := fun w2 H2 m2 l f => by have := q w2 H2 m2 l f; rwa [if_pos rfl] at this
      exact ⟨a, xs, rfl, .inr ⟨q' w1 H1 m1 (Le.refl _) wf1, h1 w1 H1 (Le.refl _) wf1 _ (walk_revT r (Le.refl _) q')⟩⟩
    | false =>
      have q' : ∀ w2 H2 m2, Le w1 w2 → Wf X.K w2 H2 m2 → SqL X.K H2 a xs := fun w2 H2 m2 l f => by have := q w2 H2 m2 l f; rwa [if_neg (by decide)] at this
      exact ⟨a, xs, rfl, .inl ⟨q' w1 H1 m1 (Le.refl _) wf1, h1 w1 H1 (Le.refl _) wf1 _ (walk_rev r (Le.refl _) q')⟩⟩
end
end Dl

set_option Elab.async false
set_option linter.all false
set_option maxRecDepth 100000
set_option maxHeartbeats 4000000
/-! DSet0: set(xs) of a list of ints with its table told; sorted of such a set, of any size; sorted of a set of pairs. -/
namespace L2
open PySem PySem.Spec PyProof.Rows
/-- the object of a set just made -/
@[reducible] def bareSet (w : World) : Obj := { cls := .type "set", dict := none, data := .set #[] 0 (.fresh 0 0 (!w.params.followText "set-order")) }
@[reducible] def hpS (w : World) (h : Heap) : Heap := h.push (bareSet w)
section
variable {P : Program} {w : World} {A : Around} {E : Value → Shared → Prop} {s : Shared}
set_option maxRecDepth 100000 in
set_option maxHeartbeats 3200000 in
theorem set_of_ints {l : Addr} {items : Array Value} (ns : List Int) {Q : Value → Shared → Prop} (nh : A.handled = none) (il : s.heap.IsList l items) (ii : IntsAre items.toList ns) (nb : ns.length + 1 < scanBound)
    (fin : ∀ (h' : Heap) (tk c : Nat), SetR w h' s.heap.objs.size (fun j => decide (j ∈ ns)) c → c ≤ ns.length → (∀ b o, s.heap.get? b = some o → h'.get? b = some o) → Q (.ref s.heap.objs.size) { s with heap := h', toks := tk }) :
    wpAny (model P w) A (call (.type "set") [.ref l]) Q E s := by
  have isz : items.size = ns.length := by have q := IntsAre.length ii; rwa [Array.length_toList] at q
  have at0 : ∀ (i : Nat) (v : Value), items[i]? = some v → ∃ k t, ns[i]? = some k ∧ v = .int k t := fun i v hv => by
    have hi : i < ns.length := isz ▸ (Array.getElem?_eq_some_iff.mp hv).1
    obtain ⟨t, e⟩ := PyProof.Rows.IntsAre.int_at ii i v (by rw [Array.getElem?_toList]; exact hv)
    exact ⟨ns[i], t, List.getElem?_eq_getElem hi, by rw [e, List.getD_eq_getElem?_getD, List.getElem?_eq_getElem hi]; rfl⟩
  have m1 := F.called_set.mro; have m2 := F.called_set.made; have m3 := F.called_set.sub
  obtain ⟨c0, tl0, hm0⟩ := m1
  refine wpAny_call (codeAny_of_tree (show wpAny _ _ (callAny (.type "set") _) _ _ _ from wpAny_pure ⟨Code.quiet_builtin _ (by decide +kernel), codeAny_builtin F.entry_type_call ?_⟩))
  rw [Around.under_plain (weight_type_call_type "set" [.ref l] []) rfl]
  have n1 := F.called_set.notType; have n2 := F.called_set.canCreate; have n3 := F.typeCall_set_1 (.ref l)
  repeat (any_goals (first | assumption | wp_step))
  refine codeAny_mono (code_set_led1 (.ref l) (E := E) (Q₁ := fun obj s1 => obj = .ref s.heap.objs.size ∧ s1 = { s with heap := hpS w s.heap }) ⟨rfl, rfl⟩) fun r s1 hr => ?_
  match r, hr with
  | .error e, hr => exact hr
  | .ok (.ret obj), hr =>
    obtain ⟨rfl, rfl⟩ := hr
    have gS : (hpS w s.heap).get? s.heap.objs.size = some (bareSet w) := Heap.get?_push_size _ rfl
    have tS : Shared.TypeIs { s with heap := hpS w s.heap } (.ref s.heap.objs.size) "set" := ⟨_, gS, rfl⟩
    have k1 := F.called_set.init.lookup; have k2 := F.called_set.init.bind (.ref s.heap.objs.size)
    repeat (any_goals (first | assumption | wp_step))
    refine codeAny_mono (codeAny_call_builtin (R := wants (fun r s2 => r = .none ∧ ∃ h' tk c, s2 = { s with heap := h', toks := tk } ∧ SetR w h' s.heap.objs.size (fun j => decide (j ∈ ns)) c ∧ c ≤ ns.length ∧ (∀ b o, s.heap.get? b = some o → h'.get? b = some o)) E) F.called_set.init.plain F.entry_set_init (check_set_init_1 tS ?_)) fun r2 s2 hr2 => ?_
    · obtain ⟨⟨oc, od, ov, os⟩, ho, hc, nl, hd⟩ := il
      simp only at hc hd
      subst hc; subst hd
      have gl : (hpS w s.heap).get? l = some { cls := .type "list", dict := od, data := .seq items nl, slots := os } := Heap.get?_push_of_some _ ho
      have f1 := F.sub_list_set; have f2 := F.sub_list_frozenset
      have f3 : (Value.type "list" == Value.type "dict") = false := by decide
      have gl1 : (hpS w s.heap).IsList l items := ⟨_, gl, rfl, nl, rfl⟩
      unfold Builtin.«set.__init__» noKeywords Builtin.Frozenset.updateFrom
      generalize hPI : pyIter = PI
      wp_walk
      subst hPI
      refine wpAny_pyIter_list gl1 (wpAny_bind (wpAny_runValue ?_))
      have lS : l < s.heap.objs.size := Heap.lt_size ho
      have h3 : A.in1.in1.in1.handled = none := by simp [nh]
      have z1 : (hpS w s.heap).objs.size = s.heap.objs.size + 1 := Heap.size_push ..
      have nI : l ≠ (hpS w s.heap).objs.size := by rw [z1]; exact Nat.ne_of_lt (Nat.lt_succ_of_lt lS)
      have nS : s.heap.objs.size ∉ [(hpS w s.heap).objs.size, l] := by
        rw [z1]; simp only [List.mem_cons, List.not_mem_nil, or_false, not_or]
        exact ⟨Nat.ne_of_lt (Nat.lt_succ_self _), Nat.ne_of_gt lS⟩
      refine set_update_ints ((Walks.list h3 _ l nI items).toS) s.heap.objs.size nS ns isz nb at0 (items.size - 0) 0 _ (by omega) (Nat.zero_le _)
        ⟨⟨_, Heap.get?_push_size _ rfl, rfl, rfl⟩, (gl1.push _)⟩ ⟨0, Nat.le_refl 0, setR_new_at (Heap.get?_push_of_some _ gS)⟩ fun s' c' hm hc' hS' => ?_
      obtain ⟨h', g2, d', tk', os'⟩ := s'
      have eg : g2 = s.gens := hm.gens
      have ed : d' = s.drawn := hm.drawn
      have eo : os' = s.os := hm.os
      subst eg ed eo
      show wpAny _ _ _ _ _ _
      refine wpAny_pure (show wpAny _ _ (ret Value.none) _ _ _ from ?_)
      rw [isz] at hc'
      refine wpAny_pure ⟨rfl, h', tk', c', rfl, hS', hc', fun b o e => ?_⟩
      have b0 : b < s.heap.objs.size := Heap.lt_size e
      exact hm.heap b o (by rw [z1]; simp only [List.mem_cons, List.not_mem_nil, or_false, not_or]; exact ⟨Nat.ne_of_lt b0, Nat.ne_of_lt (Nat.lt_succ_of_lt b0)⟩) (Heap.get?_push_of_some _ (Heap.get?_push_of_some _ e))
    · match r2, hr2 with
      | .error e, hr2 => exact hr2
      | .ok (.ret r), hr2 =>
        obtain ⟨rfl, h', tk, c', rfl, hS', hc', hk'⟩ := hr2
        repeat (any_goals (first | assumption | wp_step))
        exact fin _ _ _ hS' hc' hk'
/-- the values of a set as a list, sorted by an order -/
theorem sorted_of_set {a : Addr} {o : Obj} {es : Array (Int × Value)} {ep : Nat} {t : SetTable} {ltv : Value → Value → Bool} {Q : Value → Shared → Prop} (ho : s.heap.get? a = some o) (hx : o.ExactSet) (hd : o.data = .set es ep t)
    (hf : t.fits es.size = true) (hb : es.size < scanBound) (hr : Ris t.place.toList) (hl : w.params.followText "set-order" = true ∨ t.led = true) (nh : A.handled = none) (O : SrtO.Swo ltv)
    (so : ∀ (s1 : Shared) (vs : List Value) (b : Addr), (∀ b o, s.heap.get? b = some o → s1.heap.get? b = some o) → vs.Perm (es.toList.map (·.2)) → 2 ≤ vs.length → s1.heap.get? b = some (seqObj "list" vs.toArray 0) → ∀ A', SrtO.SortableO P w A' s1 b vs ltv)
    (fin : ∀ (s' : Shared) (p : Addr) (out : List Value) (c : Nat) (vs : List Value), vs.Perm (es.toList.map (·.2)) → SrtO.Srtd ltv out → SrtO.Stb ltv out vs → (∀ b o, s.heap.get? b = some o → s'.heap.get? b = some o) → s'.gens = s.gens → s'.os = s.os → s.heap.objs.size ≤ p →
      s'.heap.get? p = some (seqObj "list" out.toArray c) → Q (.ref p) s') :
    wpAny (model P w) A (call (.builtin "sorted") [.ref a]) Q E s := by
  refine Calls.call_function_entry kind_sorted plain_sorted entry_sorted (args_sorted1 _) ?_
  unfold Builtin.«sorted»
  refine wpAny_bind (m := checkCount "sorted" 1 1 _) (wpAny_pure (wpAny_bind (collect_set (A := A.in1) nh ⟨o, ho, hx.1, hd⟩ hf hb hr hl fun s1 vs k1 hz g1 o1 pm => ?_)))
  have vl : vs.length = es.size := by rw [pm.length_eq, List.length_map, Array.length_toList]
  have vz : vs.length ≤ sizeLine := by rw [vl, sizeLine_eq]; unfold scanBound at hb; omega
  refine wpAny_bind (wpAny_newList ?_ vz)
  have gL : (s1.heap.push (seqObj "list" vs.toArray 0)).get? s1.heap.objs.size = some (seqObj "list" vs.toArray 0) := Heap.get?_push_size _ rfl
  have kp : ∀ b o, s.heap.get? b = some o → (s1.heap.push (seqObj "list" vs.toArray 0)).get? b = some o := fun b o e => Heap.get?_push_of_some _ (k1 b o e)
  refine wpAny_bind (wpAny_holding (wpAny_call_entry slot_list_sort ⟨_, gL, rfl⟩ entry_list_sort (SrtO.list_sort_ord O gL vz (fun h2 => so { s1 with heap := s1.heap.push (seqObj "list" vs.toArray 0) } vs _ kp pm h2 gL _) fun out h1 h2 => ⟨_, rfl, ?_⟩) (args_list_sort _)))
  obtain ⟨c, hc⟩ := sortedHeap_at (vs := vs) (out := out.toArray) gL
  refine wpAny_pure ⟨_, rfl, fin _ s1.heap.objs.size out c vs pm h1 h2 (fun b u e => ?_) g1 o1 hz hc⟩
  have q := k1 b u e
  have lt := Heap.lt_size q
  show (sortedHeap (s1.heap.push (seqObj "list" vs.toArray 0)) s1.heap.objs.size vs out.toArray).get? b = some u
  rw [sortedHeap_old (Nat.ne_of_lt lt) (by rw [size_push']; exact Nat.lt_succ_of_lt lt)]
  exact Heap.get?_push_of_some _ q
end
end L2

set_option Elab.async false
set_option linter.all false
set_option maxRecDepth 100000
set_option maxHeartbeats 4000000
/-! DSet1: sorted(set(xs)) and len(set(xs)) as rules. -/
namespace L2
open PySem PySem.Spec PyProof.Rows
section
variable {X : Cx}
def rSetI (w : World) (K : PySem.W.Frag) : List V → Hp → VK → Prop := fun xs H Q => ∃ (l : Addr) (ns : List Int), xs = [V.ref l] ∧ SqL K H l (ns.map V.int) ∧ ns.length < 4000 ∧ ∀ p c, H p = none → Q (.ref p) (upd H p (SetO w p (fun j => decide (j ∈ ns)) c))
theorem cr_setI (hc : X.calm = true) : CallR X (.type "set") (rSetI X.w X.K) := by
  intro pins s σ H xs us Q I r h
  obtain ⟨l, ns, rfl, hl, hn, q⟩ := h
  rw [Vals.ref1 r]
  obtain ⟨its, rv, pl, hz⟩ := I.list hl
  refine set_of_ints ns (I.ok.hd hc) pl.isList (by simpa using rv.ints) (by unfold scanBound; omega) fun h' tk c R hcn k => ?_
  exact ⟨.ref s.heap.objs.size, upd H s.heap.objs.size (SetO X.w s.heap.objs.size _ c), I.laid (t' := tk) k (Nat.le_refl _) (setO_new R), rfl, q _ c (I.hok.fresh (Nat.le_refl _))⟩
def rSortSI (w : World) : List V → Hp → VK → Prop := fun vs H Q => ∃ (a : Addr) (S : Int → Bool) (n : Nat), vs = [V.ref a] ∧ H a = some (SetO w a S n) ∧
  ∀ (ns : List Int) (p : Addr), ns.Pairwise (· < ·) → (∀ k : Int, k ∈ ns ↔ S k = true) → H p = none → Q (.ref p) (upd H p (.lst (ns.map V.int)))
theorem cr_sortSI (hc : X.calm = true) : CallR X (.builtin "sorted") (rSortSI X.w) := by
  intro pins s σ H vs us Q I r h
  obtain ⟨a, S, n, rfl, ha, q⟩ := h
  obtain ⟨o, es, ep, t, ho, hex, hd, g, nd, hm, hb, hf, hn, hr, hl⟩ := setO_get I ha
  rw [Vals.ref1 r]
  have allI : ∀ {vs : List Value}, vs.Perm (es.toList.map (·.2)) → IntsAre vs (vs.map SrtO.iv) := fun {vs} pm => SrtO.ints_iv fun v hv => by
    obtain ⟨e, he, q⟩ := List.mem_map.mp (pm.mem_iff.mp hv)
    obtain ⟨k, tk, h1, _⟩ := g e he
    exact ⟨k, tk, by rw [← q]; exact h1⟩
  refine sorted_of_set (P := X.prog) (w := X.w) ho hex hd hf hb hr hl (I.ok.hd hc) SrtO.swo_int (fun s1 vs b k1 pm h2 hb A' => SrtO.ints_sortable (allI pm) h2) fun s' p out c vs pm h1 h2 k g1 o1 hz hc' => ?_
  have hI := allI pm
  obtain ⟨k1, k2, k3⟩ := SrtO.ints_out hI h1 h2
  have ek : ∀ e : Int × Value, keyOf e = SrtO.iv e.2 := fun e => by obtain ⟨_, v⟩ := e; cases v <;> rfl
  have pk : (out.map SrtO.iv).Perm (es.toList.map keyOf) := by
    refine k2.trans ?_
    have z := pm.map SrtO.iv
    rw [List.map_map] at z
    rw [show es.toList.map keyOf = es.toList.map (SrtO.iv ∘ fun x => x.2) from List.map_congr_left fun e _ => ek e]
    exact z
  have lt : (out.map SrtO.iv).Pairwise (· < ·) := lt_of_le_nodup _ k3 (pk.nodup_iff.mpr nd)
  have hlen : ((out.map SrtO.iv).map V.int).length ≤ sizeLine := by
    rw [List.length_map, pk.length_eq, List.length_map, Array.length_toList, sizeLine_eq]
    unfold scanBound at hb
    omega
  have hnn : H p = none := I.hok.fresh hz
  have J : Inv X pins σ (upd H p (.lst ((out.map SrtO.iv).map V.int))) { s with heap := s'.heap, gens := s'.gens, drawn := s'.drawn, toks := s'.toks } :=
    I.call (ch := []) (Un.laid k hz hnn) (I.hok.laid k hz ⟨hlen, out, c, vals_of_ints k1, hc'⟩) (by rw [g1]; exact I.bare) (fun _ z => nomatch z)
  have e : s' = { s with heap := s'.heap, gens := s'.gens, drawn := s'.drawn, toks := s'.toks } := by
    obtain ⟨a1, a2, a3, a4, a5⟩ := s'
    obtain ⟨b1, b2, b3, b4, b5⟩ := s
    cases o1
    rfl
  rw [e]
  exact ⟨.ref p, _, J, rfl, q _ p lt (fun j => by rw [pk.mem_iff, ← hm j]) hnn⟩
/-- the pair of an address -/
def prOf (L : List (Addr × List Int)) (v : Value) : Int × Int := match v with
  | .ref b => match L.find? fun p => decide (p.1 = b) with
    | some p => (p.2.getD 0 0, p.2.getD 1 0)
    | none => (0, 0)
  | _ => (0, 0)
theorem prOf_mem {L : List (Addr × List Int)} (one : ∀ p ∈ L, ∀ q ∈ L, p.1 = q.1 → p = q) {p : Addr × List Int} (hp : p ∈ L) : prOf L (.ref p.1) = (p.2.getD 0 0, p.2.getD 1 0) := by
  unfold prOf
  simp only
  cases z : L.find? fun q => decide (q.1 = p.1) with
  | none =>
    have := List.find?_eq_none.mp z p hp
    simp at this
  | some q =>
    have h1 : q.1 = p.1 := by simpa using List.find?_some z
    rw [one q (List.mem_of_find?_eq_some z) p hp h1]
def rSortSP (K : PySem.W.Frag) (P : Program) (w : World) : List V → Hp → VK → Prop := fun vs H Q => ∃ (a : Addr) (L : List (Addr × List Int)), vs = [V.ref a] ∧ H a = some (SetTO P w a L) ∧ (∀ p ∈ L, SqT K H p.1 (p.2.map V.int)) ∧ (∀ p ∈ L, p.2.length = 2) ∧
  ∀ (L' : List (Addr × List Int)) (p : Addr), L'.Perm L → (L'.map (·.2)).Nodup → L'.Pairwise (fun q r => SrtO.lexB (r.2.getD 0 0, r.2.getD 1 0) (q.2.getD 0 0, q.2.getD 1 0) = false) → H p = none → Q (.ref p) (upd H p (.lst (L'.map fun q => V.ref q.1)))
theorem cr_sortSP (hc : X.calm = true) : CallR X (.builtin "sorted") (rSortSP X.K X.prog X.w) := by
  intro pins s σ H vs us Q I r h
  obtain ⟨a, L, rfl, ha, hk, h2, q⟩ := h
  have R0 : SetT0 X.prog X.w s.heap a L := (I.hok a _ ha).1
  obtain ⟨es, ep, t, R⟩ := R0.full fun p hp => I.isT (hk p hp)
  obtain ⟨o, ho, hex, hd⟩ := R.ob
  have hfew := R.few
  have hsz := R.size
  rw [Vals.ref1 r]
  have one : ∀ p ∈ L, ∀ q ∈ L, p.1 = q.1 → p = q := fun p hp q hq e => by
    have a1 := R.tup p hp
    have a2 := R.tup q hq
    rw [e] at a1
    exact Prod.ext e (a1.inj a2)
  have hes : es.toList.map (·.2) = L.map fun q => Value.ref q.1 := by rw [R.rows]; unfold rowsOf; rw [List.map_map]; rfl
  have ispair : ∀ (h' : Heap), (∀ b o, s.heap.get? b = some o → h'.get? b = some o) → ∀ p ∈ L, Srt.IsPair h' (.ref p.1) (p.2.getD 0 0) (p.2.getD 1 0) := fun h' kk p hp => by
    obtain ⟨o, its, n, f1, f2, f3, f4⟩ := R.tup p hp
    have hl := h2 p hp
    match p, hl, f4 with
    | (b, [x, y]), _, f4 =>
      cases hv : its.toList with
      | nil => rw [hv] at f4; cases f4
      | cons v1 r1 =>
        rw [hv] at f4
        cases f4 with
        | cons g1 g2 =>
          cases r1 with
          | nil => cases g2
          | cons v2 r2 =>
            cases g2 with
            | cons g3 g4 =>
              cases g4
              obtain ⟨t1, rfl⟩ := Value.isInt_shape g1
              obtain ⟨t2, rfl⟩ := Value.isInt_shape g3
              refine ⟨b, o, t1, t2, n, rfl, kk _ _ f1, f2, ?_⟩
              rw [f3]
              congr 1
              exact Array.ext' hv
  refine sorted_of_set (P := X.prog) (w := X.w) (ltv := fun v u => SrtO.lexB (prOf L v) (prOf L u)) ho hex hd R.fits (by unfold scanBound; omega) R.tab.ris R.led (I.ok.hd hc) (SrtO.swo_lex _) (fun s1 vs b k1 pm hl2 hb A' => ?_) fun s' p out c vs pm h1 h3 k g1 o1 hz hc' => ?_
  · refine SrtO.pairs_sortableO (by omega) (fun v hv => ?_) fun o' e c => ?_
    · have hv2 := pm.mem_iff.mp hv
      rw [hes] at hv2
      obtain ⟨p, hp, rfl⟩ := List.mem_map.mp hv2
      rw [prOf_mem one hp]
      exact ispair _ k1 p hp
    · rw [hb] at e
      cases e
      exact absurd (Value.type.inj c) (by decide)
  · rw [hes] at pm
    have pmo : out.Perm (L.map fun q => Value.ref q.1) := h3.perm.trans pm
    have ord : ∀ vs : List Value, (∀ v ∈ vs, ∃ q ∈ L, v = Value.ref q.1) → ∃ L1 : List (Addr × List Int), vs = L1.map (fun q => Value.ref q.1) ∧ ∀ q ∈ L1, q ∈ L := by
      intro vs
      induction vs with
      | nil => intro _; exact ⟨[], rfl, fun q hq => by cases hq⟩
      | cons v vs ih =>
        intro hv
        obtain ⟨q, hq, e⟩ := hv v List.mem_cons_self
        obtain ⟨L1, e1, hs⟩ := ih fun u hu => hv u (List.mem_cons_of_mem _ hu)
        refine ⟨q :: L1, by rw [List.map_cons, e, e1], fun r hr => ?_⟩
        rcases List.mem_cons.mp hr with z | z
        · rw [z]; exact hq
        · exact hs r z
    obtain ⟨L', e', hs'⟩ := ord out fun v hv => by
      obtain ⟨q, hq, e⟩ := List.mem_map.mp (pmo.mem_iff.mp hv)
      exact ⟨q, hq, e.symm⟩
    have nL : L.Nodup := nodup_of_map R.nd
    have nref : (L.map fun q => Value.ref q.1).Nodup := by
      refine List.pairwise_map.mpr (List.Pairwise.imp_of_mem (fun {q r} hq hr hne e => ?_) nL)
      injection e with e
      exact hne (one q hq r hr e)
    have pL : L'.Perm L := by
      have pm1 : (L'.map fun q => Value.ref q.1).Perm (L.map fun q => Value.ref q.1) := by rw [← e']; exact pmo
      have n1 : L'.Nodup := nodup_of_map (pm1.nodup_iff.mpr nref)
      refine (List.perm_ext_iff_of_nodup n1 nL).mpr fun q => ⟨hs' q, fun hq => ?_⟩
      have hm : Value.ref q.1 ∈ L'.map fun q => Value.ref q.1 := pm1.mem_iff.mpr (List.mem_map.mpr ⟨q, hq, rfl⟩)
      obtain ⟨r, hr, e⟩ := List.mem_map.mp hm
      injection e with e
      rw [← one r (hs' r hr) q hq e]
      exact hr
    have hlen : (L'.map fun q => V.ref q.1).length ≤ sizeLine := by rw [List.length_map, pL.length_eq, sizeLine_eq]; omega
    have hnn : H p = none := I.hok.fresh hz
    have hv : Vals (L'.map fun q => V.ref q.1) out := by rw [e']; exact vals_of_refs L'
    have J : Inv X pins σ (upd H p (.lst (L'.map fun q => V.ref q.1))) { s with heap := s'.heap, gens := s'.gens, drawn := s'.drawn, toks := s'.toks } :=
      I.call (ch := []) (Un.laid k hz hnn) (I.hok.laid k hz ⟨hlen, out, c, hv, hc'⟩) (by rw [g1]; exact I.bare) (fun _ z => nomatch z)
    have e : s' = { s with heap := s'.heap, gens := s'.gens, drawn := s'.drawn, toks := s'.toks } := by
      obtain ⟨a1, a2, a3, a4, a5⟩ := s'
      obtain ⟨b1, b2, b3, b4, b5⟩ := s
      cases o1
      rfl
    rw [e]
    refine ⟨.ref p, _, J, rfl, q L' p pL ((pL.map (·.2)).nodup_iff.mpr R.nd) ?_ hnn⟩
    rw [e'] at h1
    refine List.Pairwise.imp_of_mem (fun {x y} hx hy hh => ?_) (List.pairwise_map.mp h1)
    have hh' : SrtO.lexB (prOf L (.ref y.1)) (prOf L (.ref x.1)) = false := hh
    rw [prOf_mem one (hs' x hx), prOf_mem one (hs' y hy)] at hh'
    exact hh'
/-- len of a set of tuples -/
def rLenST (P : Program) (w : World) : List V → Hp → VK → Prop := fun vs H Q => ∃ (a : Addr) (L : List (Addr × List Int)), vs = [V.ref a] ∧ H a = some (SetTO P w a L) ∧ ((L.map (·.2)).Nodup → Q (.int (L.length : Nat)) H)
theorem cr_lenST : CallR X (.builtin "len") (rLenST X.prog X.w) := by
  intro pins s σ H vs us Q I r h
  obtain ⟨a, L, rfl, ha, q⟩ := h
  have R0 : SetT0 X.prog X.w s.heap a L := (I.hok a _ ha).1
  obtain ⟨es, ep, t, ⟨o, ho, hex, hd⟩, h2, h3, h4, h5, h6, h7, h8⟩ := R0.ex
  rw [Vals.ref1 r]
  have hsz : es.size = L.length := by
    have h := congrArg List.length h2
    unfold rowsOf at h
    rwa [Array.length_toList, List.length_map] at h
  have hf : t.fits es.size = true := by
    have z1 := h3.sz
    rw [List.length_map] at z1
    unfold SetTable.fits SetTable.fill
    rw [h3.dm, Bool.and_eq_true, beq_iff_eq, decide_eq_true_eq]
    exact ⟨by omega, show t.place.size + 0 ≤ t.mask by omega⟩
  exact call_len_set ho hex hd hf (by omega) ⟨.int (L.length : Nat), H, I.tok _, ⟨_, by rw [hsz]⟩, q h4⟩
end
end L2

set_option Elab.async false
set_option linter.all false
set_option maxRecDepth 100000
set_option maxHeartbeats 4000000
/-! DSet: sorted(set(xs)), len(set(xs)). -/
namespace Dl
open PySem PySem.Spec PyProof.Rows L2
section
variable {α : Type}
def insU (lt : α → α → Bool) (x : α) : List α → List α
  | [] => [x]
  | y :: r => if lt x y then x :: y :: r else if lt y x then y :: insU lt x r else y :: r
def sdU (lt : α → α → Bool) : List α → List α
  | [] => []
  | x :: l => insU lt x (sdU lt l)
structure Sto (lt : α → α → Bool) : Prop where
  irr : ∀ a, lt a a = false
  tr : ∀ a b c, lt a b = true → lt b c = true → lt a c = true
  tot : ∀ a b, lt a b = false → lt b a = false → a = b
variable {lt : α → α → Bool} (O : Sto lt)
include O
theorem insU_mem (x : α) : ∀ (l : List α) (z : α), z ∈ insU lt x l ↔ z = x ∨ z ∈ l
  | [], z => by simp [insU]
  | y :: r, z => by
    unfold insU
    by_cases h : lt x y = true
    · rw [if_pos h, List.mem_cons]
    · rw [if_neg h]
      by_cases h2 : lt y x = true
      · rw [if_pos h2, List.mem_cons, insU_mem x r z, List.mem_cons]
        constructor
        · rintro (h | h | h) <;> simp [h]
        · rintro (h | h | h) <;> simp [h]
      · rw [if_neg h2]
        have e := O.tot x y (by simpa using h) (by simpa using h2)
        subst e
        simp
theorem insU_srt (x : α) : ∀ (l : List α), l.Pairwise (fun a b => lt a b = true) → (insU lt x l).Pairwise (fun a b => lt a b = true)
  | [], _ => List.pairwise_singleton _ _
  | y :: r, h => by
    obtain ⟨h1, h2⟩ := List.pairwise_cons.mp h
    unfold insU
    by_cases q : lt x y = true
    · rw [if_pos q]
      exact List.pairwise_cons.mpr ⟨fun z hz => by
        rcases List.mem_cons.mp hz with e | e
        · rw [e]; exact q
        · exact O.tr x y z q (h1 z e), h⟩
    · rw [if_neg q]
      by_cases q2 : lt y x = true
      · rw [if_pos q2]
        exact List.pairwise_cons.mpr ⟨fun z hz => by
          rcases (insU_mem O x r z).mp hz with e | e
          · rw [e]; exact q2
          · exact h1 z e, insU_srt x r h2⟩
      · rw [if_neg q2]; exact h
theorem sdU_mem : ∀ (l : List α) (z : α), z ∈ sdU lt l ↔ z ∈ l
  | [], z => Iff.rfl
  | x :: l, z => by
    show z ∈ insU lt x (sdU lt l) ↔ _
    rw [insU_mem O, sdU_mem l z, List.mem_cons]
theorem sdU_srt : ∀ (l : List α), (sdU lt l).Pairwise (fun a b => lt a b = true)
  | [] => List.Pairwise.nil
  | x :: l => insU_srt O x _ (sdU_srt l)
theorem srt_uniq : ∀ (l m : List α), l.Pairwise (fun a b => lt a b = true) → m.Pairwise (fun a b => lt a b = true) → (∀ x, x ∈ l ↔ x ∈ m) → l = m
  | [], [], _, _, _ => rfl
  | [], y :: m, _, _, h => by cases (h y).mpr List.mem_cons_self
  | x :: l, [], _, _, h => by cases (h x).mp List.mem_cons_self
  | x :: l, y :: m, hl, hm, h => by
    obtain ⟨l1, l2⟩ := List.pairwise_cons.mp hl
    obtain ⟨m1, m2⟩ := List.pairwise_cons.mp hm
    have e : x = y := by
      rcases List.mem_cons.mp ((h x).mp List.mem_cons_self) with e | e
      · exact e
      · rcases List.mem_cons.mp ((h y).mpr List.mem_cons_self) with e2 | e2
        · exact e2.symm
        · have := O.tr _ _ _ (l1 y e2) (m1 x e)
          rw [O.irr] at this
          cases this
    subst e
    have nx : ∀ {k : List α}, (∀ z ∈ k, lt x z = true) → x ∉ k := fun hk z => by
      have := hk x z
      rw [O.irr] at this
      cases this
    rw [srt_uniq l m l2 m2 fun z => ?_]
    constructor
    · intro hz
      rcases List.mem_cons.mp ((h z).mp (List.mem_cons_of_mem _ hz)) with e | e
      · exact absurd (e ▸ hz) (nx l1)
      · exact e
    · intro hz
      rcases List.mem_cons.mp ((h z).mpr (List.mem_cons_of_mem _ hz)) with e | e
      · exact absurd (e ▸ hz) (nx m1)
      · exact e
end
def ltI (a b : Int) : Bool := decide (a < b)
theorem ltI_sto : Sto ltI := ⟨fun a => by simp [ltI], fun a b c h k => by simp [ltI] at *; omega, fun a b h k => by simp [ltI] at *; omega⟩
theorem lexB_sto : Sto SrtO.lexB := by
  refine ⟨fun a => ?_, fun a b c h k => ?_, fun a b h k => ?_⟩
  · cases q : SrtO.lexB a a with
    | false => rfl
    | true => have := SrtO.lexB_iff.mp q; omega
  · have h1 := SrtO.lexB_iff.mp h
    have h2 := SrtO.lexB_iff.mp k
    exact SrtO.lexB_iff.mpr (by omega)
  · have h1 := SrtO.lexB_no.mp h
    have h2 := SrtO.lexB_no.mp k
    exact Prod.ext (by omega) (by omega)
def D.ints? : List D → Option (List Int)
  | [] => some []
  | .int i :: l => (D.ints? l).map (i :: ·)
  | _ => none
def D.prs? : List D → Option (List (Int × Int))
  | [] => some []
  | .tup [.int x, .int y] :: l => (D.prs? l).map ((x, y) :: ·)
  | _ => none
/-- tuples of ints -/
def D.tups? : List D → Option (List (List Int))
  | [] => some []
  | .tup k :: l => match D.ints? k, D.tups? l with
    | some is, some r => some (is :: r)
    | _, _ => none
  | _ => none
section
variable {K : PySem.W.Frag} {w : Wd} {H : Hp} {m : Mem}
theorem intsR : ∀ {l : List D} {xs : List V} {ns : List Int}, reps K w l xs → D.ints? l = some ns → xs = ns.map V.int
  | [], _, _, h, e => by cases h; cases e; rfl
  | d :: l, _, ns, ⟨y, ys, e0, h, r⟩, e => by
    subst e0
    cases d with
    | int i =>
      have e' : (D.ints? l).map (i :: ·) = some ns := e
      cases z : D.ints? l with
      | none => rw [z] at e'; cases e'
      | some r' =>
        rw [z] at e'
        cases e'
        rw [intsR r z, show y = V.int i from h]
        rfl
    | _ => cases e
theorem tupsR (wf : Wf K w H m) : ∀ {l : List D} {xs : List V} {ts : List (List Int)}, reps K w l xs → D.tups? l = some ts → ∃ ks : List (Addr × List Int), xs = ks.map (fun p => V.ref p.1) ∧ ks.map (·.2) = ts ∧ ∀ p ∈ ks, w.c p.1 = some (.tup (p.2.map V.int))
  | [], _, _, h, e => by cases h; cases e; exact ⟨[], rfl, rfl, fun p hp => by cases hp⟩
  | d :: l, _, ts, ⟨y, ys, e0, h, r⟩, e => by
    subst e0
    cases d with
    | tup k =>
      have e' : (match D.ints? k, D.tups? l with
        | some is, some r => some (is :: r)
        | _, _ => none) = some ts := e
      cases z : D.ints? k with
      | none => rw [z] at e'; cases e'
      | some is =>
        cases z2 : D.tups? l with
        | none => rw [z, z2] at e'; cases e'
        | some r' =>
          rw [z, z2] at e'
          cases e'
          obtain ⟨a, zs, e3, h3, r3⟩ := h
          have := intsR r3 z
          subst this
          obtain ⟨ks, k1, k2, k3⟩ := tupsR wf r z2
          refine ⟨(a, is) :: ks, by rw [e3, k1]; rfl, by rw [← k2]; rfl, fun p hp => ?_⟩
          rcases List.mem_cons.mp hp with q | q
          · rw [q]; exact h3
          · exact k3 p q
    | _ => cases e
theorem prs_tups : ∀ {l : List D} {ps : List (Int × Int)}, D.prs? l = some ps → D.tups? l = some (ps.map fun p => [p.1, p.2])
  | [], _, e => by cases e; rfl
  | d :: l, ps, e => by
    have key : ∃ x y, d = .tup [.int x, .int y] ∧ (D.prs? l).map ((x, y) :: ·) = some ps := by
      unfold D.prs? at e
      split at e
      · contradiction
      · rename_i h
        injection h with h1 h2
        exact ⟨_, _, h1, by rw [h2]; exact e⟩
      · cases e
    obtain ⟨x, y, rfl, e'⟩ := key
    cases q : D.prs? l with
    | none => rw [q] at e'; cases e'
    | some r =>
      rw [q] at e'
      cases e'
      show (match D.ints? [.int x, .int y], D.tups? l with
        | some is, some r => some (is :: r)
        | _, _ => none) = _
      rw [prs_tups q]
      rfl
end
def pairD (p : Int × Int) : D := .tup [.int p.1, .int p.2]
def oSortSet (d : D) (m : Mem) : Option (D × Mem) := match d.lst? m with
  | some l => match D.ints? l with
    | some ns => if ns.length < 4000 then some (.lst ((sdU ltI ns).map .int), m) else none
    | none => match D.prs? l with
      | some ps => if ps.length < 64 then some (.lst ((sdU SrtO.lexB ps).map pairD), m) else none
      | none => none
  | none => none
def dedL : List (List Int) → List (List Int)
  | [] => []
  | x :: l => if x ∈ dedL l then dedL l else x :: dedL l
theorem dedL_mem : ∀ (l : List (List Int)) (z : List Int), z ∈ dedL l ↔ z ∈ l
  | [], _ => Iff.rfl
  | x :: l, z => by
    unfold dedL
    by_cases h : x ∈ dedL l
    · rw [if_pos h, dedL_mem l z, List.mem_cons]
      exact ⟨.inr, fun q => q.elim (fun q => by rw [q]; exact (dedL_mem l x).mp h) id⟩
    · rw [if_neg h, List.mem_cons, List.mem_cons, dedL_mem l z]
theorem dedL_nd : ∀ (l : List (List Int)), (dedL l).Nodup
  | [] => List.nodup_nil
  | x :: l => by
    unfold dedL
    by_cases h : x ∈ dedL l
    · rw [if_pos h]; exact dedL_nd l
    · rw [if_neg h]; exact List.nodup_cons.mpr ⟨h, dedL_nd l⟩
def oLenSet (d : D) (m : Mem) : Option (D × Mem) := match d.lst? m with
  | some l => match D.tups? l with
    | some ts => if ts.length < 64 then some (.int (dedL ts).length, m) else none
    | none => none
  | none => none
section
variable {X : Cx} {W : WX} {e : Expr} {pos p1 p2 pos2 : Pos} {fa : EF}
theorem pe_or2 {e : Expr} {t1 t2 : TE} (h1 : PE X e t1) (h2 : PE X e t2) : PE X e (fun σ H Q => t1 σ H Q ∨ t2 σ H Q) := ⟨fun pins s σ H Q I h => h.elim (h1.run pins s σ H Q I) (h2.run pins s σ H Q I)⟩
theorem d_sortSet (hc : X.calm = true) (hu : X.A.units + 64 < cLine) (hm : X.mg "sorted" = none) (hm2 : X.mg "set" = none) (ha : DE X W e fa) (hg : Gl X "sorted" := by rfl) (hg2 : Gl X "set" := by rfl)
    (he : starEach [e] X.env = (false, eval e X.env) :: starEach [] X.env := by rfl) (he2 : starEach [.Call (.Name "set" p2) [e] [] pos2] X.env = (false, eval (.Call (.Name "set" p2) [e] [] pos2) X.env) :: starEach [] X.env := by rfl)
    (hpl : (backTo pos2 (starEach [] X.env)).any (·.1) = false := by rfl) (hpl2 : (backTo pos (starEach [] X.env)).any (·.1) = false := by rfl) :
    DE X W (.Call (.Name "sorted" p1) [.Call (.Name "set" p2) [e] [] pos2] [] pos) (xUn oSortSet fa) :=
  (pe_or2 (pe_callB (cr_sortSI hc) hg hm (by decide +kernel) (pa_cons (pe_callTy (cr_setI hc) hg2 hm2 PyProof.Rows.boot_set (pa_cons ha pa_nil he) (by decide) (by decide) he hpl) pa_nil he2) (by decide) (by decide) he2 hpl2)
    (pe_callB (cr_sortSP hc) hg hm (by decide +kernel) (pa_cons (pe_callTy (cr_setOfT hc hu) hg2 hm2 PyProof.Rows.boot_set (pa_cons ha pa_nil he) (by decide) (by decide) he hpl) pa_nil he2) (by decide) (by decide) he2 hpl2)).weak fun σ H Q ⟨w, m, sd, wf, sl, h⟩ => by
  have go := h.bind
  cases q : fa sd m with
  | err e m1 => exact .inl ⟨w, m, sd, wf, sl, by rw [q] at go ⊢; exact go⟩
  | stuck => exact .inl ⟨w, m, sd, wf, sl, by rw [q] at go ⊢; exact go⟩
  | ok d m1 =>
    rw [q] at go
    have go2 : ∀ w1 H1, Le w w1 → Wf X.K w1 H1 m1 → vOk X.K w1 (oSortSet d m1) Q := fun w1 H1 l f => vOk_of (go w1 H1 l f)
    unfold oSortSet at go2
    cases z : d.lst? m1 with
    | none =>
      refine .inl ⟨w, m, sd, wf, sl, ?_⟩
      rw [q]
      intro w1 H1 l1 wf1 v rv
      have := go2 w1 H1 l1 wf1
      rw [z] at this
      exact this.elim
    | some l =>
      cases z1 : D.ints? l with
      | some ns =>
        refine .inl ⟨w, m, sd, wf, sl, ?_⟩
        rw [q]
        intro w1 H1 l1 wf1 v rv
        have h1 := go2 w1 H1 l1 wf1
        simp only [z, z1] at h1
        by_cases hn : ns.length < 4000
        · rw [if_pos hn] at h1
          obtain ⟨a, xs, rfl, e1, r1⟩ := lstR wf1 rv z
          have ex := intsR r1 z1
          subst ex
          refine ⟨a, ns, rfl, .of e1, hn, fun p c hp => ⟨p, _, c, rfl, upd_same, fun ns' p' srt mem hp' => ?_⟩⟩
          obtain ⟨l2, f2⟩ := wf1.add (o := SetO X.w p (fun j => decide (j ∈ ns)) c) hp
          obtain ⟨l3, f3⟩ := f2.add (o := .lst (ns'.map V.int)) hp'
          have eq : ns' = sdU ltI ns := srt_uniq ltI_sto _ _ (srt.imp fun h => decide_eq_true h) (sdU_srt ltI_sto ns) fun x => by rw [mem, sdU_mem ltI_sto, decide_eq_true_eq]
          subst eq
          refine h1 _ _ _ (l2.trans l3) f3 ⟨p', _, rfl, upd_same, ?_⟩
          have : ∀ (l : List Int) (w : Wd), reps X.K w (l.map D.int) (l.map V.int) := by
            intro l w
            induction l with
            | nil => rfl
            | cons i l ih => exact ⟨_, _, rfl, rfl, ih⟩
          exact this _ _
        · rw [if_neg hn] at h1; exact h1.elim
      | none =>
        refine .inr ⟨w, m, sd, wf, sl, ?_⟩
        rw [q]
        intro w1 H1 l1 wf1 v rv
        have h1 := go2 w1 H1 l1 wf1
        simp only [z, z1] at h1
        cases z2 : D.prs? l with
        | none => rw [z2] at h1; exact h1.elim
        | some ps =>
          simp only [z2] at h1
          by_cases hn : ps.length < 64
          · rw [if_pos hn] at h1
            obtain ⟨a, xs, rfl, e1, r1⟩ := lstR wf1 rv z
            obtain ⟨ks, k1, k2, k3⟩ := tupsR wf1 r1 (prs_tups z2)
            subst k1
            have hkl : ks.length = ps.length := by
              have := congrArg List.length k2
              simpa using this
            have two : ∀ p ∈ ks, ∃ x y, p.2 = [x, y] := fun p hp => by
              have : p.2 ∈ ks.map (·.2) := List.mem_map.mpr ⟨p, hp, rfl⟩
              rw [k2] at this
              obtain ⟨q, _, e⟩ := List.mem_map.mp this
              exact ⟨_, _, e.symm⟩
            refine ⟨a, ks, rfl, .of e1, fun p hp => .of (wf1.subT (k3 p hp)), by omega, fun p L hp hL hK => ⟨p, L, rfl, upd_same, fun r hr => ?_, fun r hr => ?_, fun L' p' perm nd srt hp' => ?_⟩⟩
            · refine .of ?_
              have h2 := wf1.subT (k3 r (hL r hr))
              rw [upd_ne (ne_of_none h2 hp)]
              exact h2
            · obtain ⟨x, y, e⟩ := two r (hL r hr)
              rw [e]; rfl
            · obtain ⟨l2, f2⟩ := wf1.add (o := SetTO X.prog X.w p L) hp
              obtain ⟨l3, f3⟩ := f2.add (o := .lst (L'.map fun q => V.ref q.1)) hp'
              have eq : L'.map (fun r => (r.2.getD 0 0, r.2.getD 1 0)) = sdU SrtO.lexB ps := by
                refine srt_uniq lexB_sto _ _ ?_ (sdU_srt lexB_sto ps) fun x => ?_
                · refine List.pairwise_map.mpr ?_
                  have nd2 := List.pairwise_map.mp nd
                  refine (srt.and nd2).imp_of_mem fun {a b} ha hb ⟨h1, h2⟩ => ?_
                  cases t : SrtO.lexB (a.2.getD 0 0, a.2.getD 1 0) (b.2.getD 0 0, b.2.getD 1 0) with
                  | true => rfl
                  | false =>
                    exfalso
                    have e3 := lexB_sto.tot _ _ t h1
                    obtain ⟨x1, y1, q1⟩ := two a (hL a (perm.mem_iff.mp ha))
                    obtain ⟨x2, y2, q2⟩ := two b (hL b (perm.mem_iff.mp hb))
                    rw [q1, q2] at e3 h2
                    have e4 := Prod.mk.inj e3
                    exact h2 (by
                      have a1 : x1 = x2 := e4.1
                      have a2 : y1 = y2 := e4.2
                      rw [a1, a2])
                · rw [sdU_mem lexB_sto]
                  constructor
                  · intro hx
                    obtain ⟨r, hr, e⟩ := List.mem_map.mp hx
                    have hrk := hL r (perm.mem_iff.mp hr)
                    have : r.2 ∈ ks.map (·.2) := List.mem_map.mpr ⟨r, hrk, rfl⟩
                    rw [k2] at this
                    obtain ⟨q, hq, e2⟩ := List.mem_map.mp this
                    rw [← e, ← e2]
                    exact hq
                  · intro hx
                    have : [x.1, x.2] ∈ ks.map (·.2) := by rw [k2]; exact List.mem_map.mpr ⟨x, hx, rfl⟩
                    obtain ⟨r, hr, e⟩ := List.mem_map.mp this
                    have := hK r hr
                    obtain ⟨r2, hr2, e2⟩ := List.mem_map.mp this
                    refine List.mem_map.mpr ⟨r2, perm.mem_iff.mpr hr2, ?_⟩
                    rw [e2, e]
                    rfl
              refine h1 _ _ _ (l2.trans l3) f3 ⟨p', _, rfl, upd_same, ?_⟩
              rw [← eq, List.map_map]
              have all : ∀ r ∈ L', r ∈ ks := fun r hr => hL r (perm.mem_iff.mp hr)
              clear srt eq nd perm h1
              have : ∀ (L' : List (Addr × List Int)), (∀ r ∈ L', r ∈ ks) → ∀ w3, Le w1 w3 → reps X.K w3 (L'.map (pairD ∘ fun r => (r.2.getD 0 0, r.2.getD 1 0))) (L'.map fun q => V.ref q.1) := by
                intro L' hL' w3 l3
                induction L' with
                | nil => rfl
                | cons r L' ih =>
                  obtain ⟨x, y, e⟩ := two r (hL' r List.mem_cons_self)
                  have hc3 := k3 r (hL' r List.mem_cons_self)
                  rw [e] at hc3
                  refine ⟨_, _, rfl, ?_, ih fun s hs => hL' s (List.mem_cons_of_mem _ hs)⟩
                  show rep X.K w3 (pairD (r.2.getD 0 0, r.2.getD 1 0)) _
                  rw [e]
                  exact ⟨r.1, _, rfl, l3.c _ _ hc3, ⟨_, _, rfl, rfl, _, _, rfl, rfl, rfl⟩⟩
              exact this L' all _ (l2.trans l3)
          · rw [if_neg hn] at h1; exact h1.elim
theorem d_lenSet (hc : X.calm = true) (hu : X.A.units + 64 < cLine) (hm : X.mg "len" = none) (hm2 : X.mg "set" = none) (ha : DE X W e fa) (hg : Gl X "len" := by rfl) (hg2 : Gl X "set" := by rfl)
    (he : starEach [e] X.env = (false, eval e X.env) :: starEach [] X.env := by rfl) (he2 : starEach [.Call (.Name "set" p2) [e] [] pos2] X.env = (false, eval (.Call (.Name "set" p2) [e] [] pos2) X.env) :: starEach [] X.env := by rfl)
    (hpl : (backTo pos2 (starEach [] X.env)).any (·.1) = false := by rfl) (hpl2 : (backTo pos (starEach [] X.env)).any (·.1) = false := by rfl) :
    DE X W (.Call (.Name "len" p1) [.Call (.Name "set" p2) [e] [] pos2] [] pos) (xUn oLenSet fa) :=
  (pe_callB cr_lenST hg hm PySem.boot_len (pa_cons (pe_callTy (cr_setOfT hc hu) hg2 hm2 PyProof.Rows.boot_set (pa_cons ha pa_nil he) (by decide) (by decide) he hpl) pa_nil he2) (by decide) (by decide) he2 hpl2).weak fun σ H Q ⟨w, m, sd, wf, sl, h⟩ =>
  ⟨w, m, sd, wf, sl, h.bind.imp fun d m1 w1 H1 l1 wf1 h1 v rv => by
    have h2 := vOk_of h1
    unfold oLenSet at h2
    cases z : d.lst? m1 with
    | none => rw [z] at h2; exact h2.elim
    | some l =>
      simp only [z] at h2
      cases z1 : D.tups? l with
      | none => rw [z1] at h2; exact h2.elim
      | some ts =>
        simp only [z1] at h2
        by_cases hn : ts.length < 64
        · rw [if_pos hn] at h2
          obtain ⟨a, xs, rfl, e1, r1⟩ := lstR wf1 rv z
          obtain ⟨ks, k1, k2, k3⟩ := tupsR wf1 r1 z1
          subst k1
          have hkl : ks.length = ts.length := by
            have := congrArg List.length k2
            simpa using this
          refine ⟨a, ks, rfl, .of e1, fun p hp => .of (wf1.subT (k3 p hp)), by omega, fun p L hp hL hK => ⟨p, L, rfl, upd_same, fun nd => ?_⟩⟩
          obtain ⟨l2, f2⟩ := wf1.add (o := SetTO X.prog X.w p L) hp
          have pm : (L.map (·.2)).Perm (dedL ts) := by
            refine (List.perm_ext_iff_of_nodup nd (dedL_nd ts)).mpr fun x => ?_
            rw [dedL_mem, ← k2]
            constructor
            · intro hx
              obtain ⟨r, hr, e⟩ := List.mem_map.mp hx
              exact List.mem_map.mpr ⟨r, hL r hr, e⟩
            · intro hx
              obtain ⟨r, hr, e⟩ := List.mem_map.mp hx
              rw [← e]
              exact hK r hr
          have el : L.length = (dedL ts).length := by
            have := pm.length_eq
            rwa [List.length_map] at this
          rw [el]
          exact h2 _ _ _ l2 f2 rfl
        · rw [if_neg hn] at h2; exact h2.elim⟩
end
end Dl

set_option Elab.async false
set_option linter.all false
set_option maxRecDepth 100000
set_option maxHeartbeats 4000000
/-! DKeys0: d.keys() as a value; sorted of it, int keys, any number. -/
namespace L2
open PySem PySem.Spec PyProof.Rows
def kviewOb (d : Addr) : Obj := { cls := .type "dict_keys", data := .fields #[.ref d] }
def keysO (p d : Addr) : HO := .ext fun h => h.get? p = some (kviewOb d)
theorem keysO_ok {P : Program} {w : World} {H : Hp} {h : Heap} {p d : Addr} (e : h.get? p = some (kviewOb d)) : ObjOk P w H h p (keysO p d) := ⟨e, ⟨_, e⟩, fun h1 h2 q k => k _ q⟩
section
variable {X : Cx}
def tDKeys (td : TE) : TE := fun σ H Q => td σ H fun x H1 => ∃ d kvs, x = .ref d ∧ Rd H1 d (.dK kvs) ∧ ∀ p, H1 p = none → Q (.ref p) (upd H1 p (keysO p d))
theorem pe_dkeys {e : Expr} {td : TE} {apos cpos : Pos} (he : PE X e td) (hbase : attributeBase e "keys" X.env (eval e X.env) = eval e X.env := by rfl) (hline : (apos.endLine == cpos.line) = true := by rfl) : PE X (.Call (.Attribute e "keys" apos) [] [] cpos) (tDKeys td) := by
  refine ⟨fun pins s σ H Q I h => ?_⟩
  refine wpAny_Call_method (T := "dict") (id := "dict.keys") hbase rfl hline F.plainAttrs_dict F.slot_dict_keys F.type_dict_keys (thn (he.run pins s σ H _ I h) fun u s1 ⟨x, H1, I1, rx, d, kvs, ex, hd, q⟩ => ?_)
  subst ex
  obtain rfl : u = Value.ref d := rx
  obtain ⟨_, lo, vs, rel, dd⟩ := dk_rd I1.hok hd
  obtain ⟨h1, h2, _⟩ := isD_at I1 (.inl ⟨kvs, hd⟩)
  refine ⟨h1, h2, ?_⟩
  show wpAny _ _ (callWith cpos (.builtin "dict.keys") [.ref d] [] []) _ X.xe s1
  refine method_meetsIn F.slot_dict_keys F.entry_dict_keys rfl (PySem.evalArgs_none ⟨rfl, h1, F.args_dict_keys_1 _, _, PySem.W.kdl_meets_keys (mixKind X.prog X.w) d lo, ⟨vs, dd⟩, ?_⟩)
  exact ⟨.ref s1.heap.objs.size, upd H1 s1.heap.objs.size (keysO s1.heap.objs.size d), I1.laid (t' := s1.toks) (fun b u e => Heap.get?_push_of_some _ e) (Nat.le_refl _) (keysO_ok (Heap.get?_push_size _ rfl)), rfl, q _ (I1.hok.fresh (Nat.le_refl _))⟩
def rSortKV : List V → Hp → VK → Prop := fun xs H Q => ∃ (p a : Addr) (kvs : List (Key × V)) (ks : List Int), xs = [.ref p] ∧ H p = some (keysO p a) ∧ Rd H a (.dK kvs) ∧ kvs.map (·.1) = ks.map Sum.inl ∧
  ∀ (ys : List Int) (q : Addr), ys.Perm ks → ys.Pairwise (· ≤ ·) → H q = none → Q (.ref q) (upd H q (.lst (ys.map V.int)))
theorem cr_sortKV (hc : X.calm = true) : CallR X (.builtin "sorted") rSortKV := by
  intro pins s σ H xs us Q I r q
  obtain ⟨p, a, kvs, ks, ex, hp, hd, hks, q⟩ := q
  subst ex
  obtain ⟨u, eu, rx⟩ := vals1 r
  subst eu
  cases rx
  have hv : s.heap.get? p = some (kviewOb a) := (I.hok p _ hp).1
  obtain ⟨z, lo, vs, rel, dd⟩ := dk_rd I.hok hd
  obtain ⟨ep, hat⟩ := dd.dictAt
  have hkeys : vs.map (·.1) = ks.map Sum.inl := rel.keys.symm.trans hks
  have hl : vs.length = ks.length := by
    have e := congrArg List.length hkeys
    rwa [List.length_map, List.length_map] at e
  have hz : vs.length ≤ sizeLine := by
    have e := congrArg List.length rel.keys
    rw [List.length_map, List.length_map] at e
    omega
  refine Calls.call_function_entry kind_sorted plain_sorted entry_sorted (args_sorted1 _) ?_
  unfold Builtin.«sorted»
  refine wpAny_bind (m := checkCount "sorted" 1 1 _) (wpAny_pure (wpAny_bind (PySem.W.kdu_collect (A := X.A.in1) (PySem.W.kdl_keys (knd := mixKind X.prog X.w) (kvs := vs) (ep := ep)) (I.ok.hd hc) ⟨⟨_, hv, rfl, rfl⟩, hat⟩ hz fun h' tk acc hk hacc => ?_)))
  have hal : acc.toList.length = ks.length := by rw [Array.length_toList, hacc.1, hl]
  have hS : IntsAre acc.toList ks := ints_each hal fun j v e => by
    obtain ⟨k, x, e1, e2⟩ := hacc.2 j v (by rw [← Array.getElem?_toList]; exact e)
    have e3 : (vs.map (·.1))[j]? = some k := by rw [List.getElem?_map, e1]; rfl
    rw [hkeys, List.getElem?_map] at e3
    cases e4 : ks[j]? with
    | none => rw [e4] at e3; cases e3
    | some y =>
      rw [e4] at e3
      have e5 : Sum.inl y = k := Option.some.inj e3
      subst e5
      rcases keyIs_shape (show keyIs (Sum.inl y) v = true from e2) with ⟨i, t, ek, ev⟩ | ⟨_, _, ek, _⟩
      · cases ek; exact ⟨y, t, rfl, ev⟩
      · cases ek
  have I1 : Inv X pins σ H { s with heap := h', toks := tk } := I.kept hk
  have az : acc.toList.length ≤ sizeLine := by rw [hal, ← hl]; exact hz
  refine wpAny_bind (wpAny_newList ?_ az)
  have gL : (h'.push (seqObj "list" acc.toList.toArray 0)).get? h'.objs.size = some (seqObj "list" acc.toList.toArray 0) := Heap.get?_push_size _ rfl
  show wpAny _ _ _ _ _ { s with heap := h'.push (seqObj "list" acc.toList.toArray 0), toks := tk }
  refine wpAny_bind (wpAny_holding (wpAny_call_entry slot_list_sort ⟨_, gL, rfl⟩ entry_list_sort (SrtO.list_sort_ord (s := { s with heap := h'.push (seqObj "list" acc.toList.toArray 0), toks := tk }) SrtO.swo_int gL az (fun h2 => SrtO.ints_sortable hS h2) fun out h1 h2 => ⟨_, rfl, ?_⟩) (args_list_sort _)))
  obtain ⟨k1, k2, k3⟩ := SrtO.ints_out hS h1 h2
  obtain ⟨c, hc'⟩ := sortedHeap_at (vs := acc.toList) (out := out.toArray) gL
  have hlen : ((out.map SrtO.iv).map V.int).length ≤ sizeLine := by rw [List.length_map, k2.length_eq, ← hl]; exact hz
  refine wpAny_pure ⟨_, rfl, .ref h'.objs.size, upd H h'.objs.size (.lst ((out.map SrtO.iv).map V.int)), I1.laid (t' := tk) (fun b u e => ?_) (Nat.le_refl _) ⟨hlen, out, c, vals_of_ints k1, hc'⟩, rfl, q _ _ k2 k3 (I1.hok.fresh (Nat.le_refl _))⟩
  have lt := Heap.lt_size e
  show (sortedHeap (h'.push (seqObj "list" acc.toList.toArray 0)) h'.objs.size acc.toList out.toArray).get? b = some u
  rw [sortedHeap_old (Nat.ne_of_lt lt) (by rw [size_push']; exact Nat.lt_succ_of_lt lt)]
  exact Heap.get?_push_of_some _ e
end
end L2

set_option Elab.async false
set_option linter.all false
set_option maxRecDepth 100000
set_option maxHeartbeats 4000000
/-! DExt0: list.extend of a tuple. -/
namespace PySem
open PySem PySem.Spec PyProof PyProof.Rows
set_option maxRecDepth 8000 in
theorem ext_tup (l : Addr) (us : Array Value) (n : Nat) (b : Addr) (vs : Array Value) (k : Nat) (bd : Option Addr) (bs : Array (Option Value)) (g0 : ¬(!us.isEmpty && Builtin.List.listTooLong (us.size + vs.size)) = true) (g1 : us.size ≤ sizeLine) (g2 : us.size + vs.size ≤ sizeLine + 1) :
    Meets (Builtin.«list.extend» ⟨[.ref l, .ref b], []⟩) (fun _ R s => s.heap.get? l = some { cls := .type "list", dict := none, data := .seq us n, slots := #[] } ∧ s.heap.get? b = some { cls := .type "tuple", dict := bd, data := .seq vs k, slots := bs } ∧
      R (.ok (.ret Value.none)) { s with heap := s.heap.update l (Obj.mapSeq fun x => x ++ vs), toks := s.toks }) :=
  .of_wp fun prog w A R s h => by
    obtain ⟨hp, g, d, tk, os⟩ := s
    obtain ⟨hl, hb, h⟩ := h
    have s1 := AutoSeq1.idx_int; have s2 := AutoSeq1.sub_tuple_tuple; have s3 := AutoSeq1.sub_list_list; have s4 := AutoSeq1.sub_tuple_list; have s5 := AutoSeq1.sub_list_tuple
    have z : (us ++ vs).size ≤ sizeLine + 1 := by rw [Array.size_append]; exact g2
    wp_walk using (wpAny_updateSeq hl rfl (hz := g1) (_hz' := z)), AutoSeq1.wpAny_loadPart' hl, AutoSeq1.wpAny_loadPart' hb; exact ⟨_, rfl, h⟩
end PySem
namespace L2
open PySem PySem.Spec PyProof.Rows
def rExtT (K : PySem.W.Frag) : V → List V → Hp → VK → Prop := fun x vs H Q => ∃ l b xs zs, x = .ref l ∧ vs = [.ref b] ∧ H l = some (.lst xs) ∧ SqT K H b zs ∧ xs.length + zs.length ≤ sizeLine ∧ Q .non (upd H l (.lst (xs ++ zs)))
theorem mt_extendT {X : Cx} : MtR X "list.extend" (rExtT X.K) := by
  intro pins s σ H x vs v us Q I rx rv h
  obtain ⟨l, b, xs, zs, rfl, rfl, hH, hB, hz, q⟩ := h
  cases rx
  obtain ⟨u, rfl, ru⟩ := rv.one
  cases ru
  obtain ⟨z, its, n, r, hl, e⟩ := I.lstM hH
  obtain ⟨its2, r2, ⟨⟨oc, od, ov, os⟩, ho, hc, k, hd⟩, _⟩ := I.tuple hB
  simp only at hc hd
  subst hc; subst hd
  have l2 := r2.length
  have hsz : its.toArray.size + its2.toArray.size ≤ sizeLine := by rw [List.size_toArray, List.size_toArray]; omega
  have hlong : ¬ (!its.toArray.isEmpty && Builtin.List.listTooLong (its.toArray.size + its2.toArray.size)) = true := by
    rw [notLongL hsz, Bool.and_false]; exact Bool.false_ne_true
  refine call_meets PySem.F.slot_list_extend ⟨_, e, rfl⟩ PySem.F.entry_list_extend (PySem.F.args_list_extend_2 _ _) (PySem.ext_tup l its.toArray n b its2.toArray k od os hlong (by rw [List.size_toArray]; omega) (by omega)) ⟨e, ho, ?_⟩
  refine ⟨.non, _, I.lset (its' := its ++ its2) hH e (by simp) (r.append r2) ?_, rfl, q⟩
  rw [List.length_append]
  omega
end L2

set_option Elab.async false
set_option linter.all false
set_option maxRecDepth 100000
set_option maxHeartbeats 4000000
/-! DKeys: sorted(d.keys()), dict comprehensions, extend, +=. -/
namespace Dl
open PySem PySem.Spec PyProof.Rows L2
section
variable {X : Cx} {W : WX} {e o : Expr} {pos p1 apos cpos : Pos} {fa fb : EF}
def intK : Key → Option Int
  | .inl i => some i
  | .inr _ => none
def intKs : List (Key × D) → Option (List Int)
  | [] => some []
  | (.inl i, _) :: r => (intKs r).map (i :: ·)
  | _ => none
theorem intKsR {K : PySem.W.Frag} {w : Wd} : ∀ {kvs : List (Key × D)} {xs : List (Key × V)} {ks : List Int}, repg K w kvs xs → intKs kvs = some ks → xs.map (·.1) = ks.map Sum.inl
  | [], _, _, h, e => by cases h; cases e; rfl
  | (k, d) :: r, _, ks, ⟨y, ys, e0, h, rr⟩, e => by
    subst e0
    cases k with
    | inl i =>
      have e' : (intKs r).map (i :: ·) = some ks := e
      cases z : intKs r with
      | none => rw [z] at e'; cases e'
      | some r' =>
        rw [z] at e'
        cases e'
        rw [List.map_cons, intKsR rr z]
        rfl
    | inr s => cases e
def oSortKeys (d : D) (m : Mem) : Option (D × Mem) := match d.kd? m with
  | some kvs => match intKs kvs with
    | some ks => if ks.Nodup then some (.lst ((sdU ltI ks).map .int), m) else none
    | none => none
  | none => none
theorem ints_reps {K : PySem.W.Frag} (w : Wd) : ∀ (l : List Int), reps K w (l.map D.int) (l.map V.int)
  | [] => rfl
  | _ :: l => ⟨_, _, rfl, rfl, ints_reps w l⟩
theorem d_sortKeys (hc : X.calm = true) (hm : X.mg "sorted" = none) (ha : DE X W e fa) (hg : Gl X "sorted" := by rfl)
    (he2 : starEach [.Call (.Attribute e "keys" apos) [] [] cpos] X.env = (false, eval (.Call (.Attribute e "keys" apos) [] [] cpos) X.env) :: starEach [] X.env := by rfl)
    (hpl2 : (backTo pos (starEach [] X.env)).any (·.1) = false := by rfl) (hbase : attributeBase e "keys" X.env (eval e X.env) = eval e X.env := by rfl) (hline : (apos.endLine == cpos.line) = true := by rfl) :
    DE X W (.Call (.Name "sorted" p1) [.Call (.Attribute e "keys" apos) [] [] cpos] [] pos) (xUn oSortKeys fa) :=
  (pe_callB (cr_sortKV hc) hg hm (by decide +kernel) (pa_cons (pe_dkeys ha hbase hline) pa_nil he2) (by decide) (by decide) he2 hpl2).weak fun σ H Q ⟨w, m, sd, wf, sl, h⟩ =>
  ⟨w, m, sd, wf, sl, h.bind.imp fun d m1 w1 H1 l1 wf1 h1 v rv => by
    have h2 := vOk_of h1
    unfold oSortKeys at h2
    cases z : d.kd? m1 with
    | none => rw [z] at h2; exact h2.elim
    | some kvs =>
      simp only [z] at h2
      cases z1 : intKs kvs with
      | none => rw [z1] at h2; exact h2.elim
      | some ks =>
        simp only [z1] at h2
        by_cases nd : ks.Nodup
        · rw [if_pos nd] at h2
          obtain ⟨a, xs, rfl, rd, r⟩ := kdR wf1 rv z
          refine ⟨a, xs, rfl, rd, fun p hp => ⟨p, a, xs, ks, rfl, upd_same, ?_, intKsR r z1, fun ys q pm srt hq => ?_⟩⟩
          · rcases rd with rd | ⟨o, rd⟩
            · exact .inl (by rw [upd_ne (ne_of_none rd hp)]; exact rd)
            · exact .inr ⟨o, by rw [upd_ne (ne_of_none rd hp)]; exact rd⟩
          · obtain ⟨l2, f2⟩ := wf1.add (o := keysO p a) hp
            obtain ⟨l3, f3⟩ := f2.add (o := .lst (ys.map V.int)) hq
            have eq : ys = sdU ltI ks := by
              refine srt_uniq ltI_sto _ _ ?_ (sdU_srt ltI_sto ks) fun x => by rw [sdU_mem ltI_sto, pm.mem_iff]
              have nd2 : ys.Nodup := pm.nodup_iff.mpr nd
              exact (srt.and nd2).imp fun ⟨h1, h2⟩ => decide_eq_true (by omega)
            subst eq
            exact h2 _ _ _ (l2.trans l3) f3 ⟨q, _, rfl, upd_same, ints_reps _ _⟩
        · rw [if_neg nd] at h2; exact h2.elim⟩
/-! ### extend, += -/
def oExtend (d : D) (ds : List D) (m : Mem) : Option (D × Mem) := match d, ds with
  | .loc n, [e] => match m[n]? with
    | some (.lst l) => match e.lst? m with
      | some l2 => if l.length + l2.length ≤ big then some (.non, m.set n (.lst (l ++ l2))) else none
      | none => match e.tup? with
        | some l2 => if l.length + l2.length ≤ big then some (.non, m.set n (.lst (l ++ l2))) else none
        | none => none
    | _ => none
  | _, _ => none
theorem s_extend {K : PySem.W.Frag} : ∀ w H m d v ds vs Q, Wf K w H m → rep K w d v → reps K w ds vs → vOk K w (oExtend d ds m) Q → (rExtend v vs H Q ∨ rExtT K v vs H Q) := by
  intro w H m d v ds vs Q wf r rs q
  unfold oExtend at q
  split at q
  · rename_i n e
    cases z : m[n]? with
    | none => simp only [z] at q; exact q.elim
    | some c =>
      simp only [z] at q
      cases c with
      | lst l =>
        simp only at q
        obtain ⟨y', ys, rfl, ry, rfl⟩ := rs
        obtain ⟨a, rfl, ha, xs, e1, r1⟩ := wf.at r z
        cases z2 : e.lst? m with
        | some l2 =>
          simp only [z2] at q
          by_cases h : l.length + l2.length ≤ big
          · rw [if_pos h] at q
            obtain ⟨b, zs, rfl, e2, r2⟩ := lstR wf ry z2
            refine .inl ⟨a, b, xs, zs, rfl, rfl, e1, e2, big_ok (by rw [r1.length, r2.length]; exact h), ?_⟩
            exact q w _ _ (Le.refl _) (wf.put ha (fun b hb _ => upd_ne hb) ⟨_, upd_same, r1.append r2⟩) rfl
          · rw [if_neg h] at q; exact q.elim
        | none =>
          simp only [z2] at q
          cases z3 : e.tup? with
          | none => simp only [z3] at q; exact q.elim
          | some l2 =>
            simp only [z3] at q
            by_cases h : l.length + l2.length ≤ big
            · rw [if_pos h] at q
              obtain ⟨b, zs, rfl, e2, r2⟩ := tupR wf ry z3
              refine .inr ⟨a, b, xs, zs, rfl, rfl, e1, e2, big_ok (by rw [r1.length, r2.length]; exact h), ?_⟩
              exact q w _ _ (Le.refl _) (wf.put ha (fun b hb _ => upd_ne hb) ⟨_, upd_same, r1.append r2⟩) rfl
            · rw [if_neg h] at q; exact q.elim
      | _ => exact q.elim
  · exact q.elim
theorem d_extend {es : List Expr} {ar : AF} (ho : DE X W o fa) (ha : DA X W (e :: es) ar)
    (hbase : attributeBase o "extend" X.env (eval o X.env) = eval o X.env := by rfl)
    (hfew : ((backTo cpos (starEach (e :: es) X.env)).all (fun x => !x.1) && (backToKw cpos (keywordEach [] X.env)).all (fun x => x.1.isSome) && decide ((e :: es).length + ([] : List Keyword).length + (if ([] : List Keyword).isEmpty then 0 else 1) < 30)) = true := by rfl)
    (hline : (apos.endLine == cpos.line) = true := by rfl) (hs : starEach (e :: es) X.env = (false, eval e X.env) :: starEach es X.env := by rfl) (hplain : (backTo cpos (starEach es X.env)).any (·.1) = false := by rfl) :
    DE X W (.Call (.Attribute o "extend" apos) (e :: es) [] cpos) (xBM oExtend fa ar) :=
  (pe_bm PySem.F.plainAttrs_list PySem.F.slot_list_extend PySem.F.type_list_extend (r := fun v vs H Q => rExtend v vs H Q ∨ rExtT X.K v vs H Q) (fun pins s σ H x vs v us Q I rx rv h => h.elim (mt_extend pins s σ H x vs v us Q I rx rv) (mt_extendT pins s σ H x vs v us Q I rx rv)) ho ha hbase hfew hline hs hplain).weak (s_bm s_extend)
def oExtI : Op2 := fun d e m => match d with
  | .loc n => match m[n]? with
    | some (.lst l) => match e.lst? m with
      | some l2 => if l.length + l2.length ≤ big then some (.loc n, m.set n (.lst (l ++ l2))) else none
      | none => none
    | _ => none
  | _ => none
theorem s_extI {K : PySem.W.Frag} : OSat K rExt2 oExtI := by
  intro w H m d e x y Q wf r ry q
  unfold oExtI at q
  cases d with
  | loc n =>
    simp only at q
    cases z : m[n]? with
    | none => simp only [z] at q; exact q.elim
    | some c =>
      simp only [z] at q
      cases c with
      | lst l =>
        simp only at q
        obtain ⟨a, rfl, ha, xs, e1, r1⟩ := wf.at r z
        cases z2 : e.lst? m with
        | none => simp only [z2] at q; exact q.elim
        | some l2 =>
          simp only [z2] at q
          by_cases h : l.length + l2.length ≤ big
          · rw [if_pos h] at q
            obtain ⟨b, zs, rfl, e2, r2⟩ := lstR wf ry z2
            refine ⟨a, b, xs, zs, rfl, rfl, e1, e2, big_ok (by rw [r1.length, r2.length]; exact h), ?_⟩
            exact q w _ _ (Le.refl _) (wf.put ha (fun b hb _ => upd_ne hb) ⟨_, upd_same, r1.append r2⟩) ⟨a, rfl, ha⟩
          · rw [if_neg h] at q; exact q.elim
      | _ => exact q.elim
  | _ => exact q.elim
/-! ### walks over lists and tuples that stay -/
theorem walk_seqT {K : PySem.W.Frag} {w0 w1 : Wd} {a : Addr} {l : List D} {xs : List V} (r : reps K w0 l xs) (l0 : Le w0 w1) (h : ∀ w2 H2 m2, Le w1 w2 → Wf K w2 H2 m2 → SqT K H2 a xs) : WalkD K w1 (Itt K a) l := by
  have len := r.length
  refine ⟨fun i w H m le f hi => ?_, fun i w H m le f hi => ?_, fun i w H m d x H' le f hd ⟨e, e1⟩ => ?_⟩
  · exact ⟨xs, xs[i]'(by omega), h w H m le f, List.getElem?_eq_getElem (by omega)⟩
  · exact ⟨xs, h w H m le f, by omega⟩
  · subst e
    have hx := e1 xs (h w H' m le f)
    obtain ⟨v, e2, r2⟩ := r.get hd
    rw [hx] at e2
    cases e2
    exact ⟨w, Le.refl _, f, r2.mono (l0.trans le)⟩
theorem walk_seqL {K : PySem.W.Frag} {w0 w1 : Wd} {a : Addr} {l : List D} {xs : List V} (r : reps K w0 l xs) (l0 : Le w0 w1) (h : ∀ w2 H2 m2, Le w1 w2 → Wf K w2 H2 m2 → SqL K H2 a xs) : WalkD K w1 (Itl K a) l := by
  have len := r.length
  refine ⟨fun i w H m le f hi => ?_, fun i w H m le f hi => ?_, fun i w H m d x H' le f hd ⟨e, e1⟩ => ?_⟩
  · exact ⟨xs, xs[i]'(by omega), h w H m le f, List.getElem?_eq_getElem (by omega)⟩
  · exact ⟨xs, h w H m le f, by omega⟩
  · subst e
    have hx := e1 xs (h w H' m le f)
    obtain ⟨v, e2, r2⟩ := r.get hd
    rw [hx] at e2
    cases e2
    exact ⟨w, Le.refl _, f, r2.mono (l0.trans le)⟩
def xSeqI (fa : EF) : IF := fun sd m => (fa sd m).bind fun d m1 => match d.fro? with
  | some (l, _) => .ok l m1
  | none => .stuck
@[simp] theorem q_seqI {sd : Sl} {m : Mem} : xSeqI fa sd m = (fa sd m).bind fun d m1 => match d.fro? with
  | some (l, _) => .ok l m1
  | none => .stuck := rfl
theorem di_seq {tg : Expr} (he : DE X W e fa) : DI X W tg e (xSeqI fa) := by
  refine ⟨_, pi_or (pi_tup he) (pi_list he), fun σ H R' ⟨w, m, sd, wf, sl, h⟩ => ?_⟩
  have go := h.bind
  cases q : fa sd m with
  | err e m1 => exact .inl ⟨w, m, sd, wf, sl, by rw [q] at go ⊢; exact go⟩
  | stuck => exact .inl ⟨w, m, sd, wf, sl, by rw [q] at go ⊢; exact go⟩
  | ok d m1 =>
    rw [q] at go
    cases z : d.fro? with
    | none =>
      refine .inl ⟨w, m, sd, wf, sl, ?_⟩
      rw [q]
      intro w1 H1 l1 wf1 v rv
      have h1 := go w1 H1 l1 wf1
      simp only [z] at h1
      exact h1.elim
    | some p =>
      obtain ⟨l, k⟩ := p
      cases k with
      | true =>
        refine .inl ⟨w, m, sd, wf, sl, ?_⟩
        rw [q]
        intro w1 H1 l1 wf1 v rv
        have h1 := go w1 H1 l1 wf1
        simp only [z] at h1
        obtain ⟨a, xs, rfl, r, q1⟩ := froR rv z
        have q' : ∀ w2 H2 m2, Le w1 w2 → Wf X.K w2 H2 m2 → SqT X.K H2 a xs := fun w2 H2 m2 l f => by have := q1 w2 H2 m2 l f; rwa [if_pos rfl] at this
        exact ⟨a, rfl, ⟨xs, q' w1 H1 m1 (Le.refl _) wf1⟩, h1 w1 H1 (Le.refl _) wf1 _ (walk_seqT r (Le.refl _) q')⟩
      | false =>
        refine .inr ⟨w, m, sd, wf, sl, ?_⟩
        rw [q]
        intro w1 H1 l1 wf1 v rv
        have h1 := go w1 H1 l1 wf1
        simp only [z] at h1
        obtain ⟨a, xs, rfl, r, q1⟩ := froR rv z
        have q' : ∀ w2 H2 m2, Le w1 w2 → Wf X.K w2 H2 m2 → SqL X.K H2 a xs := fun w2 H2 m2 l f => by have := q1 w2 H2 m2 l f; rwa [if_neg (by decide)] at this
        exact ⟨a, rfl, ⟨xs, q' w1 H1 m1 (Le.refl _) wf1⟩, h1 w1 H1 (Le.refl _) wf1 _ (walk_seqL r (Le.refl _) q')⟩
/-! ### dict comprehensions, int and text keys -/
variable {tg : Expr} {f : IF} {kx vx : Expr} {ifs : List Expr} {scope : Scope} {own : List (Str × Nat)} {t : TF} {fk fv : EF} {gR : TG} {gd : OF} {vs : List Nat}
def dcTurn (vs : List Nat) (gd : OF) (t : TF) (ek ev : EF) (n : Nat) (sd : Sl) (x : D) (k : Mem → Option Mem) (m : Mem) : Option Mem := match gd x (wipeD sd vs) with
  | none => none
  | some sd1 => match t sd1 m with
    | .ok true m1 => match ek sd1 m1 with
      | .ok y m2 => match ev sd1 m2 with
        | .ok z m3 => match m3[n]? with
          | some (.dK kvs) => match y.key? with
            | some kk => if kvs.length < big then k (m3.set n (.dK (putKD kvs kk z))) else none
            | none => none
          | _ => none
        | _ => none
      | _ => none
    | .ok false m1 => k m1
    | _ => none
def dcD (vs : List Nat) (gd : OF) (t : TF) (ek ev : EF) (n : Nat) (sd : Sl) : List D → Mem → Option Mem
  | [], m => some m
  | x :: xs, m => dcTurn vs gd t ek ev n sd x (fun m => dcD vs gd t ek ev n sd xs m) m
def xDcI (po : Post) (vs : List Nat) (src : IF) (gd : OF) (t : TF) (ek ev : EF) : EF := fun sd m => (src sd m).bind fun l m1 => po m1 (lcEnd m1.length (dcD vs gd t ek ev m1.length sd l (m1 ++ [.dK []])))
@[simp] theorem q_dcI {sd : Sl} {m : Mem} (po : Post) : xDcI po vs f gd t fk fv sd m = (f sd m).bind fun l m1 => po m1 (lcEnd m1.length (dcD vs gd t fk fv m1.length sd l (m1 ++ [.dK []]))) := rfl
theorem dc_turn {K : PySem.W.Frag} (ow : OwnT K vs gR gd) {w0 w : Wd} {H : Hp} {m m2 : Mem} {n : Nat} {p : Addr} {sd : Sl} {σ : L2.St} {x : D} {v : V} {Q : Hp → Prop} {r : Mem → Option Mem} (hp : w0.adr[n]? = some p) (l : Le w0 w) (wf : Wf K w H m) (sl : slR K w sd σ) (rx : rep K w x v)
    (h : dcTurn vs gd t fk fv n sd x r m = some m2) (q : ∀ w' H', Le w w' → Wf K w' H' m2 → Q H') :
    gR v (wipe σ vs) H fun σ2 H2 => wipe σ2 vs = wipe σ vs ∧ tOf K W0 t σ2 H2 fun b H3 => if b = true then eOf K W0 fk σ2 H3 fun y H4 => eOf K W0 fv σ2 H4 fun z H5 => ∃ kvs k, y = kV k ∧ H5 p = some (.dK kvs) ∧ kvs.length < sizeLine ∧ LcI K w0 Q r (upd H5 p (.dK (putK kvs k z))) else LcI K w0 Q r H3 := by
  unfold dcTurn at h
  cases z : gd x (wipeD sd vs) with
  | none => rw [z] at h; cases h
  | some sd1 =>
    rw [z] at h
    refine ow w H m x v _ σ sd1 _ wf rx (sl.wipe vs) z fun σ2 sl2 ew => ⟨ew, w, m, sd1, wf, sl2, ?_⟩
    simp only at h
    cases y : t sd1 m with
    | err e m1 => rw [y] at h; cases h
    | stuck => rw [y] at h; cases h
    | ok k m1 =>
      rw [y] at h
      intro w1 H1 l1 wf1
      cases k with
      | false =>
        show LcI K w0 Q r H1
        exact ⟨w1, m1, m2, l.trans l1, wf1, h, fun w' H' l' f => q w' H' (l1.trans l') f⟩
      | true =>
        show eOf K W0 fk σ2 H1 _
        refine ⟨w1, m1, sd1, wf1, sl2.mono l1, ?_⟩
        simp only at h
        cases y2 : fk sd1 m1 with
        | err e m1 => rw [y2] at h; cases h
        | stuck => rw [y2] at h; cases h
        | ok yk m3 =>
          rw [y2] at h
          intro w3 H3 l3 wf3 u ru
          refine ⟨w3, m3, sd1, wf3, (sl2.mono l1).mono l3, ?_⟩
          simp only at h
          cases y4 : fv sd1 m3 with
          | err e m1 => rw [y4] at h; cases h
          | stuck => rw [y4] at h; cases h
          | ok zv m4 =>
            rw [y4] at h
            intro w4 H4 l4 wf4 u2 ru2
            simp only at h
            cases y5 : m4[n]? with
            | none => rw [y5] at h; cases h
            | some c =>
              rw [y5] at h
              cases c with
              | dK kvs =>
                simp only at h
                cases y6 : yk.key? with
                | none => rw [y6] at h; cases h
                | some kk =>
                  rw [y6] at h
                  simp only at h
                  by_cases hb : kvs.length < big
                  · rw [if_pos hb] at h
                    have hp4 : w4.adr[n]? = some p := (((l.trans l1).trans l3).trans l4).get hp
                    obtain ⟨xs, e1, r1⟩ := wf4.cell n p _ hp4 y5
                    have r1' := repk_g.mp r1
                    refine ⟨xs, kk, keyR ru y6, e1, big_lt (by rw [r1'.len]; exact hb), w4, _, m2, ((l.trans l1).trans l3).trans l4, ?_, h, fun w' H' l' f => q w' H' (((l1.trans l3).trans l4).trans l') f⟩
                    exact wf4.put hp4 (fun b hb _ => upd_ne hb) ⟨_, upd_same, repk_g.mpr (r1'.put ru2)⟩
                  · rw [if_neg hb] at h; cases h
              | _ => cases h
theorem dcJ {K : PySem.W.Frag} {σ : L2.St} {w1 : Wd} {H1 : Hp} {m1 : Mem} {sd : Sl} {l : List D} {J : It} {Q : VK} (ow : OwnT K vs gR gd) (hJ : WalkD K w1 J l) (sl : slR K w1 sd σ) (wf1 : Wf K w1 H1 m1)
    (h1 : rOk K W σ w1 (lcEnd m1.length (dcD vs gd t fk fv m1.length sd l (m1 ++ [.dK []]))) (eK K Q)) :
    ∀ D, H1 D = none → ∃ Wi : Nat → Nat → Hp → Prop, (∃ m, Wi 0 m (upd H1 D (.dK []))) ∧ ∀ i m H, Wi i m H →
      (J.stop i H ∧ Q (.ref D) H) ∨ (J.go i H ∧ ∃ Nx : Hp → Prop, (∀ H', Nx H' → ∃ m', m' < m ∧ Wi (i + 1) m' H') ∧ ∀ x H', J.yld i H x H' → gR x (wipe σ vs) H' fun σ2 H2 => wipe σ2 vs = wipe σ vs ∧ tOf K W0 t σ2 H2 fun b H3 =>
        if b = true then eOf K W0 fk σ2 H3 fun y H4 => eOf K W0 fv σ2 H4 fun z H5 => ∃ kvs k, y = kV k ∧ H5 D = some (.dK kvs) ∧ kvs.length < sizeLine ∧ Nx (upd H5 D (.dK (putK kvs k z))) else Nx H3) := by
  intro p hpn
  obtain ⟨_, wf2, _⟩ := new_dict (d := .dK []) (u := .dK []) wf1 hpn ⟨[], upd_same, rfl⟩
  have hp : (w1.cell p).adr[m1.length]? = some p := by
    show (w1.adr ++ [p])[m1.length]? = some p
    rw [← wf1.len, List.getElem?_append_right (Nat.le_refl _), Nat.sub_self]
    rfl
  obtain ⟨m2, e2, q2⟩ := lc_end (w := w1) hp (h1.mono (Le.cell (p := p)))
  refine ⟨fun i k H => k = l.length - i ∧ i ≤ l.length ∧ LcI K (w1.cell p) (fun H => Q (.ref p) H) (fun m => dcD vs gd t fk fv m1.length sd (l.drop i) m) H, ⟨l.length, by omega, Nat.zero_le _, _, _, m2, Le.refl _, wf2, by rw [List.drop_zero]; exact e2, q2⟩, ?_⟩
  rintro i k H3 ⟨hk, hi, w3, m3, m4, l3, wf3, e3, q3⟩
  by_cases q : i = l.length
  · refine .inl ⟨hJ.stop i w3 H3 m3 (Le.cell.trans l3) wf3 q, ?_⟩
    have e : l.drop i = [] := List.drop_eq_nil_of_le (by omega)
    rw [e] at e3
    cases e3
    exact q3 w3 H3 (Le.refl _) wf3
  · have hlt : i < l.length := by omega
    have hx := List.getElem?_eq_getElem hlt
    rw [drop_get hx] at e3
    refine .inr ⟨hJ.go i w3 H3 m3 (Le.cell.trans l3) wf3 hlt, LcI K (w1.cell p) (fun H => Q (.ref p) H) (fun m => dcD vs gd t fk fv m1.length sd (l.drop (i + 1)) m), fun H' z => ⟨l.length - (i + 1), by omega, rfl, by omega, z⟩, fun x H' hy => ?_⟩
    obtain ⟨w5, l5, wf5, rx⟩ := hJ.yld i w3 H3 m3 _ x H' (Le.cell.trans l3) wf3 hx hy
    exact dc_turn ow hp (l3.trans l5) wf5 (sl.mono (Le.cell.trans (l3.trans l5))) rx e3 fun w' H'' l' f' => q3 w' H'' (l5.trans l') f'
theorem d_dcI {po : Post} (hpo : PostOk po) (hc : X.calm = true) (hN : X.N.Nodup) (hi : DI X W tg e f) (ok : BlkOk X.N X.env.scope scope own) (ow : OwnT X.K (own.map (·.2)) gR gd)
    (hg : ∀ (s : Shared) (H : Hp) (C : Addr) (cl : List (Str × Addr)) (fp : List Addr), PG (X.blk s H scope (compEnvC scope cl C X.env) fp) tg gR)
    (ht : ∀ (s : Shared) (H : Hp) (C : Addr) (cl : List (Str × Addr)) (fp : List Addr), PTs (X.blk s H scope (compEnvC scope cl C X.env) fp) ifs (tOf X.K W0 t))
    (hk : ∀ (s : Shared) (H : Hp) (C : Addr) (cl : List (Str × Addr)) (fp : List Addr), DE (X.blk s H scope (compEnvC scope cl C X.env) fp) W0 kx fk)
    (hv : ∀ (s : Shared) (H : Hp) (C : Addr) (cl : List (Str × Addr)) (fp : List Addr), DE (X.blk s H scope (compEnvC scope cl C X.env) fp) W0 vx fv) (hs : ∀ x, foldedSetIterable e X.env x = pure x := by intro _; rfl) :
    DE X W (.DictComp kx vx [⟨tg, e, ifs, 0⟩] scope pos) (xDcI po (own.map (·.2)) f gd t fk fv) := by
  obtain ⟨wi, h1, h2⟩ := hi
  refine (pe_dc (tk := eOf X.K W0 fk) (tv := eOf X.K W0 fv) (tt := tOf X.K W0 t) hc hN h1 ok hg ht hk hv hs).weak fun σ H Q ⟨w, m, sd, wf, sl, h⟩ => ?_
  exact h2 σ H _ ⟨w, m, sd, wf, sl, h.bind.imp fun l m1 w1 H1 l1 wf1 h3 J hJ => dcJ (W := W) ow hJ (sl.mono l1) wf1 (hpo wf1 h3)⟩
end
end Dl
namespace Dl
open PySem PySem.Spec PyProof.Rows L2
theorem room_1 {j : Nat} {X : Cx} (hr : Room j X.A) : X.A.units + 1 < cLine := by have := hr.un; omega
end Dl

set_option Elab.async false
set_option linter.all false
set_option maxRecDepth 100000
set_option maxHeartbeats 4000000
/-! DMax: max, min of a list of ints; max of three; max(d.values()). -/
namespace L2
open PySem PySem.Spec PyProof.Rows PyProof PySem.W
section
variable {X : Cx} {o : Expr} {p pos apos mpos : Pos} {td : TE}
/-- max(o.values()), a dict locked from now on, with int values, one at least -/
def tMaxVals (td : TE) : TE := fun σ H Q => td σ H fun x H1 => ∃ a od kvs is, x = V.ref a ∧ H1 a = some (.frz od (.dK kvs)) ∧ kvs.map (·.2) = is.map V.int ∧ is ≠ [] ∧ ∀ m, m ∈ is → (∀ j ∈ is, j ≤ m) → Q (.int m) H1
theorem pe_maxVals (hc : X.calm = true) (hg : Gl X "max") (hm : X.mg "max" = none) (hd : PE X o td) (hbase : attributeBase o "values" X.env (eval o X.env) = eval o X.env := by rfl) (hline : (apos.endLine == mpos.line) = true := by rfl)
    (hse : starEach [Expr.Call (.Attribute o "values" apos) [] [] mpos] X.env = [(false, eval (Expr.Call (.Attribute o "values" apos) [] [] mpos) X.env)] := by rfl) :
    PE X (.Call (.Name "max" p) [.Call (.Attribute o "values" apos) [] [] mpos] [] pos) (tMaxVals td) := by
  refine ⟨fun pins s σ H Q I h => ?_⟩
  refine wpAny_Call_Name_kw (ld_blt I hg hm (u := .builtin "max") (by first | rfl | decide +kernel) ?_ (by first | decide +kernel | decide) (by first | decide +kernel | decide))
  rw [hse]
  refine PySem.callWith_builtin1 (wpAny_Call_method0_late hbase hline (thn (hd.run pins s σ H _ I h) fun v s1 ⟨x, H1, I1, r1, a, od, kvs, is, ex, ha, hv, hne, q⟩ => ?_))
  subst ex
  obtain rfl : v = Value.ref a := r1
  obtain ⟨hsys, ho, hx, es0, ep, vs, hdt, hsz0, rel, dat⟩ := I1.frzK ha
  refine ⟨"dict", "dict.values", F.plainAttrs_dict, F.slot_dict_values, F.type_dict_values, dat.dictOf.typeIs, fun b e => dat.dictOf.mapOf.noDict b e, Calls.callWith_builtin rfl (PySem.evalArgs_none ?_)⟩
  refine call_meetsIn F.slot_dict_values dat.dictOf.typeIs F.entry_dict_values (F.args_dict_values_1 _) (meets_dict_values (mixKind X.prog X.w) a hsys) ⟨⟨vs, dat.dictOf⟩, ?_⟩
  have k1 : ∀ b u, s1.heap.get? b = some u → (s1.heap.push { cls := .type "dict_values", data := .fields #[.ref a] }).get? b = some u := fun b u e => Heap.get?_push_of_some _ e
  have dat1 : (s1.heap.push { cls := .type "dict_values", data := .fields #[.ref a] }).DictAt (mixKind X.prog X.w) a vs ep := dat.keep k1
  have hlv : vs.length = is.length := by
    have e1 := congrArg List.length hv
    rw [List.length_map, List.length_map] at e1
    rw [← e1]
    exact (KV.length rel).symm
  have hlen : 0 < vs.length := by
    rw [hlv]
    exact List.length_pos_iff.mpr hne
  have hval : ∀ (i : Nat) (v : Value), (∃ k, vs[i]? = some (k, v)) → ∃ t, v = Value.int (is.getD i 0) t := fun i v ⟨k, hk⟩ => by
    obtain ⟨x, h1, h2⟩ := KV.at' rel hk
    have e1 : (kvs.map (·.2))[i]? = some x := by rw [List.getElem?_map, h1] <;> rfl
    rw [hv, List.getElem?_map] at e1
    obtain ⟨j, hj, e2⟩ := Option.map_eq_some_iff.mp e1
    subst e2
    obtain ⟨t, e3⟩ := h2
    refine ⟨t, ?_⟩
    rw [e3, List.getD_eq_getElem?_getD, hj] <;> rfl
  refine call_max_walk (wpAny_pyIter_values (v := s1.heap.objs.size) (d := a) ⟨_, Heap.get?_push_size _ rfl, rfl, rfl⟩ dat1 ?_)
  have hlt : a < s1.heap.objs.size := Heap.lt_size ho
  have hsz : (s1.heap.push { cls := .type "dict_values", data := .fields #[.ref a] }).objs.size = s1.heap.objs.size + 1 := Heap.size_push _ _
  refine ⟨_, _, _, _, _, _, _, rfl, Walks.dictValues (knd := mixKind X.prog X.w) (A := X.A.in1) (I.ok.hd hc) (s1.heap.push { cls := .type "dict_values", data := .fields #[.ref a] }).objs.size a (by rw [hsz]; exact Nat.ne_of_lt (Nat.lt_succ_of_lt hlt)) vs ep,
    ⟨⟨_, Heap.get?_push_size _ rfl, rfl, rfl⟩, dat1.keep fun b u e => Heap.get?_push_of_some _ e⟩, fun b hb => ?_, hlen, CmpOf.ints_gt (fun i => is.getD i 0) hval, fun v h' tk hP hk => ?_⟩
  · show b < ((s1.heap.push _).push _).objs.size
    rw [Heap.size_push, Heap.size_push]
    rw [hsz] at hb
    rcases List.mem_cons.mp hb with e | hb
    · rw [e]
      exact Nat.lt_succ_self _
    · have e : b = a := List.mem_singleton.mp hb
      rw [e]
      exact Nat.lt_succ_of_lt (Nat.lt_succ_of_lt hlt)
  · obtain ⟨t, rfl⟩ := hval _ v hP
    obtain ⟨b1, b2⟩ := argBest_gt (fun i => is.getD i 0) (vs.length - 1)
    refine ⟨.int _, H1, I1.kept (t' := tk) fun b u e => hk b u (fun hmem => ?_) (Heap.get?_push_of_some _ (k1 b u e)), ⟨t, rfl⟩, q _ ?_ fun j hj => ?_⟩
    · have e1 : b = (s1.heap.push { cls := .type "dict_values", data := .fields #[.ref a] }).objs.size := List.mem_singleton.mp hmem
      have e2 := Heap.lt_size e
      rw [hsz] at e1
      rw [e1] at e2
      exact absurd e2 (Nat.not_lt.mpr (Nat.le_succ _))
    · have hb : argBest (fun i j => decide (is.getD i 0 > is.getD j 0)) (vs.length - 1) < is.length := by omega
      rw [List.getD_eq_getElem?_getD, List.getElem?_eq_getElem hb]
      exact List.getElem_mem hb
    · obtain ⟨i, hi, e⟩ := List.mem_iff_getElem.mp hj
      have e2 : is.getD i 0 = j := by rw [List.getD_eq_getElem?_getD, List.getElem?_eq_getElem hi, ← e] <;> rfl
      rw [← e2]
      exact b2 i (by omega)
end
end L2
namespace Dl
open PySem PySem.Spec PyProof.Rows L2
section
variable {X : Cx} {W : WX} {e o : Expr} {es : List Expr} {pos p1 apos cpos mpos : Pos} {fa : EF} {ar : AF}
def maxI : Int → List Int → Int
  | i, [] => i
  | i, j :: l => maxI (if j > i then j else i) l
theorem maxI_ge : ∀ (l : List Int) (i : Int), i ≤ maxI i l ∧ ∀ j ∈ l, j ≤ maxI i l
  | [], i => ⟨Int.le_refl _, fun j hj => by cases hj⟩
  | j :: l, i => by
    obtain ⟨h1, h2⟩ := maxI_ge l (if j > i then j else i)
    show i ≤ maxI (if j > i then j else i) l ∧ ∀ x ∈ j :: l, x ≤ maxI (if j > i then j else i) l
    by_cases q : j > i
    · rw [if_pos q] at h1 h2 ⊢
      exact ⟨by omega, fun x hx => by
        rcases List.mem_cons.mp hx with rfl | hx
        · exact h1
        · exact h2 x hx⟩
    · rw [if_neg q] at h1 h2 ⊢
      exact ⟨h1, fun x hx => by
        rcases List.mem_cons.mp hx with rfl | hx
        · omega
        · exact h2 x hx⟩
theorem maxI_mem : ∀ (l : List Int) (i : Int), maxI i l ∈ i :: l
  | [], i => List.mem_cons_self
  | j :: l, i => by
    have h := maxI_mem l (if j > i then j else i)
    show maxI (if j > i then j else i) l ∈ _
    rcases List.mem_cons.mp h with e | e
    · rw [e]
      by_cases q : j > i
      · rw [if_pos q]; exact List.mem_cons_of_mem _ List.mem_cons_self
      · rw [if_neg q]; exact List.mem_cons_self
    · exact List.mem_cons_of_mem _ (List.mem_cons_of_mem _ e)
theorem maxI_uniq {i m : Int} {l : List Int} (h : m ∈ i :: l) (h2 : ∀ j ∈ i :: l, j ≤ m) : m = maxI i l := by
  have h3 := h2 _ (maxI_mem l i)
  obtain ⟨h4, h5⟩ := maxI_ge l i
  rcases List.mem_cons.mp h with e | e
  · omega
  · have := h5 m e; omega
def minI : Int → List Int → Int
  | i, [] => i
  | i, j :: l => minI (if j < i then j else i) l
theorem minI_le : ∀ (l : List Int) (i : Int), minI i l ≤ i ∧ ∀ j ∈ l, minI i l ≤ j
  | [], i => ⟨Int.le_refl _, fun j hj => by cases hj⟩
  | j :: l, i => by
    obtain ⟨h1, h2⟩ := minI_le l (if j < i then j else i)
    show minI (if j < i then j else i) l ≤ i ∧ ∀ x ∈ j :: l, minI (if j < i then j else i) l ≤ x
    by_cases q : j < i
    · rw [if_pos q] at h1 h2 ⊢
      exact ⟨by omega, fun x hx => by
        rcases List.mem_cons.mp hx with rfl | hx
        · exact h1
        · exact h2 x hx⟩
    · rw [if_neg q] at h1 h2 ⊢
      exact ⟨h1, fun x hx => by
        rcases List.mem_cons.mp hx with rfl | hx
        · omega
        · exact h2 x hx⟩
theorem minI_mem : ∀ (l : List Int) (i : Int), minI i l ∈ i :: l
  | [], i => List.mem_cons_self
  | j :: l, i => by
    have h := minI_mem l (if j < i then j else i)
    show minI (if j < i then j else i) l ∈ _
    rcases List.mem_cons.mp h with e | e
    · rw [e]
      by_cases q : j < i
      · rw [if_pos q]; exact List.mem_cons_of_mem _ List.mem_cons_self
      · rw [if_neg q]; exact List.mem_cons_self
    · exact List.mem_cons_of_mem _ (List.mem_cons_of_mem _ e)
theorem minI_uniq {i m : Int} {l : List Int} (h : m ∈ i :: l) (h2 : ∀ j ∈ i :: l, m ≤ j) : m = minI i l := by
  have h3 := h2 _ (minI_mem l i)
  obtain ⟨h4, h5⟩ := minI_le l i
  rcases List.mem_cons.mp h with e | e
  · omega
  · have := h5 m e; omega
def oMaxL : OpN := fun ds m => match ds with
  | [d] => match d.rdl? m with
    | some l => match D.ints? l with
      | some (i :: is) => some (.int (maxI i is), m)
      | _ => none
    | none => none
  | _ => none
def oMinL : OpN := fun ds m => match ds with
  | [d] => match d.rdl? m with
    | some l => match D.ints? l with
      | some (i :: is) => some (.int (minI i is), m)
      | _ => none
    | none => none
  | _ => none
theorem s_maxL {K : PySem.W.Frag} : CSat K (rMax K) oMaxL := by
  intro w H m ds vs Q wf rs q
  unfold oMaxL at q
  split at q
  · rename_i d
    obtain ⟨y, ys, rfl, ry, rfl⟩ := rs
    cases z : d.rdl? m with
    | none => rw [z] at q; exact q.elim
    | some l =>
      simp only [z] at q
      cases z2 : D.ints? l with
      | none => rw [z2] at q; exact q.elim
      | some ns =>
        rw [z2] at q
        cases ns with
        | nil => exact q.elim
        | cons i is =>
          simp only at q
          obtain ⟨a, xs, rfl, hs, rx⟩ := rdlR wf ry z
          have ex := intsR rx z2
          subst ex
          refine ⟨a, i :: is, rfl, hs, Nat.succ_pos _, fun M h1 h2 => ?_⟩
          rw [maxI_uniq h1 h2]
          exact q w H _ (Le.refl _) wf rfl
  · exact q.elim
theorem s_minL {K : PySem.W.Frag} : CSat K (rMin K) oMinL := by
  intro w H m ds vs Q wf rs q
  unfold oMinL at q
  split at q
  · rename_i d
    obtain ⟨y, ys, rfl, ry, rfl⟩ := rs
    cases z : d.rdl? m with
    | none => rw [z] at q; exact q.elim
    | some l =>
      simp only [z] at q
      cases z2 : D.ints? l with
      | none => rw [z2] at q; exact q.elim
      | some ns =>
        rw [z2] at q
        cases ns with
        | nil => exact q.elim
        | cons i is =>
          simp only at q
          obtain ⟨a, xs, rfl, hs, rx⟩ := rdlR wf ry z
          have ex := intsR rx z2
          subst ex
          refine ⟨a, i :: is, rfl, hs, Nat.succ_pos _, fun M h1 h2 => ?_⟩
          rw [minI_uniq h1 h2]
          exact q w H _ (Le.refl _) wf rfl
  · exact q.elim
theorem d_maxL {p : Pos} (hc : X.calm = true) (hm : X.mg "max" = none) (ha : DA X W (e :: es) ar) (hg : Gl X "max" := by rfl)
    (he : starEach (e :: es) X.env = (false, eval e X.env) :: starEach es X.env := by rfl) (hpl : (backTo pos (starEach es X.env)).any (·.1) = false := by rfl) : DE X W (.Call (.Name "max" p) (e :: es) [] pos) (xCB oMaxL ar) := d_cb (cr_max hc) s_maxL hm (by decide +kernel) ha hg (by decide) (by decide) he hpl
theorem d_minL {p : Pos} (hc : X.calm = true) (hm : X.mg "min" = none) (ha : DA X W (e :: es) ar) (hg : Gl X "min" := by rfl)
    (he : starEach (e :: es) X.env = (false, eval e X.env) :: starEach es X.env := by rfl) (hpl : (backTo pos (starEach es X.env)).any (·.1) = false := by rfl) : DE X W (.Call (.Name "min" p) (e :: es) [] pos) (xCB oMinL ar) := d_cb (cr_min hc) s_minL hm (by decide +kernel) ha hg (by decide) (by decide) he hpl
def oMax3 : OpN := fun ds m => match ds with
  | [.int i, .int j, .int k] => some (.int (maxI i [j, k]), m)
  | _ => none
theorem s_max3 {K : PySem.W.Frag} : CSat K (rNuC3 nuMax3) oMax3 := by
  intro w H m ds vs Q wf rs q
  unfold oMax3 at q
  split at q
  · rename_i i j k
    obtain ⟨y, ys, rfl, rfl, y2, ys2, rfl, rfl, y3, ys3, rfl, rfl, rfl⟩ := rs
    refine ⟨_, _, _, _, rfl, ?_, q.ret wf rfl⟩
    show ((some (decide (i < j))).map fun c => if c = true then V.int j else V.int i).bind (fun m => nuMax2 m (.int k)) = _
    by_cases h : i < j
    · simp only [h, decide_true, Option.map_some, if_true, Option.bind_some]
      show ((some (decide (j < k))).map fun c => if c = true then V.int k else V.int j) = _
      by_cases h2 : j < k <;> simp [maxI, h, h2]
    · simp only [h, decide_false, Option.map_some, Option.bind_some]
      show ((some (decide (i < k))).map fun c => if c = true then V.int k else V.int i) = _
      by_cases h2 : i < k <;> simp [maxI, h, h2]
  · exact q.elim
theorem d_max3 {p : Pos} (hc : X.calm = true) (hm : X.mg "max" = none) (ha : DA X W (e :: es) ar) (hg : Gl X "max" := by rfl)
    (he : starEach (e :: es) X.env = (false, eval e X.env) :: starEach es X.env := by rfl) (hpl : (backTo pos (starEach es X.env)).any (·.1) = false := by rfl) : DE X W (.Call (.Name "max" p) (e :: es) [] pos) (xCB oMax3 ar) := d_cb (call_max3Nu hc) s_max3 hm (by decide +kernel) ha hg (by decide) (by decide) he hpl
def intVs : List (Key × D) → Option (List Int)
  | [] => some []
  | (_, .int i) :: r => (intVs r).map (i :: ·)
  | _ => none
theorem intVsR {K : PySem.W.Frag} {w : Wd} : ∀ {kvs : List (Key × D)} {xs : List (Key × V)} {ks : List Int}, repg K w kvs xs → intVs kvs = some ks → xs.map (·.2) = ks.map V.int
  | [], _, _, h, e => by cases h; cases e; rfl
  | (k, d) :: r, _, ks, ⟨y, ys, e0, h, rr⟩, e => by
    subst e0
    cases d with
    | int i =>
      have e' : (intVs r).map (i :: ·) = some ks := e
      cases z : intVs r with
      | none => rw [z] at e'; cases e'
      | some r' =>
        rw [z] at e'
        cases e'
        rw [List.map_cons, intVsR rr z]
        cases h
        rfl
    | _ => cases e
def oMaxVals (d : D) (m : Mem) : Option (D × Mem) := match d with
  | .dK kvs => match intVs kvs with
    | some (i :: is) => some (.int (maxI i is), m)
    | _ => none
  | _ => none
theorem d_maxVals (hc : X.calm = true) (hm : X.mg "max" = none) (ha : DE X W o fa) (hg : Gl X "max" := by rfl) (hbase : attributeBase o "values" X.env (eval o X.env) = eval o X.env := by rfl) (hline : (apos.endLine == mpos.line) = true := by rfl)
    (hse : starEach [Expr.Call (.Attribute o "values" apos) [] [] mpos] X.env = [(false, eval (Expr.Call (.Attribute o "values" apos) [] [] mpos) X.env)] := by rfl) :
    DE X W (.Call (.Name "max" p1) [.Call (.Attribute o "values" apos) [] [] mpos] [] pos) (xUn oMaxVals fa) :=
  (pe_maxVals hc hg hm (pe_frz ha) hbase hline hse).weak fun σ H Q ⟨w, m, sd, wf, sl, h⟩ => by
    show tFz (eOf X.K W fa) σ H _
    refine ⟨w, m, sd, wf, sl, h.bind.imp fun d m1 w1 H1 l1 wf1 h1 v rv => ?_⟩
    have h2 := vOk_of h1
    unfold oMaxVals at h2
    cases d with
    | dK kvs =>
      simp only at h2
      cases z : intVs kvs with
      | none => rw [z] at h2; exact h2.elim
      | some ks =>
        rw [z] at h2
        cases ks with
        | nil => exact h2.elim
        | cons i is =>
          obtain ⟨a, xs, rfl, hc2, r⟩ := rv
          have ev := intVsR (repk_g.mp r) z
          exact ⟨a, .dK xs, rfl, lock_cases wf1 hc2 rfl trivial (fun H1 => ∃ b od kvs is, (V.ref a : V) = V.ref b ∧ H1 b = some (.frz od (.dK kvs)) ∧ kvs.map (·.2) = is.map V.int ∧ is ≠ [] ∧ ∀ m, m ∈ is → (∀ j ∈ is, j ≤ m) → Q (.int m) H1) fun od w2 H2 l2 wf2 hcc hH2 =>
            ⟨a, od, xs, i :: is, rfl, hH2, ev, List.cons_ne_nil _ _, fun M q1 q2 => by
              rw [maxI_uniq q1 q2]
              exact h2 w2 H2 _ l2 wf2 rfl⟩⟩
    | _ => exact h2.elim
end
end Dl

set_option Elab.async false
set_option linter.all false
set_option maxRecDepth 100000
set_option maxHeartbeats 4000000
/-! DApp: a def handed on as a value, and called by a local name. -/
namespace L2
open PySem PySem.Spec PyProof.Rows
section
variable {X : Cx} {CX : CXT} {i : Nat} {E : L2.St → XK} {x : Str} {p pos : Pos} {e : Expr} {es : List Expr} {t : TA} {j : Nat}
/-- of several defs that the slot may hold -/
structure HeldS (X : Cx) (CX : CXT) (j : Nat) (f : Addr) (sp : Sp) : Prop where
  ex : ∃ (k : Nat) (fd : FuncData) (ps : List Str), k ≤ j ∧ FnOk X.prog X.w X.K X.mg X.base CX k f fd ps sp ∧ PySem.W.keepIn X.K (.ref f) = true ∧ Binds X.K fd ps []
def tCallT (i : Nat) (S : Addr → Sp → Prop) (E : L2.St → XK) (t : TA) : TE := fun σ H Q => ∃ f sp, σ[i]? = some (some (.ref f)) ∧ S f sp ∧ t σ H fun vs H1 => sp vs H1 Q (E σ)
theorem pe_callT {S : Addr → Sp → Prop} (A : ∀ f sp, S f sp → HeldS X CX j f sp) (hr : Room j X.A) (hN : X.N[i]? = some x) (hv : Vis X.env.scope x) (hx : ∀ σ, PassesAt CX X σ (E σ)) (ha : PA X (e :: es) t)
    (hdb : (x == ("__debug__" : Str)) = false := by decide) (hcd : (x == ("__classdict__" : Str)) = false := by decide)
    (he : starEach (e :: es) X.env = (false, eval e X.env) :: starEach es X.env := by rfl) (hpl : (backTo pos (starEach es X.env)).any (·.1) = false := by rfl) : PE X (.Call (.Name x p) (e :: es) [] pos) (tCallT i S E t) := by
  refine ⟨fun pins s σ H Q I h => ?_⟩
  obtain ⟨f, sp, hs, hS, ht⟩ := h
  obtain ⟨k, fd, ps, hk0, F, hk, hb⟩ := (A f sp hS).ex
  refine wpAny_Call_Name_kw (thn ((pe_var (pos := p) hN hv hdb hcd).run pins s σ H (fun v H1 => v = .ref f ∧ H1 = H) I ⟨.ref f, hs, rfl, rfl⟩) fun u s1 ⟨v, H1, I1, r1, q1⟩ => ?_)
  obtain ⟨rfl, rfl⟩ := q1
  cases r1
  refine PySem.W.callWith_K (h₀ := X.base) I.ok.mod.kin hk (thn (ha.run pos pins s1 σ _ _ I1 ht) fun us s2 ⟨vs, H2, I2, r, q⟩ => ⟨I2.kIn, ?_⟩) he hpl
  exact run_fnS F (hr.mono hk0) hb (hx σ) I2 r q
end
end L2
namespace Dl
open PySem PySem.Spec PyProof.Rows L2
section
variable {X : Cx} {W : WX} {e : Expr} {es : List Expr} {pos p : Pos} {ar : AF} {i j : Nat} {x : Str} {tb : List (Str × FD)}
def xApp (i : Nat) (tb : List (Str × FD)) (ar : AF) : EF := fun sd m => match sd[i]? with
  | some (some (.fn x)) => match tb.lookup x with
    | some F => (ar sd m).bind F
    | none => .stuck
  | _ => .stuck
theorem q_app {sd : Sl} {m : Mem} {y : Str} {F : FD} (h : sd[i]? = some (some (.fn y))) (h2 : tb.lookup y = some F) : xApp i tb ar sd m = (ar sd m).bind F := by
  unfold xApp
  rw [h]
  simp only [h2]
theorem d_fn {y : Str} (hm : X.mg y = some (.ref (He.ga X.K y))) (hg : Gl X y := by rfl) (hd : (y == ("__debug__" : Str)) = false := by decide) : DE X W (.Name y p) (xC (.fn y)) :=
  d_c (pe_glob hg hm (show RelV (.ref (He.ga X.K y)) (.ref (He.ga X.K y)) from rfl) hd) fun w => rfl
/-- what the table holds -/
def TbOk (X : Cx) (j : Nat) (tb : List (Str × FD)) : Prop := ∀ y F, tb.lookup y = some F → ∃ k ps, k ≤ j ∧ FnB X.prog X.w X.K X.mg X.base k (He.ga X.K y) ps F
theorem tb_nil {j : Nat} : TbOk X j [] := fun y F h => by cases h
theorem tb_cons {y : Str} {F : FD} {k : Nat} {ps : List Str} (G : FnB X.prog X.w X.K X.mg X.base k (He.ga X.K y) ps F) (hk : k ≤ j) (h : TbOk X j tb) : TbOk X j ((y, F) :: tb) := fun z F' e => by
  by_cases q : z = y
  · subst q
    have e' : (List.lookup z ((z, F) :: tb)) = some F := by simp [List.lookup]
    rw [e'] at e
    cases e
    exact ⟨k, ps, hk, G⟩
  · have e' : (List.lookup z ((y, F) :: tb)) = List.lookup z tb := by
      have : (z == y) = false := by simpa using q
      simp [List.lookup, this]
    rw [e'] at e
    exact h z F' e
theorem d_app (A : TbOk X j tb) (hr : Room j X.A) (tk : L2N.Takes X W) (ha : DA X W (e :: es) ar) (hN : X.N[i]? = some x := by rfl) (hv : Vis X.env.scope x := by first | exact Or.inl rfl | exact Or.inr (Or.inl rfl) | exact Or.inr (Or.inr rfl))
    (hdb : (x == ("__debug__" : Str)) = false := by decide) (hcd : (x == ("__classdict__" : Str)) = false := by decide)
    (he : starEach (e :: es) X.env = (false, eval e X.env) :: starEach es X.env := by rfl) (hpl : (backTo pos (starEach es X.env)).any (·.1) = false := by rfl) : DE X W (.Call (.Name x p) (e :: es) [] pos) (xApp i tb ar) :=
  (pe_callT (CX := L2N.CX X.prog X.w) (j := j) (S := fun f sp => ∃ y F, tb.lookup y = some F ∧ f = He.ga X.K y ∧ sp = spD X.K F) (fun f sp ⟨y, F, h1, h2, h3⟩ => by
    subst h2 h3
    obtain ⟨k, ps, hk, fd, a, b, c, _⟩ := A y F h1
    exact ⟨k, fd, ps, hk, a, c, b⟩) hr hN hv (fun σ => L2N.passAt tk σ) ha hdb hcd he hpl).weak fun σ H Q ⟨w, m, sd, wf, sl, h⟩ => by
    unfold xApp at h
    cases q : sd[i]? with
    | none => rw [q] at h; exact h.elim
    | some o =>
      rw [q] at h
      cases o with
      | none => exact h.elim
      | some d =>
        cases d with
        | fn y =>
          simp only at h
          cases z : tb.lookup y with
          | none => rw [z] at h; exact h.elim
          | some F =>
            rw [z] at h
            simp only at h
            obtain ⟨v, hv, rv⟩ := slR.get sl q
            obtain rfl : v = .ref (He.ga X.K y) := rv
            refine ⟨He.ga X.K y, spD X.K F, hv, ⟨y, F, z, rfl, rfl⟩, ?_⟩
            exact ⟨w, m, sd, wf, sl, h.bind.imp fun ds m1 w1 H1 l1 wf1 h1 vs rs => s_sp wf1 rs h1⟩
        | _ => exact h.elim
end
end Dl

set_option Elab.async false
set_option linter.all false
set_option maxRecDepth 100000
set_option maxHeartbeats 4000000
/-! DExc: raise of an own class without an __init__ of its own; try .. except C as n; isinstance of what was caught. -/
namespace PySem.W
open PySem PySem.Spec PySem.Calls PyProof.Rows
/-- isinstance(x, c), c the very class of x -/
theorem isi_exact {K : Frag} {x c : Value} {H : Heap → Prop} (ty : ∀ (M : Model) (h : Heap), K.In h → H h → Looks M h (typeOf x) c) : Answers (fun s => K.In s.heap ∧ H s.heap) x c true := by
  intro dep tk prog w A R s hs
  obtain ⟨h0, g, d, tt, os⟩ := s
  obtain ⟨⟨X, p⟩, hq⟩ := hs
  have LT := ty (model prog w) h0 X p
  unfold Builtin.«isinstance.nested»
  refine wpAny_bind (LT.at ?_)
  have q : (c == c) = true := by simp
  rw [if_pos q]
  first
    | ((repeat lk); exact hq tt)
    | exact wpAny_bind (wpAny_rule (hq tt))
    | exact wpAny_bind (wpAny_rule (wpAny_pure (hq tt)))
end PySem.W
namespace L2
open PySem PySem.Spec PyProof.Rows
section
variable {X : Cx} {C : Addr} {bmB : List Value} {B newId initId : String} {x : Str} {p pos : Pos}
/-- X(), X an own exception class without own __init__ -/
theorem pmk_own0 (F : ExcBaseFacts B newId initId bmB) (q : PySem.W.excIn X.K C bmB newId = true) (gC : X.mg x = some (.ref C)) (kC : PySem.W.keepIn X.K (.ref C) = true) (r : Raises X (.ref C)) (hg : Gl X x)
    (hdb : (x == ("__debug__" : Str)) = false := by decide) : L2N.PMk X (.Call (.Name x p) [] [] pos) (fun _ H Q => Q (.ref C) none H) := by
  intro pins s σ H Q I h
  refine wpAny_Call_Name_kw (ld_glob I hg gC ?_ hdb)
  refine PySem.W.callWith_K0 I.kIn kC ?_
  show wpAny _ _ (call (.ref C) []) _ _ _
  obtain ⟨bm, N, nm, qn, bs, hdct, sn, sub, ab, col, dd, k0, k1, k2, k3, k5, mN, hC, hN, hni, T⟩ := exc_obj I.kIn q
  refine wpAny_call_exc_subT F T hC hN hni (fun h' e hm => ?_) (Nat.zero_le _)
  exact L2N.mk_of I hm r h (I.hok.gone hm.new)
/-- isinstance(n, X), n the exception that the suite holds, X its very class -/
def rIsX (a Ca : Addr) (cls : Value) : List V → Hp → VK → Prop := fun xs H Q => xs = [.ref a, .ref Ca] ∧ cls = .ref Ca ∧ Q (.bl true) H
theorem call_isX {a Ca : Addr} {oe : Obj} {cls : Value} {d : Option Addr} {pn : List (Addr × Obj)} (hz : L2N.Zn cls d oe) : CallR (X.suite a ((a, oe) :: pn)) (.builtin "isinstance") (rIsX a Ca cls) := by
  intro pins s σ H xs us Q I r h
  obtain ⟨rfl, rfl, q⟩ := h
  obtain ⟨u1, u2, rfl, r1, r2⟩ := vals2 r
  cases (show u1 = Value.ref a from r1)
  cases (show u2 = Value.ref Ca from r2)
  obtain ⟨ha, _⟩ := I.pin (a, oe) (List.mem_append_left _ List.mem_cons_self)
  have ty : ∀ (M : Model) (h : Heap), X.K.In h → h.get? a = some oe → PySem.W.Looks M h (typeOf (.ref a)) (.ref Ca) := fun M h _ e A Q E s k q => wpAny_typeOf_ref (k _ _ e) (by rw [hz.1]; exact q)
  exact PySem.call_isinstance (S := fun _ R s => (X.K.In s.heap ∧ s.heap.get? a = some oe) ∧ ∀ tk, R (.ok (.ret (.bool true))) { s with toks := tk })
    (fun prog w A R s hs => PySem.isinstance_outer (PySem.W.isi_exact ty 0 _ prog w A R s hs) (fun z => nomatch z)) ⟨⟨I.kIn, ha⟩, fun tk => ⟨.bl true, H, I.tok tk, rfl, q⟩⟩
theorem PSs.ex {α : Type} {l : List Stmt} {P : α → Prop} {t : α → TS} (h : ∀ e, P e → PSs X l (t e)) : PSs X l (fun D σ H => ∃ e, P e ∧ t e D σ H) := ⟨fun pins s σ H D I ⟨e, h1, h2⟩ => (h e h1).run pins s σ H D I h2⟩
end
end L2
namespace Dl
open PySem PySem.Spec PyProof.Rows L2
theorem hy_exc {P : Program} {fa : List He.Fa} {fn : List He.DefD} {cs : Cs} {K : PySem.W.Frag} {mg : Str → Option Value} (y : Hy P fa fn cs K mg) (i : Nat) {x : Str} (h : fa[i]? = some (.exc x) := by rfl) :
    PySem.W.excIn K (He.ga K x) He.veBase "ValueError.__new__" = true ∧ PySem.W.keepIn K (.ref (He.ga K x)) = true ∧ PySem.W.subIn K (.ref (He.ga K x)) (.type "BaseException") = some true ∧ PySem.W.typeIn K (.ref (He.ga K x)) = some (.type "type") :=
  let ⟨_, _, _, c⟩ := y.ex; He.exc_ok (c.d.fact i h)
theorem hy_exm {P : Program} {fa : List He.Fa} {fn : List He.DefD} {cs : Cs} {K : PySem.W.Frag} {mg : Str → Option Value} (y : Hy P fa fn cs K mg) (i : Nat) {x z : Str} {b : Bool} (h : fa[i]? = some (.exm x z b) := by rfl) : PySem.W.exmOne K (.ref (He.ga K x)) (.ref (He.ga K z)) = some b :=
  let ⟨_, _, _, c⟩ := y.ex; He.exm_ok (c.d.fact i h)
/-- around a block nothing is let out -/
theorem takesN0 {X : Cx} : L2N.Takes X (fun _ _ _ _ => False) := fun _ _ x => by
  obtain ⟨_, _, _, _, _, _, _, _, _, _, _, _, _, _, _, _, z⟩ := x
  exact z.elim
section
variable {X : Cx} {W : WX} {C x n : Str} {e : Expr} {fa : EF} {p p2 pos pos' np : Pos} {i : Nat} {b : SF} {body suite : List Stmt} {b₀ : Stmt}
def sRaise0 (C : Str) : SF := fun sd m => .er ⟨C, []⟩ sd m
@[simp] theorem q_raise0 {sd : Sl} {m : Mem} : sRaise0 C sd m = .er ⟨C, []⟩ sd m := rfl
theorem ds_raise0 (hc : X.calm = true) (tk : L2N.Takes X W)
    (q : PySem.W.excIn X.K (He.ga X.K C) He.veBase "ValueError.__new__" = true ∧ PySem.W.keepIn X.K (.ref (He.ga X.K C)) = true ∧ PySem.W.subIn X.K (.ref (He.ga X.K C)) (.type "BaseException") = some true ∧ PySem.W.typeIn X.K (.ref (He.ga X.K C)) = some (.type "type"))
    (hm : X.mg C = some (.ref (He.ga X.K C))) (hg : Gl X C := by rfl) (hdb : (C == ("__debug__" : Str)) = false := by decide) : DS X W (.Raise (some (.Call (.Name C p) [] [] p2)) none pos) (sRaise0 C) :=
  (L2N.ps_raise hc tk (pmk_own0 PySem.F.excBase_ValueError q.1 hm q.2.1 (raises_own q.2.2.1 q.2.2.2) hg hdb)).weak fun D σ H ⟨w, m, sd, wf, sl, h⟩ => h w H σ _ none (Le.refl _) wf sl ⟨rfl, rfl⟩
/-! try -/
def unsl (i : Nat) : SR → SR
  | .nx sd m => .nx (sd.set i none) m
  | .bk sd m => .bk (sd.set i none) m
  | .ct sd m => .ct (sd.set i none) m
  | .rt d m => .rt d m
  | .er _ _ _ => .stuck
  | .stuck => .stuck
/-- the dict of what was caught, by its fields -/
def exD (er : Er) (dx : Addr) : Option Addr := match er.fs with
  | [] => none
  | _ => some dx
abbrev UF := Addr → Addr → Er → SF
open Classical in
noncomputable def sTry (i : Nat) (cat : List (Str × Bool)) (b : SF) (s : UF) : SF := fun sd m => match b sd m with
  | .er e sd1 m1 => match cat.lookup e.C with
    | some true => if ∀ a dx, unsl i (s a dx e (sd1.set i (some (.exn a dx e.fs))) m1) = unsl i (s 0 0 e (sd1.set i (some (.exn 0 0 e.fs))) m1) then unsl i (s 0 0 e (sd1.set i (some (.exn 0 0 e.fs))) m1) else .stuck
    | some false => .er e sd1 m1
    | none => .stuck
  | r => r
theorem q_try_nx {cat : List (Str × Bool)} {s : UF} {sd sd1 : Sl} {m m1 : Mem} (h : b sd m = .nx sd1 m1) : sTry i cat b s sd m = .nx sd1 m1 := by
  unfold sTry
  rw [h]
theorem q_try_rt {cat : List (Str × Bool)} {s : UF} {sd : Sl} {m m1 : Mem} {d : D} (h : b sd m = .rt d m1) : sTry i cat b s sd m = .rt d m1 := by
  unfold sTry
  rw [h]
theorem q_try_er {cat : List (Str × Bool)} {s : UF} {sd sd1 : Sl} {m m1 : Mem} {er : Er} {r : SR} (h : b sd m = .er er sd1 m1) (hc : cat.lookup er.C = some true) (hs : ∀ a dx, unsl i (s a dx er (sd1.set i (some (.exn a dx er.fs))) m1) = r) : sTry i cat b s sd m = r := by
  unfold sTry
  rw [h]
  simp only [hc]
  rw [if_pos (fun a dx => by rw [hs a dx, hs 0 0])]
  exact hs 0 0
/-- the classes that may come, and whether the clause takes them -/
def CatOk (X : Cx) (x : Str) (cat : List (Str × Bool)) : Prop := ∀ y k, cat.lookup y = some k → PySem.W.exmOne X.K (.ref (He.ga X.K y)) (.ref (He.ga X.K x)) = some k
theorem cat_nil : CatOk X x [] := fun y k h => by cases h
theorem cat_cons {y : Str} {k : Bool} {cat : List (Str × Bool)} (h1 : PySem.W.exmOne X.K (.ref (He.ga X.K y)) (.ref (He.ga X.K x)) = some k) (h : CatOk X x cat) : CatOk X x ((y, k) :: cat) := fun z k' e => by
  by_cases q : z = y
  · subst q
    have e' : (List.lookup z ((z, k) :: cat)) = some k := by simp [List.lookup]
    rw [e'] at e
    cases e
    exact h1
  · have e' : (List.lookup z ((y, k) :: cat)) = List.lookup z cat := by
      have : (z == y) = false := by simpa using q
      simp [List.lookup, this]
    rw [e'] at e
    exact h z k' e
/-- what stands on the heap and never changes, taken into the world -/
theorem Wf.tell {K : PySem.W.Frag} {w : Wd} {H : Hp} {m : Mem} (wf : Wf K w H m) {d : Addr} {xs : List (Str × V)} (h : H d = some (.xd xs)) : ∃ w', Le w w' ∧ Wf K w' H m ∧ w'.c d = some (.xd xs) := by
  have nd : d ∉ w.adr := fun hd => by
    obtain ⟨n, hn, e⟩ := List.getElem_of_mem hd
    have e1 : w.adr[n]? = some d := by rw [List.getElem?_eq_getElem hn, e]
    have hm : n < m.length := by rw [← wf.len]; exact hn
    have hc := wf.cell n d m[n] e1 (List.getElem?_eq_getElem hm)
    generalize m[n] = c at hc
    cases c with
    | lst l => obtain ⟨x, e, _⟩ := hc; rw [h] at e; cases e
    | ins C fs => obtain ⟨dx, x, e, _⟩ := hc; rw [h] at e; cases e
    | dK l => obtain ⟨x, e, _⟩ := hc; rw [h] at e; cases e
    | dT l => obtain ⟨x, e, _⟩ := hc; rw [h] at e; cases e
    | lk c2 =>
      cases c2 with
      | dK l => obtain ⟨o, x, e, _⟩ := hc; rw [h] at e; cases e
      | dT l => obtain ⟨o, x, e, _⟩ := hc; rw [h] at e; cases e
      | _ => exact hc
    | _ => exact hc
  have old : ∀ o, w.c d = some o → o = .xd xs := fun o e => by
    rcases wf.sub d o e with z | ⟨b, od, z⟩
    · rw [h] at z; exact (Option.some.inj z).symm
    · rw [h] at z; cases z
  have l : Le w ⟨upd w.c d (.xd xs), w.adr⟩ := ⟨fun a o e => .inl (by
    by_cases q : a = d
    · subst q; rw [old o e]; exact upd_same
    · show upd w.c d (.xd xs) a = some o
      rw [upd_ne q]; exact e), List.prefix_refl _⟩
  refine ⟨⟨upd w.c d (.xd xs), w.adr⟩, l, ⟨fun a o e => ?_, wf.len, wf.nd, fun a ha => ?_, fun n a c e1 e2 => (wf.cell n a c e1 e2).mono l fun o e => e⟩, upd_same⟩
  · by_cases q : a = d
    · subst q
      have e' : upd w.c a (.xd xs) a = some o := e
      rw [upd_same] at e'
      cases e'
      exact .inl h
    · have e' : upd w.c d (.xd xs) a = some o := e
      rw [upd_ne q] at e'
      exact wf.sub a o e'
  · have q : a ≠ d := fun z => nd (z ▸ ha)
    show upd w.c d (.xd xs) a = none
    rw [upd_ne q]; exact wf.out a ha
theorem ds_try {cat : List (Str × Bool)} {s : UF} (hs : X.stack = X.env :: X.outer) (hf : X.env.frame = some X.env.locals) (hN : X.N.Nodup) (hi : X.N[i]? = some n) (hln : X.env.kindOf n = some .local)
    (hm : X.mg x = some (.ref (He.ga X.K x))) (ct : CatOk X x cat) (tk : L2N.Takes X W)
    (hb : ∀ (W : WX) (pn : List (Addr × Obj)) (xe : Value → Shared → Prop), L2N.Takes (X.tr pn xe) W → PassesOwn (model X.prog X.w) X.A X.env xe → DSs (X.tr pn xe) W body b)
    (hsu : ∀ (a : Addr) (oe : Obj) (cls : Value) (d : Option Addr) (pn : List (Addr × Obj)), L2N.Zn cls d oe → (∃ vs, oe.data = .fields vs) → ∀ (er : Er) (dx : Addr), cls = .ref (He.ga X.K er.C) → d = exD er dx → DSs (X.suite a ((a, oe) :: pn)) W0 (b₀ :: suite) (s a dx er))
    (hg : Gl X x := by rfl) (hdb : (x == ("__debug__" : Str)) = false := by decide) :
    DS X W (.Try body [.ExceptHandler (some (.Name x np)) (some n) (b₀ :: suite) pos'] [] [] pos) (sTry i cat b s) :=
  (L2N.ps_try_as (i := i) (tb := fun W => sOf X.K W b) (ts := fun a cls d D σ H => ∃ z : Er × Addr, (cls = .ref (He.ga X.K z.1.C) ∧ d = exD z.1 z.2) ∧ sOf X.K W0 (s a z.2 z.1) D σ H) (Wout := W) hs hf hN hi hln ⟨hg, hdb, .inl hm⟩ tk hb
    (fun a oe cls d pn hz hv => PSs.ex fun z he => hsu a oe cls d pn hz hv z.1 z.2 he.1 he.2)).weak fun D σ H ⟨w, m, sd, wf, sl, h⟩ => by
    refine ⟨w, m, sd, wf, sl, ?_⟩
    unfold sTry at h
    cases q : b sd m with
    | nx sd1 m1 => rw [q] at h; exact h
    | rt d m1 => rw [q] at h; exact h
    | bk sd1 m1 => rw [q] at h; exact h
    | ct sd1 m1 => rw [q] at h; exact h
    | stuck => rw [q] at h; exact h
    | er e sd1 m1 =>
      rw [q] at h
      simp only at h
      intro w1 H1 σ1 cls dx l1 wf1 sl1 he
      cases z : cat.lookup e.C with
      | none => rw [z] at h; exact h.elim
      | some k =>
        rw [z] at h
        have hx : PySem.W.exmOne X.K cls (.ref (He.ga X.K x)) = some k := by rw [he.1]; exact ct _ _ z
        cases k with
        | false => exact ⟨false, hx, (fun z => by cases z), fun _ => h w1 H1 σ1 cls dx l1 wf1 sl1 he⟩
        | true =>
          have tell : ∃ w2 dxa, Le w1 w2 ∧ Wf X.K w2 H1 m1 ∧ dx = exD e dxa ∧ ∀ a, rep X.K w2 (.exn a dxa e.fs) (.ref a) := by
            have h2 := he.2
            unfold exD
            cases hfs : e.fs with
            | nil =>
              rw [hfs] at h2
              exact ⟨w1, 0, Le.refl _, wf1, h2, fun a => ⟨rfl, .inl rfl⟩⟩
            | cons f r =>
              rw [hfs] at h2
              obtain ⟨d, xs, e1, e2, e3⟩ := h2
              obtain ⟨w2, l2, wf2, e4⟩ := wf1.tell e2
              exact ⟨w2, d, l2, wf2, e1, fun a => ⟨rfl, .inr ⟨xs, e4, repf.mono l2 e3⟩⟩⟩
          obtain ⟨w2, dxa, l2, wf2, hdx, hrep⟩ := tell
          refine ⟨true, hx, fun _ a ha => ⟨(e, dxa), ⟨he.1, hdx⟩, w2, m1, sd1.set i (some (.exn a dxa e.fs)), wf2, slR.set (hrep a) i (sl1.mono l2), ?_⟩, fun z => by cases z⟩
          simp only at h
          by_cases hall : ∀ a dx, unsl i (s a dx e (sd1.set i (some (.exn a dx e.fs))) m1) = unsl i (s 0 0 e (sd1.set i (some (.exn 0 0 e.fs))) m1)
          · rw [if_pos hall, ← hall a dxa] at h
            have l12 := l1.trans l2
            show sOk X.K W0 w2 (s a dxa e (sd1.set i (some (.exn a dxa e.fs))) m1) _
            generalize s a dxa e (sd1.set i (some (.exn a dxa e.fs))) m1 = r at h
            cases r with
            | nx sd2 m2 => exact fun w3 H2 σ2 l2 wf2 sl2 => h w3 H2 _ (l12.trans l2) wf2 (slR.del i sl2)
            | bk sd2 m2 => exact fun w3 H2 σ2 l2 wf2 sl2 => h w3 H2 _ (l12.trans l2) wf2 (slR.del i sl2)
            | ct sd2 m2 => exact fun w3 H2 σ2 l2 wf2 sl2 => h w3 H2 _ (l12.trans l2) wf2 (slR.del i sl2)
            | rt d m2 => exact fun w3 H2 v l2 wf2 r2 => h w3 H2 v (l12.trans l2) wf2 r2
            | er _ _ _ => exact h.elim
            | stuck => exact h.elim
          · rw [if_neg hall] at h; exact h.elim
/-! what was caught: its class, its fields -/
def IsTb (X : Cx) (cv : Value) (tb : List (Str × Bool)) : Prop := ∀ y k, tb.lookup y = some k → ExcC X.K (He.ga X.K y) ∧ PySem.W.kitOne X.K (.ref (He.ga X.K y)) cv = some k
theorem ist_nil {cv : Value} : IsTb X cv [] := fun y k h => by cases h
theorem ist_cons {cv : Value} {y : Str} {k : Bool} {tb : List (Str × Bool)} (h0 : ExcC X.K (He.ga X.K y)) (h1 : PySem.W.kitOne X.K (.ref (He.ga X.K y)) cv = some k) (h : IsTb X cv tb) : IsTb X cv ((y, k) :: tb) := fun z k' e => by
  by_cases q : z = y
  · subst q
    have e' : (List.lookup z ((z, k) :: tb)) = some k := by simp [List.lookup]
    rw [e'] at e
    cases e
    exact ⟨h0, h1⟩
  · have e' : (List.lookup z ((y, k) :: tb)) = List.lookup z tb := by
      have : (z == y) = false := by simpa using q
      simp [List.lookup, this]
    rw [e'] at e
    exact h z k' e
open Classical in
/-- isinstance(n, C) in the suite, n in slot i -/
noncomputable def xIsE (a dx : Addr) (er : Er) (tb : List (Str × Bool)) (fa : EF) : EF := fun sd m => match tb.lookup er.C with
  | some k => (fa sd m).bind fun d m1 => if d = .exn a dx er.fs then .ok (.bl k) m1 else .stuck
  | none => .stuck
theorem q_isE {a dx : Addr} {er : Er} {tb : List (Str × Bool)} {k : Bool} {sd : Sl} {m m1 : Mem} (h : fa sd m = .ok (.exn a dx er.fs) m1) (hk : tb.lookup er.C = some k) : xIsE a dx er tb fa sd m = .ok (.bl k) m1 := by
  unfold xIsE
  simp [hk, h]
def rIsEd (K : PySem.W.Frag) (C a : Addr) (d : Option Addr) (cv : Value) (c : V) (b : Bool) : List V → Hp → VK → Prop := fun xs H Q => xs = [.ref a, c] ∧ PySem.W.kitOne K (.ref C) cv = some b ∧ (∀ dd, d = some dd → ∃ fs, H dd = some (.xd fs)) ∧ Q (.bl b) H
theorem call_isEd {a C : Addr} {oe : Obj} {d : Option Addr} {cv : Value} {c : V} {k : Bool} {pn : List (Addr × Obj)} (T : ExcC X.K C) (hz : L2N.Zn (.ref C) d oe) (hf : ∃ vs, oe.data = .fields vs) (hcv : ∀ u, RelV c u → u = cv) : CallR (X.suite a ((a, oe) :: pn)) (.builtin "isinstance") (rIsEd X.K C a d cv c k) := by
  intro pins s σ H xs us Q I r h
  obtain ⟨rfl, e, hd, q⟩ := h
  obtain ⟨u1, u2, rfl, r1, r2⟩ := vals2 r
  cases (show u1 = Value.ref a from r1)
  have ec := hcv _ r2
  subst ec
  obtain ⟨hget, _⟩ := I.pin (a, oe) (List.mem_append.mpr (.inl List.mem_cons_self))
  obtain ⟨vs, hv⟩ := hf
  have J : ∃ od, PySem.W.InstAt s.heap a oe C od := by
    cases d with
    | none => exact ⟨none, hget, hz.1, by unfold PySem.W.notCls; rw [hv] <;> rfl, by rw [hz.2.1]; trivial⟩
    | some dd =>
      obtain ⟨fs, hh⟩ := hd dd rfl
      have hx : ObjOk X.prog X.w H s.heap dd (.xd fs) := I.hok dd _ hh
      obtain ⟨mA, hns, _⟩ := hx
      obtain ⟨od, es, ep, ho, _⟩ := hns
      exact ⟨some od, hget, hz.1, by unfold PySem.W.notCls; rw [hv] <;> rfl, by rw [hz.2.1]; exact ho⟩
  obtain ⟨od, J⟩ := J
  have hcl : (PySem.W.clsIn X.K C).isSome = true := by
    have h0 : (PySem.W.clsIn X.K C).any (·.hasDict) = true := T.hd
    cases z : PySem.W.clsIn X.K C with
    | none => rw [z] at h0; cases h0
    | some cd => rfl
  exact PySem.W.kia_one (PySem.W.kitx_exc hcl T.hg T.hk T.hs T.ha T.hn T.ht T.hm) I.kIn J e (fun z => nomatch z) fun tk => ⟨.bl k, H, I.kept (t' := tk) fun _ _ z => z, rfl, q⟩
theorem exn_xd {K : PySem.W.Frag} {w : Wd} {H : Hp} {m : Mem} (wf : Wf K w H m) {a dx : Addr} {er : Er} {v : V} (r : rep K w (.exn a dx er.fs) v) : v = .ref a ∧ (er.fs = [] ∨ ∃ xs, H dx = some (.xd xs) ∧ repf K w er.fs xs) := by
  obtain ⟨e, h⟩ := r
  refine ⟨e, h.elim .inl fun ⟨xs, c, r⟩ => .inr ⟨xs, ?_, r⟩⟩
  rcases wf.sub _ _ c with z | ⟨b, _⟩
  · exact z
  · cases b
open Classical in
theorem d_isE {a dx : Addr} {oe : Obj} {cls : Value} {d : Option Addr} {cv : Value} {c : V} {tb : List (Str × Bool)} {pn : List (Addr × Obj)} {er : Er} {e2 : Expr} (hz : L2N.Zn cls d oe) (hv : ∃ vs, oe.data = .fields vs) (hcls : cls = .ref (He.ga X.K er.C)) (hd : d = exD er dx) (ht : IsTb X cv tb) (hcv : ∀ u, RelV c u → u = cv)
    (hmi : X.mg "isinstance" = none) (h2 : PE (X.suite a ((a, oe) :: pn)) e2 (tC c)) (ha : DE (X.suite a ((a, oe) :: pn)) W e fa) (hg : Gl X "isinstance" := by rfl)
    (he : starEach [e, e2] X.env = (false, eval e X.env) :: starEach [e2] X.env := by rfl) (hpl : (backTo pos (starEach [e2] X.env)).any (·.1) = false := by rfl)
    (he2 : starEach [e2] X.env = (false, eval e2 X.env) :: starEach [] X.env := by rfl) :
    DE (X.suite a ((a, oe) :: pn)) W (.Call (.Name "isinstance" p) [e, e2] [] pos) (xIsE a dx er tb fa) := by
  cases z : tb.lookup er.C with
  | none =>
    exact ⟨fun pins s σ H Q I ⟨w, m, sd, wf, sl, h⟩ => False.elim (by
      unfold xIsE at h
      rw [z] at h
      exact h)⟩
  | some k =>
    obtain ⟨h0, h1⟩ := ht _ _ z
    subst hcls
    exact (pe_callB (X := X.suite a ((a, oe) :: pn)) (call_isEd (X := X) (k := k) h0 hz hv hcv) hg hmi (by decide +kernel) (pa_cons ha (pa_cons h2 pa_nil he2) he) (by decide) (by decide) he hpl).weak fun σ H Q ⟨w, m, sd, wf, sl, h⟩ =>
      ⟨w, m, sd, wf, sl, (show rOk X.K W σ w ((fa sd m).bind fun d m1 => if d = .exn a dx er.fs then .ok (.bl k) m1 else .stuck) (eK X.K Q) from by unfold xIsE at h; rw [z] at h; exact h).bind.imp fun d1 m1 w1 H1 l1 wf1 h1 v rv => by
        by_cases q : d1 = .exn a dx er.fs
        · rw [if_pos q] at h1
          subst q
          obtain ⟨ev, hx⟩ := exn_xd wf1 rv
          subst ev
          refine ⟨rfl, by assumption, fun dd e => ?_, h1 w1 H1 (Le.refl _) wf1 _ rfl⟩
          rw [hd] at e
          unfold exD at e
          rcases hx with hx | ⟨xs, e3, _⟩
          · rw [hx] at e; cases e
          · cases hfs : er.fs with
            | nil => rw [hfs] at e; cases e
            | cons f r => rw [hfs] at e; cases e; exact ⟨xs, e3⟩
        · rw [if_neg q] at h1; exact h1.elim⟩
open Classical in
/-- n.f in the suite -/
noncomputable def xXf (a dx : Addr) (er : Er) (C f : Str) (fa : EF) : EF := fun sd m => (fa sd m).bind fun d m1 => if er.C = C ∧ d = .exn a dx er.fs then match er.fs.lookup f with
  | some y => .ok y m1
  | none => .stuck
  else .stuck
theorem q_xf {a dx : Addr} {er : Er} {f : Str} {y : D} {sd : Sl} {m m1 : Mem} (h : fa sd m = .ok (.exn a dx er.fs) m1) (hC : er.C = C) (hk : er.fs.lookup f = some y) : xXf a dx er C f fa sd m = .ok y m1 := by
  unfold xXf
  simp [h, hC, hk]
open Classical in
theorem d_xf {a dx : Addr} {oe : Obj} {cls : Value} {d : Option Addr} {f : Str} {pn : List (Addr × Obj)} {er : Er} (hz : L2N.Zn cls d oe) (hv : ∃ vs, oe.data = .fields vs) (hcls : cls = .ref (He.ga X.K er.C)) (hd : d = exD er dx) (hf : XfC X.K (He.ga X.K C) ∧ PySem.W.findIn X.K (.ref (He.ga X.K C)) f = some none)
    (ha : DE (X.suite a ((a, oe) :: pn)) W e fa) (hb : attributeBase e f X.env (eval e X.env) = eval e X.env := by rfl) : DE (X.suite a ((a, oe) :: pn)) W (.Attribute e f pos) (xXf a dx er C f fa) :=
  (pe_xf (X := X) hf.1 hf.2 hz.zc hv ha hb).weak fun σ H Q ⟨w, m, sd, wf, sl, h⟩ => ⟨w, m, sd, wf, sl, h.bind.imp fun d1 m1 w1 H1 l1 wf1 h1 v rv => by
    by_cases q : er.C = C ∧ d1 = .exn a dx er.fs
    · rw [if_pos q] at h1
      obtain ⟨q1, q2⟩ := q
      subst q2
      cases z : er.fs.lookup f with
      | none => simp only [z] at h1; exact h1.elim
      | some y =>
        simp only [z] at h1
        obtain ⟨ev, hx⟩ := exn_xd wf1 rv
        subst ev
        rcases hx with hx | ⟨xs, e3, r3⟩
        · rw [hx] at z; cases z
        · obtain ⟨u, e4, r4⟩ := r3.lookup z
          refine ⟨rfl, by rw [hcls, q1], dx, xs, u, ?_, e3, e4, h1 w1 H1 (Le.refl _) wf1 u r4⟩
          rw [hd]
          unfold exD
          cases hfs : er.fs with
          | nil => rw [hfs] at z; cases z
          | cons f r => rfl
    · rw [if_neg q] at h1; exact h1.elim⟩
end
end Dl

set_option Elab.async false
set_option linter.all false
set_option maxRecDepth 100000
set_option maxHeartbeats 4000000
namespace Dl
open PySem PySem.Spec PyProof.Rows L2 PySem.W PySem.Calls
section
variable {prog : Program} {w : World} {A : Around} {E : Value → Shared → Prop} {h : Heap} {g : Array GenState} {dr : Drawn} {t : Nat} {os : OsState}
/-- the bound initializer of ValueError, called with one value -/
theorem call_mw {K : PySem.W.Frag} {C u e t0 : Addr} {v : Value} {Q : Value → Shared → Prop} (X : K.In h) (q : oexB' K C) (he : h.get? e = some (PySem.HandSPX.excO C t0)) (hu : h.get? u = some (PySem.W.kxs_mw "ValueError.__init__" e))
    (hq : ∀ h' t1, (∀ b o, b ≠ e → h.get? b = some o → h'.get? b = some o) → h'.get? e = some (PySem.HandSPX.excO C t1) → Q .none ⟨h', g, dr, t, os⟩) :
    wpAny (model prog w) A (call (.ref u) [v]) Q E ⟨h, g, dr, t, os⟩ := by
  obtain ⟨nm, q', N, bs, bm, sn, sub, ab, col, dd, k0, k1, k2, k3, k5, hC, hbm⟩ := q
  have hC' := X _ _ hC
  refine wpAny_call (codeAny_of_tree ?_)
  show wpAny _ A.in1 (callAny (.ref u) ⟨[v], []⟩) _ _ _
  simp only [callAny]
  refine wpAny_bind (wpAny_load hu ?_)
  simp only [PySem.W.kxs_mw, show (Value.type "method-wrapper" == Value.type "method" || Value.type "method-wrapper" == Value.type "builtin_function_or_method" || Value.type "method-wrapper" == Value.type "method-wrapper") = true by decide, if_true]
  refine PySem.W.KFB.if_so (by decide) ?_
  refine wpAny_bind (PySem.W.check_bound_init F.excBase_ValueError.toExcCallFacts hC' he rfl ?_)
  refine wpAny_bind (wpAny_pure (wpAny_pure ?_))
  refine ⟨plainId_quiet F.excBase_ValueError.init.plain _, codeAny_builtin F.excBase_ValueError.initEntry ?_⟩
  exact exc_init_tree (cls := .ref C) (t0 := t0) (dv := none) (c2 := .none) (c3 := .none) (b4 := .bool false) he (by rw [sizeLine_eq]; show 1 ≤ 16777216; decide) fun h' k e1 _ => hq h' _ k e1
end
section
variable {X : Cx} {d : SupD} {C fI : Addr} {x ar : Str} {e : Expr} {ta : TA} {p pos p0 p1 p2 p3 p4 p5 p6 p7 p8 p9 : Pos} {k : Nat}
theorem pmk_sup (S : SupC X.K d C fI)
    (hbody : d.body = [.Expr (.Call (.Attribute (.Call (.Name "super" p0) [] [] p1) "__init__" p2) [.Name ar p3] [] p4) p5, .Assign [.Attribute (.Name "self" p6) d.fld p7] (.Name ar p8) p9])
    (hbind : ∀ (kV doc pm : Value) (an : Option Addr) (cda ct : Value) (cc : Addr) (a u : Value), bindArgs (PySem.W.ksFn "__init__" d.qual d.params d.body d.scope .none kV doc pm an cda ct cc) ⟨[a, u], []⟩ = pure [(("self" : Str), a), (ar, u)])
    {r0 : Arg} (hpar : (d.params.posonlyargs ++ d.params.args).head? = some r0) (hself : r0.arg = ("self" : Str))
    (hk : d.scope.kind = .function) (hco : d.scope.isCoroutine = false) (hgen : d.scope.isGenerator = false) (hcell : ∀ x ∈ d.scope.names, x.2 ≠ .cell)
    (l1 : d.scope.names.lookup ("super" : Str) = some .globalImplicit) (l2 : d.scope.names.lookup ("__class__" : Str) = some .free) (l3 : d.scope.names.lookup ("self" : Str) = some .local) (l4 : d.scope.names.lookup ar = some .local) (har : ar ≠ "self") (hdb : (ar == ("__debug__" : Str)) = false)
    {pl : Env → Sem Bool}
    (hev : ∀ env : Env, eval (.Call (.Attribute (.Call (.Name "super" p0) [] [] p1) "__init__" p2) [.Name ar p3] [] p4) env = (do
      let ov ← attributeBase (.Call (.Name "super" p0) [] [] p1) "__init__" env (eval (.Call (.Name "super" p0) [] [] p1) env)
      standAt p2.atName
      let (f, first) ← holding [ov] (getMethod ov "__init__" (pl env))
      callWith p4 f first (backTo p4 (starEach [.Name ar p3] env)) []))
    (hst : ∀ env : Env, starEach [.Name ar p3] env = (false, eval (.Name ar p3) env) :: starEach [] env)
    (hsw : ∀ env : Env, swapsWith (.Call (.Attribute (.Call (.Name "super" p0) [] [] p1) "__init__" p2) [.Name ar p3] [] p4) none p5.line env = pure false)
    (hsw2 : ∀ env : Env, swapsWith (.Name ar p8) (some (.Attribute (.Name "self" p6) d.fld p7)) p9.line env = pure false)
    (hfile : ((X.prog.main.file : Str) == d.file) = true) (htop : (X.prog.main.scope.names.lookup ("super" : Str)).isSome = false) (hr : Room (k + 1) X.A) (hg : Gl X x) (hm : X.mg x = some (.ref C)) (ha : PA X [e] ta)
    (hdx : (x == ("__debug__" : Str)) = false := by decide) (he : starEach [e] X.env = (false, eval e X.env) :: starEach [] X.env := by rfl) (hpl : (backTo pos (starEach [] X.env)).any (·.1) = false := by rfl) :
    L2N.PMk X (.Call (.Name x p) [e] [] pos) (fun σ H Q => ta σ H fun vs H1 => ∃ y, vs = [y] ∧ ∀ dx, H1 dx = none → Q (.ref C) (some dx) (upd H1 dx (.xd [(d.fld, y)]))) := by
  intro pins s σ H Q I hh
  obtain ⟨cls, qual, fld, params, body, scope, file⟩ := d
  dsimp only at *
  subst hbody
  obtain ⟨T, iC, tI, mro, hsup, stat, hms, hB, hF, oc, kV, doc, pm, ct, od, an, osl, cda, cc, hfI, hcd, ⟨ccl, cdd, vs, ccs, tf, hcode, hvs⟩, cl, cld, csl, hcc⟩ := S
  obtain ⟨nm, q, N, bs, bm, sn, sub, ab, col, dd, k0, k1, k2, k3, k5, hC, hbm⟩ := T.cls
  have q' : oexB' X.K C := T.cls
  refine wpAny_Call_Name_kw (ld_glob I hg hm ?_ hdx)
  refine PySem.W.callWith_K (h₀ := X.base) I.ok.mod.kin T.kC (thn (ha.run pos pins s σ H _ I hh) fun us s1 ⟨vs1, H1, I1, r1, y, ey, q1⟩ => ⟨I1.kIn, ?_⟩) he hpl
  subst ey
  cases r1 with
  | @cons _ u _ ur ru rn =>
  cases rn with
  | nil =>
  show wpAny _ _ (call (.ref C) [u]) _ _ _
  obtain ⟨hp, g, dr, tk, os⟩ := s1
  have X1 : X.K.In hp := I1.kIn
  generalize ea : hp.objs.size + 1 = a
  have kk : ∀ b o, hp.get? b = some o → ((hp.push (PySem.W.kdv_tup [u])).push (PySem.HandSPX.excO C hp.objs.size)).get? b = some o := fun b o e => Heap.get?_push_of_some _ (Heap.get?_push_of_some _ e)
  have hget : ((hp.push (PySem.W.kdv_tup [u])).push (PySem.HandSPX.excO C hp.objs.size)).get? a = some (PySem.HandSPX.excO C hp.objs.size) := by subst ea; heap_get
  have nea : ∀ b o, hp.get? b = some o → b ≠ a := fun b o z => Nat.ne_of_lt (Nat.lt_of_lt_of_le (Heap.lt_size z) (by rw [← ea]; exact Nat.le_succ _))
  refine wpAny_call (PySem.HandSPX.call_own F.excBase_ValueError (fun Y => PySem.HandSPX.refsVE_contains Y bm hbm) (X1 _ _ hC) (PySem.W.looks_findIn X1 iC) (fun self => PySem.W.bind_fn X1 self tI) (by rw [sizeLine_eq]; show 1 ≤ 16777216; decide) ?_)
  rw [ea]
  generalize hh2 : (hp.push (PySem.W.kdv_tup [u])).push (PySem.HandSPX.excO C hp.objs.size) = h2 at kk hget
  have X2 : X.K.In h2 := X1.keeps kk
  have hlim : h2.NoLimit := I1.nolimit.keeps kk
  refine ks_codeAny_call_defAt (fd := PySem.W.ksFn "__init__" qual params _ scope .none kV doc pm an (.ref cda) ct cc) (body := _) (binds := [(("self" : Str), .ref a), (ar, u)]) (hr.make C [u] []).depth (X2 _ _ hfI) rfl hlim (PySem.W.codeRec_of X2 hcd) rfl
    (BindsTo.of_eq (hbind _ _ _ _ _ _ _ _ _)) hcell (fun y hy => ?_) (fun h3 hns k3 => ?_) hco hgen hk
  · simp only [List.mem_cons, List.mem_nil_iff, or_false] at hy
    rcases hy with rfl | rfl
    · exact l3
    · exact l4
  · have k3' : ∀ b o, hp.get? b = some o → h3.get? b = some o := fun b o e => k3 b o (kk b o e)
    have X3 : X.K.In h3 := X2.keeps k3
    have hx3 := k3 _ _ hget
    have glob3 : h3.Ns mainGlobals X.mg := (I1.mod.glob.keeps I1.bk).keeps k3'
    obtain ⟨mb, hb1, hb2⟩ := I1.mod.blt
    have blt3 : h3.Ns builtinsNs mb := (hb1.keeps I1.bk).keeps k3'
    have hmiss : X.mg "super" = none := PySem.W.mg_none_of X3 glob3 hsup
    have hcl : PySem.W.clsIn X.K C = some { name := nm, bases := bs, mro := .ref C :: bm, ns := N, qualname := q, hasDict := true, slotNames := sn, subclasses := sub, abstract := ab, collection := col, hasDel := false } := by unfold PySem.W.clsIn; rw [hC] <;> rfl
    refine ks_wpAt_execs_cons (ks_wpAt_Expr_any (ks_wpAt_MethodCall ?_ (hev _)) (by simp [interactive, callEnv, newEnv, hk]) (hsw _))
    refine ks_wpAt_super_base l1 l2 rfl rfl (X3 _ _ hfI) rfl hpar rfl (X3 _ _ hcode) rfl hvs hfile htop ?_
    refine ks_loadName_global hk l1 (loadGlobal_builtin glob3 hmiss blt3 ((hb2 _ (by decide +kernel)).trans (show bootBuiltins "super" = some (.type "super") from by first | rfl | kernel_rfl)) ⟨rfl, ?_⟩)
    refine wpAny_loadName_free hk l2 rfl ⟨_, X3 _ _ hcc, rfl⟩ ?_
    have har2 : ((("self" : Str) == ar) = false) := by simpa using fun z => har z.symm
    have lk1 : List.lookup ("self" : Str) [(ar, u), (("self" : Str), .ref a)] = some (Value.ref a) := by rw [List.lookup_cons, har2]; rfl
    have lk2 : List.lookup ar [(ar, u), (("self" : Str), .ref a)] = some u := by rw [List.lookup_cons]; simp
    rw [hself]
    refine wpAny_loadName_local hk l3 hns lk1 ?_
    refine ks_wpAny_isType_cls (X3 _ _ hC) rfl ⟨rfl, ?_⟩
    refine ks_wpAny_call_super (X3 _ _ hC) rfl hx3 rfl (fun c e => by cases e) (looks_mroIn X3 mro) (fun h4 e4 k4 => ?_)
    have X4 : X.K.In h4 := X3.keeps k4
    have hx4 := k4 _ _ hx3
    have I4 : InstAt h4 a (PySem.HandSPX.excO C hp.objs.size) C none := ⟨hx4, rfl, rfl, trivial⟩
    unfold ks_superIn at hms
    rw [hcl] at hms
    have naC : a ≠ C := fun z => by
      have := X1 _ _ hC
      exact nea _ _ this z.symm
    refine kxs_getMethod kxs_ValueError e4 (looks_opaque X4 stat) (l₀ := .ref C :: bm) (fun A Q E s k q => wpAny_bind ((looks_clsIn X4 hcl) A _ E s k (wpAny_pure q))) rfl X4 hms (I4.type.andThen (looks_subIn X4 hB)) naC rfl ?_
    have k5 : ∀ b o, h4.get? b = some o → (h4.push (PySem.W.kxs_mw "ValueError.__init__" a)).get? b = some o := fun b o e => Heap.get?_push_of_some _ e
    have hmw : (h4.push (PySem.W.kxs_mw "ValueError.__init__" a)).get? h4.objs.size = some (PySem.W.kxs_mw "ValueError.__init__" a) := Heap.get?_push_at rfl rfl
    have sz2 : h2.objs.size < h4.objs.size := by
      obtain ⟨oL, es, ep, hL, _⟩ := hns
      exact Heap.lt_size (k4 _ _ hL)
    have hno2 : h2.get? h4.objs.size = none := by
      cases z : h2.get? h4.objs.size with
      | none => rfl
      | some o => exact absurd (Heap.lt_size z) (Nat.not_lt.mpr (Nat.le_of_lt sz2))
    generalize h4.objs.size = mw at hmw sz2 hno2
    generalize h4.push (PySem.W.kxs_mw "ValueError.__init__" a) = h5 at k5 hmw
    have X5 : X.K.In h5 := X4.keeps k5
    have hx5 := k5 _ _ hx4
    have hns5 := (hns.keeps k4).keeps k5
    refine kxs_callWith1 (i := "ValueError.__init__") (x := a) (h₀ := h2) (L := h2.objs.size) (news := [(mw, PySem.W.kxs_mw "ValueError.__init__" a)]) (fun p hp' => ?_) (List.mem_singleton.mpr rfl) ?_ (hst _) rfl
    · rcases List.mem_singleton.mp hp' with rfl
      exact ⟨hmw, fun z => by simp only at z; exact Nat.lt_irrefl _ (z ▸ sz2), hno2⟩
    refine PyProof.Rows.spliced_more (wpAny_Name (wpAny_loadName_local hk l4 hns5 lk2 (PyProof.Rows.spliced_none ⟨hmw, ?_⟩)) hdb) (hst _)
    refine call_mw X5 q' hx5 hmw (fun h6 t1 k6 e6 => ?_)
    have neL : h2.objs.size ≠ a := fun z => by
      have := Heap.lt_size hget
      rw [← z] at this
      exact Nat.lt_irrefl _ this
    have X6 : X.K.In h6 := X1.keeps fun b o e => k6 b o (nea b o e) (k5 b o (k4 b o (k3' b o e)))
    have hns6 := hns5.at fun o e => k6 _ _ neL e
    refine ks_wpAt_execs_cons (ks_wpAt_Assign_Attr (wpAt_of_wpAny (wpAny_Name (wpAny_loadName_local hk l4 hns6 lk2 (wpAny_Name (wpAny_loadName_local hk l3 hns6 lk1 ?_) (by decide))) hdb)) (hsw2 _))
    refine PySem.W.set_plain X6 (ox := PySem.HandSPX.excO C t1) (od := none) ⟨e6, rfl, rfl, trivial⟩ T.sa ?_
    refine PySem.HandSPX.exc_osa X6 e6 hcl (show PySem.HandSPX.refsVE (.ref C :: bm) = true from hbm) rfl hF (fun h7 tk7 dx k7 dn dne hx7 hn7 => ?_)
    refine wpAt_of_wpAny (wpAny_pure ?_)
    obtain ⟨G, g1', g2'⟩ := restrict h7 fun b => decide (b ≠ a)
    have gk : ∀ b, b ≠ a → G.get? b = h7.get? b := fun b hb => g1' b (decide_eq_true hb)
    have ge : G.get? a = none := g2' a (by simp)
    have sz : hp.objs.size ≤ dx := Nat.le_trans (Nat.le_of_lt (Nat.lt_of_le_of_lt (by rw [← ea]; exact Nat.le_succ _) (Heap.lt_size e6))) dn
    have hsz : hp.objs.size ≤ a := by rw [← ea]; exact Nat.le_succ _
    have J : Inv X pins σ (upd H1 dx (.xd [(fld, y)])) ⟨G, g, dr, tk7, os⟩ := I1.laid (t' := tk7) (a := dx) (o := .xd [(fld, y)]) (h' := G)
      (fun b o z => by rw [gk b (nea b o z)]; exact k7 b o (nea b o z) (k6 b o (nea b o z) (k5 b o (k4 b o (k3' b o z))))) sz ⟨_, hn7.at fun o z => (gk dx dne).trans z, relO_put (fs := []) ru fun g => True.intro⟩
    refine ⟨rfl, a, _, _, ⟨G, g, dr, tk7, os⟩, upd H1 dx (.xd [(fld, y)]), .ref C, some dx, rfl, J, fun b o z => ?_, ge, hx7, ⟨rfl, rfl, fun vs e => by cases e; rfl⟩, rfl, rfl, ?_, rfl, I1.bare, raises_own T.exC T.tyC, q1 dx (I1.hok.fresh sz)⟩
    · by_cases hba : b = a
      · rw [hba, ge] at z; cases z
      · exact (gk b hba).symm.trans z
    · rw [upd_ne (Ne.symm dne)]
      exact I1.hok.fresh hsz
/-- the shape of such an __init__ -/
structure SupShape (d : SupD) : Prop where
  ex : ∃ (ar : Str) (p0 p1 p2 p3 p4 p5 p6 p7 p8 p9 : Pos) (r0 : Arg) (pl : Env → Sem Bool),
    d.body = [.Expr (.Call (.Attribute (.Call (.Name "super" p0) [] [] p1) "__init__" p2) [.Name ar p3] [] p4) p5, .Assign [.Attribute (.Name "self" p6) d.fld p7] (.Name ar p8) p9] ∧
    (∀ (kV doc pm : Value) (an : Option Addr) (cda ct : Value) (cc : Addr) (a u : Value), bindArgs (PySem.W.ksFn "__init__" d.qual d.params d.body d.scope .none kV doc pm an cda ct cc) ⟨[a, u], []⟩ = pure [(("self" : Str), a), (ar, u)]) ∧
    (d.params.posonlyargs ++ d.params.args).head? = some r0 ∧ r0.arg = ("self" : Str) ∧ (d.scope.kind = .function ∧ d.scope.isCoroutine = false ∧ d.scope.isGenerator = false ∧ ∀ x ∈ d.scope.names, x.2 ≠ .cell) ∧
    (d.scope.names.lookup ("super" : Str) = some .globalImplicit ∧ d.scope.names.lookup ("__class__" : Str) = some .free ∧ d.scope.names.lookup ("self" : Str) = some .local ∧ d.scope.names.lookup ar = some .local ∧ ar ≠ "self" ∧ (ar == ("__debug__" : Str)) = false) ∧
    (∀ env : Env, eval (.Call (.Attribute (.Call (.Name "super" p0) [] [] p1) "__init__" p2) [.Name ar p3] [] p4) env = (do
      let ov ← attributeBase (.Call (.Name "super" p0) [] [] p1) "__init__" env (eval (.Call (.Name "super" p0) [] [] p1) env)
      standAt p2.atName
      let (f, first) ← holding [ov] (getMethod ov "__init__" (pl env))
      callWith p4 f first (backTo p4 (starEach [.Name ar p3] env)) [])) ∧
    (∀ env : Env, starEach [.Name ar p3] env = (false, eval (.Name ar p3) env) :: starEach [] env) ∧
    (∀ env : Env, swapsWith (.Call (.Attribute (.Call (.Name "super" p0) [] [] p1) "__init__" p2) [.Name ar p3] [] p4) none p5.line env = pure false) ∧
    (∀ env : Env, swapsWith (.Name ar p8) (some (.Attribute (.Name "self" p6) d.fld p7)) p9.line env = pure false)
def sRaiseS (C fld : Str) (ar : AF) : SF := fun sd m => SR.ofR sd (ar sd m) fun ds m1 => match ds with
  | [y] => .er ⟨C, [(fld, y)]⟩ sd m1
  | _ => .stuck
@[simp] theorem q_raiseS {C fld : Str} {ar : AF} {sd : Sl} {m : Mem} : sRaiseS C fld ar sd m = SR.ofR sd (ar sd m) fun ds m1 => match ds with
  | [y] => .er ⟨C, [(fld, y)]⟩ sd m1
  | _ => .stuck := rfl
theorem ds_raiseS {W : WX} {d : SupD} {ar : AF} {pos' : Pos} {j : Nat} (hc : X.calm = true) (tk : L2N.Takes X W) (S : SupC X.K d (He.ga X.K d.cls) (d.fa X.K)) (Sh : SupShape d) (pr : PrgOk X.prog d.file) (hr : Room j X.A) (hj : 1 ≤ j)
    (hm : X.mg d.cls = some (.ref (He.ga X.K d.cls))) (ha : DA X W [e] ar) (hg : Gl X d.cls := by rfl)
    (hdx : (d.cls == ("__debug__" : Str)) = false := by decide) (he : starEach [e] X.env = (false, eval e X.env) :: starEach [] X.env := by rfl) (hpl : (backTo pos (starEach [] X.env)).any (·.1) = false := by rfl) :
    DS X W (.Raise (some (.Call (.Name d.cls p) [e] [] pos)) none pos') (sRaiseS d.cls d.fld ar) := by
  obtain ⟨ar', p0, p1, p2, p3, p4, p5, p6, p7, p8, p9, r0, pl, h1, h2, h3, h4, ⟨h5, h6, h7, h8⟩, ⟨h9, h10, h11, h12, h13, h14⟩, h15, h16, h17, h18⟩ := Sh.ex
  exact (L2N.ps_raise hc tk (pmk_sup S h1 h2 h3 h4 h5 h6 h7 h8 h9 h10 h11 h12 h13 h14 h15 h16 h17 h18 pr.file pr.sup (k := 0) (hr.mono hj) hg hm ha hdx he hpl)).weak fun D σ H ⟨w, m, sd, wf, sl, h⟩ =>
    ⟨w, m, sd, wf, sl, (h.ofR sl).imp fun ds m1 w1 H1 l1 wf1 h1 vs rs => by
      cases ds with
      | nil => exact h1.elim
      | cons y ds => cases ds with
        | cons _ _ => exact h1.elim
        | nil =>
          obtain ⟨v, ys, rfl, rv, rfl⟩ := rs
          refine ⟨v, rfl, fun dx hdx => ?_⟩
          obtain ⟨l2, wf2⟩ := wf1.add (o := .xd [(d.fld, v)]) hdx
          exact h1 _ _ σ _ _ l2 wf2 (sl.mono (l1.trans l2)) ⟨rfl, dx, _, rfl, upd_same, v, [], rfl, rv.mono l2, rfl⟩⟩
end
end Dl

set_option Elab.async false
set_option linter.all false
set_option maxRecDepth 100000
set_option maxHeartbeats 4000000
/-! DRev: t[::-1] of a tuple. -/
namespace HT
open PySem PySem.Spec PyProof.Rows PySem.Calls
section
variable {prog : Program} {w : World} {A : Around} {E : Value → Shared → Prop} {s : Shared}
theorem down_pick (xs : Array Value) : ((List.range xs.size).filterMap fun (m : Nat) => xs[(((xs.size : Int) - 1) + (m : Int) * (-1)).toNat]?).toArray = xs.toList.reverse.toArray := by
  have e : (fun (m : Nat) => xs[(((xs.size : Int) - 1) + (m : Int) * (-1)).toNat]?) = (fun (x : Nat) => xs[x]?) ∘ fun m => xs.size - 1 - m := by
    funext m
    have : (((xs.size : Int) - 1) + (m : Int) * (-1)).toNat = xs.size - 1 - m := by omega
    show xs[(((xs.size : Int) - 1) + (m : Int) * (-1)).toNat]? = xs[xs.size - 1 - m]?
    rw [this]
  rw [e, ← List.filterMap_map, PySem.W.krv_range, List.filterMap_reverse, PySem.W.krv_all]
theorem down_places (n : Nat) : Builtin.Slice.slicePlaces ((n : Int) - 1) (-1) (-1) = n := by
  unfold Builtin.Slice.slicePlaces
  have h1 : ¬ ((-1 : Int) > 0) := by decide
  simp only [h1, if_false]
  have e : ((n : Int) - 1 - -1 - 1) / (- -1) + 1 = (n : Int) := by
    rw [show (- -1 : Int) = 1 by decide, Int.ediv_one]
    omega
  rw [e]
  split <;> omega
theorem sliceApplied_down {sl : Addr} {t : Tok} {n : Nat} {Q : Int × Int × Nat → Shared → Prop} (hsl : s.heap.IsSliceOf sl .none .none (.int (-1) t)) (h : Q ((n : Int) - 1, -1, n) s) : wpAny (model prog w) A (Builtin.Slice.sliceApplied (.ref sl) (pure (n : Int))) Q E s := by
  obtain ⟨ob, e1, e2, e3⟩ := id hsl
  unfold Builtin.Slice.sliceApplied Builtin.Slice.sliceFields
  refine wpAny_bind (wpAny_bind (wpAny_field e1 e3 (x := .none) rfl (wpAny_bind (wpAny_field e1 e3 (x := .none) rfl (wpAny_bind (wpAny_field e1 e3 (x := .int (-1) t) rfl (wpAny_pure ?_)))))))
  refine wpAny_bind (slicePart_int ?_)
  show wpAny _ _ (if ((-1 : Int) == 0) = true then _ else _) _ _ s
  rw [if_neg (by decide)]
  refine wpAny_bind (slicePart_none (wpAny_bind (slicePart_none (wpAny_bind (wpAny_pure ?_)))))
  show wpAny _ _ (pure ((n : Int) - 1, (-1 : Int), Builtin.Slice.slicePlaces ((n : Int) - 1) (-1) (-1))) _ _ s
  rw [down_places]
  exact wpAny_pure h
theorem getItem_tuple_down {t sl : Addr} {xs : Array Value} {u : Tok} {Q : Value → Shared → Prop} (ht : IsTup s.heap t xs) (hsl : s.heap.IsSliceOf sl .none .none (.int (-1) u))
    (h : Q (.ref s.heap.objs.size) { s with heap := s.heap.push { cls := .type "tuple", data := .seq xs.toList.reverse.toArray } }) (hz : xs.size ≤ sizeLine) : wpAny (model prog w) A (getItem (.ref t) (.ref sl)) Q E s := by
  have small : sizeOk (.seq xs.toList.reverse.toArray) := by
    show xs.toList.reverse.toArray.size ≤ sizeLine
    rw [List.size_toArray, List.length_reverse, Array.length_toList]
    exact hz
  obtain ⟨ob, e1, e2, e3⟩ := id hsl
  have tS : s.TypeIs (.ref sl) "slice" := ⟨ob, e1, e2⟩
  unfold getItem
  try with_reducible refine wpAny_holding ?_
  first | refine wpAny_bind (wpAny_pure ?_) | skip
  refine wpAny_bind (wpAny_sequenceKey ht.typeIs (by decide) ?_)
  refine wpAny_bind (wpAny_callSpecial?_slot (name := Str.ofString "__getitem__") ht.typeIs PyProof.Rows.slot_tuple_getitem (wpAny_call_entry PyProof.Rows.slot_tuple_getitem ht.typeIs entry_tuple_getitem ?_ (args_tuple_getitem _ _)))
  show wpAny _ _ (Builtin.Tuple.tupleItemsOf (.ref t) >>= _) _ _ s
  refine wpAny_bind (tupleItemsOf_ ht (wpAny_bind (wpAny_typeOf tS ?_)))
  rw [if_pos (by decide)]
  refine wpAny_bind (sliceApplied_down hsl ?_)
  have no : ¬ ((((xs.size : Int) - 1) == 0 && (-1 : Int) == 1 && xs.size == xs.size) = true) := by simp
  show wpAny _ _ (if (((xs.size : Int) - 1) == 0 && (-1 : Int) == 1 && xs.size == xs.size) = true then _ else _) _ _ s
  rw [if_neg no, down_pick]
  first
    | exact wpAny_bind (m := Builtin.Tuple.tupleExact _) (wpAny_newObj_type (wpAny_pure ⟨_, rfl, wpAny_pure h⟩) small)
    | exact wpAny_bind (m := Builtin.Tuple.tupleExact _) (wpAny_newObj_type (wpAny_bind (wpAny_pure (wpAny_pure ⟨_, rfl, wpAny_pure h⟩))) small)
    | exact wpAny_bind (wpAny_bind (m := Builtin.Tuple.tupleExact _) (wpAny_newObj_type (wpAny_pure (wpAny_pure ⟨_, rfl, wpAny_pure h⟩)) small))
    | exact wpAny_bind (wpAny_bind (m := Builtin.Tuple.tupleExact _) (wpAny_newObj_type (wpAny_pure ⟨_, rfl, wpAny_pure h⟩) small))
end
end HT
namespace L2
open PySem PySem.Spec PyProof.Rows
def tRevT (K : PySem.W.Frag) (te : TE) : TE := fun σ H Q => te σ H fun x H1 => ∃ a xs, x = .ref a ∧ SqT K H1 a xs ∧ ∀ p, H1 p = none → Q (.ref p) (upd H1 p (.tup xs.reverse))
theorem pe_revT {X : Cx} {e : Expr} {te : TE} {k : Nat} {p1 p2 p3 pos : Pos} (he : PE X e te) : PE X (.Subscript e (.Slice none none (some (.UnaryOp .USub (.Constant (.int 1) k p1) p2)) p3) pos) (tRevT X.K te) := by
  refine ⟨fun pins s σ H Q I h => Subscript_ (thn (he.run pins s σ H _ I h) fun v s1 ⟨x, H1, I1, r1, a, xs, ex, hx, q⟩ => ?_)⟩
  subst ex
  cases r1
  have part : PO X (some (.UnaryOp .USub (.Constant (.int 1) k p1) p2)) (tPart (tUn (rU fun i => .int (-i)) (tC (.int 1)))) := po_some (pe_un un_neg pe_int)
  refine wpAny_Slice (thn (po_none.run pins s1 σ H1 (fun o H2 => o = none ∧ H2 = H1) I1 ⟨rfl, rfl⟩) fun vl s2 ⟨l, H2, I2, pl, el, e2⟩ => ?_)
  subst el e2
  refine thn (po_none.run pins s2 σ H2 (fun o H3 => o = none ∧ H3 = H2) I2 ⟨rfl, rfl⟩) fun vu s3 ⟨u, H3, I3, pu, eu, e3⟩ => ?_
  subst eu e3
  refine thn (part.run pins s3 σ H3 (fun o H4 => o = some (-1) ∧ H4 = H3) I3 ⟨1, rfl, -1, rfl, rfl, rfl⟩) fun vs s4 ⟨o, H4, I4, ps, eo, e4⟩ => ?_
  subst eo e4
  cases pl
  cases pu
  cases ps with
  | int i t =>
  have I5 : Inv X pins σ H4 { s4 with heap := s4.heap.push { cls := .type "slice", data := .fields #[.none, .none, .int (-1) t] } } := I4.kept (t' := s4.toks) fun b ob q => Heap.get?_push_of_some _ q
  obtain ⟨its, r, ht, hz⟩ := I5.tuple hx
  have hlen := r.length
  show wpAny (model X.prog X.w) X.A (subscriptTail e (.Slice none none (some (.UnaryOp .USub (.Constant (.int 1) k p1) p2)) p3) (.ref a) (.ref s4.heap.objs.size)) (EP X pins σ Q) X.xe { s4 with heap := s4.heap.push { cls := .type "slice", data := .fields #[.none, .none, .int (-1) t] } }
  refine tail_any (ops := [.ref a, .ref s4.heap.objs.size]) ht.typeIs (PyProof.Rows.slot_tuple_getitem.lookup) ?_ (by with_unfolding_all rfl)
  refine HT.getItem_tuple_down ht (Heap.IsSliceOf.new _ _ _ _) ?_ (by rw [List.size_toArray]; omega)
  refine ⟨.ref _, _, I5.laid (t' := s4.toks) (o := .tup xs.reverse) (fun b ob q => Heap.get?_push_of_some _ q) (Nat.le_refl _) ?_, rfl, q _ (I5.hok.fresh (Nat.le_refl _))⟩
  exact ⟨by rw [List.length_reverse]; exact hz, its.reverse, r.reverse, _, Heap.get?_push_size _ rfl, rfl, _, rfl⟩
end L2
namespace Dl
open PySem PySem.Spec PyProof.Rows L2
def oRevT (d : D) (m : Mem) : Option (D × Mem) := d.tup?.map fun l => (.tup l.reverse, m)
theorem d_revT {X : Cx} {W : WX} {e : Expr} {fa : EF} {k : Nat} {p1 p2 p3 pos : Pos} (he : DE X W e fa) : DE X W (.Subscript e (.Slice none none (some (.UnaryOp .USub (.Constant (.int 1) k p1) p2)) p3) pos) (xUn oRevT fa) :=
  (pe_revT he).weak fun σ H Q ⟨w, m, sd, wf, sl, h⟩ => ⟨w, m, sd, wf, sl, h.bind.imp fun d m1 w1 H1 l1 wf1 h1 v rv => by
    have q := vOk_of h1
    unfold oRevT at q
    cases z : d.tup? with
    | none => rw [z] at q; exact q.elim
    | some l =>
      rw [z] at q
      obtain ⟨a, xs, rfl, ht, rx⟩ := tupR wf1 rv z
      refine ⟨a, xs, rfl, ht, fun p hp => ?_⟩
      obtain ⟨l2, f, r⟩ := new_tup wf1 rx.reverse hp
      exact q _ _ _ l2 f r⟩
end Dl

set_option Elab.async false
set_option linter.all false
set_option maxRecDepth 100000
set_option maxHeartbeats 4000000
/-! DAug: o.f op= e. -/
namespace Dl
open PySem PySem.Spec PyProof.Rows L2
noncomputable def cMulB (i j : Int) : Bool := @decide (CMul i j) (Classical.propDecidable _)
theorem cMulB_ok {i j : Int} (h : cMulB i j = true) : CMul i j := @of_decide_eq_true _ (Classical.propDecidable _) h
theorem cMulB_of {i j : Int} (h : CMul i j) : cMulB i j = true := @decide_eq_true _ (Classical.propDecidable _) h
noncomputable def oMulI : Op2 := oI fun i j => if cMulB i j = true then some (.int (i * j)) else none
theorem s_mulI {K : PySem.W.Frag} : OSat K (rI CMul fun i j => .int (i * j)) oMulI := s_I (C := CMul) (g := fun i j => .int (i * j)) (g' := fun i j => .int (i * j)) (cb := cMulB) (fun _ _ h => cMulB_ok h) fun _ _ _ _ => rfl
theorem o_mulI {i j : Int} (h : CMul i j) (m : Mem) : oMulI (.int i) (.int j) m = some (.int (i * j), m) := by
  show Option.map (fun d => (d, m)) (if cMulB i j = true then some (D.int (i * j)) else none) = _
  rw [if_pos (cMulB_of h)]
  rfl
section
variable {X : Cx} {W : WX} {o : Expr} {pos : Pos} {fa fb : EF}
def sAugFld (C ff : Str) (p : Op2) (fo fe : EF) : SF := fun sd m => SR.ofR sd (fo sd m) fun d m1 => match insC C m1 d with
  | some fs => match fs.lookup ff with
    | some x => SR.ofR sd (fe sd m1) fun y m2 => match p x y m2 with
      | some (z, m3) => match setFld C ff d z m3 with
        | some m4 => .nx sd m4
        | none => .stuck
      | none => .stuck
    | none => .stuck
  | none => .stuck
theorem ds_fldaug {C ff : Str} {op : Operator} {value : Expr} {pos' : Pos} {r : R2} {p : Op2} (ho : OpR X (inplaceOp op) r) (hs : OSat X.K r p) (c : Cls X.K (He.ga X.K C)) (n : NoAttr X.K (He.ga X.K C) ff) (ha : DE X W o fa) (hv : DE X W value fb) :
    DS X W (.AugAssign (.Attribute o ff pos') op value pos) (sAugFld C ff p fa fb) := (ps_fldaug (rd := r) ha hv (fun pins s σ H x y v u Q I rx ry q => ho pins s σ H x y v u Q I rx ry q)).weak fun D σ H ⟨w, m, sd, wf, sl, h⟩ =>
  ⟨w, m, sd, wf, sl, (h.ofR sl).imp fun d m1 w1 H1 l1 wf1 h1 v rv => by
    cases q : insC C m1 d with
    | none => rw [q] at h1; exact h1.elim
    | some fs =>
      rw [q] at h1
      obtain ⟨a, dx, xs, rfl, e1, r1⟩ := insR wf1 rv q
      cases z : fs.lookup ff with
      | none => simp only [z] at h1; exact h1.elim
      | some x =>
        simp only [z] at h1
        obtain ⟨u, e4, r4⟩ := r1.lookup z
        refine ⟨a, _, dx, xs, u, rfl, e1, c, n, e4, w1, m1, sd, wf1, sl.mono l1, (h1.ofR (sl.mono l1)).imp fun y m2 w2 H2 l2 wf2 h2 u2 ru2 => ?_⟩
        refine hs w2 H2 m2 x y u u2 _ wf2 (r4.mono l2) ru2 ?_
        cases z2 : p x y m2 with
        | none => rw [z2] at h2; exact h2.elim
        | some pr =>
          obtain ⟨zz, m3⟩ := pr
          rw [z2] at h2
          intro w3 H3 v3 l3 wf3 r3
          simp only at h2
          cases q2 : setFld C ff d zz m3 with
          | none => rw [q2] at h2; exact h2.elim
          | some m4 =>
            rw [q2] at h2
            obtain ⟨a', dx', xs', e5, e6, e7, f⟩ := setFldR wf3 (rv.mono (l2.trans l3)) r3 q2
            cases e5
            exact ⟨dx', xs', e6, e7, h2 w3 _ σ l3 f (((sl.mono l1).mono l2).mono l3)⟩⟩
end
end Dl

set_option Elab.async false
set_option linter.all false
set_option maxRecDepth 100000
set_option maxHeartbeats 4000000
/-! DInT: x in t, t a tuple of data of any depth. -/
namespace Dl
open PySem PySem.Spec PyProof.Rows L2
def rInDT (K : PySem.W.Frag) (neg : Bool) : R2 := fun x y H Q => ∃ d ds, Dp K H x d ∧ Dp K H y (.tuple ds) ∧ SeqAt.shaped d = true ∧ SeqAt.shaped (.tuple ds) = true ∧ Q (.bl (if neg then !(ds.any fun z => PyData.eqv z d) else ds.any fun z => PyData.eqv z d)) H
section
variable {X : Cx}
theorem op_inT (hu : X.A.units + 65 < cLine) : OpR X (compareOp .In) (rInDT X.K false) := by
  intro pins s σ H x y v u Q I rx ry h
  obtain ⟨d, ds, hd, he, sd, se, q⟩ := h
  obtain ⟨as, r1⟩ := Dp.reads I d x v hd rx
  obtain ⟨bs, r2⟩ := Dp.reads I (.tuple ds) y u he ry
  exact SeqAt.in_tuple_reads r2 r1 (SeqAt.canLay_of_shaped se) (SeqAt.canLay_of_shaped sd) (room_in_shaped sd hu) ⟨.bl _, H, I, rfl, q⟩
theorem op_notInT (hu : X.A.units + 65 < cLine) : OpR X (compareOp .NotIn) (rInDT X.K true) := by
  intro pins s σ H x y v u Q I rx ry h
  obtain ⟨d, ds, hd, he, sd, se, q⟩ := h
  obtain ⟨as, r1⟩ := Dp.reads I d x v hd rx
  obtain ⟨bs, r2⟩ := Dp.reads I (.tuple ds) y u he ry
  exact SeqAt.notIn_tuple_reads r2 r1 (SeqAt.canLay_of_shaped se) (SeqAt.canLay_of_shaped sd) (room_in_shaped sd hu) ⟨.bl _, H, I, rfl, q⟩
end
def oInTB (neg : Bool) : Op2 := fun d e m => match e with
  | .tup l => if d.ok 60 && D.oks 59 l then some (.bl (if neg then !dIn d l else dIn d l), m) else none
  | _ => none
def oInT : Op2 := oInTB false
def oNotInT : Op2 := oInTB true
theorem s_inTB {K : PySem.W.Frag} {neg : Bool} : OSat K (rInDT K neg) (oInTB neg) := by
  intro w H m d1 d2 x y Q wf r1 r2 q
  cases d2 with
  | tup l =>
    have q1 : vOk K w (if (d1.ok 60 && D.oks 59 l) = true then some (.bl (if neg then !dIn d1 l else dIn d1 l), m) else none) Q := q
    by_cases h : (d1.ok 60 && D.oks 59 l) = true
    · rw [if_pos h] at q1
      obtain ⟨h1, h2⟩ := Bool.and_eq_true_iff.mp h
      have h2' : (D.tup l).ok 60 = true := h2
      refine ⟨_, D.toPs l, dp_of wf 60 d1 x h1 r1, dp_of wf 60 (.tup l) y h2' r2, ok_shaped h1, ok_shaped h2', ?_⟩
      have q' := q1.ret wf rfl
      rw [toPs_any]
      exact q'
    · rw [if_neg h] at q1; exact q1.elim
  | _ => exact q.elim
theorem s_inT {K : PySem.W.Frag} : OSat K (rInDT K false) oInT := s_inTB
theorem s_notInT {K : PySem.W.Frag} : OSat K (rInDT K true) oNotInT := s_inTB
end Dl

set_option Elab.async false
set_option linter.all false
set_option maxRecDepth 100000
set_option maxHeartbeats 4000000
/-! DHot: over a list while an exception is handled: the end of its walk, a comprehension, max of ints. (The comprehension's core follows the hand layer's, with the exception as one more pin.) -/
namespace HotX
open PySem PySem.Spec PyProof.Rows
section
variable {prog : Program} {w : World} {A : Around} {E : Value → Shared → Prop} {s : Shared}
theorem pyNext_list_end_hot {it l x1 : Addr} {i : Nat} {items} {Q : Option Value → Shared → Prop} (hot : HotAt A x1 s.heap) (hne : x1 ≠ it)
    (hit : s.heap.IsListIter it l i) (hl : s.heap.IsList l items) (hx : items[i]? = none)
    (hQ : ∀ h', Heap.ExtBut it s.heap h' → Q none { s with heap := h' }) : wpAny (model prog w) A (pyNext (.ref it)) Q E s := by
  obtain ⟨hh, o1, vs1, h1, d1, c1⟩ := hot
  obtain ⟨o, ho, hc, hd⟩ := id hit
  obtain ⟨ol, hol, _, nl, hdl⟩ := hl
  unfold pyNext
  refine wpAny_bind (wpAny_attempt (wpAny_callSpecial?_slot (name := Str.ofString "__next__") hit.typeIs slot_listiter_next
    (wpAny_call_entry slot_listiter_next hit.typeIs entry_listiter_next ?_ (args_listiter_next _))))
  show wpAny _ _ (field (.ref it) 0 >>= _) _ _ s
  refine wpAny_bind (wpAny_field ho hd (x := .ref l) rfl ?_)
  show wpAny _ _ (if (Value.ref l == Value.none) = true then _ else _) _ _ s
  rw [if_neg (show ¬ ((Value.ref l == Value.none) = true) from Bool.false_ne_true)]
  show wpAny _ _ (field (.ref it) 1 >>= _) _ _ s
  refine wpAny_bind (wpAny_field ho hd (x := .int i 0) rfl ?_)
  show wpAny _ _ (seqItems? (.ref l) >>= _) _ _ s
  refine wpAny_bind (wpAny_seqItems hol hdl ?_)
  simp only [Int.toNat_natCast, hx]
  refine wpAny_bind (wpAny_rule (wpAny_bind (wpAny_setField ho hd (by simp) ?_)))
  show wpAny _ _ (newExc (.type "StopIteration") [] >>= _) _ _ _
  refine wpAny_bind ?_
  simp only [newExc, newTuple]
  refine wpAny_bind (wpAny_newObj_type ?_ (by size_fits))
  refine wpAny_bind (m := firstArgMember _ _) (wpAny_of_eq (a := Value.none) (by first | rfl | (simp only [firstArgMember]; rfl)) ?_)
  refine wpAny_newObj_type ?_ (by size_fits)
  refine raiseNew_hot ⟨hh, o1, vs1, Heap.get?_push_of_some _ (Heap.get?_push_of_some _ ((Heap.SameBut.update ..).extBut x1 o1 hne h1)), d1, c1⟩ (Nat.ne_of_lt (Heap.lt_size (Heap.get?_push_of_some _ ((Heap.SameBut.update ..).extBut x1 o1 hne h1)))) (Heap.get?_push_size _ rfl) rfl (by first | (simp; done) | (simp; omega) | (simp only [Array.size_append]; simp; omega)) ?_
  refine wpAny_bind (wpAny_isInstance (T := "StopIteration") (b := true) ⟨_, Heap.get?_update_self _ (Heap.get?_push_size _ rfl) rfl, rfl⟩ isSubtype_stop ?_)
  refine wpAny_pure (hQ _ fun b o hb e => ?_)
  rw [Heap.get?_update_other _ _ (Nat.ne_of_gt (Heap.lt_size (Heap.get?_push_of_some _ ((Heap.SameBut.update ..).extBut b o hb e))))]
  exact Heap.get?_push_of_some _ (Heap.get?_push_of_some _ ((Heap.SameBut.update ..).extBut b o hb e))
theorem walks_listHot {I ax x1 : Addr} (hh : A.handled = some (.ref x1)) (o1 : Obj) (vs1 : Array Value) (d1 : o1.data = .fields vs1) (c1 : vs1[2]? = some .none) (hne : ax ≠ I) (hne1 : x1 ≠ I) (items : Array Value) :
    Walks prog w A I [I, ax, x1] [I] items.size (fun i v => items[i]? = some v) (fun i h => (h.IsListIter I ax i ∧ h.IsList ax items) ∧ h.get? x1 = some o1) where
  sub := fun b hb => by simp at hb; simp [hb]
  frame := fun _ _ _ st hk => ⟨⟨st.1.1.at fun o e => hk I (by simp) o e, st.1.2.at fun o e => hk ax (by simp) o e⟩, hk x1 (by simp) _ st.2⟩
  item := fun i s Q E hi st hQ => by
    refine wpAny_pyNext_list_item st.1.1 st.1.2 (x := items[i]) (by simp [hi]) fun h' hit' hs' => ?_
    exact hQ _ h' s.toks (by simp [hi]) ⟨⟨hit', st.1.2.extBut hs'.extBut hne⟩, (hs'.2 x1 hne1).trans st.2⟩ fun b o hb e => hs'.extBut b o (fun h => hb (by simp [h])) e
  done := fun s Q E st hQ => pyNext_list_end_hot ⟨hh, o1, vs1, st.2, d1, c1⟩ hne1 st.1.1 st.1.2 (by simp) fun h' he' => hQ h' s.toks fun b o hb e => he' b o (fun h => hb (by simp [h])) e
  self := fun _ _ _ _ st hQ => wpAny_pyIter_listiter st.1.1 hQ
end
end HotX
namespace L2
open PySem PySem.Spec PyProof.Rows HotX L2H
structure TurnP (P : Program) (w : World) (K : PySem.W.Frag) (tg : Expr) (J : It) (fp : List Addr) (it : Addr) (tn : Nat → Heap → Prop) : Prop where
  mem : it ∈ fp
  obj : ∀ i h, tn i h → ∀ b ∈ fp, ∃ o, h.get? b = some o ∧ ∀ v, o.data ≠ .cell v
  keep : ∀ i h h', tn i h → (∀ b ∈ fp, ∀ o, h.get? b = some o → h'.get? b = some o) → tn i h'
  item : ∀ (X : Cx), X.prog = P → X.w = w → X.K = K → ∀ (i : Nat) (pins : List (Addr × Obj)) (s : Shared) (σ : St) (H : Hp) (E : Value → Shared → Prop), Inv X pins σ H s → (∀ b ∈ fp, FpOk X pins H b) → tn i s.heap → J.go i H →
    wpAny (model P w) X.A (pyNext (.ref it)) (fun r s1 => ∃ u, r = some u ∧
      wpAny (model P w) X.A (letOwnedTupleGo tg (.ref it) u) (fun _ s2 => ∃ x H', Inv X pins σ H' s2 ∧ RelV x u ∧ J.yld i H x H' ∧ tn (i + 1) s2.heap ∧ ∀ b ∈ fp, H' b = none) E s1) E s
  done : ∀ (X : Cx), X.prog = P → X.w = w → X.K = K → ∀ (i : Nat) (pins : List (Addr × Obj)) (s : Shared) (σ : St) (H : Hp) (E : Value → Shared → Prop), (∃ p ∈ X.pn ++ pins, Hot1 X.A p) → Inv X pins σ H s → (∀ b ∈ fp, FpOk X pins H b) → tn i s.heap → J.stop i H →
    wpAny (model P w) X.A (pyNext (.ref it)) (fun r s1 => r = none ∧ Inv X pins σ H s1) E s
  self : ∀ (A : Around) (i : Nat) (s : Shared) (Q : Value → Shared → Prop) (E : Value → Shared → Prop), tn i s.heap → Q (.ref it) s → wpAny (model P w) A (pyIter (.ref it)) Q E s
theorem turn_listP {P : Program} {w : World} {K : PySem.W.Frag} {tg : Expr} (a it : Addr) : TurnP P w K tg (Itl K a) [it] it (fun i h => h.IsListIter it a i) where
  mem := by simp
  obj := fun i h st b hb => by
    have e : b = it := by simpa using hb
    subst e
    obtain ⟨o, e, c, d⟩ := st
    exact ⟨o, e, fun v z => by rw [d] at z; cases z⟩
  keep := fun i h h' st k => st.at fun o e => k it (by simp) o e
  item := by
    intro X hP hw hK i pins s σ H E I hf st hg
    subst hP hw hK
    obtain ⟨xs, x, hq, hx⟩ := hg
    obtain ⟨its, rv, p, hz⟩ := I.list hq
    obtain ⟨u, hu, ru⟩ := rv.get hx
    obtain ⟨f0, f1, f2, f3, f4, f5⟩ := hf it (by simp)
    refine wpAny_pyNext_list_item st p.isList (x := u) (by simpa using hu) fun h' st' sb => ?_
    have I1 : Inv X pins σ H { s with heap := h' } := I.turned (t' := s.toks) (fun b o hb e => (sb.2 b hb).trans e) f0 f1 f3 f4 f5
    obtain ⟨o, e, c, d⟩ := id st'
    exact ⟨u, rfl, go_of (s := { s with heap := h' }) e c d (by decide) ⟨x, H, I1, ru, ⟨rfl, fun ys hy => by rw [I.list_inj hy hq]; exact hx⟩, st', fun b hb => (hf b hb).1⟩⟩
  done := by
    intro X hP hw hK i pins s σ H E hot I hf st hg
    subst hP hw hK
    obtain ⟨xs, hq, hx⟩ := hg
    obtain ⟨its, rv, p, hz⟩ := I.list hq
    obtain ⟨f0, f1, f2, f3, f4, f5⟩ := hf it (by simp)
    have hl := rv.length
    obtain ⟨q, hq1, hh, v1, d1, c1⟩ := hot
    exact pyNext_list_end_hot ⟨hh, q.2, v1, (I.pin q hq1).1, d1, c1⟩ (f5 q hq1) st p.isList (by simp; omega) fun h' eb => ⟨rfl, I.turned (t' := s.toks) (fun b o hb e => eb b o hb e) f0 f1 f3 f4 f5⟩
  self := fun _ _ _ _ _ st h => wpAny_pyIter_listiter st h
def PIEP (X : Cx) (pins : List (Addr × Obj)) (σ : St) (tg : Expr) (R : It → Hp → Prop) (itv : Value) (s2 : Shared) : Prop :=
  ∃ (it : Addr) (fp : List Addr) (tn : Nat → Heap → Prop) (J : It) (H' : Hp), itv = .ref it ∧ Inv X pins σ H' s2 ∧ TurnP X.prog X.w X.K tg J fp it tn ∧ tn 0 s2.heap ∧ (∀ b ∈ fp, FpOk X pins H' b) ∧ R J H'
structure PIP (X : Cx) (tg iter : Expr) (wi : TI) : Prop where
  run : ∀ (pins : List (Addr × Obj)) (s : Shared) (σ : St) (H : Hp) (R : It → Hp → Prop), Inv X pins σ H s → wi σ H R →
    wpAny (model X.prog X.w) X.A (eval iter X.env) (fun v s1 => wpAny (model X.prog X.w) X.A (pyIter v) (PIEP X pins σ tg R) X.xe s1) X.xe s
section
variable {X : Cx} {tg : Expr}
theorem pi_listP {l : Expr} {tl : TE} (hl : PE X l tl) : PIP X tg l (iList X.K tl) := by
  refine ⟨fun pins s σ H R I h => ?_⟩
  refine thn (hl.run pins s σ H _ I h) fun v s1 ⟨x, H1, I1, r1, q1⟩ => ?_
  obtain ⟨a, e, ⟨xs, hq⟩, q⟩ := q1
  subst e
  cases r1
  obtain ⟨its, rv, p, hz⟩ := I1.list hq
  refine wpAny_pyIter_list p.isList ?_
  refine ⟨s1.heap.objs.size, [s1.heap.objs.size], _, _, H1, rfl, I1.kept (t' := s1.toks) fun b o e => Heap.get?_push_of_some _ e, turn_listP a _, ⟨_, Heap.get?_push_size _ rfl, rfl, rfl⟩, fun b hb => ?_, q⟩
  have e : b = s1.heap.objs.size := by simpa using hb
  subst e
  exact I1.fpOk (Nat.le_refl _) (I1.hok.fresh (Nat.le_refl _))
end
section
variable {X : Cx}
theorem lc_coreP {pins : List (Addr × Obj)} {s : Shared} {σ : St} {H : Hp} {Q : VK} {elt tg iter : Expr} {ifs : List Expr} {scope : Scope} {own : List (Str × Nat)} {pos pos' : Pos} {wi : TI} {g : TG} {tt : TT} {te : TE} {use : Option (Value → Sem Unit)} {Qf : Value → Shared → Prop}
    (p : Addr × Obj) (hot : Hot1 X.A p) (hpn : p ∈ X.pn) (hN : X.N.Nodup) (I : Inv X pins σ H s) (hi : PIP X tg iter wi) (ok : BlkOk X.N X.env.scope scope own)
    (hg : ∀ (s : Shared) (H : Hp) (C : Addr) (cl : List (Str × Addr)) (fp : List Addr), PG (X.blk s H scope (compEnvC scope cl C X.env) fp) tg g) (ht : ∀ (s : Shared) (H : Hp) (C : Addr) (cl : List (Str × Addr)) (fp : List Addr), PTs (X.blk s H scope (compEnvC scope cl C X.env) fp) ifs tt)
    (he : ∀ (s : Shared) (H : Hp) (C : Addr) (cl : List (Str × Addr)) (fp : List Addr), PE (X.blk s H scope (compEnvC scope cl C X.env) fp) elt te) (hs : ∀ x, foldedSetIterable iter X.env x = pure x)
    (h : tLc wi g tt te (own.map (·.2)) σ H Q)
    (hRR : ∀ D C s' m H', Inv X pins σ H' s' → Q (.ref D) H' → s'.heap.Ns C m → FpOk X pins H' C → compPost (model X.prog X.w) X.A X.xe use Qf (.ref D) C (.ok .next) s') :
    wpAny (model X.prog X.w) X.A (comprehension (.ListComp elt [⟨tg, iter, ifs, 0⟩] scope pos) scope X.env pos' (newList []) false (eval iter X.env) use) Qf X.xe s := by
  have hfree : ∀ y ∈ scope.names, y.2 = .free → ∃ c, X.env.cells.lookup y.1 = some c := fun y hy e => by
    rcases ok.free y hy e with k | k
    · exact I.ok.has _ (.inl k)
    · exact I.ok.has _ (.inr k)
  refine wpAny_comprehension_free (use := use) rfl hs (closure_ok hfree) ok.kind (fun y hy e => by rw [ok.uniq y hy, e])
    (thn (hi.run pins s σ H _ I h) fun xv s1 hx => thn hx fun itv s2 h2 => ?_)
  obtain ⟨it, fp, tn, J, H2, e, I2, T, st2, f2, q⟩ := h2
  subst e
  refine wpAny_newObj_type (newEnv_comp ?_) (by show 0 ≤ sizeLine; decide)
  generalize hD : s2.heap.objs.size = D
  have hDn : H2 D = none := I2.hok.fresh (Nat.le_of_eq hD)
  obtain ⟨W, ⟨m0, w0⟩, turn⟩ := q D hDn
  -- the new list
  generalize hs3 : ({ s2 with heap := s2.heap.push { cls := .type "list", data := .seq ([] : List Value).toArray } } : Shared) = s3
  have I3 : Inv X pins σ (upd H2 D (.lst [])) s3 := by
    rw [← hs3]
    refine I2.laid (t' := s2.toks) (fun b o e => Heap.get?_push_of_some _ e) (Nat.le_of_eq hD) ⟨Nat.zero_le _, [], 0, .nil, ?_⟩
    rw [← hD]
    exact Heap.get?_push_size _ rfl
  have h3 : s3.heap = s2.heap.push { cls := .type "list", data := .seq ([] : List Value).toArray } := by rw [← hs3]
  have sz : ∀ b ∈ fp, b < s2.heap.objs.size := fun b hb => by
    obtain ⟨o, e, _⟩ := T.obj _ _ st2 b hb
    exact Heap.lt_size e
  have f3 : ∀ b ∈ fp, FpOk X pins (upd H2 D (.lst [])) b ∧ b < s3.heap.objs.size := fun b hb => by
    have hlt := sz b hb
    refine ⟨⟨?_, (f2 b hb).2⟩, by rw [h3, Heap.size_push]; exact Nat.lt_succ_of_lt hlt⟩
    rw [upd_ne (by rw [← hD]; exact Nat.ne_of_lt hlt)]
    exact (f2 b hb).1
  have st3 : tn 0 s3.heap := T.keep _ _ _ st2 fun b _ o e => by rw [h3]; exact Heap.get?_push_of_some _ e
  have hpin := I3.pin p (List.mem_append_left _ hpn)
  have I4a := block_start I3 ok hN f3
  have pg := hg s3 (upd H2 D (.lst [])) s3.heap.objs.size (cellsFrom (s3.heap.objs.size + 1) scope.names (cloFrom X.env.cells scope.names [])) fp
  have pt := ht s3 (upd H2 D (.lst [])) s3.heap.objs.size (cellsFrom (s3.heap.objs.size + 1) scope.names (cloFrom X.env.cells scope.names [])) fp
  have pe := he s3 (upd H2 D (.lst [])) s3.heap.objs.size (cellsFrom (s3.heap.objs.size + 1) scope.names (cloFrom X.env.cells scope.names [])) fp
  show codeAny _ _ (.compStart (.ListComp elt [⟨tg, iter, ifs, 0⟩] scope pos) 0 (.ref it) (.ref D) (compEnvC scope (cellsFrom (s3.heap.objs.size + 1) scope.names (cloFrom X.env.cells scope.names [])) s3.heap.objs.size X.env)) (compPost (model X.prog X.w) X.A X.xe use Qf (.ref D) s3.heap.objs.size) { s3 with heap := pushCells (s3.heap.push { cls := .type "dict", data := .dict #[] }) scope.names }
  have nfp : ∀ b ∈ fp, (upd H2 D (.lst [])) b = none := fun b hb => (f3 b hb).1.1
  generalize hce : compEnvC scope (cellsFrom (s3.heap.objs.size + 1) scope.names (cloFrom X.env.cells scope.names [])) s3.heap.objs.size X.env = ce at I4a pg pt pe ⊢
  have cL : ce.locals = s3.heap.objs.size := by subst hce; rfl
  generalize hH3 : upd H2 D (.lst []) = H3 at I3 I4a pg pt pe w0 nfp f3 hpin
  generalize hs4 : ({ s3 with heap := pushCells (s3.heap.push { cls := .type "dict", data := .dict #[] }) scope.names } : Shared) = s4 at I4a ⊢
  have st4 : tn 0 s4.heap := T.keep _ _ _ st3 fun b _ o e => by rw [← hs4]; exact pushCells_keeps _ _ _ _ (Heap.get?_push_of_some _ e)
  have I4 : Inv (X.blk s3 H3 scope ce fp) [p] (wipe σ (own.map (·.2))) H3 s4 := I4a.pins_of fun q hq => by
    have eq : q = p := by simpa using hq
    subst eq
    refine ⟨?_, hpin.2.1, ?_, ?_, hpin.2.2.2.2⟩
    · rw [← hs4]
      exact pushCells_keeps _ _ _ _ (Heap.get?_push_of_some _ hpin.1)
    · show q.1 ≠ ce.locals
      rw [cL]
      exact Nat.ne_of_lt (Heap.lt_size hpin.1)
    · exact fun hb => (List.mem_cons.mp (I3.stkSub _ hb)).elim hpin.2.2.1 hpin.2.2.2.1
  have stat : ∀ {σ' : St} {H' : Hp} {s' : Shared}, Inv (X.blk s3 H3 scope ce fp) [p] σ' H' s' → (∀ b ∈ fp, H' b = none) → ∀ b ∈ fp, FpOk (X.blk s3 H3 scope ce fp) [p] H' b := fun {σ' H' s'} I' hn b hb =>
    ⟨hn b hb, (I'.ok.exf b hb).1, I'.ok.exfs b hb, .inl hb, fun x c e => (I'.ok.exf b hb).2 x c e, fun q hq => by
      have eq : q = p := by simpa using (show q ∈ ([] : List (Addr × Obj)) ++ [p] from hq)
      rw [eq]
      exact (f3 b hb).1.2.2.2.2.2 p (List.mem_append_left _ hpn)⟩
  have loop : codeAny (model X.prog X.w) X.A (.compLoop (.ListComp elt [⟨tg, iter, ifs, 0⟩] scope pos) 0 (.ref it) (.ref D) ce) (compPost (model X.prog X.w) X.A X.xe use Qf (.ref D) s3.heap.objs.size) s4 := by
    refine compLoop_any (fun n s' => ∃ i H', Inv (X.blk s3 H3 scope ce fp) [p] (wipe σ (own.map (·.2))) H' s' ∧ tn i s'.heap ∧ (∀ b ∈ fp, H' b = none) ∧ W i n H') ?_ m0 ⟨0, H3, I4, st4, nfp, w0⟩
    rintro n s5 ⟨i, H5, I5, st5, n5, w5⟩
    rcases turn i n H5 w5 with ⟨stop, qq⟩ | ⟨go, Nx, hNx, step⟩
    · have td := T.done (X.blk s3 H3 scope ce fp) rfl rfl rfl i [p] s5 _ H5 (fun _ _ => False) ⟨p, List.mem_append_right _ (by simp), hot⟩ I5 (stat I5 n5) st5 stop
      refine thnF td fun r s6 ⟨hr, I6⟩ => ?_
      subst hr
      -- back in the def's context
      have I7 : Inv X pins σ H5 s6 := I3.call' (ch := fp) I6.os I6.base I6.hok I6.bare fun b hb => ⟨(f3 b hb).1.2.2.2.1, (f3 b hb).1.2.1, (f3 b hb).1.2.2.2.2.1, (f3 b hb).1.2.2.2.2.2⟩
      have nC : H5 s3.heap.objs.size = none := by
        have z : H5 ce.locals = none := I6.free
        rw [cL] at z
        exact z
      obtain ⟨m, hn, _⟩ := I6.loc
      have hn : s6.heap.Ns ce.locals m := hn
      rw [cL] at hn
      exact hRR D s3.heap.objs.size s6 m H5 I7 qq hn (I3.fpOk (Nat.le_refl _) nC)
    · have ti := T.item (X.blk s3 H3 scope ce fp) rfl rfl rfl i [p] s5 _ H5 (fun _ _ => False) I5 (stat I5 n5) st5 go
      refine thnF ti fun r s6 ⟨u, hr, h6⟩ => ?_
      subst hr
      refine thnF h6 fun _ s7 ⟨x, H7, I7, r7, y7, st7, n7⟩ => ?_
      have I7' := I7.pinned (stat I7 n7) (T.obj _ _ st7)
      refine thnF (pg.run _ s7 _ H7 x u _ I7' r7 (step x H7 y7)) fun _ s8 ⟨σ8, H8, I8, hw8, q8⟩ => ?_
      refine thnF (pt.run _ s8 σ8 H8 _ I8 q8) fun b s9 ⟨H9, I9, q9⟩ => ?_
      -- the turn's end
      have fin : ∀ {s' : Shared} {H' : Hp}, Inv (X.blk s3 H3 scope ce fp) ([p] ++ pinsAt fp s7.heap) σ8 H' s' → Nx H' → ∃ m, m < n ∧ ∃ i H', Inv (X.blk s3 H3 scope ce fp) [p] (wipe σ (own.map (·.2))) H' s' ∧ tn i s'.heap ∧ (∀ b ∈ fp, H' b = none) ∧ W i m H' := fun {s' H'} I' nx => by
        obtain ⟨m', hm, w'⟩ := hNx H' nx
        have pin' : ∀ b ∈ fp, ∀ o, s7.heap.get? b = some o → s'.heap.get? b = some o ∧ H' b = none := fun b hb o e =>
          let z := I'.pin (b, o) (List.mem_append_right _ (List.mem_append_right _ (mem_pinsAt hb e)))
          ⟨z.1, z.2.1⟩
        have hl : (wipe σ (own.map (·.2))).length = σ8.length := by rw [← hw8, wipe_length]
        refine ⟨m', hm, i + 1, H', (I'.unpinned (pins := [p])).weak hl (fun j v e => ?_), T.keep _ _ _ st7 fun b hb o e => (pin' b hb o e).1, fun b hb => ?_, w'⟩
        · rw [← hw8] at e
          exact (wipe_some e).1
        · obtain ⟨o, e, _⟩ := T.obj _ _ st7 b hb
          exact (pin' b hb o e).2
      cases b with
      | false =>
        simp only [Bool.false_eq_true, if_false] at q9 ⊢
        exact fin I9 q9
      | true =>
        simp only [if_true] at q9 ⊢
        refine thnF (pe.run _ s9 σ8 H9 _ I9 q9) fun z s10 ⟨yv, H10, I10, r10, acc, hD10, hz10, nx⟩ => ?_
        exact app_ok (X := X.blk s3 H3 scope ce fp) I10 hD10 hz10 r10 fun s11 I11 => fin I11 nx
  exact codeAny_compStart_list loop (T.self X.A 0 _ _ _ st4 loop)
/-- as a value -/
theorem pe_lcP {elt tg iter : Expr} {ifs : List Expr} {scope : Scope} {own : List (Str × Nat)} {pos : Pos} {wi : TI} {g : TG} {tt : TT} {te : TE} (hc : HotC X) (hN : X.N.Nodup) (hi : PIP X tg iter wi) (ok : BlkOk X.N X.env.scope scope own)
    (hg : ∀ (s : Shared) (H : Hp) (C : Addr) (cl : List (Str × Addr)) (fp : List Addr), PG (X.blk s H scope (compEnvC scope cl C X.env) fp) tg g) (ht : ∀ (s : Shared) (H : Hp) (C : Addr) (cl : List (Str × Addr)) (fp : List Addr), PTs (X.blk s H scope (compEnvC scope cl C X.env) fp) ifs tt)
    (he : ∀ (s : Shared) (H : Hp) (C : Addr) (cl : List (Str × Addr)) (fp : List Addr), PE (X.blk s H scope (compEnvC scope cl C X.env) fp) elt te) (hs : ∀ x, foldedSetIterable iter X.env x = pure x := by intro _; rfl) :
    PE X (.ListComp elt [⟨tg, iter, ifs, 0⟩] scope pos) (tLc wi g tt te (own.map (·.2))) := by
  obtain ⟨p, hot, hpn⟩ := hc
  refine ⟨fun pins s σ H Q I h => ?_⟩
  rw [eval_ListComp]
  refine lc_coreP p hot hpn hN I hi ok hg ht he hs h fun D C s' m H' I' q hn f => ⟨m, hn, fun h'' sb => ?_⟩
  obtain ⟨f0, f1, f2, f3, f4, f5⟩ := f
  exact ⟨.ref D, H', I'.turned (t' := s'.toks) (fun b o hb e => (sb.2 b hb).trans e) f0 f1 f3 f4 f5, rfl, q⟩
theorem cr_maxP (hc : HotC X) : CallR X (.builtin "max") (rMax X.K) := by
  intro pins s σ H vs us Q I r h
  obtain ⟨a, ns, rfl, hs, hne, q⟩ := h
  obtain ⟨its, rv, hl, _⟩ := I.list hs
  obtain ⟨p, ⟨hh, v1, d1, c1⟩, hpn⟩ := hc
  have hp1 := (I.pin p (List.mem_append_left _ hpn)).1
  rw [Vals.ref1 r]
  have hi := rv.ints
  obtain ⟨xs, e⟩ := hi.allInts.items
  have hn : numsOf (intItems xs).toList = ns := by rw [← e]; exact hi.numsOf
  rw [nums_intItems] at hn
  subst hn
  have hl2 := hl.isList
  rw [e] at hl2
  have hsz : 0 < xs.size := by simpa using hne
  refine call_max_walk (iter_intList hl2 fun s₂ es st hfp hlI => ?_)
  subst es
  have hp2 := Heap.get?_push_of_some { cls := .type "list_iterator", data := .fields #[.ref a, .int 0 0] } hp1
  refine ⟨_, _, _, _, _, _, _, rfl, walks_listHot (A := X.A.in1) hh p.2 v1 d1 c1 hlI (Nat.ne_of_lt (Heap.lt_size hp1)) (intItems xs), ⟨st, hp2⟩, fun b hb => ?_, by simpa [intItems] using hsz, CmpOf.ints_gt (numAt xs) (fun _ _ => intItems_at), fun v h' tk hP hk => ?_⟩
  · have hb' : b ∈ [s.heap.objs.size, a] ∨ b = p.1 := by
      rcases List.mem_cons.mp hb with z | hb
      · exact .inl (List.mem_cons.mpr (.inl z))
      · rcases List.mem_cons.mp hb with z | hb
        · exact .inl (List.mem_cons_of_mem _ (List.mem_cons.mpr (.inl z)))
        · exact .inr (List.mem_singleton.mp hb)
    rcases hb' with z | z
    · exact hfp b z
    · rw [z]; exact Heap.lt_size hp2
  · obtain ⟨t, rfl⟩ := intItems_at hP
    obtain ⟨h1, h2⟩ := argBest_gt (numAt xs) (xs.size - 1)
    have hsize : (intItems xs).size = xs.size := by simp [intItems]
    rw [hsize]
    refine ⟨.int _, H, I.kept (t' := tk) (old_kept hk), ⟨t, rfl⟩, q _ ?_ fun y hy => ?_⟩
    · rw [numAt_eq]; exact PySem.getD_mem (by rw [List.length_map, Array.length_toList]; omega)
    · obtain ⟨j, hj, rfl⟩ := mem_getD hy
      rw [List.length_map, Array.length_toList] at hj
      rw [← numAt_eq]; exact h2 j (by omega)
end
end L2

set_option Elab.async false
set_option linter.all false
set_option maxRecDepth 100000
set_option maxHeartbeats 4000000
/-! DHotD: in an except suite: a comprehension over a list, max of a list. -/
namespace Dl
open PySem PySem.Spec PyProof.Rows L2 L2H
theorem hot_suite {X : Cx} {a : Addr} {oe : Obj} {cls : Value} {d : Option Addr} {pn : List (Addr × Obj)} (hz : L2N.Zn cls d oe) (hv : ∃ vs, oe.data = .fields vs) : HotC (X.suite a ((a, oe) :: pn)) :=
  let ⟨vs, e⟩ := hv
  ⟨(a, oe), ⟨rfl, vs, e, hz.2.2 vs e⟩, List.mem_cons_self⟩
theorem room_uS {X : Cx} {a : Addr} {pn : List (Addr × Obj)} {j : Nat} (hr : Room j X.A) : (X.suite a pn).A.units + 64 < cLine := by have := hr.un; show X.A.units + 64 < cLine; omega
theorem room_u1S {X : Cx} {a : Addr} {pn : List (Addr × Obj)} {j : Nat} (hr : Room j X.A) : (X.suite a pn).A.units + 65 < cLine := by have := hr.un; show X.A.units + 65 < cLine; omega
/-- over a list that never changes -/
def lcVH (vs : List Nat) (gd : OF) (t : TF) (e : EF) (sd : Sl) (d : D) (m : Mem) : R D := match d with
  | .lst l => lcEnd m.length (lcD vs gd t e m.length sd l (m ++ [.lst []]))
  | _ => .stuck
noncomputable def xLcH (po : Post) (vs : List Nat) (src : EF) (gd : OF) (t : TF) (e : EF) : EF := fun sd m => (src sd m).bind fun d m1 => po m1 (lcVH vs gd t e sd d m1)
@[simp] theorem q_lcH {sd : Sl} {m : Mem} {fa : EF} (po : Post) (vs : List Nat) (gd : OF) (t : TF) (e : EF) : xLcH po vs fa gd t e sd m = (fa sd m).bind fun d m1 => po m1 (lcVH vs gd t e sd d m1) := rfl
theorem lcVH_lst {vs : List Nat} {gd : OF} {t : TF} {e : EF} {sd : Sl} {l : List D} {m : Mem} : lcVH vs gd t e sd (.lst l) m = lcV vs gd t e sd (.lst l) m := rfl
section
variable {X : Cx} {W : WX} {it tg elt : Expr} {es : List Expr} {e : Expr} {ifs : List Expr} {scope : Scope} {own : List (Str × Nat)} {pos p : Pos} {fa fe : EF} {ar : AF} {t : TF} {gR : TG} {gd : OF} {vs : List Nat}
theorem s_lcH {po : Post} (hpo : PostOk po) (ow : OwnT X.K vs gR gd) (σ : L2.St) (H : Hp) (Q : VK) : eOf X.K W (xLcH po vs fa gd t fe) σ H Q → tLc (iList X.K (eOf X.K W fa)) gR (tOf X.K W0 t) (eOf X.K W0 fe) vs σ H Q := fun ⟨w, m, sd, wf, sl, h⟩ => by
  have go := h.bind
  show (iList X.K (eOf X.K W fa) σ H _)
  cases q : fa sd m with
  | err e m1 => exact ⟨w, m, sd, wf, sl, by rw [q] at go ⊢; exact go⟩
  | stuck => exact ⟨w, m, sd, wf, sl, by rw [q] at go ⊢; exact go⟩
  | ok d m1 =>
    rw [q] at go
    have lstC : ∀ {l : List D} {w1 : Wd} {H1 : Hp} {a : Addr} {xs : List V}, Le w w1 → Wf X.K w1 H1 m1 → (∀ w2 H2 m2, Le w1 w2 → Wf X.K w2 H2 m2 → SqL X.K H2 a xs) → reps X.K w1 l xs → rOk X.K W σ w1 (lcEnd m1.length (lcD vs gd t fe m1.length sd l (m1 ++ [.lst []]))) (eK X.K Q) →
        ∀ D, H1 D = none → ∃ Wi : Nat → Nat → Hp → Prop, (∃ m, Wi 0 m (upd H1 D (.lst []))) ∧ ∀ i m H, Wi i m H →
          ((Itl X.K a).stop i H ∧ Q (.ref D) H) ∨ ((Itl X.K a).go i H ∧ ∃ Nx : Hp → Prop, (∀ H', Nx H' → ∃ m', m' < m ∧ Wi (i + 1) m' H') ∧ ∀ x H', (Itl X.K a).yld i H x H' → gR x (wipe σ vs) H' fun σ2 H2 => wipe σ2 vs = wipe σ vs ∧ tOf X.K W0 t σ2 H2 fun b H3 =>
            if b = true then eOf X.K W0 fe σ2 H3 fun y H4 => ∃ acc, H4 D = some (.lst acc) ∧ acc.length < sizeLine ∧ Nx (upd H4 D (.lst (acc ++ [y]))) else Nx H3) := by
      intro l w1 H1 a xs l1 wf1 hq rs h1 p hpn
      obtain ⟨wf2, hp⟩ := lc_start wf1 hpn
      obtain ⟨m2, e2, q2⟩ := lc_end (w := w1) hp (h1.mono (Le.cell (p := p)))
      refine lc_list (K := X.K) (a := a) (xs := xs) (fun i H => LcI X.K (w1.cell p) (fun H => Q (.ref p) H) (fun m => lcD vs gd t fe m1.length sd (l.drop i) m) H) ⟨_, _, m2, Le.refl _, wf2, by rw [List.drop_zero]; exact e2, q2⟩ (fun i H _ ⟨w3, m3, m4, l3, wf3, _⟩ => hq w3 H m3 (Le.cell.trans l3) wf3) ?_ ?_
      · rintro i x H3 hx ⟨w3, m3, m4, l3, wf3, e3, q3⟩
        have hil : i < l.length := by rw [← rs.length]; exact (List.getElem?_eq_some_iff.mp hx).1
        obtain ⟨v, e1, r1⟩ := rs.get (List.getElem?_eq_getElem hil)
        rw [hx] at e1
        cases e1
        rw [drop_get (List.getElem?_eq_getElem hil)] at e3
        exact lc_turn ow hp l3 wf3 (sl.mono (l1.trans (Le.cell.trans l3))) (r1.mono (Le.cell.trans l3)) e3 q3
      · rintro H3 ⟨w3, m3, m4, l3, wf3, e3, q3⟩
        rw [rs.length, List.drop_length] at e3
        cases e3
        exact q3 w3 H3 (Le.refl _) wf3
    refine ⟨w, m, sd, wf, sl, ?_⟩
    rw [q]
    cases d with
    | lst l =>
      intro w1 H1 l1 wf1 v rv
      have h1 := hpo wf1 (go w1 H1 l1 wf1)
      obtain ⟨a, xs, rfl, h2, r2⟩ := rv
      exact ⟨a, rfl, ⟨xs, .of (wf1.subL h2)⟩, lstC l1 wf1 (fun w2 H2 m2 l2 wf2 => .of (wf2.subL (l2.c _ _ h2))) r2 h1⟩
    | _ =>
      intro w1 H1 l1 wf1 v rv
      exact (hpo wf1 (go w1 H1 l1 wf1)).elim
theorem d_lcH {po : Post} (hpo : PostOk po) (hc : HotC X) (hN : X.N.Nodup) (hi : DE X W it fa) (ok : BlkOk X.N X.env.scope scope own) (ow : OwnT X.K (own.map (·.2)) gR gd)
    (hg : ∀ (s : Shared) (H : Hp) (C : Addr) (cl : List (Str × Addr)) (fp : List Addr), PG (X.blk s H scope (compEnvC scope cl C X.env) fp) tg gR)
    (ht : ∀ (s : Shared) (H : Hp) (C : Addr) (cl : List (Str × Addr)) (fp : List Addr), PTs (X.blk s H scope (compEnvC scope cl C X.env) fp) ifs (tOf X.K W0 t))
    (he : ∀ (s : Shared) (H : Hp) (C : Addr) (cl : List (Str × Addr)) (fp : List Addr), DE (X.blk s H scope (compEnvC scope cl C X.env) fp) W0 elt fe) (hs : ∀ x, foldedSetIterable it X.env x = pure x := by intro _; rfl) :
    DE X W (.ListComp elt [⟨tg, it, ifs, 0⟩] scope pos) (xLcH po (own.map (·.2)) fa gd t fe) := (pe_lcP hc hN (pi_listP hi) ok hg ht he hs).weak (s_lcH (X := X) hpo ow)
theorem d_maxLH (hc : HotC X) (hm : X.mg "max" = none) (ha : DA X W (e :: es) ar) (hg : Gl X "max" := by rfl)
    (he : starEach (e :: es) X.env = (false, eval e X.env) :: starEach es X.env := by rfl) (hpl : (backTo pos (starEach es X.env)).any (·.1) = false := by rfl) : DE X W (.Call (.Name "max" p) (e :: es) [] pos) (xCB oMaxL ar) := d_cb (cr_maxP hc) s_maxL hm (by decide +kernel) ha hg (by decide) (by decide) he hpl
end
end Dl

set_option Elab.async false
set_option linter.all false
set_option maxRecDepth 100000
set_option maxHeartbeats 4000000
/-! DDisp: a dict display of two texts. -/
namespace Dl
open PySem PySem.Spec PyProof.Rows L2
def xDisp (l : List (Str × Str)) : EF := fun _ m => .ok (.loc m.length) (m ++ [.dK (l.map fun p => (.inr p.1, .str p.2))])
@[simp] theorem q_disp {sd : Sl} {m : Mem} (l : List (Str × Str)) : xDisp l sd m = .ok (.loc m.length) (m ++ [.dK (l.map fun p => (.inr p.1, .str p.2))]) := rfl
theorem upd_upd {H : Hp} {p : Addr} {a b : HO} : upd (upd H p a) p b = upd H p b := by
  funext q
  by_cases h : q = p
  · subst h; rw [upd_same, upd_same]
  · rw [upd_ne h, upd_ne h, upd_ne h]
theorem d_disp2 {X : Cx} {W : WX} {a b c d : Str} {j1 j2 j3 j4} {p1 p2 p3 p4 pos : Pos} (h : mergeK [] [((.inr a : Key), V.str b), (.inr c, V.str d)] = [(.inr a, .str b), (.inr c, .str d)]) :
    DE X W (.Dict [some (.Constant (.str a) j1 p1), some (.Constant (.str c) j2 p2)] [.Constant (.str b) j3 p3, .Constant (.str d) j4 p4] pos) (xDisp [(a, b), (c, d)]) :=
  (pe_disp (pps_cons pe_str pe_str (pps_cons pe_str pe_str pps_nil)) rfl rfl (by simp) (Nat.le_of_ble_eq_true rfl)).weak fun σ H Q ⟨w, m, sd, wf, sl, q⟩ p hp => by
    refine ⟨upd_same, [(.inr a, .str b), (.inr c, .str d)], rfl, Nat.le_of_ble_eq_true rfl, ?_⟩
    rw [h, upd_upd]
    obtain ⟨l, f, r⟩ := new_dict (d := .dK [(.inr a, .str b), (.inr c, .str d)]) (u := .dK [(.inr a, .str b), (.inr c, .str d)]) wf hp ⟨_, upd_same, ⟨_, _, rfl, rfl, ⟨_, _, rfl, rfl, rfl⟩⟩⟩
    exact q _ _ l f _ r
end Dl

set_option Elab.async false
set_option linter.all false
set_option maxRecDepth 100000
set_option maxHeartbeats 4000000
/-! DIdx: xs.index(y) by value, sum(xs). -/
namespace Dl
open PySem PySem.Spec PyProof.Rows L2
def idxD (p : PyData) : List D → Option Nat
  | [] => none
  | z :: l => if PyData.eqv z.toP p = true then some 0 else (idxD p l).map (· + 1)
theorem idxD_ok {p : PyData} : ∀ {l : List D} {j : Nat}, idxD p l = some j → ∃ z, (D.toPs l)[j]? = some z ∧ PyData.eqv z p = true ∧ ∀ (m : Nat) (z' : PyData), m < j → (D.toPs l)[m]? = some z' → PyData.eqv z' p = false
  | [], j, h => by cases h
  | z :: l, j, h => by
    unfold idxD at h
    by_cases q : PyData.eqv z.toP p = true
    · rw [if_pos q] at h
      cases h
      exact ⟨z.toP, rfl, q, fun m z' hm => by omega⟩
    · rw [if_neg q] at h
      obtain ⟨i, hi, rfl⟩ := Option.map_eq_some_iff.mp h
      obtain ⟨y, h1, h2, h3⟩ := idxD_ok hi
      refine ⟨y, h1, h2, fun m z' hm e => ?_⟩
      cases m with
      | zero =>
        have e' : some z.toP = some z' := e
        cases e'
        cases q2 : PyData.eqv z.toP p with
        | false => rfl
        | true => exact absurd q2 q
      | succ m => exact h3 m z' (by omega) e
def oIndex (d : D) (ds : List D) (m : Mem) : Option (D × Mem) := match ds with
  | [e] => match d.rdl? m with
    | some l => if (e.der m).ok 60 && D.oks 59 l then match idxD (e.der m).toP l with
      | some j => some (.int (j : Nat), m)
      | none => none
      else none
    | none => none
  | _ => none
theorem s_index {K : PySem.W.Frag} : ∀ w H m d v ds vs Q, Wf K w H m → rep K w d v → reps K w ds vs → vOk K w (oIndex d ds m) Q → rIndexD K v vs H Q := by
  intro w H m d v ds vs Q wf r rs q
  unfold oIndex at q
  split at q
  · rename_i e
    obtain ⟨y, ys, rfl, ry, rfl⟩ := rs
    split at q
    · rename_i l el
      by_cases h : ((e.der m).ok 60 && D.oks 59 l) = true
      · rw [if_pos h] at q
        obtain ⟨h1, h2⟩ := Bool.and_eq_true_iff.mp h
        cases z : idxD (e.der m).toP l with
        | none => rw [z] at q; exact q.elim
        | some j =>
          rw [z] at q
          obtain ⟨u, u1, u2, u3⟩ := idxD_ok z
          obtain ⟨⟨z0, ez, hz⟩, hk⟩ := seq_der el
          have dp := der_dp wf (hk 59 h2) r
          have sh := ok_shaped (hk 59 h2)
          rw [ez, hz] at dp sh
          obtain ⟨a, xs, rfl, _⟩ := rdlR wf r el
          exact ⟨a, y, _, _, j, u, rfl, rfl, dp, der_dp wf h1 ry, sh, ok_shaped h1, u1, u2, u3, q.ret wf rfl⟩
      · rw [if_neg h] at q; exact q.elim
    · exact q.elim
  · exact q.elim
section
variable {X : Cx} {W : WX} {e o : Expr} {es : List Expr} {pos : Pos} {fa : EF} {ar : AF}
theorem d_index {apos : Pos} (hu : X.A.units + 65 < cLine) (ho : DE X W o fa) (ha : DA X W (e :: es) ar)
    (hbase : attributeBase o "index" X.env (eval o X.env) = eval o X.env := by rfl)
    (hfew : ((backTo pos (starEach (e :: es) X.env)).all (fun x => !x.1) && (backToKw pos (keywordEach [] X.env)).all (fun x => x.1.isSome)
      && decide ((e :: es).length + ([] : List Keyword).length + (if ([] : List Keyword).isEmpty then 0 else 1) < 30)) = true := by rfl)
    (hline : (apos.endLine == pos.line) = true := by rfl) (hs : starEach (e :: es) X.env = (false, eval e X.env) :: starEach es X.env := by rfl) (hplain : (backTo pos (starEach es X.env)).any (·.1) = false := by rfl) :
    DE X W (.Call (.Attribute o "index" apos) (e :: es) [] pos) (xBM oIndex fa ar) := (pe_bm PySem.F.plainAttrs_list PySem.F.slot_list_index PySem.F.type_list_index (mt_indexD hu) ho ha hbase hfew hline hs hplain).weak (s_bm s_index)
def oSum : OpN := fun ds m => match ds with
  | [d] => match d.rdl? m with
    | some l => match D.ints? l with
      | some is => some (.int is.sum, m)
      | none => none
    | none => none
  | _ => none
theorem s_sum {K : PySem.W.Frag} : CSat K (rSum K) oSum := by
  intro w H m ds vs Q wf rs q
  unfold oSum at q
  split at q
  · rename_i d
    obtain ⟨y, ys, rfl, ry, rfl⟩ := rs
    cases z : d.rdl? m with
    | none => rw [z] at q; exact q.elim
    | some l =>
      simp only [z] at q
      cases z2 : D.ints? l with
      | none => rw [z2] at q; exact q.elim
      | some ns =>
        rw [z2] at q
        simp only at q
        obtain ⟨a, xs, rfl, hs, rx⟩ := rdlR wf ry z
        have ex := intsR rx z2
        subst ex
        exact ⟨a, ns, rfl, hs, q.ret wf rfl⟩
  · exact q.elim
theorem d_sum {p : Pos} (hc : X.calm = true) (hm : X.mg "sum" = none) (ha : DA X W (e :: es) ar) (hg : Gl X "sum" := by rfl)
    (he : starEach (e :: es) X.env = (false, eval e X.env) :: starEach es X.env := by rfl) (hpl : (backTo pos (starEach es X.env)).any (·.1) = false := by rfl) : DE X W (.Call (.Name "sum" p) (e :: es) [] pos) (xCB oSum ar) := d_cb (cr_sum hc) s_sum hm (by decide +kernel) ha hg (by decide) (by decide) he hpl
end
end Dl

set_option Elab.async false
set_option linter.all false
set_option maxRecDepth 100000
set_option maxHeartbeats 4000000
/-! DRep: list * n that is to change; comprehensions over range(a, b). -/
namespace Dl
open PySem PySem.Spec PyProof.Rows L2
section
variable {X : Cx} {W : WX} {a c : Expr} {pos : Pos} {fa fb : EF}
noncomputable def oMulM : Op2 := fun d1 d2 m => match d2 with
  | .int k => match d1.lst? m with
    | some l => cIf (-(2 ^ 63) ≤ k ∧ k < 2 ^ 63 ∧ l.length * k.toNat ≤ big) (some (.loc m.length, m ++ [.lst (repD k.toNat l)])) none
    | none => none
  | _ => none
theorem s_mulM : OSat X.K (fun x y H Q => (rI CMulW fun i j => .int (i * j)) x y H Q ∨ rRep x y H Q) oMulM := by
  intro w H m d1 d2 x y Q wf r1 r2 q
  unfold oMulM at q
  split at q
  · rename_i k
    split at q
    · rename_i l e
      by_cases hc : -(2 ^ 63) ≤ k ∧ k < 2 ^ 63 ∧ l.length * k.toNat ≤ big
      · rw [cIf_pos hc] at q
        obtain ⟨p1, xs, rfl, h1, q1⟩ := lstR wf r1 e
        refine .inr ⟨p1, k, xs, rfl, r2, h1, hc.1, hc.2.1, big_ok (by rw [q1.length]; exact hc.2.2), fun p hp => ?_⟩
        obtain ⟨l, f, rv⟩ := new_cell wf (q1.times k.toNat) hp
        exact q _ _ _ l f rv
      · rw [cIf_neg hc] at q; exact q.elim
    · exact q.elim
  · exact q.elim
theorem d_mulM (ha : DE X W a fa) (hb : DE X W c fb) : DE X W (.BinOp a .Mult c pos) (xOp oMulM fa fb) := d_op (op_mulW.or op_rep) s_mulM ha hb
end
section
variable {X : Cx} {W : WX} {tg elt a c : Expr} {ifs : List Expr} {scope : Scope} {own : List (Str × Nat)} {t : TF} {fe : EF} {gR : TG} {gd : OF} {vs : List Nat} {pos : Pos}
theorem s_lcR2 {po : Post} (hpo : PostOk po) {ar : AF} (ow : OwnT X.K vs gR gd) (σ : L2.St) (H : Hp) (Q : VK) : eOf X.K W (xLcR po rng2 vs ar gd t fe) σ H Q → tLc (iRng2 (aOf X.K W ar)) gR (tOf X.K W0 t) (eOf X.K W0 fe) vs σ H Q := fun ⟨w, m, sd, wf, sl, h⟩ =>
  ⟨w, m, sd, wf, sl, h.bind.imp fun ds m1 w1 H1 l1 wf1 h1 xs rs => by
    have h1 := hpo wf1 h1
    unfold lcR at h1
    cases e : rng2 ds with
    | none => simp only [e] at h1; exact h1.elim
    | some p =>
      obtain ⟨lo, st, n⟩ := p
      simp only [e] at h1
      obtain ⟨i0, j, rfl, q, rfl, rfl, rfl⟩ := rng2_ok e
      obtain ⟨y, ys, rfl, rfl, y2, ys2, rfl, rfl, rfl⟩ := rs
      refine ⟨lo, j, rfl, q, fun p hpn => ?_⟩
      obtain ⟨wf2, hp⟩ := lc_start wf1 hpn
      obtain ⟨m2, e2, q2⟩ := lc_end (w := w1) hp (rOk.mono (Le.cell (p := p)) h1)
      refine lc_range (lo := lo) (n := (j - lo).toNat) (fun i H => LcI X.K (w1.cell p) (fun H => Q (.ref p) H) (fun m => lcD vs gd t fe m1.length sd ((rngD lo 1 (j - lo).toNat).drop i) m) H) ⟨_, _, m2, Le.refl _, wf2, by rw [List.drop_zero]; exact e2, q2⟩ ?_ ?_
      · rintro i H3 hi ⟨w3, m3, m4, l3, wf3, e3, q3⟩
        rw [drop_get (rngD_get hi), Int.mul_one] at e3
        exact lc_turn ow hp l3 wf3 (sl.mono (l1.trans (Le.cell.trans l3))) (show rep X.K w3 (D.int (lo + (i : Int))) (V.int (lo + (i : Int))) from rfl) e3 q3
      · rintro H3 ⟨w3, m3, m4, l3, wf3, e3, q3⟩
        have e : (rngD lo 1 (j - lo).toNat).drop (j - lo).toNat = [] := List.drop_eq_nil_of_le (by rw [rngD_length]; exact Nat.le_refl _)
        rw [e] at e3
        cases e3
        exact q3 w3 H3 (Le.refl _) wf3⟩
theorem d_lcR2 {po : Post} {ar : AF} {p cpos : Pos} (hpo : PostOk po) (hc : X.calm = true) (hN : X.N.Nodup) (hm : X.mg "range" = none) (ha : DA X W [a, c] ar) (ok : BlkOk X.N X.env.scope scope own) (ow : OwnT X.K (own.map (·.2)) gR gd)
    (hg : ∀ (s : Shared) (H : Hp) (C : Addr) (cl : List (Str × Addr)) (fp : List Addr), PG (X.blk s H scope (compEnvC scope cl C X.env) fp) tg gR)
    (ht : ∀ (s : Shared) (H : Hp) (C : Addr) (cl : List (Str × Addr)) (fp : List Addr), PTs (X.blk s H scope (compEnvC scope cl C X.env) fp) ifs (tOf X.K W0 t))
    (he : ∀ (s : Shared) (H : Hp) (C : Addr) (cl : List (Str × Addr)) (fp : List Addr), DE (X.blk s H scope (compEnvC scope cl C X.env) fp) W0 elt fe) (hgl : Gl X "range" := by rfl)
    (hst : starEach [a, c] X.env = [(false, eval a X.env), (false, eval c X.env)] := by rfl) (hst2 : starEach [c] X.env = [(false, eval c X.env)] := by rfl) (hs : ∀ x, foldedSetIterable (.Call (.Name "range" p) [a, c] [] cpos) X.env x = pure x := by intro _; rfl) :
    DE X W (.ListComp elt [⟨tg, .Call (.Name "range" p) [a, c] [] cpos, ifs, 0⟩] scope pos) (xLcR po rng2 (own.map (·.2)) ar gd t fe) := (pe_lc hc hN (pi_range2 hgl hm ha hst hst2) ok hg ht he hs).weak (s_lcR2 (X := X) hpo ow)
theorem ds_setLcR2 {po : Post} {i : Nat} {y : Str} {py spos : Pos} {ar : AF} {p cpos : Pos} (hpo : PostOk po) (hc : X.calm = true) (hN : X.N.Nodup) (hy : X.N[i]? = some y) (hyl : X.env.scope.names.lookup y = some .local)
    (hsw : swapsWith (.ListComp elt [⟨tg, .Call (.Name "range" p) [a, c] [] cpos, ifs, 0⟩] scope pos) (some (.Name y py)) spos.line X.env = pure true) (hm : X.mg "range" = none) (ha : DA X W [a, c] ar) (ok : BlkOk X.N X.env.scope scope own) (ow : OwnT X.K (own.map (·.2)) gR gd)
    (hg : ∀ (s : Shared) (H : Hp) (C : Addr) (cl : List (Str × Addr)) (fp : List Addr), PG (X.blk s H scope (compEnvC scope cl C X.env) fp) tg gR)
    (ht : ∀ (s : Shared) (H : Hp) (C : Addr) (cl : List (Str × Addr)) (fp : List Addr), PTs (X.blk s H scope (compEnvC scope cl C X.env) fp) ifs (tOf X.K W0 t))
    (he : ∀ (s : Shared) (H : Hp) (C : Addr) (cl : List (Str × Addr)) (fp : List Addr), DE (X.blk s H scope (compEnvC scope cl C X.env) fp) W0 elt fe) (hgl : Gl X "range" := by rfl)
    (hst : starEach [a, c] X.env = [(false, eval a X.env), (false, eval c X.env)] := by rfl) (hst2 : starEach [c] X.env = [(false, eval c X.env)] := by rfl) (hs : ∀ x, foldedSetIterable (.Call (.Name "range" p) [a, c] [] cpos) X.env x = pure x := by intro _; rfl) :
    DS X W (.Assign [.Name y py] (.ListComp elt [⟨tg, .Call (.Name "range" p) [a, c] [] cpos, ifs, 0⟩] scope pos) spos) (sAsg (xLcR po rng2 (own.map (·.2)) ar gd t fe) (tgN i)) := (ps_setLc hc hN hy hyl hsw (pi_range2 hgl hm ha hst hst2) ok hg ht he hs).weak fun En σ H q => by
  have h := s_asg (K := X.K) (W := W) (t := gName i) (fun v σ H Q ⟨w, m, sd, d, wf, sl, r, q⟩ => q w H _ (Le.refl _) wf (slR.set r i sl)) En σ H q
  exact s_lcR2 (X := X) hpo ow σ H _ h
end
end Dl

set_option Elab.async false
set_option linter.all false
set_option maxRecDepth 100000
set_option maxHeartbeats 4000000
/-! DTm: tuple * int. -/
namespace L2
open PySem PySem.Spec PyProof.Rows
theorem tuple_mulOne (l : Addr) (items : Array Value) (n : Nat) (dd : Option Addr) (sl : Array (Option Value)) (u : Tok) :
    Meets (Builtin.«tuple.__mul__» ⟨[.ref l, .int 1 u], []⟩) (fun _ R s => s.heap.get? l = some { cls := .type "tuple", dict := dd, data := .seq items n, slots := sl } ∧ R (.ok (.ret (Value.ref l))) s) :=
  .of_wp fun prog w A R s h => by
    obtain ⟨hp, g, d, tk, os⟩ := s
    obtain ⟨hl, h⟩ := h
    have f1 := AutoSeq1.idx_int
    have c0 : (decide ((1 : Int) < -(2 ^ 63)) || decide ((1 : Int) ≥ 2 ^ 63)) = false := by decide +kernel
    have c1 : (items.isEmpty || ((1 : Int) == 1)) = true := by simp
    wp_walk using wpAny_loadPart' hl
    repeat (first
      | (refine wpAny_ite_false (decide_eq_false (by rw [c0]; exact Bool.false_ne_true)) ?_; wp_walk using wpAny_loadPart' hl)
      | (refine wpAny_ite_true (decide_eq_true (by rw [c1])) ?_; wp_walk using wpAny_loadPart' hl))
    exact ⟨_, rfl, h⟩
def rRepT1 (K : PySem.W.Frag) : R2 := fun x y H Q => ∃ l xs, x = .ref l ∧ y = .int 1 ∧ SqT K H l xs ∧ xs ≠ [] ∧ Q (.ref l) H
theorem op_repT1 {X : Cx} : OpR X (binaryOp .Mult) (rRepT1 X.K) := by
  intro pins s σ H x y v u Q I rx ry h
  obtain ⟨l, xs, rfl, rfl, hT, hne, q⟩ := h
  cases rx
  obtain ⟨t, rfl⟩ := ry
  obtain ⟨its, r, ⟨⟨cls, dd, data, sl⟩, ho, hc, n, hd⟩, hs⟩ := I.tuple hT
  simp only at hc hd
  subst hc hd
  refine wpAny_binaryOp_repeat_ref (T := "tuple") (U := "int") (by decide) ⟨_, ho, rfl⟩ (fun s' => typeIs_int s' 1 t) noFill_tuple_mul F.fills_int_mul F.slot_int_rmul repeat_tuple F.slot_int_index.lookup
    (call_meets F.slot_int_rmul (typeIs_int s 1 t) F.entry_int_rmul (F.args_int_rmul_2 _ _) (int_rmul_tuple 1 t l its.toArray n dd sl)
      ⟨ho, rfl, ⟨_, ho, rfl⟩, call_meets F.slot_tuple_mul ⟨_, ho, rfl⟩ F.entry_tuple_mul (F.args_tuple_mul_2 _ _) (tuple_mulOne l its.toArray n dd sl t) ⟨ho, ?_⟩⟩)
  exact ⟨.ref l, H, I.tok _, rfl, q⟩
end L2
namespace Dl
open PySem PySem.Spec PyProof.Rows L2
section
variable {X : Cx} {W : WX} {a c : Expr} {pos : Pos} {fa fb : EF}
def oMulT : Op2 := fun d1 d2 m => match d2 with
  | .int k => match d1.tup? with
    | some l => if l ≠ [] ∧ k = 1 then some (d1, m) else if l ≠ [] ∧ 2 ≤ k ∧ k ≤ 1000 ∧ l.length ≤ 1000 then some (.tup (List.replicate k.toNat l).flatten, m) else none
    | none => none
  | _ => none
theorem reps_rep {K : PySem.W.Frag} {w : Wd} {l : List D} {xs : List V} (r : reps K w l xs) : ∀ n, reps K w (List.replicate n l).flatten (List.replicate n xs).flatten
  | 0 => rfl
  | n + 1 => by
    rw [List.replicate_succ, List.replicate_succ, List.flatten_cons, List.flatten_cons]
    exact r.append (reps_rep r n)
theorem s_mulT : OSat X.K (fun x y H Q => rRepT1 X.K x y H Q ∨ rRepT X.K x y H Q) oMulT := by
  intro w H m d1 d2 x y Q wf r1 r2 q
  unfold oMulT at q
  split at q
  · rename_i k
    split at q
    · rename_i l e
      obtain ⟨p1, xs, rfl, h1, q1⟩ := tupR wf r1 e
      have ne : l ≠ [] → xs ≠ [] := fun h z => h (by
        have := q1.length
        rw [z] at this
        exact List.eq_nil_of_length_eq_zero this.symm)
      by_cases hc : l ≠ [] ∧ k = 1
      · rw [if_pos hc] at q
        obtain ⟨hl, rfl⟩ := hc
        exact .inl ⟨p1, xs, rfl, r2, h1, ne hl, q.ret wf r1⟩
      · rw [if_neg hc] at q
        by_cases hc2 : l ≠ [] ∧ 2 ≤ k ∧ k ≤ 1000 ∧ l.length ≤ 1000
        · rw [if_pos hc2] at q
          obtain ⟨hl, h2, h3, h4⟩ := hc2
          refine .inr ⟨p1, k, xs, rfl, r2, h1, ne hl, h2, h3, by rw [q1.length]; exact h4, fun p hp => ?_⟩
          obtain ⟨l', f, rv⟩ := new_tup wf (reps_rep q1 k.toNat) hp
          exact q _ _ _ l' f rv
        · rw [if_neg hc2] at q; exact q.elim
    · exact q.elim
  · exact q.elim
theorem d_mulT (ha : DE X W a fa) (hb : DE X W c fb) : DE X W (.BinOp a .Mult c pos) (xOp oMulT fa fb) := d_op (op_repT1.or op_repT) s_mulT ha hb
end
end Dl

set_option Elab.async false
set_option linter.all false
set_option maxRecDepth 100000
set_option maxHeartbeats 4000000
noncomputable section
namespace Wk
open PySem PySem.Spec PyProof.Rows L2 Dl
def top (i : Nat) : Stmt := PySem.Challenge.pw_strokeonce_k14_whole_variants.main.body.getD i (.Pass ⟨0, 0, 0, 0⟩)
def oAddI : Op2 := oI fun i j => some (.int (i + j))
theorem s_addI {K : PySem.W.Frag} : OSat K (rI0 fun i j => .int (i + j)) oAddI := s_I0 (g := fun i j => .int (i + j)) (g' := fun i j => .int (i + j)) fun _ _ _ _ => rfl
theorem s_subI {K : PySem.W.Frag} : OSat K (rI0 fun i j => .int (i - j)) oSub := s_I0 (g := fun i j => .int (i - j)) (g' := fun i j => .int (i - j)) fun _ _ _ _ => rfl
def st_law_taken : Stmt := top 41
def d_law_taken : He.DefD := ⟨("_law_taken", none), "_law_taken", "_law_taken", defArgs st_law_taken, defBody st_law_taken, defScope st_law_taken, [], []⟩
def st_law_pick : Stmt := top 42
def d_law_pick : He.DefD := ⟨("_law_pick", none), "_law_pick", "_law_pick", defArgs st_law_pick, defBody st_law_pick, defScope st_law_pick, [], []⟩
def st_law_unit : Stmt := top 52
def d_law_unit : He.DefD := ⟨("_law_unit", none), "_law_unit", "_law_unit", defArgs st_law_unit, defBody st_law_unit, defScope st_law_unit, [], []⟩
def st_law_drawn : Stmt := top 53
def d_law_drawn : He.DefD := ⟨("_law_drawn", none), "_law_drawn", "_law_drawn", defArgs st_law_drawn, defBody st_law_drawn, defScope st_law_drawn, [], []⟩
def st_law_alike : Stmt := top 49
def d_law_alike : He.DefD := ⟨("_law_alike", none), "_law_alike", "_law_alike", defArgs st_law_alike, defBody st_law_alike, defScope st_law_alike, [], []⟩
def st_is_letter : Stmt := top 16
def d_is_letter : He.DefD := ⟨("is_letter", none), "is_letter", "is_letter", defArgs st_is_letter, defBody st_is_letter, defScope st_is_letter, [], []⟩
def st_are_branches : Stmt := top 17
def d_are_branches : He.DefD := ⟨("are_branches", none), "are_branches", "are_branches", defArgs st_are_branches, defBody st_are_branches, defScope st_are_branches, [], []⟩
def st_is_in : Stmt := top 15
def d_is_in : He.DefD := ⟨("is_in", none), "is_in", "is_in", defArgs st_is_in, defBody st_is_in, defScope st_is_in, [], []⟩
def st_is_word : Stmt := top 18
def d_is_word : He.DefD := ⟨("is_word", none), "is_word", "is_word", defArgs st_is_word, defBody st_is_word, defScope st_is_word, [], []⟩
def st_need_book : Stmt := top 19
def d_need_book : He.DefD := ⟨("need_book", none), "need_book", "need_book", defArgs st_need_book, defBody st_need_book, defScope st_need_book, [], []⟩
def st_other_way : Stmt := top 33
def d_other_way : He.DefD := ⟨("other_way", none), "other_way", "other_way", defArgs st_other_way, defBody st_other_way, defScope st_other_way, [], []⟩
def st_mirrored_word : Stmt := top 35
def d_mirrored_word : He.DefD := ⟨("mirrored_word", none), "mirrored_word", "mirrored_word", defArgs st_mirrored_word, defBody st_mirrored_word, defScope st_mirrored_word, [], []⟩
def st_backward_word : Stmt := top 36
def d_backward_word : He.DefD := ⟨("backward_word", none), "backward_word", "backward_word", defArgs st_backward_word, defBody st_backward_word, defScope st_backward_word, [], []⟩
def st_each_word : Stmt := top 34
def d_each_word : He.DefD := ⟨("each_word", none), "each_word", "each_word", defArgs st_each_word, defBody st_each_word, defScope st_each_word, [], []⟩
def st_backward : Stmt := top 38
def d_backward : He.DefD := ⟨("backward", none), "backward", "backward", defArgs st_backward, defBody st_backward, defScope st_backward, [], []⟩
def st_law_grown : Stmt := top 50
def d_law_grown : He.DefD := ⟨("_law_grown", none), "_law_grown", "_law_grown", defArgs st_law_grown, defBody st_law_grown, defScope st_law_grown, [], []⟩
def st_law_quarter : Stmt := top 54
def d_law_quarter : He.DefD := ⟨("_law_quarter", none), "_law_quarter", "_law_quarter", defArgs st_law_quarter, defBody st_law_quarter, defScope st_law_quarter, [], []⟩
def st_need_number : Stmt := top 20
def d_need_number : He.DefD := ⟨("need_number", none), "need_number", "need_number", defArgs st_need_number, defBody st_need_number, defScope st_need_number, [], []⟩
def st_grown : Stmt := top 27
def d_grown : He.DefD := ⟨("grown", none), "grown", "grown", defArgs st_grown, defBody st_grown, defScope st_grown, [], []⟩
def st_sped : Stmt := top 39
def d_sped : He.DefD := ⟨("sped", none), "sped", "sped", defArgs st_sped, defBody st_sped, defScope st_sped, [], []⟩
def st_law_branched : Stmt := top 43
def d_law_branched : He.DefD := ⟨("_law_branched", none), "_law_branched", "_law_branched", defArgs st_law_branched, defBody st_law_branched, defScope st_law_branched, [], []⟩
def st_law_word : Stmt := top 44
def d_law_word : He.DefD := ⟨("_law_word", none), "_law_word", "_law_word", defArgs st_law_word, defBody st_law_word, defScope st_law_word, [], []⟩
def st_law_book : Stmt := top 45
def d_law_book : He.DefD := ⟨("_law_book", none), "_law_book", "_law_book", defArgs st_law_book, defBody st_law_book, defScope st_law_book, [], []⟩
def st_law_kit : Stmt := top 46
def d_law_kit : He.DefD := ⟨("_law_kit", none), "_law_kit", "_law_kit", defArgs st_law_kit, defBody st_law_kit, defScope st_law_kit, [], []⟩
def st_mirrored : Stmt := top 37
def d_mirrored : He.DefD := ⟨("mirrored", none), "mirrored", "mirrored", defArgs st_mirrored, defBody st_mirrored, defScope st_mirrored, [], []⟩
def st_law_age : Stmt := top 51
def d_law_age : He.DefD := ⟨("_law_age", none), "_law_age", "_law_age", defArgs st_law_age, defBody st_law_age, defScope st_law_age, [], []⟩
def st_Pen_init : Stmt := inClass (top 21) 0
def d_Pen_init : He.DefD := ⟨("Pen", some "__init__"), "__init__", "Pen.__init__", defArgs st_Pen_init, defBody st_Pen_init, defScope st_Pen_init, [], []⟩
def st_plus : Stmt := top 24
def d_plus : He.DefD := ⟨("plus", none), "plus", "plus", defArgs st_plus, defBody st_plus, defScope st_plus, [], []⟩
def st_turned : Stmt := top 23
def d_turned : He.DefD := ⟨("turned", none), "turned", "turned", defArgs st_turned, defBody st_turned, defScope st_turned, [], []⟩
def st_Pen_go : Stmt := inClass (top 21) 2
def d_Pen_go : He.DefD := ⟨("Pen", some "go"), "go", "Pen.go", defArgs st_Pen_go, defBody st_Pen_go, defScope st_Pen_go, [], []⟩
def st_quarters : Stmt := top 22
def d_quarters : He.DefD := ⟨("quarters", none), "quarters", "quarters", defArgs st_quarters, defBody st_quarters, defScope st_quarters, [], []⟩
def st_Pen_mark : Stmt := inClass (top 21) 1
def d_Pen_mark : He.DefD := ⟨("Pen", some "mark"), "mark", "Pen.mark", defArgs st_Pen_mark, defBody st_Pen_mark, defScope st_Pen_mark, [], []⟩
def st_strokes_of : Stmt := top 29
def d_strokes_of : He.DefD := ⟨("strokes_of", none), "strokes_of", "strokes_of", defArgs st_strokes_of, defBody st_strokes_of, defScope st_strokes_of, [], []⟩
def st_word_in : Stmt := top 28
def d_word_in : He.DefD := ⟨("word_in", none), "word_in", "word_in", defArgs st_word_in, defBody st_word_in, defScope st_word_in, [], []⟩
def st_drawing : Stmt := top 30
def d_drawing : He.DefD := ⟨("drawing", none), "drawing", "drawing", defArgs st_drawing, defBody st_drawing, defScope st_drawing, [], []⟩
def st_law_even_word : Stmt := top 47
def d_law_even_word : He.DefD := ⟨("_law_even_word", none), "_law_even_word", "_law_even_word", defArgs st_law_even_word, defBody st_law_even_word, defScope st_law_even_word, [], []⟩
def st_law_even_book : Stmt := top 48
def d_law_even_book : He.DefD := ⟨("_law_even_book", none), "_law_even_book", "_law_even_book", defArgs st_law_even_book, defBody st_law_even_book, defScope st_law_even_book, [], []⟩
def st_law : Stmt := top 55
def d_law : He.DefD := ⟨("law", none), "law", "law", defArgs st_law, defBody st_law, defScope st_law, [], []⟩
def c_BACK : D := (.str "]")
def c_OUT : D := (.str "[")
def c_RIGHT : D := (.str "-")
def c_LEFT : D := (.str "+")
def c_MOST_WORD : D := (.int 40)
def c_MOST_LETTERS : D := (.int 8)
def c_MOST_ITEMS : D := (.int 60000)
def c_MOST_SPED : D := (.int 4)
def c_HEADINGS : D := (.ctup [(.ctup [(.int 1), (.int 0)]), (.ctup [(.int 0), (.int 1)]), (.ctup [(.int (-1)), (.int 0)]), (.ctup [(.int 0), (.int (-1))])])
def c_MOST_AGE : D := (.int 1000)
def fn_0 : List He.DefD := [d_law_taken, d_law_pick, d_law_unit, d_law_drawn, d_law_alike, d_is_letter, d_are_branches, d_is_in, d_is_word, d_need_book, d_other_way, d_mirrored_word, d_backward_word, d_each_word, d_backward, d_law_grown, d_law_quarter, d_need_number, d_grown, d_sped, d_law_branched, d_law_word, d_law_book, d_law_kit, d_mirrored, d_law_age, d_Pen_init, d_plus, d_turned, d_Pen_go]
def fn_1 : List He.DefD := [d_quarters, d_Pen_mark, d_strokes_of, d_word_in, d_drawing, d_law_even_word, d_law_even_book, d_law]
def fn : List He.DefD := fn_0 ++ fn_1
def con_0 : List (Str × D) := [("BACK", c_BACK), ("OUT", c_OUT), ("RIGHT", c_RIGHT), ("LEFT", c_LEFT), ("MOST_WORD", c_MOST_WORD), ("MOST_LETTERS", c_MOST_LETTERS), ("MOST_ITEMS", c_MOST_ITEMS), ("MOST_SPED", c_MOST_SPED), ("HEADINGS", c_HEADINGS), ("MOST_AGE", c_MOST_AGE)]
def con : List (Str × D) := con_0
def sst_TooMany : Stmt := inClass (top 5) 0
def sup_TooMany : SupD := ⟨"TooMany", "TooMany.__init__", "most", defArgs sst_TooMany, defBody sst_TooMany, defScope sst_TooMany, "/claim/cut.py"⟩
theorem Sh_TooMany : SupShape sup_TooMany := ⟨_, _, _, _, _, _, _, _, _, _, _, _, _, rfl, fun _ _ _ _ _ _ _ _ _ => rfl, rfl, rfl, ⟨rfl, rfl, rfl, by decide +kernel⟩, ⟨by rfl, by rfl, by rfl, by rfl, by decide, by decide⟩, fun _ => rfl, fun _ => rfl, fun _ => rfl, fun _ => rfl⟩
def su_0 : List SupD := [sup_TooMany]
def su : List SupD := su_0
def fx_0 : List Fx := [.xf "TooMany" "most", .excC "TooMany", .kit "TooMany" "TooMany" true, .excC "Branching", .kit "Branching" "TooMany" false, .kit "TooMany" "Branching" false, .kit "Branching" "Branching" true]
def fx : List Fx := fx_0
def cs : Cs := ⟨con, su, fx⟩
def fa_0 : List He.Fa := [.free "int", .free "len", .glo "_law_taken", .free "isinstance", .free "str", .glo "_law_unit", .free "bool", .free "tuple", .free "list", .glo "_law_alike", .free "range", .glo "is_letter", .glo "are_branches", .glo "is_in", .glo "is_word", .free "enumerate", .glo "other_way", .free "reversed", .glo "backward_word", .glo "each_word", .exc "Branching", .glo "Branching", .glo "need_book", .glo "TooMany", .glo "grown", .glo "need_number", .glo "_law_pick", .glo "_law_word", .glo "_law_branched", .glo "mirrored_word"]
def fa_1 : List He.Fa := [.glo "_law_grown", .cls "Pen", .noat "Pen" "stands", .noat "Pen" "heading", .noat "Pen" "place", .glo "turned", .glo "plus", .glo "quarters", .meth "Pen" "go", .meth "Pen" "mark", .mkr "Pen", .glo "Pen", .glo "word_in", .glo "strokes_of", .free "abs", .glo "_law_even_word", .glo "sped", .free "max", .exm "TooMany" "StrokeError" true, .exm "Branching" "StrokeError" true, .glo "StrokeError", .glo "drawing", .glo "_law_quarter", .glo "mirrored", .glo "_law_drawn", .glo "_law_age", .glo "backward", .glo "_law_even_book", .glo "_law_kit", .glo "_law_book"]
def fa_2 : List He.Fa := [.glo "law"]
def fa : List He.Fa := fa_0 ++ fa_1 ++ fa_2
abbrev Hq (P : Program) (K : PySem.W.Frag) (mg : Str → Option Value) : Prop := Hy P fa fn cs K mg
/-! _law_taken -/
abbrev N_law_taken : List Str := ["_law_row", "_law_many", "_law_found", "_law_cell"]
theorem S_law_taken : FnScope ["_law_row", "_law_many", "_law_found", "_law_cell"] ["_law_row", "_law_many"] (defScope st_law_taken) := ⟨rfl, rfl, rfl, by decide +kernel, rfl, by decide +kernel, by decide +kernel⟩
def b_law_taken : SF := (sSeq (sIf (xT (xOp oGt (xOp oIx (xVar 0) (xC (.int 3))) (xC (.int 0)))) (sSeq (sAsg (xOp oMod (xCB oInt (aCons (xOp oIx (xVar 0) (xC (.int 3))) aNil)) (xVar 1)) (tgN 2)) (sSeq (sAsg (xOp oDiv (xOp oIx (xVar 0) (xC (.int 3))) (xVar 1)) (tgIx (xVar 0) (xC (.int 3)))) (sRet (xVar 2)))) sNext) (sSeq (sAsg (xOp oAdd (xOp oIx (xVar 0) (xC (.int 1))) (xC (.int 1))) (tgIx (xVar 0) (xC (.int 1)))) (sSeq (sIf (xT (xOp oGt (xOp oIx (xVar 0) (xC (.int 1))) (xCB oLen (aCons (xOp oIx (xVar 0) (xC (.int 0))) aNil)))) (sSeq (sAsg (xOp oMod (xCB oInt (aCons (xOp oAdd (xOp oMul (xOp oIx (xVar 0) (xC (.int 2))) (xC (.int 48271))) (xC (.int 11))) aNil)) (xC (.int 2147483647))) (tgIx (xVar 0) (xC (.int 2)))) (sRet (xOp oMod (xCB oInt (aCons (xOp oDiv (xOp oIx (xVar 0) (xC (.int 2))) (xC (.int 7))) aNil)) (xVar 1)))) sNext) (sSeq (sAsg (xOp oIx (xOp oIx (xVar 0) (xC (.int 0))) (xOp oSub (xOp oIx (xVar 0) (xC (.int 1))) (xC (.int 1)))) (tgN 3)) (sSeq (sAsg (xOp oMod (xCB oInt (aCons (xOp oAdd (xOp oAdd (xOp oMul (xOp oIx (xVar 0) (xC (.int 2))) (xC (.int 48271))) (xVar 3)) (xC (.int 11))) aNil)) (xC (.int 2147483647))) (tgIx (xVar 0) (xC (.int 2)))) (sSeq (sIf (xT (xOp oGe (xVar 3) (xOp oPow (xC (.int 10)) (xC (.int 18))))) (sAsg (xOp oDiv (xVar 3) (xVar 1)) (tgIx (xVar 0) (xC (.int 3)))) sNext) (sRet (xOp oMod (xCB oInt (aCons (xVar 3) aNil)) (xVar 1)))))))))
def F_law_taken : FD := clos (fnD 2 4 b_law_taken)
theorem ok_law_taken {P : Program} {w : World} {K : PySem.W.Frag} {mg : Str → Option Value} {base : Heap} (y : Hq P K mg) : FnB P w K mg base 1 (He.ga K "_law_taken") ["_law_row", "_law_many"] F_law_taken := by
  obtain ⟨fd, Fd⟩ := hy_def y 0 (d := d_law_taken)
  refine (FnB.of Fd S_law_taken (fun _ _ _ _ _ _ us hl => match us, hl with | [_, _], _ => rfl) fun cdv A outer s H E hr X hX tk hp => ?_).clos
  subst hX
  exact (dss_cons (ds_if (d_cmpT op_gt s_gt (d_ix (d_var (pv 0)) d_int) d_int (by rfl)) (dss_cons (ds_set (i := 2) S_law_taken.nd rfl (Or.inl rfl) (d_mod (d_intc (hy_free y 0) (da_cons (d_ix (d_var (pv 0)) d_int) da_nil)) (d_var (pv 1)))) (dss_cons (ds_asg (d_div (d_ix (d_var (pv 0)) d_int) (d_var (pv 1))) (dg_ix (W := wE E) (d_var (pv 0)) d_int)) (dss_one (ds_ret (d_var (pv 2)))))) dss_nil) (dss_cons (ds_asg (d_add (d_ix (d_var (pv 0)) d_int) d_int) (dg_ix (W := wE E) (d_var (pv 0)) d_int)) (dss_cons (ds_if (d_cmpT op_gt s_gt (d_ix (d_var (pv 0)) d_int) (d_len (hy_free y 1) (da_cons (d_ix (d_var (pv 0)) d_int) da_nil)) (by rfl)) (dss_cons (ds_asg (d_mod (d_intc (hy_free y 0) (da_cons (d_add (d_mul (d_ix (d_var (pv 0)) d_int) d_int) d_int) da_nil)) d_int) (dg_ix (W := wE E) (d_var (pv 0)) d_int)) (dss_one (ds_ret (d_mod (d_intc (hy_free y 0) (da_cons (d_div (d_ix (d_var (pv 0)) d_int) d_int) da_nil)) (d_var (pv 1)))))) dss_nil) (dss_cons (ds_set (i := 3) S_law_taken.nd rfl (Or.inl rfl) (d_ix (d_ix (d_var (pv 0)) d_int) (d_sub (d_ix (d_var (pv 0)) d_int) d_int))) (dss_cons (ds_asg (d_mod (d_intc (hy_free y 0) (da_cons (d_add (d_add (d_mul (d_ix (d_var (pv 0)) d_int) d_int) (d_var (pv 3))) d_int) da_nil)) d_int) (dg_ix (W := wE E) (d_var (pv 0)) d_int)) (dss_cons (ds_if (d_cmpT op_ge s_ge (d_var (pv 3)) (d_pow d_int d_int) (by rfl)) (dss_one (ds_asg (d_div (d_var (pv 3)) (d_var (pv 1))) (dg_ix (W := wE E) (d_var (pv 0)) d_int))) dss_nil) (dss_one (ds_ret (d_mod (d_intc (hy_free y 0) (da_cons (d_var (pv 3)) da_nil)) (d_var (pv 1)))))))))))

/-! _law_pick -/
abbrev N_law_pick : List Str := ["_law_row", "_law_things"]
theorem S_law_pick : FnScope ["_law_row", "_law_things"] ["_law_row", "_law_things"] (defScope st_law_pick) := ⟨rfl, rfl, rfl, by decide +kernel, rfl, by decide +kernel, by decide +kernel⟩
def b_law_pick : SF := (sRet (xOp oIx (xVar 1) (xCall F_law_taken (aCons (xVar 0) (aCons (xCB oLen (aCons (xVar 1) aNil)) aNil)))))
def F_law_pick : FD := clos (fnD 2 2 b_law_pick)
theorem ok_law_pick {P : Program} {w : World} {K : PySem.W.Frag} {mg : Str → Option Value} {base : Heap} (y : Hq P K mg) : FnB P w K mg base 2 (He.ga K "_law_pick") ["_law_row", "_law_things"] F_law_pick := by
  obtain ⟨fd, Fd⟩ := hy_def y 1 (d := d_law_pick)
  have g_law_taken := ok_law_taken (P := P) (w := w) (base := base) y
  refine (FnB.of Fd S_law_pick (fun _ _ _ _ _ _ us hl => match us, hl with | [_, _], _ => rfl) fun cdv A outer s H E hr X hX tk hp => ?_).clos
  subst hX
  exact (dss_one (ds_ret (d_ix (d_var (pv 1)) (c_call g_law_taken hr (by decide) (hy_glo y 2) tk (da_cons (d_var (pv 0)) (da_cons (d_len (hy_free y 1) (da_cons (d_var (pv 1)) da_nil)) da_nil))))))

/-! _law_unit -/
abbrev N_law_unit : List Str := ["_law_heading"]
theorem S_law_unit : FnScope ["_law_heading"] ["_law_heading"] (defScope st_law_unit) := ⟨rfl, rfl, rfl, by decide +kernel, rfl, by decide +kernel, by decide +kernel⟩
def b_law_unit : SF := (sRet (xOp oIx (xLst (aCons (xTup (aCons (xC (.int 1)) (aCons (xC (.int 0)) aNil))) (aCons (xTup (aCons (xC (.int 0)) (aCons (xC (.int 1)) aNil))) (aCons (xTup (aCons (xUn oNeg (xC (.int 1))) (aCons (xC (.int 0)) aNil))) (aCons (xTup (aCons (xC (.int 0)) (aCons (xUn oNeg (xC (.int 1))) aNil))) aNil))))) (xOp oMod (xCB oInt (aCons (xVar 0) aNil)) (xC (.int 4)))))
def F_law_unit : FD := clos (fnD 1 1 b_law_unit)
theorem ok_law_unit {P : Program} {w : World} {K : PySem.W.Frag} {mg : Str → Option Value} {base : Heap} (y : Hq P K mg) : FnB P w K mg base 1 (He.ga K "_law_unit") ["_law_heading"] F_law_unit := by
  obtain ⟨fd, Fd⟩ := hy_def y 2 (d := d_law_unit)
  refine (FnB.of Fd S_law_unit (fun _ _ _ _ _ _ us hl => match us, hl with | [_], _ => rfl) fun cdv A outer s H E hr X hX tk hp => ?_).clos
  subst hX
  exact (dss_one (ds_ret (d_ix (d_lst (da_cons (d_tup (da_cons d_int (da_cons d_int da_nil))) (da_cons (d_tup (da_cons d_int (da_cons d_int da_nil))) (da_cons (d_tup (da_cons (d_neg d_int) (da_cons d_int da_nil))) (da_cons (d_tup (da_cons d_int (da_cons (d_neg d_int) da_nil))) da_nil))))) (d_mod (d_intc (hy_free y 0) (da_cons (d_var (pv 0)) da_nil)) d_int))))

/-! _law_drawn -/
abbrev N_law_drawn : List Str := ["_law_word_here", "_law_x", "_law_y", "_law_heading", "_law_found", "_law_stands", "_law_item"]
theorem S_law_drawn : FnScope ["_law_word_here", "_law_x", "_law_y", "_law_heading", "_law_found", "_law_stands", "_law_item"] ["_law_word_here"] (defScope st_law_drawn) := ⟨rfl, rfl, rfl, by decide +kernel, rfl, by decide +kernel, by decide +kernel⟩
def l_law_drawn_0 : SF := (sIf (xT (xOp oEq (xVar 6) (xC (.str "[")))) (sExpr (xBM oAppend (xVar 5) (aCons (xTup (aCons (xVar 1) (aCons (xVar 2) (aCons (xVar 3) aNil)))) aNil))) (sIf (xT (xOp oEq (xVar 6) (xC (.str "]")))) (sAsg (xBM0 oPop (xVar 5)) (tgT 3 (tgCons (tgN 1) (tgCons (tgN 2) (tgCons (tgN 3) tgNil))))) (sIf (xT (xIsi .str (xVar 6))) (sAsg (xOp oMod (xCB oInt (aCons (xOp oAdd (xVar 3) (xIf (xT (xOp oEq (xVar 6) (xC (.str "+")))) (xC (.int 1)) (xC (.int 3)))) aNil)) (xC (.int 4))) (tgN 3)) (sSeq (sExpr (xBM oAppend (xVar 4) (aCons (xTup (aCons (xVar 1) (aCons (xVar 2) (aCons (xVar 3) (aCons (xVar 6) aNil))))) aNil))) (sPar 1 2 (aCons (xOp oAdd (xVar 1) (xOp oIx (xCall F_law_unit (aCons (xVar 3) aNil)) (xC (.int 0)))) (aCons (xOp oAdd (xVar 2) (xOp oIx (xCall F_law_unit (aCons (xVar 3) aNil)) (xC (.int 1)))) aNil)))))))
def b_law_drawn : SF := (sSeq (sAsg (xTup (aCons (xC (.int 0)) (aCons (xC (.int 0)) (aCons (xC (.int 0)) (aCons (xLstM aNil) (aCons (xLstM aNil) aNil)))))) (tgT 5 (tgCons (tgN 1) (tgCons (tgN 2) (tgCons (tgN 3) (tgCons (tgN 4) (tgCons (tgN 5) tgNil))))))) (sSeq (sFor (xVar 0) (tgN 6) l_law_drawn_0) (sRet (xTup (aCons (xVar 4) (aCons (xTup (aCons (xVar 1) (aCons (xVar 2) (aCons (xVar 3) aNil)))) aNil))))))
def F_law_drawn : FD := clos (fnD 1 7 b_law_drawn)
theorem ok_law_drawn {P : Program} {w : World} {K : PySem.W.Frag} {mg : Str → Option Value} {base : Heap} (y : Hq P K mg) : FnB P w K mg base 2 (He.ga K "_law_drawn") ["_law_word_here"] F_law_drawn := by
  obtain ⟨fd, Fd⟩ := hy_def y 3 (d := d_law_drawn)
  have g_law_unit := ok_law_unit (P := P) (w := w) (base := base) y
  refine (FnB.of Fd S_law_drawn (fun _ _ _ _ _ _ us hl => match us, hl with | [_], _ => rfl) fun cdv A outer s H E hr X hX tk hp => ?_).clos
  subst hX
  exact (dss_cons (ds_asg (d_tup (da_cons d_int (da_cons d_int (da_cons d_int (da_cons (d_lstM da_nil) (da_cons (d_lstM da_nil) da_nil)))))) (dg_tup rfl (dgs_cons (dg_n (pg_name (i := 1) S_law_drawn.nd rfl (Or.inl rfl))) (dgs_cons (dg_n (pg_name (i := 2) S_law_drawn.nd rfl (Or.inl rfl))) (dgs_cons (dg_n (pg_name (i := 3) S_law_drawn.nd rfl (Or.inl rfl))) (dgs_cons (dg_n (pg_name (i := 4) S_law_drawn.nd rfl (Or.inl rfl))) (dgs_cons (dg_n (pg_name (i := 5) S_law_drawn.nd rfl (Or.inl rfl))) dgs_nil))))))) (dss_cons (ds_for hp rfl (d_var (pv 0)) (dg_n (pg_name (i := 6) S_law_drawn.nd rfl (Or.inl rfl))) (dss_one (ds_if (d_cmpT (op_eqD (room_u hr)) s_eq (d_var (pv 6)) d_str (by rfl)) (dss_one (ds_expr (d_append (d_var (pv 5)) (da_cons (d_tup (da_cons (d_var (pv 1)) (da_cons (d_var (pv 2)) (da_cons (d_var (pv 3)) da_nil)))) da_nil)))) (dss_one (ds_if (d_cmpT (op_eqD (room_u hr)) s_eq (d_var (pv 6)) d_str (by rfl)) (dss_one (ds_asg (d_pop (d_var (pv 5))) (dg_tup rfl (dgs_cons (dg_n (pg_name (i := 1) S_law_drawn.nd rfl (Or.inl rfl))) (dgs_cons (dg_n (pg_name (i := 2) S_law_drawn.nd rfl (Or.inl rfl))) (dgs_cons (dg_n (pg_name (i := 3) S_law_drawn.nd rfl (Or.inl rfl))) dgs_nil)))))) (dss_one (ds_if (d_val (d_isi .str (hy_free y 3) (hy_free y 4) (by decide +kernel) (d_var (pv 6)))) (dss_one (ds_set (i := 3) S_law_drawn.nd rfl (Or.inl rfl) (d_mod (d_intc (hy_free y 0) (da_cons (d_add (d_var (pv 3)) (d_if (d_cmpT (op_eqD (room_u hr)) s_eq (d_var (pv 6)) d_str (by rfl)) d_int d_int)) da_nil)) d_int))) (dss_cons (ds_expr (d_append (d_var (pv 4)) (da_cons (d_tup (da_cons (d_var (pv 1)) (da_cons (d_var (pv 2)) (da_cons (d_var (pv 3)) (da_cons (d_var (pv 6)) da_nil))))) da_nil))) (dss_one (ds_par (i := 1) (j := 2) rfl S_law_drawn.nd rfl rfl (by decide) rfl rfl (da_cons (d_add (d_var (pv 1)) (d_ix (c_call g_law_unit hr (by decide) (hy_glo y 5) tk (da_cons (d_var (pv 3)) da_nil)) d_int)) (da_cons (d_add (d_var (pv 2)) (d_ix (c_call g_law_unit hr (by decide) (hy_glo y 5) tk (da_cons (d_var (pv 3)) da_nil)) d_int)) da_nil)))))))))))) (dss_one (ds_ret (d_tup (da_cons (d_var (pv 4)) (da_cons (d_tup (da_cons (d_var (pv 1)) (da_cons (d_var (pv 2)) (da_cons (d_var (pv 3)) da_nil)))) da_nil)))))))

/-! _law_alike -/
abbrev N_law_alike : List Str := ["_law_found", "_law_due", "_law_k"]
theorem S_law_alike : FnScope ["_law_found", "_law_due", "_law_k"] ["_law_found", "_law_due"] (defScope st_law_alike) := ⟨rfl, rfl, rfl, by decide +kernel, rfl, by decide +kernel, by decide +kernel⟩
def t_law_alike_0 (rec : FD) : TF := (xNot (xT (xCall rec (aCons (xOp oIx (xVar 0) (xVar 2)) (aCons (xOp oIx (xVar 1) (xVar 2)) aNil)))))
def e_law_alike_1 (rec : FD) : EF := (xVar 2)
def b_law_alike (rec : FD) : SF := (sSeq (sIf (xT (xIsi2 .tuple .list (xVar 1))) (sSeq (sIf (xOr (xNot (xT (xIsi2 .tuple .list (xVar 0)))) (xT (xOp oNe (xIsi .list (xVar 0)) (xIsi .list (xVar 1))))) (sRet (xC (.bl false))) sNext) (sSeq (sIf (xT (xOp oNe (xCB oLen (aCons (xVar 0) aNil)) (xCB oLen (aCons (xVar 1) aNil)))) (sRet (xC (.bl false))) sNext) (sRet (xOp oEq (xLcR letGo rng1 [2] (aCons (xCB oLen (aCons (xVar 1) aNil)) aNil) (ogN 2) (t_law_alike_0 rec) (e_law_alike_1 rec)) (xLst aNil))))) sNext) (sSeq (sIf (xOr (xT (xOp oIsN (xVar 1) (xC .non))) (xT (xIsi .str (xVar 1)))) (sRet (xAndV (xOp oEq (xVar 0) (xVar 1)) (xOp oEq (xIsi .str (xVar 0)) (xIsi .str (xVar 1))))) sNext) (sRet (xAndV (xIsi .int (xVar 0)) (xAndV (xOp oEq (xIsi .bool (xVar 0)) (xIsi .bool (xVar 1))) (xOp oEq (xVar 0) (xVar 1)))))))
def F_law_alike : Nat → FD
  | 0 => fun _ _ => .stuck
  | n + 1 => clos (fnD 2 3 (b_law_alike (F_law_alike n)))
theorem ok_law_alike {P : Program} {w : World} {K : PySem.W.Frag} {mg : Str → Option Value} {base : Heap} (y : Hq P K mg) : ∀ n : Nat, FnB P w K mg base (n + 0) (He.ga K "_law_alike") ["_law_found", "_law_due"] (F_law_alike n)
  | 0 => by
    obtain ⟨fd, Fd⟩ := hy_def y 4 (d := d_law_alike)
    exact FnB.nil Fd (fun _ _ _ _ _ _ us hl => match us, hl with | [_, _], _ => rfl)
  | n + 1 => by
    obtain ⟨fd, Fd⟩ := hy_def y 4 (d := d_law_alike)
    have ih := ok_law_alike (P := P) (w := w) (base := base) y n
    refine (FnB.of Fd S_law_alike (fun _ _ _ _ _ _ us hl => match us, hl with | [_, _], _ => rfl) fun cdv A outer s H E hr X hX tk hp => ?_).clos
    subst hX
    exact (dss_cons (ds_if (d_val (d_isi2 .tuple .list (hy_free y 3) (hy_free y 7) (hy_free y 8) (by decide +kernel) (by decide +kernel) (d_var (pv 1)))) (dss_cons (ds_if (dw_or (d_notT (d_val (d_isi2 .tuple .list (hy_free y 3) (hy_free y 7) (hy_free y 8) (by decide +kernel) (by decide +kernel) (d_var (pv 0))))) (dw_or1 (d_cmpT (op_neD (room_u hr)) s_ne (d_isi .list (hy_free y 3) (hy_free y 8) (by decide +kernel) (d_var (pv 0))) (d_isi .list (hy_free y 3) (hy_free y 8) (by decide +kernel) (d_var (pv 1))) (by rfl)))).pt (dss_one (ds_ret d_bl)) dss_nil) (dss_cons (ds_if (d_cmpT (op_neD (room_u hr)) s_ne (d_len (hy_free y 1) (da_cons (d_var (pv 0)) da_nil)) (d_len (hy_free y 1) (da_cons (d_var (pv 1)) da_nil)) (by rfl)) (dss_one (ds_ret d_bl)) dss_nil) (dss_one (ds_ret (d_cmp (op_eqD (room_u hr)) s_eq (d_lcR1 (own := [("_law_k", 2)]) letGo_ok rfl S_law_alike.nd (hy_free y 10) (da_cons (d_len (hy_free y 1) (da_cons (d_var (pv 1)) da_nil)) da_nil) (blkOk_by (N := N_law_alike) (sc := defScope st_law_alike) (own := [("_law_k", 2)]) (by decide +kernel)) (own_n (by first | decide | omega)) (fun _ _ _ _ _ => pg_name (i := 2) S_law_alike.nd rfl (Or.inl rfl)) (fun _ _ _ _ _ => dts_one (d_notT (d_val (c_call ih hr (Nat.le_refl _) (hy_glo y 9) takesN0 (da_cons (d_ix (d_var (pv 0)) (d_var (pv 2))) (da_cons (d_ix (d_var (pv 1)) (d_var (pv 2))) da_nil)))))) (fun _ _ _ _ _ => (d_var (pv 2)))) (d_lst da_nil) (by rfl)))))) dss_nil) (dss_cons (ds_if (dw_or (d_cmpT op_isN s_isN (d_var (pv 1)) d_non (by rfl)) (dw_or1 (d_val (d_isi .str (hy_free y 3) (hy_free y 4) (by decide +kernel) (d_var (pv 1)))))).pt (dss_one (ds_ret (d_andV (d_cmp (op_eqD (room_u hr)) s_eq (d_var (pv 0)) (d_var (pv 1)) (by rfl)) (d_one (d_cmp (op_eqD (room_u hr)) s_eq (d_isi .str (hy_free y 3) (hy_free y 4) (by decide +kernel) (d_var (pv 0))) (d_isi .str (hy_free y 3) (hy_free y 4) (by decide +kernel) (d_var (pv 1))) (by rfl)))))) dss_nil) (dss_one (ds_ret (d_andV (d_isi .int (hy_free y 3) (hy_free y 0) (by decide +kernel) (d_var (pv 0))) (d_andV (d_cmp (op_eqD (room_u hr)) s_eq (d_isi .bool (hy_free y 3) (hy_free y 6) (by decide +kernel) (d_var (pv 0))) (d_isi .bool (hy_free y 3) (hy_free y 6) (by decide +kernel) (d_var (pv 1))) (by rfl)) (d_one (d_cmp (op_eqD (room_u hr)) s_eq (d_var (pv 0)) (d_var (pv 1)) (by rfl)))))))))

/-! is_letter -/
abbrev N_is_letter : List Str := ["item"]
theorem S_is_letter : FnScope ["item"] ["item"] (defScope st_is_letter) := ⟨rfl, rfl, rfl, by decide +kernel, rfl, by decide +kernel, by decide +kernel⟩
def b_is_letter : SF := (sRet (xNotV (xIsi .str (xVar 0))))
def F_is_letter : FD := clos (fnD 1 1 b_is_letter)
theorem ok_is_letter {P : Program} {w : World} {K : PySem.W.Frag} {mg : Str → Option Value} {base : Heap} (y : Hq P K mg) : FnB P w K mg base 1 (He.ga K "is_letter") ["item"] F_is_letter := by
  obtain ⟨fd, Fd⟩ := hy_def y 5 (d := d_is_letter)
  refine (FnB.of Fd S_is_letter (fun _ _ _ _ _ _ us hl => match us, hl with | [_], _ => rfl) fun cdv A outer s H E hr X hX tk hp => ?_).clos
  subst hX
  exact (dss_one (ds_ret (d_notV (d_isi .str (hy_free y 3) (hy_free y 4) (by decide +kernel) (d_var (pv 0))))))

/-! are_branches -/
abbrev N_are_branches : List Str := ["word", "depth", "item"]
theorem S_are_branches : FnScope ["word", "depth", "item"] ["word"] (defScope st_are_branches) := ⟨rfl, rfl, rfl, by decide +kernel, rfl, by decide +kernel, by decide +kernel⟩
def l_are_branches_0 : SF := (sSeq (sIf (xAnd (xNot (xT (xCall F_is_letter (aCons (xVar 2) aNil)))) (xT (xOp oIn (xVar 2) (xTup (aCons (xC c_OUT) (aCons (xC c_BACK) aNil)))))) (sAug 1 oAddI (xIf (xT (xOp oEq (xVar 2) (xC c_OUT))) (xC (.int 1)) (xUn oNeg (xC (.int 1))))) sNext) (sIf (xT (xOp oLt (xVar 1) (xC (.int 0)))) (sRet (xC (.bl false))) sNext))
def b_are_branches : SF := (sSeq (sAsg (xC (.int 0)) (tgN 1)) (sSeq (sFor (xVar 0) (tgN 2) l_are_branches_0) (sRet (xOp oEq (xVar 1) (xC (.int 0))))))
def F_are_branches : FD := clos (fnD 1 3 b_are_branches)
theorem ok_are_branches {P : Program} {w : World} {K : PySem.W.Frag} {mg : Str → Option Value} {base : Heap} (y : Hq P K mg) : FnB P w K mg base 2 (He.ga K "are_branches") ["word"] F_are_branches := by
  obtain ⟨fd, Fd⟩ := hy_def y 6 (d := d_are_branches)
  have g_is_letter := ok_is_letter (P := P) (w := w) (base := base) y
  refine (FnB.of Fd S_are_branches (fun _ _ _ _ _ _ us hl => match us, hl with | [_], _ => rfl) fun cdv A outer s H E hr X hX tk hp => ?_).clos
  subst hX
  exact (dss_cons (ds_set (i := 1) S_are_branches.nd rfl (Or.inl rfl) d_int) (dss_cons (ds_for hp rfl (d_var (pv 0)) (dg_n (pg_name (i := 2) S_are_branches.nd rfl (Or.inl rfl))) (dss_cons (ds_if (dw_and (d_notT (d_val (c_call g_is_letter hr (by decide) (hy_glo y 11) tk (da_cons (d_var (pv 2)) da_nil)))) (dw_and1 (d_cmpT (op_inA (room_u1 hr)) s_in (d_var (pv 2)) (d_tup (da_cons (c_con (hy_con y 1)) (da_cons (c_con (hy_con y 0)) da_nil))) (by rfl)))).pt (dss_one (ds_aug (i := 1) iop_add s_addI S_are_branches.nd rfl (Or.inl rfl) (d_if (d_cmpT (op_eqD (room_u hr)) s_eq (d_var (pv 2)) (c_con (hy_con y 1)) (by rfl)) d_int (d_neg d_int)))) dss_nil) (dss_one (ds_if (d_cmpT op_lt s_lt (d_var (pv 1)) d_int (by rfl)) (dss_one (ds_ret d_bl)) dss_nil)))) (dss_one (ds_ret (d_cmp (op_eqD (room_u hr)) s_eq (d_var (pv 1)) d_int (by rfl))))))

/-! is_in -/
abbrev N_is_in : List Str := ["value", "least", "most"]
theorem S_is_in : FnScope ["value", "least", "most"] ["value", "least", "most"] (defScope st_is_in) := ⟨rfl, rfl, rfl, by decide +kernel, rfl, by decide +kernel, by decide +kernel⟩
def b_is_in : SF := (sRet (xAndV (xIsi .int (xVar 0)) (xAndV (xNotV (xIsi .bool (xVar 0))) (xChain oLe oLe (xVar 1) (xVar 0) (xVar 2)))))
def F_is_in : FD := clos (fnD 3 3 b_is_in)
theorem ok_is_in {P : Program} {w : World} {K : PySem.W.Frag} {mg : Str → Option Value} {base : Heap} (y : Hq P K mg) : FnB P w K mg base 1 (He.ga K "is_in") ["value", "least", "most"] F_is_in := by
  obtain ⟨fd, Fd⟩ := hy_def y 7 (d := d_is_in)
  refine (FnB.of Fd S_is_in (fun _ _ _ _ _ _ us hl => match us, hl with | [_, _, _], _ => rfl) fun cdv A outer s H E hr X hX tk hp => ?_).clos
  subst hX
  exact (dss_one (ds_ret (d_andV (d_isi .int (hy_free y 3) (hy_free y 0) (by decide +kernel) (d_var (pv 0))) (d_andV (d_notV (d_isi .bool (hy_free y 3) (hy_free y 6) (by decide +kernel) (d_var (pv 0)))) (d_one (d_chain op_le op_le s_le s_le (d_var (pv 1)) (d_var (pv 0)) (d_var (pv 2))))))))

/-! is_word -/
abbrev N_is_word : List Str := ["letters", "value", "item"]
theorem S_is_word : FnScope ["letters", "value", "item"] ["letters", "value"] (defScope st_is_word) := ⟨rfl, rfl, rfl, by decide +kernel, rfl, by decide +kernel, by decide +kernel⟩
def t_is_word_0 : TF := (xT (xCall F_is_letter (aCons (xVar 2) aNil)))
def e_is_word_1 : EF := (xVar 2)
def l_is_word_2 : SF := (sIf (xNot (xOr (xT (xCall F_is_in (aCons (xVar 2) (aCons (xC (.int 0)) (aCons (xOp oSub (xVar 0) (xC (.int 1))) aNil))))) (xAnd (xT (xIsi .str (xVar 2))) (xT (xOp oIn (xVar 2) (xTup (aCons (xC c_LEFT) (aCons (xC c_RIGHT) (aCons (xC c_OUT) (aCons (xC c_BACK) aNil)))))))))) (sRet (xC (.bl false))) sNext)
def b_is_word : SF := (sSeq (sIf (xOr (xNot (xT (xIsi .tuple (xVar 1)))) (xNot (xT (xChain oLe oLe (xC (.int 1)) (xCB oLen (aCons (xVar 1) aNil)) (xC c_MOST_WORD))))) (sRet (xC (.bl false))) sNext) (sSeq (sFor (xVar 1) (tgN 2) l_is_word_2) (sRet (xAndV (xCall F_are_branches (aCons (xVar 1) aNil)) (xOp oNe (xLc letGo [2] (xVar 1) (ogN 2) t_is_word_0 e_is_word_1) (xLst aNil))))))
def F_is_word : FD := clos (fnD 2 3 b_is_word)
theorem ok_is_word {P : Program} {w : World} {K : PySem.W.Frag} {mg : Str → Option Value} {base : Heap} (y : Hq P K mg) : FnB P w K mg base 3 (He.ga K "is_word") ["letters", "value"] F_is_word := by
  obtain ⟨fd, Fd⟩ := hy_def y 8 (d := d_is_word)
  have g_is_letter := ok_is_letter (P := P) (w := w) (base := base) y
  have g_are_branches := ok_are_branches (P := P) (w := w) (base := base) y
  have g_is_in := ok_is_in (P := P) (w := w) (base := base) y
  refine (FnB.of Fd S_is_word (fun _ _ _ _ _ _ us hl => match us, hl with | [_, _], _ => rfl) fun cdv A outer s H E hr X hX tk hp => ?_).clos
  subst hX
  exact (dss_cons (ds_if (dw_or (d_notT (d_val (d_isi .tuple (hy_free y 3) (hy_free y 7) (by decide +kernel) (d_var (pv 1))))) (dw_or1 (d_notT (d_chainT op_le op_le s_le s_le d_int (d_len (hy_free y 1) (da_cons (d_var (pv 1)) da_nil)) (c_con (hy_con y 4)))))).pt (dss_one (ds_ret d_bl)) dss_nil) (dss_cons (ds_for hp rfl (d_var (pv 1)) (dg_n (pg_name (i := 2) S_is_word.nd rfl (Or.inl rfl))) (dss_one (ds_if (d_notT (dw_or (d_val (c_call g_is_in hr (by decide) (hy_glo y 13) tk (da_cons (d_var (pv 2)) (da_cons d_int (da_cons (d_sub (d_var (pv 0)) d_int) da_nil))))) (dw_or1 (dw_and (d_val (d_isi .str (hy_free y 3) (hy_free y 4) (by decide +kernel) (d_var (pv 2)))) (dw_and1 (d_cmpT (op_inA (room_u1 hr)) s_in (d_var (pv 2)) (d_tup (da_cons (c_con (hy_con y 3)) (da_cons (c_con (hy_con y 2)) (da_cons (c_con (hy_con y 1)) (da_cons (c_con (hy_con y 0)) da_nil))))) (by rfl)))).pt)).pt) (dss_one (ds_ret d_bl)) dss_nil))) (dss_one (ds_ret (d_andV (c_call g_are_branches hr (by decide) (hy_glo y 12) tk (da_cons (d_var (pv 1)) da_nil)) (d_one (d_cmp (op_neD (room_u hr)) s_ne (d_lc (own := [("item", 2)]) letGo_ok rfl S_is_word.nd (d_var (pv 1)) (blkOk_by (N := N_is_word) (sc := defScope st_is_word) (own := [("item", 2)]) (by decide +kernel)) (own_n (by decide)) (fun _ _ _ _ _ => pg_name (i := 2) S_is_word.nd rfl (Or.inl rfl)) (fun _ _ _ _ _ => dts_one (d_val (c_call g_is_letter hr (by decide) (hy_glo y 11) takesN0 (da_cons (d_var (pv 2)) da_nil)))) (fun _ _ _ _ _ => (d_var (pv 2)))) (d_lst da_nil) (by rfl))))))))

/-! need_book -/
abbrev N_need_book : List Str := ["book", "letter", "word"]
theorem S_need_book : FnScope ["book", "letter", "word"] ["book"] (defScope st_need_book) := ⟨rfl, rfl, rfl, by decide +kernel, rfl, by decide +kernel, by decide +kernel⟩
def l_need_book_0 : SF := (sIf (xNot (xT (xCall F_is_word (aCons (xCB oLen (aCons (xOp oIx (xVar 0) (xC (.int 0))) aNil)) (aCons (xVar 2) aNil))))) sStuck sNext)
def b_need_book : SF := (sSeq (sIf (xOr (xNot (xT (xIsi .tuple (xVar 0)))) (xOr (xT (xOp oNe (xCB oLen (aCons (xVar 0) aNil)) (xC (.int 2)))) (xNot (xT (xIsi .tuple (xOp oIx (xVar 0) (xC (.int 0)))))))) sStuck sNext) (sSeq (sIf (xNot (xT (xChain oLe oLe (xC (.int 1)) (xCB oLen (aCons (xOp oIx (xVar 0) (xC (.int 0))) aNil)) (xC c_MOST_LETTERS)))) sStuck sNext) (sSeq (sForE (aCons (xOp oIx (xVar 0) (xC (.int 0))) aNil) (tgT 2 (tgCons (tgN 1) (tgCons (tgN 2) tgNil))) l_need_book_0) (sIf (xNot (xT (xCall F_is_word (aCons (xCB oLen (aCons (xOp oIx (xVar 0) (xC (.int 0))) aNil)) (aCons (xOp oIx (xVar 0) (xC (.int 1))) aNil))))) sStuck sNext))))
def F_need_book : FD := clos (fnD 1 3 b_need_book)
theorem ok_need_book {P : Program} {w : World} {K : PySem.W.Frag} {mg : Str → Option Value} {base : Heap} (y : Hq P K mg) : FnB P w K mg base 4 (He.ga K "need_book") ["book"] F_need_book := by
  obtain ⟨fd, Fd⟩ := hy_def y 9 (d := d_need_book)
  have g_is_word := ok_is_word (P := P) (w := w) (base := base) y
  refine (FnB.of Fd S_need_book (fun _ _ _ _ _ _ us hl => match us, hl with | [_], _ => rfl) fun cdv A outer s H E hr X hX tk hp => ?_).clos
  subst hX
  exact (dss_cons (ds_if (dw_or (d_notT (d_val (d_isi .tuple (hy_free y 3) (hy_free y 7) (by decide +kernel) (d_var (pv 0))))) (dw_or (d_cmpT (op_neD (room_u hr)) s_ne (d_len (hy_free y 1) (da_cons (d_var (pv 0)) da_nil)) d_int (by rfl)) (dw_or1 (d_notT (d_val (d_isi .tuple (hy_free y 3) (hy_free y 7) (by decide +kernel) (d_ix (d_var (pv 0)) d_int))))))).pt (dss_one ds_never) dss_nil) (dss_cons (ds_if (d_notT (d_chainT op_le op_le s_le s_le d_int (d_len (hy_free y 1) (da_cons (d_ix (d_var (pv 0)) d_int) da_nil)) (c_con (hy_con y 5)))) (dss_one ds_never) dss_nil) (dss_cons (ds_forE hp rfl (hy_free y 15) (da_cons (d_ix (d_var (pv 0)) d_int) da_nil) (dg_tup rfl (dgs_cons (dg_n (pg_name (i := 1) S_need_book.nd rfl (Or.inl rfl))) (dgs_cons (dg_n (pg_name (i := 2) S_need_book.nd rfl (Or.inl rfl))) dgs_nil))) (dss_one (ds_if (d_notT (d_val (c_call g_is_word hr (by decide) (hy_glo y 14) tk (da_cons (d_len (hy_free y 1) (da_cons (d_ix (d_var (pv 0)) d_int) da_nil)) (da_cons (d_var (pv 2)) da_nil))))) (dss_one ds_never) dss_nil))) (dss_one (ds_if (d_notT (d_val (c_call g_is_word hr (by decide) (hy_glo y 14) tk (da_cons (d_len (hy_free y 1) (da_cons (d_ix (d_var (pv 0)) d_int) da_nil)) (da_cons (d_ix (d_var (pv 0)) d_int) da_nil))))) (dss_one ds_never) dss_nil)))))

/-! other_way -/
abbrev N_other_way : List Str := ["item"]
theorem S_other_way : FnScope ["item"] ["item"] (defScope st_other_way) := ⟨rfl, rfl, rfl, by decide +kernel, rfl, by decide +kernel, by decide +kernel⟩
def b_other_way : SF := (sSeq (sIf (xT (xOp oEq (xVar 0) (xC c_LEFT))) (sRet (xC c_RIGHT)) sNext) (sRet (xIf (xT (xOp oEq (xVar 0) (xC c_RIGHT))) (xC c_LEFT) (xVar 0))))
def F_other_way : FD := clos (fnD 1 1 b_other_way)
theorem ok_other_way {P : Program} {w : World} {K : PySem.W.Frag} {mg : Str → Option Value} {base : Heap} (y : Hq P K mg) : FnB P w K mg base 1 (He.ga K "other_way") ["item"] F_other_way := by
  obtain ⟨fd, Fd⟩ := hy_def y 10 (d := d_other_way)
  refine (FnB.of Fd S_other_way (fun _ _ _ _ _ _ us hl => match us, hl with | [_], _ => rfl) fun cdv A outer s H E hr X hX tk hp => ?_).clos
  subst hX
  exact (dss_cons (ds_if (d_cmpT (op_eqD (room_u hr)) s_eq (d_var (pv 0)) (c_con (hy_con y 3)) (by rfl)) (dss_one (ds_ret (c_con (hy_con y 2)))) dss_nil) (dss_one (ds_ret (d_if (d_cmpT (op_eqD (room_u hr)) s_eq (d_var (pv 0)) (c_con (hy_con y 2)) (by rfl)) (c_con (hy_con y 3)) (d_var (pv 0))))))

/-! mirrored_word -/
abbrev N_mirrored_word : List Str := ["word", "item"]
theorem S_mirrored_word : FnScope ["word", "item"] ["word"] (defScope st_mirrored_word) := ⟨rfl, rfl, rfl, by decide +kernel, rfl, by decide +kernel, by decide +kernel⟩
def e_mirrored_word_0 : EF := (xCall F_other_way (aCons (xVar 1) aNil))
def b_mirrored_word : SF := (sRet (xCB oTuple (aCons (xLc letGo [1] (xVar 0) (ogN 1) tYesD e_mirrored_word_0) aNil)))
def F_mirrored_word : FD := clos (fnD 1 2 b_mirrored_word)
theorem ok_mirrored_word {P : Program} {w : World} {K : PySem.W.Frag} {mg : Str → Option Value} {base : Heap} (y : Hq P K mg) : FnB P w K mg base 2 (He.ga K "mirrored_word") ["word"] F_mirrored_word := by
  obtain ⟨fd, Fd⟩ := hy_def y 11 (d := d_mirrored_word)
  have g_other_way := ok_other_way (P := P) (w := w) (base := base) y
  refine (FnB.of Fd S_mirrored_word (fun _ _ _ _ _ _ us hl => match us, hl with | [_], _ => rfl) fun cdv A outer s H E hr X hX tk hp => ?_).clos
  subst hX
  exact (dss_one (ds_ret (d_tuple (hy_free y 7) (da_cons (d_lc (own := [("item", 1)]) letGo_ok rfl S_mirrored_word.nd (d_var (pv 0)) (blkOk_by (N := N_mirrored_word) (sc := defScope st_mirrored_word) (own := [("item", 1)]) (by decide +kernel)) (own_n (by decide)) (fun _ _ _ _ _ => pg_name (i := 1) S_mirrored_word.nd rfl (Or.inl rfl)) (fun _ _ _ _ _ => dts_nil rfl) (fun _ _ _ _ _ => (c_call g_other_way hr (by decide) (hy_glo y 16) takesN0 (da_cons (d_var (pv 1)) da_nil)))) da_nil))))

/-! backward_word -/
abbrev N_backward_word : List Str := ["word", "item"]
theorem S_backward_word : FnScope ["word", "item"] ["word"] (defScope st_backward_word) := ⟨rfl, rfl, rfl, by decide +kernel, rfl, by decide +kernel, by decide +kernel⟩
def e_backward_word_0 : EF := (xCall F_other_way (aCons (xVar 1) aNil))
def b_backward_word : SF := (sRet (xCB oTuple (aCons (xLcI letGo [1] (xRevI (xVar 0)) (ogN 1) tYesD e_backward_word_0) aNil)))
def F_backward_word : FD := clos (fnD 1 2 b_backward_word)
theorem ok_backward_word {P : Program} {w : World} {K : PySem.W.Frag} {mg : Str → Option Value} {base : Heap} (y : Hq P K mg) : FnB P w K mg base 2 (He.ga K "backward_word") ["word"] F_backward_word := by
  obtain ⟨fd, Fd⟩ := hy_def y 12 (d := d_backward_word)
  have g_other_way := ok_other_way (P := P) (w := w) (base := base) y
  refine (FnB.of Fd S_backward_word (fun _ _ _ _ _ _ us hl => match us, hl with | [_], _ => rfl) fun cdv A outer s H E hr X hX tk hp => ?_).clos
  subst hX
  exact (dss_one (ds_ret (d_tuple (hy_free y 7) (da_cons (d_lcI (own := [("item", 1)]) letGo_ok rfl S_backward_word.nd (di_rev (hy_free y 17) (d_var (pv 0))) (blkOk_by (N := N_backward_word) (sc := defScope st_backward_word) (own := [("item", 1)]) (by decide +kernel)) (own_n (by decide)) (fun _ _ _ _ _ => pg_name (i := 1) S_backward_word.nd rfl (Or.inl rfl)) (fun _ _ _ _ _ => dts_nil rfl) (fun _ _ _ _ _ => (c_call g_other_way hr (by decide) (hy_glo y 16) takesN0 (da_cons (d_var (pv 1)) da_nil)))) da_nil))))

/-! each_word -/
abbrev N_each_word : List Str := ["book", "changer", "word"]
theorem S_each_word : FnScope ["book", "changer", "word"] ["book", "changer"] (defScope st_each_word) := ⟨rfl, rfl, rfl, by decide +kernel, rfl, by decide +kernel, by decide +kernel⟩
def e_each_word_0 : EF := (xApp 1 (("mirrored_word", F_mirrored_word) :: ("backward_word", F_backward_word) :: []) (aCons (xVar 2) aNil))
def b_each_word : SF := (sRet (xTup (aCons (xCB oTuple (aCons (xLc letGo [2] (xOp oIx (xVar 0) (xC (.int 0))) (ogN 2) tYesD e_each_word_0) aNil)) (aCons (xApp 1 (("mirrored_word", F_mirrored_word) :: ("backward_word", F_backward_word) :: []) (aCons (xOp oIx (xVar 0) (xC (.int 1))) aNil)) aNil))))
def F_each_word : FD := clos (fnD 2 3 b_each_word)
theorem ok_each_word {P : Program} {w : World} {K : PySem.W.Frag} {mg : Str → Option Value} {base : Heap} (y : Hq P K mg) : FnB P w K mg base 3 (He.ga K "each_word") ["book", "changer"] F_each_word := by
  obtain ⟨fd, Fd⟩ := hy_def y 13 (d := d_each_word)
  have g_backward_word := ok_backward_word (P := P) (w := w) (base := base) y
  have g_mirrored_word := ok_mirrored_word (P := P) (w := w) (base := base) y
  refine (FnB.of Fd S_each_word (fun _ _ _ _ _ _ us hl => match us, hl with | [_, _], _ => rfl) fun cdv A outer s H E hr X hX tk hp => ?_).clos
  subst hX
  exact (dss_one (ds_ret (d_tup (da_cons (d_tuple (hy_free y 7) (da_cons (d_lc (own := [("word", 2)]) letGo_ok rfl S_each_word.nd (d_ix (d_var (pv 0)) d_int) (blkOk_by (N := N_each_word) (sc := defScope st_each_word) (own := [("word", 2)]) (by decide +kernel)) (own_n (by decide)) (fun _ _ _ _ _ => pg_name (i := 2) S_each_word.nd rfl (Or.inl rfl)) (fun _ _ _ _ _ => dts_nil rfl) (fun _ _ _ _ _ => (d_app (i := 1) (tb_cons g_mirrored_word (by first | decide | omega) (tb_cons g_backward_word (by first | decide | omega) tb_nil)) hr takesN0 (da_cons (d_var (pv 2)) da_nil)))) da_nil)) (da_cons (d_app (i := 1) (tb_cons g_mirrored_word (by first | decide | omega) (tb_cons g_backward_word (by first | decide | omega) tb_nil)) hr tk (da_cons (d_ix (d_var (pv 0)) d_int) da_nil)) da_nil)))))

/-! backward -/
abbrev N_backward : List Str := ["book", "word"]
theorem S_backward : FnScope ["book", "word"] ["book"] (defScope st_backward) := ⟨rfl, rfl, rfl, by decide +kernel, rfl, by decide +kernel, by decide +kernel⟩
def l_backward_0 : SF := (sIf (xT (xOp oIn (xC c_OUT) (xVar 1))) (sRaise0 "Branching") sNext)
def b_backward : SF := (sSeq (sExpr (xCall F_need_book (aCons (xVar 0) aNil))) (sSeq (sFor (xOp oAdd (xOp oIx (xVar 0) (xC (.int 0))) (xTup (aCons (xOp oIx (xVar 0) (xC (.int 1))) aNil))) (tgN 1) l_backward_0) (sRet (xCall F_each_word (aCons (xVar 0) (aCons (xC (.fn "backward_word")) aNil))))))
def F_backward : FD := clos (fnD 1 2 b_backward)
theorem ok_backward {P : Program} {w : World} {K : PySem.W.Frag} {mg : Str → Option Value} {base : Heap} (y : Hq P K mg) : FnB P w K mg base 5 (He.ga K "backward") ["book"] F_backward := by
  obtain ⟨fd, Fd⟩ := hy_def y 14 (d := d_backward)
  have g_each_word := ok_each_word (P := P) (w := w) (base := base) y
  have g_need_book := ok_need_book (P := P) (w := w) (base := base) y
  refine (FnB.of Fd S_backward (fun _ _ _ _ _ _ us hl => match us, hl with | [_], _ => rfl) fun cdv A outer s H E hr X hX tk hp => ?_).clos
  subst hX
  exact (dss_cons (ds_expr (c_call g_need_book hr (by decide) (hy_glo y 22) tk (da_cons (d_var (pv 0)) da_nil))) (dss_cons (ds_for hp rfl (d_add (d_ix (d_var (pv 0)) d_int) (d_tup (da_cons (d_ix (d_var (pv 0)) d_int) da_nil))) (dg_n (pg_name (i := 1) S_backward.nd rfl (Or.inl rfl))) (dss_one (ds_if (d_cmpT (op_inA (room_u1 hr)) s_in (c_con (hy_con y 1)) (d_var (pv 1)) (by rfl)) (dss_one (ds_raise0 rfl tk (hy_exc y 20) (hy_glo y 21))) dss_nil))) (dss_one (ds_ret (c_call g_each_word hr (by decide) (hy_glo y 19) tk (da_cons (d_var (pv 0)) (da_cons (d_fn (hy_glo y 18)) da_nil)))))))

/-! _law_grown -/
abbrev N_law_grown : List Str := ["_law_book_here", "_law_age_here", "_law_word_here", "_law_turn", "_law_found", "_law_item"]
theorem S_law_grown : FnScope ["_law_book_here", "_law_age_here", "_law_word_here", "_law_turn", "_law_found", "_law_item"] ["_law_book_here", "_law_age_here"] (defScope st_law_grown) := ⟨rfl, rfl, rfl, by decide +kernel, rfl, by decide +kernel, by decide +kernel⟩
def l_law_grown_0 : SF := (sAsg (xOp oAdd (xVar 4) (xIf (xNot (xT (xIsi .str (xVar 5)))) (xCB oList (aCons (xOp oIx (xOp oIx (xVar 0) (xC (.int 0))) (xVar 5)) aNil)) (xLst (aCons (xVar 5) aNil)))) (tgN 4))
def l_law_grown_1 : SF := (sSeq (sAsg (xLst aNil) (tgN 4)) (sSeq (sFor (xVar 2) (tgN 5) l_law_grown_0) (sAsg (xVar 4) (tgN 2))))
def b_law_grown : SF := (sSeq (sAsg (xOp oIx (xVar 0) (xC (.int 1))) (tgN 2)) (sSeq (sForR rng1 (aCons (xVar 1) aNil) (tgN 3) l_law_grown_1) (sRet (xCB oList (aCons (xVar 2) aNil)))))
def F_law_grown : FD := clos (fnD 2 6 b_law_grown)
theorem ok_law_grown {P : Program} {w : World} {K : PySem.W.Frag} {mg : Str → Option Value} {base : Heap} (y : Hq P K mg) : FnB P w K mg base 1 (He.ga K "_law_grown") ["_law_book_here", "_law_age_here"] F_law_grown := by
  obtain ⟨fd, Fd⟩ := hy_def y 15 (d := d_law_grown)
  refine (FnB.of Fd S_law_grown (fun _ _ _ _ _ _ us hl => match us, hl with | [_, _], _ => rfl) fun cdv A outer s H E hr X hX tk hp => ?_).clos
  subst hX
  exact (dss_cons (ds_set (i := 2) S_law_grown.nd rfl (Or.inl rfl) (d_ix (d_var (pv 0)) d_int)) (dss_cons (ds_forR1 hp rfl (hy_free y 10) (da_cons (d_var (pv 1)) da_nil) (dg_n (pg_name (i := 3) S_law_grown.nd rfl (Or.inl rfl))) (dss_cons (ds_set (i := 4) S_law_grown.nd rfl (Or.inl rfl) (d_lst da_nil)) (dss_cons (ds_for hp rfl (d_var (pv 2)) (dg_n (pg_name (i := 5) S_law_grown.nd rfl (Or.inl rfl))) (dss_one (ds_set (i := 4) S_law_grown.nd rfl (Or.inl rfl) (d_add (d_var (pv 4)) (d_if (d_notT (d_val (d_isi .str (hy_free y 3) (hy_free y 4) (by decide +kernel) (d_var (pv 5))))) (d_list s_list (hy_free y 8) (da_cons (d_ix (d_ix (d_var (pv 0)) d_int) (d_var (pv 5))) da_nil)) (d_lst (da_cons (d_var (pv 5)) da_nil))))))) (dss_one (ds_set (i := 2) S_law_grown.nd rfl (Or.inl rfl) (d_var (pv 4))))))) (dss_one (ds_ret (d_list s_list (hy_free y 8) (da_cons (d_var (pv 2)) da_nil))))))

/-! _law_quarter -/
abbrev N_law_quarter : List Str := ["_law_place", "_law_many", "_law_x", "_law_y"]
theorem S_law_quarter : FnScope ["_law_place", "_law_many", "_law_x", "_law_y"] ["_law_place", "_law_many"] (defScope st_law_quarter) := ⟨rfl, rfl, rfl, by decide +kernel, rfl, by decide +kernel, by decide +kernel⟩
def b_law_quarter : SF := (sSeq (sAsg (xVar 0) (tgT 2 (tgCons (tgN 2) (tgCons (tgN 3) tgNil)))) (sRet (xOp oIx (xLst (aCons (xTup (aCons (xVar 2) (aCons (xVar 3) aNil))) (aCons (xTup (aCons (xOp oSub (xC (.int 0)) (xVar 3)) (aCons (xVar 2) aNil))) (aCons (xTup (aCons (xOp oSub (xC (.int 0)) (xVar 2)) (aCons (xOp oSub (xC (.int 0)) (xVar 3)) aNil))) (aCons (xTup (aCons (xVar 3) (aCons (xOp oSub (xC (.int 0)) (xVar 2)) aNil))) aNil))))) (xOp oMod (xCB oInt (aCons (xVar 1) aNil)) (xC (.int 4))))))
def F_law_quarter : FD := clos (fnD 2 4 b_law_quarter)
theorem ok_law_quarter {P : Program} {w : World} {K : PySem.W.Frag} {mg : Str → Option Value} {base : Heap} (y : Hq P K mg) : FnB P w K mg base 1 (He.ga K "_law_quarter") ["_law_place", "_law_many"] F_law_quarter := by
  obtain ⟨fd, Fd⟩ := hy_def y 16 (d := d_law_quarter)
  refine (FnB.of Fd S_law_quarter (fun _ _ _ _ _ _ us hl => match us, hl with | [_, _], _ => rfl) fun cdv A outer s H E hr X hX tk hp => ?_).clos
  subst hX
  exact (dss_cons (ds_asg (d_var (pv 0)) (dg_tup rfl (dgs_cons (dg_n (pg_name (i := 2) S_law_quarter.nd rfl (Or.inl rfl))) (dgs_cons (dg_n (pg_name (i := 3) S_law_quarter.nd rfl (Or.inl rfl))) dgs_nil)))) (dss_one (ds_ret (d_ix (d_lst (da_cons (d_tup (da_cons (d_var (pv 2)) (da_cons (d_var (pv 3)) da_nil))) (da_cons (d_tup (da_cons (d_sub d_int (d_var (pv 3))) (da_cons (d_var (pv 2)) da_nil))) (da_cons (d_tup (da_cons (d_sub d_int (d_var (pv 2))) (da_cons (d_sub d_int (d_var (pv 3))) da_nil))) (da_cons (d_tup (da_cons (d_var (pv 3)) (da_cons (d_sub d_int (d_var (pv 2))) da_nil))) da_nil))))) (d_mod (d_intc (hy_free y 0) (da_cons (d_var (pv 1)) da_nil)) d_int)))))

/-! need_number -/
abbrev N_need_number : List Str := ["value", "least", "most"]
theorem S_need_number : FnScope ["value", "least", "most"] ["value", "least", "most"] (defScope st_need_number) := ⟨rfl, rfl, rfl, by decide +kernel, rfl, by decide +kernel, by decide +kernel⟩
def b_need_number : SF := (sIf (xNot (xT (xCall F_is_in (aCons (xVar 0) (aCons (xVar 1) (aCons (xVar 2) aNil)))))) sStuck sNext)
def F_need_number : FD := clos (fnD 3 3 b_need_number)
theorem ok_need_number {P : Program} {w : World} {K : PySem.W.Frag} {mg : Str → Option Value} {base : Heap} (y : Hq P K mg) : FnB P w K mg base 2 (He.ga K "need_number") ["value", "least", "most"] F_need_number := by
  obtain ⟨fd, Fd⟩ := hy_def y 17 (d := d_need_number)
  have g_is_in := ok_is_in (P := P) (w := w) (base := base) y
  refine (FnB.of Fd S_need_number (fun _ _ _ _ _ _ us hl => match us, hl with | [_, _, _], _ => rfl) fun cdv A outer s H E hr X hX tk hp => ?_).clos
  subst hX
  exact (dss_one (ds_if (d_notT (d_val (c_call g_is_in hr (by decide) (hy_glo y 13) tk (da_cons (d_var (pv 0)) (da_cons (d_var (pv 1)) (da_cons (d_var (pv 2)) da_nil)))))) (dss_one ds_never) dss_nil))

/-! grown -/
abbrev N_grown : List Str := ["book", "word", "found", "item"]
theorem S_grown : FnScope ["book", "word", "found", "item"] ["book", "word"] (defScope st_grown) := ⟨rfl, rfl, rfl, by decide +kernel, rfl, by decide +kernel, by decide +kernel⟩
def l_grown_0 : SF := (sSeq (sExpr (xBM oExtend (xVar 2) (aCons (xIf (xT (xCall F_is_letter (aCons (xVar 3) aNil))) (xOp oIx (xOp oIx (xVar 0) (xC (.int 0))) (xVar 3)) (xTup (aCons (xVar 3) aNil))) aNil))) (sIf (xT (xOp oGt (xCB oLen (aCons (xVar 2) aNil)) (xC c_MOST_ITEMS))) sStuck sNext))
def b_grown : SF := (sSeq (sAsg (xLstM aNil) (tgN 2)) (sSeq (sFor (xVar 1) (tgN 3) l_grown_0) (sRet (xCB oTuple (aCons (xVar 2) aNil)))))
def F_grown : FD := clos (fnD 2 4 b_grown)
theorem ok_grown {P : Program} {w : World} {K : PySem.W.Frag} {mg : Str → Option Value} {base : Heap} (y : Hq P K mg) : FnB P w K mg base 2 (He.ga K "grown") ["book", "word"] F_grown := by
  obtain ⟨fd, Fd⟩ := hy_def y 18 (d := d_grown)
  have g_is_letter := ok_is_letter (P := P) (w := w) (base := base) y
  refine (FnB.of Fd S_grown (fun _ _ _ _ _ _ us hl => match us, hl with | [_, _], _ => rfl) fun cdv A outer s H E hr X hX tk hp => ?_).clos
  subst hX
  exact (dss_cons (ds_set (i := 2) S_grown.nd rfl (Or.inl rfl) (d_lstM da_nil)) (dss_cons (ds_for hp rfl (d_var (pv 1)) (dg_n (pg_name (i := 3) S_grown.nd rfl (Or.inl rfl))) (dss_cons (ds_expr (d_extend (d_var (pv 2)) (da_cons (d_if (d_val (c_call g_is_letter hr (by decide) (hy_glo y 11) tk (da_cons (d_var (pv 3)) da_nil))) (d_ix (d_ix (d_var (pv 0)) d_int) (d_var (pv 3))) (d_tup (da_cons (d_var (pv 3)) da_nil))) da_nil))) (dss_one (ds_if (d_cmpT op_gt s_gt (d_len (hy_free y 1) (da_cons (d_var (pv 2)) da_nil)) (c_con (hy_con y 6)) (by rfl)) (dss_one ds_never) dss_nil)))) (dss_one (ds_ret (d_tuple (hy_free y 7) (da_cons (d_var (pv 2)) da_nil))))))

/-! sped -/
abbrev N_sped : List Str := ["book", "many", "words", "turn", "letter", "word"]
theorem S_sped : FnScope ["book", "many", "words", "turn", "letter", "word"] ["book", "many"] (defScope st_sped) := ⟨rfl, rfl, rfl, by decide +kernel, rfl, by decide +kernel, by decide +kernel⟩
def t_sped_0 : TF := (xT (xOp oGt (xCB oLen (aCons (xVar 5) aNil)) (xC c_MOST_WORD)))
def e_sped_1 : EF := (xVar 5)
def e_sped_2 : EF := (xCall F_grown (aCons (xVar 0) (aCons (xVar 5) aNil)))
def l_sped_3 : SF := (sSeq (sAsg (xLc letGo [5] (xVar 2) (ogN 5) tYesD e_sped_2) (tgN 2)) (sIf (xT (xOp oNe (xLc letGo [5] (xVar 2) (ogN 5) t_sped_0 e_sped_1) (xLst aNil))) (sRaiseS "TooMany" "most" (aCons (xC c_MOST_WORD) aNil)) sNext))
def e_sped_4 : EF := (xTup (aCons (xVar 4) aNil))
def b_sped : SF := (sSeq (sExpr (xCall F_need_book (aCons (xVar 0) aNil))) (sSeq (sExpr (xCall F_need_number (aCons (xVar 1) (aCons (xC (.int 1)) (aCons (xC c_MOST_SPED) aNil))))) (sSeq (sAsg (xLcR letGo rng1 [4] (aCons (xCB oLen (aCons (xOp oIx (xVar 0) (xC (.int 0))) aNil)) aNil) (ogN 4) tYesD e_sped_4) (tgN 2)) (sSeq (sForR rng1 (aCons (xVar 1) aNil) (tgN 3) l_sped_3) (sRet (xTup (aCons (xCB oTuple (aCons (xVar 2) aNil)) (aCons (xOp oIx (xVar 0) (xC (.int 1))) aNil))))))))
def F_sped : FD := clos (fnD 2 6 b_sped)
theorem ok_sped {P : Program} {w : World} {K : PySem.W.Frag} {mg : Str → Option Value} {base : Heap} (y : Hq P K mg) : FnB P w K mg base 5 (He.ga K "sped") ["book", "many"] F_sped := by
  obtain ⟨fd, Fd⟩ := hy_def y 19 (d := d_sped)
  have g_grown := ok_grown (P := P) (w := w) (base := base) y
  have g_need_number := ok_need_number (P := P) (w := w) (base := base) y
  have g_need_book := ok_need_book (P := P) (w := w) (base := base) y
  refine (FnB.of Fd S_sped (fun _ _ _ _ _ _ us hl => match us, hl with | [_, _], _ => rfl) fun cdv A outer s H E hr X hX tk hp => ?_).clos
  subst hX
  exact (dss_cons (ds_expr (c_call g_need_book hr (by decide) (hy_glo y 22) tk (da_cons (d_var (pv 0)) da_nil))) (dss_cons (ds_expr (c_call g_need_number hr (by decide) (hy_glo y 25) tk (da_cons (d_var (pv 1)) (da_cons d_int (da_cons (c_con (hy_con y 7)) da_nil))))) (dss_cons (ds_setLcR1 (i := 2) (own := [("letter", 4)]) letGo_ok rfl S_sped.nd rfl rfl rfl (hy_free y 10) (da_cons (d_len (hy_free y 1) (da_cons (d_ix (d_var (pv 0)) d_int) da_nil)) da_nil) (blkOk_by (N := N_sped) (sc := defScope st_sped) (own := [("letter", 4)]) (by decide +kernel)) (own_n (by decide)) (fun _ _ _ _ _ => pg_name (i := 4) S_sped.nd rfl (Or.inl rfl)) (fun _ _ _ _ _ => dts_nil rfl) (fun _ _ _ _ _ => (d_tup (da_cons (d_var (pv 4)) da_nil)))) (dss_cons (ds_forR1 hp rfl (hy_free y 10) (da_cons (d_var (pv 1)) da_nil) (dg_n (pg_name (i := 3) S_sped.nd rfl (Or.inl rfl))) (dss_cons (ds_setLc (i := 2) (own := [("word", 5)]) letGo_ok rfl S_sped.nd rfl rfl rfl (d_var (pv 2)) (blkOk_by (N := N_sped) (sc := defScope st_sped) (own := [("word", 5)]) (by decide +kernel)) (own_n (by decide)) (fun _ _ _ _ _ => pg_name (i := 5) S_sped.nd rfl (Or.inl rfl)) (fun _ _ _ _ _ => dts_nil rfl) (fun _ _ _ _ _ => (c_call g_grown hr (by decide) (hy_glo y 24) takesN0 (da_cons (d_var (pv 0)) (da_cons (d_var (pv 5)) da_nil))))) (dss_one (ds_if (d_cmpT (op_neD (room_u hr)) s_ne (d_lc (own := [("word", 5)]) letGo_ok rfl S_sped.nd (d_var (pv 2)) (blkOk_by (N := N_sped) (sc := defScope st_sped) (own := [("word", 5)]) (by decide +kernel)) (own_n (by decide)) (fun _ _ _ _ _ => pg_name (i := 5) S_sped.nd rfl (Or.inl rfl)) (fun _ _ _ _ _ => dts_one (d_cmpT op_gt s_gt (d_len (hy_free y 1) (da_cons (d_var (pv 5)) da_nil)) (c_con (hy_con y 4)) (by rfl))) (fun _ _ _ _ _ => (d_var (pv 5)))) (d_lst da_nil) (by rfl)) (dss_one (ds_raiseS (d := sup_TooMany) rfl tk (hy_sup y 0) Sh_TooMany (hy_prg y 0) hr (by decide) (hy_glo y 23) (da_cons (c_con (hy_con y 4)) da_nil))) dss_nil)))) (dss_one (ds_ret (d_tup (da_cons (d_tuple (hy_free y 7) (da_cons (d_var (pv 2)) da_nil)) (da_cons (d_ix (d_var (pv 0)) d_int) da_nil)))))))))

/-! _law_branched -/
abbrev N_law_branched : List Str := ["_law_row", "_law_word_here", "_law_letters", "_law_found", "_law_at", "_law_turn"]
theorem S_law_branched : FnScope ["_law_row", "_law_word_here", "_law_letters", "_law_found", "_law_at", "_law_turn"] ["_law_row", "_law_word_here", "_law_letters"] (defScope st_law_branched) := ⟨rfl, rfl, rfl, by decide +kernel, rfl, by decide +kernel, by decide +kernel⟩
def b_law_branched : SF := (sSeq (sAsg (xCB oList (aCons (xVar 1) aNil)) (tgN 3)) (sSeq (sIf (xT (xOp oEq (xCall F_law_taken (aCons (xVar 0) (aCons (xC (.int 3)) aNil))) (xC (.int 0)))) (sSeq (sPar 4 5 (aCons (xCall F_law_taken (aCons (xVar 0) (aCons (xOp oAdd (xCB oLen (aCons (xVar 3) aNil)) (xC (.int 1))) aNil))) (aCons (xCall F_law_pick (aCons (xVar 0) (aCons (xLst (aCons (xLst (aCons (xC (.str "+")) aNil)) (aCons (xLst (aCons (xC (.str "-")) aNil)) (aCons (xLst aNil) aNil)))) aNil))) aNil))) (sAsg (xOp oAdd (xOp oAdd (xOp oAdd (xOp oAdd (xOp oAdd (xSl (xVar 3) pNo (pSome (xVar 4))) (xLst (aCons (xC (.str "[")) aNil))) (xVar 5)) (xLst (aCons (xCall F_law_taken (aCons (xVar 0) (aCons (xVar 2) aNil))) aNil))) (xLst (aCons (xC (.str "]")) aNil))) (xSl (xVar 3) (pSome (xVar 4)) pNo)) (tgN 3))) sNext) (sRet (xCB oTuple (aCons (xVar 3) aNil)))))
def F_law_branched : FD := clos (fnD 3 6 b_law_branched)
theorem ok_law_branched {P : Program} {w : World} {K : PySem.W.Frag} {mg : Str → Option Value} {base : Heap} (y : Hq P K mg) : FnB P w K mg base 3 (He.ga K "_law_branched") ["_law_row", "_law_word_here", "_law_letters"] F_law_branched := by
  obtain ⟨fd, Fd⟩ := hy_def y 20 (d := d_law_branched)
  have g_law_taken := ok_law_taken (P := P) (w := w) (base := base) y
  have g_law_pick := ok_law_pick (P := P) (w := w) (base := base) y
  refine (FnB.of Fd S_law_branched (fun _ _ _ _ _ _ us hl => match us, hl with | [_, _, _], _ => rfl) fun cdv A outer s H E hr X hX tk hp => ?_).clos
  subst hX
  exact (dss_cons (ds_set (i := 3) S_law_branched.nd rfl (Or.inl rfl) (d_list s_list (hy_free y 8) (da_cons (d_var (pv 1)) da_nil))) (dss_cons (ds_if (d_cmpT (op_eqD (room_u hr)) s_eq (c_call g_law_taken hr (by decide) (hy_glo y 2) tk (da_cons (d_var (pv 0)) (da_cons d_int da_nil))) d_int (by rfl)) (dss_cons (ds_par (i := 4) (j := 5) rfl S_law_branched.nd rfl rfl (by decide) rfl rfl (da_cons (c_call g_law_taken hr (by decide) (hy_glo y 2) tk (da_cons (d_var (pv 0)) (da_cons (d_add (d_len (hy_free y 1) (da_cons (d_var (pv 3)) da_nil)) d_int) da_nil))) (da_cons (c_call g_law_pick hr (by decide) (hy_glo y 26) tk (da_cons (d_var (pv 0)) (da_cons (d_lst (da_cons (d_lst (da_cons d_str da_nil)) (da_cons (d_lst (da_cons d_str da_nil)) (da_cons (d_lst da_nil) da_nil)))) da_nil))) da_nil))) (dss_one (ds_set (i := 3) S_law_branched.nd rfl (Or.inl rfl) (d_add (d_add (d_add (d_add (d_add (d_sl (d_var (pv 3)) do_none (do_some (d_var (pv 4)))) (d_lst (da_cons d_str da_nil))) (d_var (pv 5))) (d_lst (da_cons (c_call g_law_taken hr (by decide) (hy_glo y 2) tk (da_cons (d_var (pv 0)) (da_cons (d_var (pv 2)) da_nil))) da_nil))) (d_lst (da_cons d_str da_nil))) (d_sl (d_var (pv 3)) (do_some (d_var (pv 4))) do_none))))) dss_nil) (dss_one (ds_ret (d_tuple (hy_free y 7) (da_cons (d_var (pv 3)) da_nil))))))

/-! _law_word -/
abbrev N_law_word : List Str := ["_law_row", "_law_letters", "_law_most", "_law_found", "_law_turn"]
theorem S_law_word : FnScope ["_law_row", "_law_letters", "_law_most", "_law_found", "_law_turn"] ["_law_row", "_law_letters", "_law_most"] (defScope st_law_word) := ⟨rfl, rfl, rfl, by decide +kernel, rfl, by decide +kernel, by decide +kernel⟩
def l_law_word_0 : SF := (sSeq (sExpr (xBM oAppend (xVar 3) (aCons (xCall F_law_taken (aCons (xVar 0) (aCons (xVar 1) aNil))) aNil))) (sIf (xT (xOp oEq (xCall F_law_taken (aCons (xVar 0) (aCons (xC (.int 2)) aNil))) (xC (.int 0)))) (sExpr (xBM oAppend (xVar 3) (aCons (xCall F_law_pick (aCons (xVar 0) (aCons (xLst (aCons (xC (.str "+")) (aCons (xC (.str "-")) aNil))) aNil))) aNil))) sNext))
def b_law_word : SF := (sSeq (sAsg (xLstM aNil) (tgN 3)) (sSeq (sForR rng1 (aCons (xOp oAdd (xC (.int 1)) (xCall F_law_taken (aCons (xVar 0) (aCons (xVar 2) aNil)))) aNil) (tgN 4) l_law_word_0) (sRet (xIf (xT (xOp oEq (xCall F_law_taken (aCons (xVar 0) (aCons (xC (.int 3)) aNil))) (xC (.int 0)))) (xCB oTuple (aCons (xOp oAdd (xSl (xVar 3) (pSome (xC (.int 1))) pNo) (xSl (xVar 3) pNo (pSome (xC (.int 1))))) aNil)) (xCB oTuple (aCons (xVar 3) aNil))))))
def F_law_word : FD := clos (fnD 3 5 b_law_word)
theorem ok_law_word {P : Program} {w : World} {K : PySem.W.Frag} {mg : Str → Option Value} {base : Heap} (y : Hq P K mg) : FnB P w K mg base 3 (He.ga K "_law_word") ["_law_row", "_law_letters", "_law_most"] F_law_word := by
  obtain ⟨fd, Fd⟩ := hy_def y 21 (d := d_law_word)
  have g_law_taken := ok_law_taken (P := P) (w := w) (base := base) y
  have g_law_pick := ok_law_pick (P := P) (w := w) (base := base) y
  refine (FnB.of Fd S_law_word (fun _ _ _ _ _ _ us hl => match us, hl with | [_, _, _], _ => rfl) fun cdv A outer s H E hr X hX tk hp => ?_).clos
  subst hX
  exact (dss_cons (ds_set (i := 3) S_law_word.nd rfl (Or.inl rfl) (d_lstM da_nil)) (dss_cons (ds_forR1 hp rfl (hy_free y 10) (da_cons (d_add d_int (c_call g_law_taken hr (by decide) (hy_glo y 2) tk (da_cons (d_var (pv 0)) (da_cons (d_var (pv 2)) da_nil)))) da_nil) (dg_n (pg_name (i := 4) S_law_word.nd rfl (Or.inl rfl))) (dss_cons (ds_expr (d_append (d_var (pv 3)) (da_cons (c_call g_law_taken hr (by decide) (hy_glo y 2) tk (da_cons (d_var (pv 0)) (da_cons (d_var (pv 1)) da_nil))) da_nil))) (dss_one (ds_if (d_cmpT (op_eqD (room_u hr)) s_eq (c_call g_law_taken hr (by decide) (hy_glo y 2) tk (da_cons (d_var (pv 0)) (da_cons d_int da_nil))) d_int (by rfl)) (dss_one (ds_expr (d_append (d_var (pv 3)) (da_cons (c_call g_law_pick hr (by decide) (hy_glo y 26) tk (da_cons (d_var (pv 0)) (da_cons (d_lst (da_cons d_str (da_cons d_str da_nil))) da_nil))) da_nil)))) dss_nil)))) (dss_one (ds_ret (d_if (d_cmpT (op_eqD (room_u hr)) s_eq (c_call g_law_taken hr (by decide) (hy_glo y 2) tk (da_cons (d_var (pv 0)) (da_cons d_int da_nil))) d_int (by rfl)) (d_tuple (hy_free y 7) (da_cons (d_add (d_sl (d_var (pv 3)) (do_some d_int) do_none) (d_sl (d_var (pv 3)) do_none (do_some d_int))) da_nil)) (d_tuple (hy_free y 7) (da_cons (d_var (pv 3)) da_nil)))))))

/-! _law_book -/
abbrev N_law_book : List Str := ["_law_row", "_law_letters", "_law_words", "_law_k"]
theorem S_law_book : FnScope ["_law_row", "_law_letters", "_law_words", "_law_k"] ["_law_row"] (defScope st_law_book) := ⟨rfl, rfl, rfl, by decide +kernel, rfl, by decide +kernel, by decide +kernel⟩
def e_law_book_0 : EF := (xCall F_law_branched (aCons (xVar 0) (aCons (xCall F_law_word (aCons (xVar 0) (aCons (xVar 1) (aCons (xC (.int 3)) aNil)))) (aCons (xVar 1) aNil))))
def b_law_book : SF := (sSeq (sAsg (xOp oAdd (xC (.int 1)) (xCall F_law_taken (aCons (xVar 0) (aCons (xC (.int 3)) aNil)))) (tgN 1)) (sSeq (sAsg (xCB oTuple (aCons (xLcR letGo rng1 [3] (aCons (xVar 1) aNil) (ogN 3) tYesD e_law_book_0) aNil)) (tgN 2)) (sRet (xTup (aCons (xVar 2) (aCons (xCall F_law_branched (aCons (xVar 0) (aCons (xCall F_law_word (aCons (xVar 0) (aCons (xVar 1) (aCons (xC (.int 3)) aNil)))) (aCons (xVar 1) aNil)))) aNil))))))
def F_law_book : FD := clos (fnD 1 4 b_law_book)
theorem ok_law_book {P : Program} {w : World} {K : PySem.W.Frag} {mg : Str → Option Value} {base : Heap} (y : Hq P K mg) : FnB P w K mg base 4 (He.ga K "_law_book") ["_law_row"] F_law_book := by
  obtain ⟨fd, Fd⟩ := hy_def y 22 (d := d_law_book)
  have g_law_branched := ok_law_branched (P := P) (w := w) (base := base) y
  have g_law_word := ok_law_word (P := P) (w := w) (base := base) y
  have g_law_taken := ok_law_taken (P := P) (w := w) (base := base) y
  refine (FnB.of Fd S_law_book (fun _ _ _ _ _ _ us hl => match us, hl with | [_], _ => rfl) fun cdv A outer s H E hr X hX tk hp => ?_).clos
  subst hX
  exact (dss_cons (ds_set (i := 1) S_law_book.nd rfl (Or.inr rfl) (d_add d_int (c_call g_law_taken hr (by decide) (hy_glo y 2) tk (da_cons (d_var (pv 0)) (da_cons d_int da_nil))))) (dss_cons (ds_set (i := 2) S_law_book.nd rfl (Or.inl rfl) (d_tuple (hy_free y 7) (da_cons (d_lcR1 (own := [("_law_k", 3)]) letGo_ok rfl S_law_book.nd (hy_free y 10) (da_cons (d_var (pv 1)) da_nil) (blkOk_by (N := N_law_book) (sc := defScope st_law_book) (own := [("_law_k", 3)]) (by decide +kernel)) (own_n (by decide)) (fun _ _ _ _ _ => pg_name (i := 3) S_law_book.nd rfl (Or.inl rfl)) (fun _ _ _ _ _ => dts_nil rfl) (fun _ _ _ _ _ => (c_call g_law_branched hr (by decide) (hy_glo y 28) takesN0 (da_cons (d_var (pv 0)) (da_cons (c_call g_law_word hr (by decide) (hy_glo y 27) takesN0 (da_cons (d_var (pv 0)) (da_cons (d_var (pv 1)) (da_cons d_int da_nil)))) (da_cons (d_var (pv 1)) da_nil)))))) da_nil))) (dss_one (ds_ret (d_tup (da_cons (d_var (pv 2)) (da_cons (c_call g_law_branched hr (by decide) (hy_glo y 28) tk (da_cons (d_var (pv 0)) (da_cons (c_call g_law_word hr (by decide) (hy_glo y 27) tk (da_cons (d_var (pv 0)) (da_cons (d_var (pv 1)) (da_cons d_int da_nil)))) (da_cons (d_var (pv 1)) da_nil)))) da_nil)))))))

/-! _law_kit -/
abbrev N_law_kit : List Str := ["_law_row", "_law_dragon", "_law_square", "_law_levy", "_law_wide"]
theorem S_law_kit : FnScope ["_law_row", "_law_dragon", "_law_square", "_law_levy", "_law_wide"] ["_law_row"] (defScope st_law_kit) := ⟨rfl, rfl, rfl, by decide +kernel, rfl, by decide +kernel, by decide +kernel⟩
def b_law_kit : SF := (sSeq (sAsg (xTup (aCons (xTup (aCons (xC (.int 0)) (aCons (xC (.str "+")) (aCons (xC (.int 1)) (aCons (xC (.str "-")) aNil))))) (aCons (xTup (aCons (xC (.str "+")) (aCons (xC (.int 0)) (aCons (xC (.str "-")) (aCons (xC (.int 1)) aNil))))) aNil))) (tgN 1)) (sSeq (sAsg (xTup (aCons (xTup (aCons (xC (.int 0)) (aCons (xC (.str "+")) (aCons (xC (.int 0)) (aCons (xC (.str "-")) (aCons (xC (.int 0)) (aCons (xC (.str "-")) (aCons (xC (.int 0)) (aCons (xC (.str "+")) (aCons (xC (.int 0)) aNil)))))))))) aNil)) (tgN 2)) (sSeq (sAsg (xTup (aCons (xTup (aCons (xTup (aCons (xC (.int 0)) (aCons (xC (.str "+")) (aCons (xC (.int 0)) (aCons (xC (.str "-")) aNil))))) aNil)) (aCons (xTup (aCons (xTup (aCons (xC (.int 0)) (aCons (xC (.str "+")) (aCons (xC (.int 0)) (aCons (xC (.str "-")) (aCons (xC (.str "-")) (aCons (xC (.int 0)) (aCons (xC (.str "+")) (aCons (xC (.int 0)) (aCons (xC (.int 0)) aNil)))))))))) aNil)) aNil))) (tgT 2 (tgCons (tgN 3) (tgCons (tgN 4) tgNil)))) (sRet (xCall F_law_pick (aCons (xVar 0) (aCons (xLst (aCons (xTup (aCons (xVar 1) (aCons (xTup (aCons (xC (.int 0)) aNil)) aNil))) (aCons (xTup (aCons (xVar 2) (aCons (xTup (aCons (xC (.int 0)) aNil)) aNil))) (aCons (xTup (aCons (xVar 3) (aCons (xTup (aCons (xC (.int 0)) aNil)) aNil))) (aCons (xTup (aCons (xVar 1) (aCons (xTup (aCons (xC (.int 1)) (aCons (xC (.str "+")) (aCons (xC (.int 0)) aNil)))) aNil))) (aCons (xTup (aCons (xVar 2) (aCons (xTup (aCons (xC (.int 0)) (aCons (xC (.str "-")) (aCons (xC (.int 0)) aNil)))) aNil))) (aCons (xTup (aCons (xVar 4) (aCons (xTup (aCons (xC (.int 0)) aNil)) aNil))) aNil))))))) aNil)))))))
def F_law_kit : FD := clos (fnD 1 5 b_law_kit)
theorem ok_law_kit {P : Program} {w : World} {K : PySem.W.Frag} {mg : Str → Option Value} {base : Heap} (y : Hq P K mg) : FnB P w K mg base 3 (He.ga K "_law_kit") ["_law_row"] F_law_kit := by
  obtain ⟨fd, Fd⟩ := hy_def y 23 (d := d_law_kit)
  have g_law_pick := ok_law_pick (P := P) (w := w) (base := base) y
  refine (FnB.of Fd S_law_kit (fun _ _ _ _ _ _ us hl => match us, hl with | [_], _ => rfl) fun cdv A outer s H E hr X hX tk hp => ?_).clos
  subst hX
  exact (dss_cons (ds_set (i := 1) S_law_kit.nd rfl (Or.inl rfl) (d_tup (da_cons (d_tup (da_cons d_int (da_cons d_str (da_cons d_int (da_cons d_str da_nil))))) (da_cons (d_tup (da_cons d_str (da_cons d_int (da_cons d_str (da_cons d_int da_nil))))) da_nil)))) (dss_cons (ds_set (i := 2) S_law_kit.nd rfl (Or.inl rfl) (d_tup (da_cons (d_tup (da_cons d_int (da_cons d_str (da_cons d_int (da_cons d_str (da_cons d_int (da_cons d_str (da_cons d_int (da_cons d_str (da_cons d_int da_nil)))))))))) da_nil))) (dss_cons (ds_asg (d_tup (da_cons (d_tup (da_cons (d_tup (da_cons d_int (da_cons d_str (da_cons d_int (da_cons d_str da_nil))))) da_nil)) (da_cons (d_tup (da_cons (d_tup (da_cons d_int (da_cons d_str (da_cons d_int (da_cons d_str (da_cons d_str (da_cons d_int (da_cons d_str (da_cons d_int (da_cons d_int da_nil)))))))))) da_nil)) da_nil))) (dg_tup rfl (dgs_cons (dg_n (pg_name (i := 3) S_law_kit.nd rfl (Or.inl rfl))) (dgs_cons (dg_n (pg_name (i := 4) S_law_kit.nd rfl (Or.inl rfl))) dgs_nil)))) (dss_one (ds_ret (c_call g_law_pick hr (by decide) (hy_glo y 26) tk (da_cons (d_var (pv 0)) (da_cons (d_lst (da_cons (d_tup (da_cons (d_var (pv 1)) (da_cons (d_tup (da_cons d_int da_nil)) da_nil))) (da_cons (d_tup (da_cons (d_var (pv 2)) (da_cons (d_tup (da_cons d_int da_nil)) da_nil))) (da_cons (d_tup (da_cons (d_var (pv 3)) (da_cons (d_tup (da_cons d_int da_nil)) da_nil))) (da_cons (d_tup (da_cons (d_var (pv 1)) (da_cons (d_tup (da_cons d_int (da_cons d_str (da_cons d_int da_nil)))) da_nil))) (da_cons (d_tup (da_cons (d_var (pv 2)) (da_cons (d_tup (da_cons d_int (da_cons d_str (da_cons d_int da_nil)))) da_nil))) (da_cons (d_tup (da_cons (d_var (pv 4)) (da_cons (d_tup (da_cons d_int da_nil)) da_nil))) da_nil))))))) da_nil))))))))

/-! mirrored -/
abbrev N_mirrored : List Str := ["book"]
theorem S_mirrored : FnScope ["book"] ["book"] (defScope st_mirrored) := ⟨rfl, rfl, rfl, by decide +kernel, rfl, by decide +kernel, by decide +kernel⟩
def b_mirrored : SF := (sSeq (sExpr (xCall F_need_book (aCons (xVar 0) aNil))) (sRet (xCall F_each_word (aCons (xVar 0) (aCons (xC (.fn "mirrored_word")) aNil)))))
def F_mirrored : FD := clos (fnD 1 1 b_mirrored)
theorem ok_mirrored {P : Program} {w : World} {K : PySem.W.Frag} {mg : Str → Option Value} {base : Heap} (y : Hq P K mg) : FnB P w K mg base 5 (He.ga K "mirrored") ["book"] F_mirrored := by
  obtain ⟨fd, Fd⟩ := hy_def y 24 (d := d_mirrored)
  have g_each_word := ok_each_word (P := P) (w := w) (base := base) y
  have g_need_book := ok_need_book (P := P) (w := w) (base := base) y
  refine (FnB.of Fd S_mirrored (fun _ _ _ _ _ _ us hl => match us, hl with | [_], _ => rfl) fun cdv A outer s H E hr X hX tk hp => ?_).clos
  subst hX
  exact (dss_cons (ds_expr (c_call g_need_book hr (by decide) (hy_glo y 22) tk (da_cons (d_var (pv 0)) da_nil))) (dss_one (ds_ret (c_call g_each_word hr (by decide) (hy_glo y 19) tk (da_cons (d_var (pv 0)) (da_cons (d_fn (hy_glo y 29)) da_nil))))))

/-! _law_age -/
abbrev N_law_age : List Str := ["_law_book_here", "_law_most", "_law_found", "_law_item"]
theorem S_law_age : FnScope ["_law_book_here", "_law_most", "_law_found", "_law_item"] ["_law_book_here", "_law_most"] (defScope st_law_age) := ⟨rfl, rfl, rfl, by decide +kernel, rfl, by decide +kernel, by decide +kernel⟩
def t_law_age_0 : TF := (xNot (xT (xIsi .str (xVar 3))))
def e_law_age_1 : EF := (xVar 3)
def t_law_age_2 : TF := (xAnd (xT (xOp oLt (xVar 2) (xC (.int 8)))) (xT (xOp oLe (xCB oLen (aCons (xLc letGo [3] (xCall F_law_grown (aCons (xVar 0) (aCons (xOp oAdd (xVar 2) (xC (.int 1))) aNil))) (ogN 3) t_law_age_0 e_law_age_1) aNil)) (xVar 1))))
def l_law_age_3 : SF := (sAsg (xOp oAdd (xVar 2) (xC (.int 1))) (tgN 2))
def b_law_age : SF := (sSeq (sAsg (xC (.int 0)) (tgN 2)) (sSeq (sWhile 1000 t_law_age_2 l_law_age_3) (sRet (xVar 2))))
def F_law_age : FD := clos (fnD 2 4 b_law_age)
theorem ok_law_age {P : Program} {w : World} {K : PySem.W.Frag} {mg : Str → Option Value} {base : Heap} (y : Hq P K mg) : FnB P w K mg base 2 (He.ga K "_law_age") ["_law_book_here", "_law_most"] F_law_age := by
  obtain ⟨fd, Fd⟩ := hy_def y 25 (d := d_law_age)
  have g_law_grown := ok_law_grown (P := P) (w := w) (base := base) y
  refine (FnB.of Fd S_law_age (fun _ _ _ _ _ _ us hl => match us, hl with | [_, _], _ => rfl) fun cdv A outer s H E hr X hX tk hp => ?_).clos
  subst hX
  exact (dss_cons (ds_set (i := 2) S_law_age.nd rfl (Or.inl rfl) d_int) (dss_cons (ds_while 1000 hp (dw_and (d_cmpT op_lt s_lt (d_var (pv 2)) d_int (by rfl)) (dw_and1 (d_cmpT op_le s_le (d_len (hy_free y 1) (da_cons (d_lc (own := [("_law_item", 3)]) letGo_ok rfl S_law_age.nd (c_call g_law_grown hr (by decide) (hy_glo y 30) tk (da_cons (d_var (pv 0)) (da_cons (d_add (d_var (pv 2)) d_int) da_nil))) (blkOk_by (N := N_law_age) (sc := defScope st_law_age) (own := [("_law_item", 3)]) (by decide +kernel)) (own_n (by decide)) (fun _ _ _ _ _ => pg_name (i := 3) S_law_age.nd rfl (Or.inl rfl)) (fun _ _ _ _ _ => dts_one (d_notT (d_val (d_isi .str (hy_free y 3) (hy_free y 4) (by decide +kernel) (d_var (pv 3)))))) (fun _ _ _ _ _ => (d_var (pv 3)))) da_nil)) (d_var (pv 1)) (by rfl)))).pt (dss_one (ds_set (i := 2) S_law_age.nd rfl (Or.inl rfl) (d_add (d_var (pv 2)) d_int)))) (dss_one (ds_ret (d_var (pv 2))))))

/-! Pen.__init__ -/
abbrev N_Pen_init : List Str := ["self", "place", "heading"]
theorem S_Pen_init : FnScope ["self", "place", "heading"] ["self", "place", "heading"] (defScope st_Pen_init) := ⟨rfl, rfl, rfl, by decide +kernel, rfl, by decide +kernel, by decide +kernel⟩
def b_Pen_init : SF := (sSeq (sFldSet "Pen" "place" (xVar 0) (xVar 1)) (sSeq (sFldSet "Pen" "heading" (xVar 0) (xVar 2)) (sFldSet "Pen" "stands" (xVar 0) (xLstM aNil))))
def F_Pen_init : FD := fnD 3 3 b_Pen_init
theorem ok_Pen_init {P : Program} {w : World} {K : PySem.W.Frag} {mg : Str → Option Value} {base : Heap} (y : Hq P K mg) : FnB P w K mg base 1 (He.ma K (He.ga K "Pen") "__init__") ["self", "place", "heading"] F_Pen_init := by
  obtain ⟨fd, Fd⟩ := hy_def y 26 (d := d_Pen_init)
  refine (FnB.of Fd S_Pen_init (fun _ _ _ _ _ _ us hl => match us, hl with | [_, _, _], _ => rfl) fun cdv A outer s H E hr X hX tk hp => ?_)
  subst hX
  exact (dss_cons (ds_fld (C := "Pen") (hy_cls y 31) (hy_noat y 34) (d_var (pv 0)) (d_var (pv 1))) (dss_cons (ds_fld (C := "Pen") (hy_cls y 31) (hy_noat y 33) (d_var (pv 0)) (d_var (pv 2))) (dss_one (ds_fld (C := "Pen") (hy_cls y 31) (hy_noat y 32) (d_var (pv 0)) (d_lstM da_nil)))))

/-! plus -/
abbrev N_plus : List Str := ["one", "other"]
theorem S_plus : FnScope ["one", "other"] ["one", "other"] (defScope st_plus) := ⟨rfl, rfl, rfl, by decide +kernel, rfl, by decide +kernel, by decide +kernel⟩
def b_plus : SF := (sRet (xTup (aCons (xOp oAdd (xOp oIx (xVar 0) (xC (.int 0))) (xOp oIx (xVar 1) (xC (.int 0)))) (aCons (xOp oAdd (xOp oIx (xVar 0) (xC (.int 1))) (xOp oIx (xVar 1) (xC (.int 1)))) aNil))))
def F_plus : FD := clos (fnD 2 2 b_plus)
theorem ok_plus {P : Program} {w : World} {K : PySem.W.Frag} {mg : Str → Option Value} {base : Heap} (y : Hq P K mg) : FnB P w K mg base 1 (He.ga K "plus") ["one", "other"] F_plus := by
  obtain ⟨fd, Fd⟩ := hy_def y 27 (d := d_plus)
  refine (FnB.of Fd S_plus (fun _ _ _ _ _ _ us hl => match us, hl with | [_, _], _ => rfl) fun cdv A outer s H E hr X hX tk hp => ?_).clos
  subst hX
  exact (dss_one (ds_ret (d_tup (da_cons (d_add (d_ix (d_var (pv 0)) d_int) (d_ix (d_var (pv 1)) d_int)) (da_cons (d_add (d_ix (d_var (pv 0)) d_int) (d_ix (d_var (pv 1)) d_int)) da_nil)))))

/-! turned -/
abbrev N_turned : List Str := ["place", "many", "x", "y"]
theorem S_turned : FnScope ["place", "many", "x", "y"] ["place", "many"] (defScope st_turned) := ⟨rfl, rfl, rfl, by decide +kernel, rfl, by decide +kernel, by decide +kernel⟩
def b_turned : SF := (sSeq (sAsg (xVar 0) (tgT 2 (tgCons (tgN 2) (tgCons (tgN 3) tgNil)))) (sRet (xOp oIx (xTup (aCons (xTup (aCons (xVar 2) (aCons (xVar 3) aNil))) (aCons (xTup (aCons (xUn oNeg (xVar 3)) (aCons (xVar 2) aNil))) (aCons (xTup (aCons (xUn oNeg (xVar 2)) (aCons (xUn oNeg (xVar 3)) aNil))) (aCons (xTup (aCons (xVar 3) (aCons (xUn oNeg (xVar 2)) aNil))) aNil))))) (xOp oMod (xVar 1) (xC (.int 4))))))
def F_turned : FD := clos (fnD 2 4 b_turned)
theorem ok_turned {P : Program} {w : World} {K : PySem.W.Frag} {mg : Str → Option Value} {base : Heap} (y : Hq P K mg) : FnB P w K mg base 1 (He.ga K "turned") ["place", "many"] F_turned := by
  obtain ⟨fd, Fd⟩ := hy_def y 28 (d := d_turned)
  refine (FnB.of Fd S_turned (fun _ _ _ _ _ _ us hl => match us, hl with | [_, _], _ => rfl) fun cdv A outer s H E hr X hX tk hp => ?_).clos
  subst hX
  exact (dss_cons (ds_asg (d_var (pv 0)) (dg_tup rfl (dgs_cons (dg_n (pg_name (i := 2) S_turned.nd rfl (Or.inl rfl))) (dgs_cons (dg_n (pg_name (i := 3) S_turned.nd rfl (Or.inl rfl))) dgs_nil)))) (dss_one (ds_ret (d_ix (d_tup (da_cons (d_tup (da_cons (d_var (pv 2)) (da_cons (d_var (pv 3)) da_nil))) (da_cons (d_tup (da_cons (d_neg (d_var (pv 3))) (da_cons (d_var (pv 2)) da_nil))) (da_cons (d_tup (da_cons (d_neg (d_var (pv 2))) (da_cons (d_neg (d_var (pv 3))) da_nil))) (da_cons (d_tup (da_cons (d_var (pv 3)) (da_cons (d_neg (d_var (pv 2))) da_nil))) da_nil))))) (d_mod (d_var (pv 1)) d_int)))))

/-! Pen.go -/
abbrev N_Pen_go : List Str := ["self", "way", "turns"]
theorem S_Pen_go : FnScope ["self", "way", "turns"] ["self", "way", "turns"] (defScope st_Pen_go) := ⟨rfl, rfl, rfl, by decide +kernel, rfl, by decide +kernel, by decide +kernel⟩
def b_Pen_go : SF := (sSeq (sFldSet "Pen" "place" (xVar 0) (xCall F_plus (aCons (xFld "Pen" "place" (xVar 0)) (aCons (xCall F_turned (aCons (xVar 1) (aCons (xFld "Pen" "heading" (xVar 0)) aNil))) aNil)))) (sFldSet "Pen" "heading" (xVar 0) (xOp oMod (xOp oAdd (xFld "Pen" "heading" (xVar 0)) (xVar 2)) (xC (.int 4)))))
def F_Pen_go : FD := clos (fnD 3 3 b_Pen_go)
theorem ok_Pen_go {P : Program} {w : World} {K : PySem.W.Frag} {mg : Str → Option Value} {base : Heap} (y : Hq P K mg) : FnB P w K mg base 2 (He.ma K (He.ga K "Pen") "go") ["self", "way", "turns"] F_Pen_go := by
  obtain ⟨fd, Fd⟩ := hy_def y 29 (d := d_Pen_go)
  have g_plus := ok_plus (P := P) (w := w) (base := base) y
  have g_turned := ok_turned (P := P) (w := w) (base := base) y
  refine (FnB.of Fd S_Pen_go (fun _ _ _ _ _ _ us hl => match us, hl with | [_, _, _], _ => rfl) fun cdv A outer s H E hr X hX tk hp => ?_).clos
  subst hX
  exact (dss_cons (ds_fld (C := "Pen") (hy_cls y 31) (hy_noat y 34) (d_var (pv 0)) (c_call g_plus hr (by decide) (hy_glo y 36) tk (da_cons (d_fld (C' := "Pen") (d_var (pv 0)) (hy_cls y 31) (hy_noat y 34)) (da_cons (c_call g_turned hr (by decide) (hy_glo y 35) tk (da_cons (d_var (pv 1)) (da_cons (d_fld (C' := "Pen") (d_var (pv 0)) (hy_cls y 31) (hy_noat y 33)) da_nil))) da_nil)))) (dss_one (ds_fld (C := "Pen") (hy_cls y 31) (hy_noat y 33) (d_var (pv 0)) (d_mod (d_add (d_fld (C' := "Pen") (d_var (pv 0)) (hy_cls y 31) (hy_noat y 33)) (d_var (pv 2))) d_int))))

/-! quarters -/
abbrev N_quarters : List Str := ["item"]
theorem S_quarters : FnScope ["item"] ["item"] (defScope st_quarters) := ⟨rfl, rfl, rfl, by decide +kernel, rfl, by decide +kernel, by decide +kernel⟩
def b_quarters : SF := (sRet (xIf (xT (xOp oEq (xVar 0) (xC c_LEFT))) (xC (.int 1)) (xC (.int 3))))
def F_quarters : FD := clos (fnD 1 1 b_quarters)
theorem ok_quarters {P : Program} {w : World} {K : PySem.W.Frag} {mg : Str → Option Value} {base : Heap} (y : Hq P K mg) : FnB P w K mg base 1 (He.ga K "quarters") ["item"] F_quarters := by
  obtain ⟨fd, Fd⟩ := hy_def y 30 (d := d_quarters)
  refine (FnB.of Fd S_quarters (fun _ _ _ _ _ _ us hl => match us, hl with | [_], _ => rfl) fun cdv A outer s H E hr X hX tk hp => ?_).clos
  subst hX
  exact (dss_one (ds_ret (d_if (d_cmpT (op_eqD (room_u hr)) s_eq (d_var (pv 0)) (c_con (hy_con y 3)) (by rfl)) d_int d_int)))

/-! Pen.mark -/
abbrev N_Pen_mark : List Str := ["self", "item"]
theorem S_Pen_mark : FnScope ["self", "item"] ["self", "item"] (defScope st_Pen_mark) := ⟨rfl, rfl, rfl, by decide +kernel, rfl, by decide +kernel, by decide +kernel⟩
def b_Pen_mark : SF := (sIf (xT (xOp oEq (xVar 1) (xC c_OUT))) (sExpr (xBM oAppend (xFld "Pen" "stands" (xVar 0)) (aCons (xTup (aCons (xFld "Pen" "place" (xVar 0)) (aCons (xFld "Pen" "heading" (xVar 0)) aNil))) aNil))) (sIf (xT (xOp oEq (xVar 1) (xC c_BACK))) (sAsg (xBM0 oPop (xFld "Pen" "stands" (xVar 0))) (tgT 2 (tgCons (tgF "Pen" "place" (xVar 0)) (tgCons (tgF "Pen" "heading" (xVar 0)) tgNil)))) (sFldSet "Pen" "heading" (xVar 0) (xOp oMod (xOp oAdd (xFld "Pen" "heading" (xVar 0)) (xCall F_quarters (aCons (xVar 1) aNil))) (xC (.int 4))))))
def F_Pen_mark : FD := clos (fnD 2 2 b_Pen_mark)
theorem ok_Pen_mark {P : Program} {w : World} {K : PySem.W.Frag} {mg : Str → Option Value} {base : Heap} (y : Hq P K mg) : FnB P w K mg base 2 (He.ma K (He.ga K "Pen") "mark") ["self", "item"] F_Pen_mark := by
  obtain ⟨fd, Fd⟩ := hy_def y 31 (d := d_Pen_mark)
  have g_quarters := ok_quarters (P := P) (w := w) (base := base) y
  refine (FnB.of Fd S_Pen_mark (fun _ _ _ _ _ _ us hl => match us, hl with | [_, _], _ => rfl) fun cdv A outer s H E hr X hX tk hp => ?_).clos
  subst hX
  exact (dss_one (ds_if (d_cmpT (op_eqD (room_u hr)) s_eq (d_var (pv 1)) (c_con (hy_con y 1)) (by rfl)) (dss_one (ds_expr (d_append (d_fld (C' := "Pen") (d_var (pv 0)) (hy_cls y 31) (hy_noat y 32)) (da_cons (d_tup (da_cons (d_fld (C' := "Pen") (d_var (pv 0)) (hy_cls y 31) (hy_noat y 34)) (da_cons (d_fld (C' := "Pen") (d_var (pv 0)) (hy_cls y 31) (hy_noat y 33)) da_nil))) da_nil)))) (dss_one (ds_if (d_cmpT (op_eqD (room_u hr)) s_eq (d_var (pv 1)) (c_con (hy_con y 0)) (by rfl)) (dss_one (ds_asg (d_pop (d_fld (C' := "Pen") (d_var (pv 0)) (hy_cls y 31) (hy_noat y 32))) (dg_tup rfl (dgs_cons (dg_fld (W := wE E) (C := "Pen") (hy_cls y 31) (hy_noat y 34) (d_var (pv 0))) (dgs_cons (dg_fld (W := wE E) (C := "Pen") (hy_cls y 31) (hy_noat y 33) (d_var (pv 0))) dgs_nil))))) (dss_one (ds_fld (C := "Pen") (hy_cls y 31) (hy_noat y 33) (d_var (pv 0)) (d_mod (d_add (d_fld (C' := "Pen") (d_var (pv 0)) (hy_cls y 31) (hy_noat y 33)) (c_call g_quarters hr (by decide) (hy_glo y 37) tk (da_cons (d_var (pv 1)) da_nil))) d_int)))))))

/-! strokes_of -/
abbrev N_strokes_of : List Str := ["word", "pen", "found", "item"]
theorem S_strokes_of : FnScope ["word", "pen", "found", "item"] ["word"] (defScope st_strokes_of) := ⟨rfl, rfl, rfl, by decide +kernel, rfl, by decide +kernel, by decide +kernel⟩
def l_strokes_of_0 : SF := (sIf (xT (xCall F_is_letter (aCons (xVar 3) aNil))) (sSeq (sExpr (xBM oAppend (xVar 2) (aCons (xOp oAdd (xFld "Pen" "place" (xVar 1)) (xTup (aCons (xFld "Pen" "heading" (xVar 1)) (aCons (xVar 3) aNil)))) aNil))) (sExpr (xMeth "Pen" "go" F_Pen_go (xVar 1) (aCons (xOp oIx (xC c_HEADINGS) (xC (.int 0))) (aCons (xC (.int 0)) aNil))))) (sExpr (xMeth "Pen" "mark" F_Pen_mark (xVar 1) (aCons (xVar 3) aNil))))
def b_strokes_of : SF := (sSeq (sPar 1 2 (aCons (xMakeM "Pen" F_Pen_init (aCons (xTup (aCons (xC (.int 0)) (aCons (xC (.int 0)) aNil))) (aCons (xC (.int 0)) aNil))) (aCons (xLstM aNil) aNil))) (sSeq (sFor (xVar 0) (tgN 3) l_strokes_of_0) (sRet (xVar 2))))
def F_strokes_of : FD := clos (fnD 1 4 b_strokes_of)
theorem ok_strokes_of {P : Program} {w : World} {K : PySem.W.Frag} {mg : Str → Option Value} {base : Heap} (y : Hq P K mg) : FnB P w K mg base 3 (He.ga K "strokes_of") ["word"] F_strokes_of := by
  obtain ⟨fd, Fd⟩ := hy_def y 32 (d := d_strokes_of)
  have g_is_letter := ok_is_letter (P := P) (w := w) (base := base) y
  have g_Pen_go := ok_Pen_go (P := P) (w := w) (base := base) y
  have g_Pen_mark := ok_Pen_mark (P := P) (w := w) (base := base) y
  have g_Pen_init := ok_Pen_init (P := P) (w := w) (base := base) y
  refine (FnB.of Fd S_strokes_of (fun _ _ _ _ _ _ us hl => match us, hl with | [_], _ => rfl) fun cdv A outer s H E hr X hX tk hp => ?_).clos
  subst hX
  exact (dss_cons (ds_par (i := 1) (j := 2) rfl S_strokes_of.nd rfl rfl (by decide) rfl rfl (da_cons (c_makeM (C' := "Pen") (hy_mkr y 40) g_Pen_init hr (by decide) (hy_glo y 41) tk (da_cons (d_tup (da_cons d_int (da_cons d_int da_nil))) (da_cons d_int da_nil))) (da_cons (d_lstM da_nil) da_nil))) (dss_cons (ds_for hp rfl (d_var (pv 0)) (dg_n (pg_name (i := 3) S_strokes_of.nd rfl (Or.inl rfl))) (dss_one (ds_if (d_val (c_call g_is_letter hr (by decide) (hy_glo y 11) tk (da_cons (d_var (pv 3)) da_nil))) (dss_cons (ds_expr (d_append (d_var (pv 2)) (da_cons (d_add (d_fld (C' := "Pen") (d_var (pv 1)) (hy_cls y 31) (hy_noat y 34)) (d_tup (da_cons (d_fld (C' := "Pen") (d_var (pv 1)) (hy_cls y 31) (hy_noat y 33)) (da_cons (d_var (pv 3)) da_nil)))) da_nil))) (dss_one (ds_expr (c_meth (C' := "Pen") (d_var (pv 1)) (hy_cls y 31) (hy_meth y 38) g_Pen_go hr (by decide) tk (da_cons (d_ix (c_con (hy_con y 8)) d_int) (da_cons d_int da_nil)))))) (dss_one (ds_expr (c_meth (C' := "Pen") (d_var (pv 1)) (hy_cls y 31) (hy_meth y 39) g_Pen_mark hr (by decide) tk (da_cons (d_var (pv 3)) da_nil))))))) (dss_one (ds_ret (d_var (pv 2))))))

/-! word_in -/
abbrev N_word_in : List Str := ["book", "age", "word", "turn"]
theorem S_word_in : FnScope ["book", "age", "word", "turn"] ["book", "age"] (defScope st_word_in) := ⟨rfl, rfl, rfl, by decide +kernel, rfl, by decide +kernel, by decide +kernel⟩
def l_word_in_0 : SF := (sAsg (xCall F_grown (aCons (xVar 0) (aCons (xVar 2) aNil))) (tgN 2))
def b_word_in : SF := (sSeq (sAsg (xOp oIx (xVar 0) (xC (.int 1))) (tgN 2)) (sSeq (sForR rng1 (aCons (xVar 1) aNil) (tgN 3) l_word_in_0) (sRet (xVar 2))))
def F_word_in : FD := clos (fnD 2 4 b_word_in)
theorem ok_word_in {P : Program} {w : World} {K : PySem.W.Frag} {mg : Str → Option Value} {base : Heap} (y : Hq P K mg) : FnB P w K mg base 3 (He.ga K "word_in") ["book", "age"] F_word_in := by
  obtain ⟨fd, Fd⟩ := hy_def y 33 (d := d_word_in)
  have g_grown := ok_grown (P := P) (w := w) (base := base) y
  refine (FnB.of Fd S_word_in (fun _ _ _ _ _ _ us hl => match us, hl with | [_, _], _ => rfl) fun cdv A outer s H E hr X hX tk hp => ?_).clos
  subst hX
  exact (dss_cons (ds_set (i := 2) S_word_in.nd rfl (Or.inl rfl) (d_ix (d_var (pv 0)) d_int)) (dss_cons (ds_forR1 hp rfl (hy_free y 10) (da_cons (d_var (pv 1)) da_nil) (dg_n (pg_name (i := 3) S_word_in.nd rfl (Or.inl rfl))) (dss_one (ds_set (i := 2) S_word_in.nd rfl (Or.inl rfl) (c_call g_grown hr (by decide) (hy_glo y 24) tk (da_cons (d_var (pv 0)) (da_cons (d_var (pv 2)) da_nil)))))) (dss_one (ds_ret (d_var (pv 2))))))

/-! drawing -/
abbrev N_drawing : List Str := ["book", "age"]
theorem S_drawing : FnScope ["book", "age"] ["book", "age"] (defScope st_drawing) := ⟨rfl, rfl, rfl, by decide +kernel, rfl, by decide +kernel, by decide +kernel⟩
def b_drawing : SF := (sSeq (sExpr (xCall F_need_book (aCons (xVar 0) aNil))) (sSeq (sExpr (xCall F_need_number (aCons (xVar 1) (aCons (xC (.int 0)) (aCons (xC c_MOST_AGE) aNil))))) (sRet (xCB oTuple (aCons (xCall F_strokes_of (aCons (xCall F_word_in (aCons (xVar 0) (aCons (xVar 1) aNil))) aNil)) aNil)))))
def F_drawing : FD := clos (fnD 2 2 b_drawing)
theorem ok_drawing {P : Program} {w : World} {K : PySem.W.Frag} {mg : Str → Option Value} {base : Heap} (y : Hq P K mg) : FnB P w K mg base 5 (He.ga K "drawing") ["book", "age"] F_drawing := by
  obtain ⟨fd, Fd⟩ := hy_def y 34 (d := d_drawing)
  have g_strokes_of := ok_strokes_of (P := P) (w := w) (base := base) y
  have g_word_in := ok_word_in (P := P) (w := w) (base := base) y
  have g_need_number := ok_need_number (P := P) (w := w) (base := base) y
  have g_need_book := ok_need_book (P := P) (w := w) (base := base) y
  refine (FnB.of Fd S_drawing (fun _ _ _ _ _ _ us hl => match us, hl with | [_, _], _ => rfl) fun cdv A outer s H E hr X hX tk hp => ?_).clos
  subst hX
  exact (dss_cons (ds_expr (c_call g_need_book hr (by decide) (hy_glo y 22) tk (da_cons (d_var (pv 0)) da_nil))) (dss_cons (ds_expr (c_call g_need_number hr (by decide) (hy_glo y 25) tk (da_cons (d_var (pv 1)) (da_cons d_int (da_cons (c_con (hy_con y 9)) da_nil))))) (dss_one (ds_ret (d_tuple (hy_free y 7) (da_cons (c_call g_strokes_of hr (by decide) (hy_glo y 43) tk (da_cons (c_call g_word_in hr (by decide) (hy_glo y 42) tk (da_cons (d_var (pv 0)) (da_cons (d_var (pv 1)) da_nil))) da_nil)) da_nil))))))

/-! _law_even_word -/
abbrev N_law_even_word : List Str := ["_law_row", "_law_letters", "_law_move", "_law_steps", "_law_way", "_law_found", "_law_heading", "_law_step", "_law_many"]
theorem S_law_even_word : FnScope ["_law_row", "_law_letters", "_law_move", "_law_steps", "_law_way", "_law_found", "_law_heading", "_law_step", "_law_many"] ["_law_row", "_law_letters", "_law_move"] (defScope st_law_even_word) := ⟨rfl, rfl, rfl, by decide +kernel, rfl, by decide +kernel, by decide +kernel⟩
def t_law_even_word_0 : TF := (xT (xOp oNe (xVar 3) (xLst aNil)))
def l_law_even_word_1 : SF := (sSeq (sAsg (xBM oPopAt (xVar 3) (aCons (xCall F_law_taken (aCons (xVar 0) (aCons (xCB oLen (aCons (xVar 3) aNil)) aNil))) aNil)) (tgN 7)) (sSeq (sAsg (xOp oMod (xCB oInt (aCons (xOp oSub (xVar 7) (xVar 6)) aNil)) (xC (.int 4))) (tgN 8)) (sSeq (sAsg (xOp oAdd (xOp oAdd (xVar 5) (xIf (xT (xOp oEq (xVar 8) (xC (.int 3)))) (xLst (aCons (xC (.str "-")) aNil)) (xOp oMul (xLst (aCons (xC (.str "+")) aNil)) (xVar 8)))) (xLst (aCons (xCall F_law_taken (aCons (xVar 0) (aCons (xVar 1) aNil))) aNil))) (tgN 5)) (sAsg (xVar 7) (tgN 6)))))
def b_law_even_word : SF := (sSeq (sAsg (xIf (xT (xOp oGt (xOp oIx (xVar 2) (xC (.int 0))) (xC (.int 0)))) (xOp oMul (xLst (aCons (xC (.int 0)) aNil)) (xCB oAbs (aCons (xOp oIx (xVar 2) (xC (.int 0))) aNil))) (xOp oMul (xLst (aCons (xC (.int 2)) aNil)) (xCB oAbs (aCons (xOp oIx (xVar 2) (xC (.int 0))) aNil)))) (tgN 3)) (sSeq (sAsg (xOp oAddM (xVar 3) (xIf (xT (xOp oGt (xOp oIx (xVar 2) (xC (.int 1))) (xC (.int 0)))) (xOp oMul (xLst (aCons (xC (.int 1)) aNil)) (xCB oAbs (aCons (xOp oIx (xVar 2) (xC (.int 1))) aNil))) (xOp oMul (xLst (aCons (xC (.int 3)) aNil)) (xCB oAbs (aCons (xOp oIx (xVar 2) (xC (.int 1))) aNil))))) (tgN 3)) (sSeq (sIf (xT (xOp oEq (xCall F_law_taken (aCons (xVar 0) (aCons (xC (.int 3)) aNil))) (xC (.int 0)))) (sSeq (sAsg (xCall F_law_taken (aCons (xVar 0) (aCons (xC (.int 4)) aNil))) (tgN 4)) (sAsg (xOp oAddM (xVar 3) (xLst (aCons (xVar 4) (aCons (xOp oMod (xCB oInt (aCons (xOp oAdd (xVar 4) (xC (.int 2))) aNil)) (xC (.int 4))) aNil)))) (tgN 3))) sNext) (sSeq (sPar 5 6 (aCons (xLst aNil) (aCons (xC (.int 0)) aNil))) (sSeq (sWhile 1000 t_law_even_word_0 l_law_even_word_1) (sSeq (sAsg (xOp oMod (xCB oInt (aCons (xOp oSub (xC (.int 0)) (xVar 6)) aNil)) (xC (.int 4))) (tgN 8)) (sRet (xCB oTuple (aCons (xOp oAdd (xVar 5) (xIf (xT (xOp oEq (xVar 8) (xC (.int 3)))) (xLst (aCons (xC (.str "-")) aNil)) (xOp oMul (xLst (aCons (xC (.str "+")) aNil)) (xVar 8)))) aNil)))))))))
def F_law_even_word : FD := clos (fnD 3 9 b_law_even_word)
theorem ok_law_even_word {P : Program} {w : World} {K : PySem.W.Frag} {mg : Str → Option Value} {base : Heap} (y : Hq P K mg) : FnB P w K mg base 2 (He.ga K "_law_even_word") ["_law_row", "_law_letters", "_law_move"] F_law_even_word := by
  obtain ⟨fd, Fd⟩ := hy_def y 35 (d := d_law_even_word)
  have g_law_taken := ok_law_taken (P := P) (w := w) (base := base) y
  refine (FnB.of Fd S_law_even_word (fun _ _ _ _ _ _ us hl => match us, hl with | [_, _, _], _ => rfl) fun cdv A outer s H E hr X hX tk hp => ?_).clos
  subst hX
  exact (dss_cons (ds_set (i := 3) S_law_even_word.nd rfl (Or.inl rfl) (d_if (d_cmpT op_gt s_gt (d_ix (d_var (pv 2)) d_int) d_int (by rfl)) (d_mul (d_lst (da_cons d_int da_nil)) (d_abs (hy_free y 44) (da_cons (d_ix (d_var (pv 2)) d_int) da_nil))) (d_mul (d_lst (da_cons d_int da_nil)) (d_abs (hy_free y 44) (da_cons (d_ix (d_var (pv 2)) d_int) da_nil))))) (dss_cons (ds_set (i := 3) S_law_even_word.nd rfl (Or.inl rfl) (d_addM (d_var (pv 3)) (d_if (d_cmpT op_gt s_gt (d_ix (d_var (pv 2)) d_int) d_int (by rfl)) (d_mul (d_lst (da_cons d_int da_nil)) (d_abs (hy_free y 44) (da_cons (d_ix (d_var (pv 2)) d_int) da_nil))) (d_mul (d_lst (da_cons d_int da_nil)) (d_abs (hy_free y 44) (da_cons (d_ix (d_var (pv 2)) d_int) da_nil)))))) (dss_cons (ds_if (d_cmpT (op_eqD (room_u hr)) s_eq (c_call g_law_taken hr (by decide) (hy_glo y 2) tk (da_cons (d_var (pv 0)) (da_cons d_int da_nil))) d_int (by rfl)) (dss_cons (ds_set (i := 4) S_law_even_word.nd rfl (Or.inl rfl) (c_call g_law_taken hr (by decide) (hy_glo y 2) tk (da_cons (d_var (pv 0)) (da_cons d_int da_nil)))) (dss_one (ds_set (i := 3) S_law_even_word.nd rfl (Or.inl rfl) (d_addM (d_var (pv 3)) (d_lst (da_cons (d_var (pv 4)) (da_cons (d_mod (d_intc (hy_free y 0) (da_cons (d_add (d_var (pv 4)) d_int) da_nil)) d_int) da_nil))))))) dss_nil) (dss_cons (ds_par (i := 5) (j := 6) rfl S_law_even_word.nd rfl rfl (by decide) rfl rfl (da_cons (d_lst da_nil) (da_cons d_int da_nil))) (dss_cons (ds_while 1000 hp (d_cmpT (op_neD (room_u hr)) s_ne (d_var (pv 3)) (d_lst da_nil) (by rfl)) (dss_cons (ds_set (i := 7) S_law_even_word.nd rfl (Or.inl rfl) (d_popAt (d_var (pv 3)) (da_cons (c_call g_law_taken hr (by decide) (hy_glo y 2) tk (da_cons (d_var (pv 0)) (da_cons (d_len (hy_free y 1) (da_cons (d_var (pv 3)) da_nil)) da_nil))) da_nil))) (dss_cons (ds_set (i := 8) S_law_even_word.nd rfl (Or.inl rfl) (d_mod (d_intc (hy_free y 0) (da_cons (d_sub (d_var (pv 7)) (d_var (pv 6))) da_nil)) d_int)) (dss_cons (ds_set (i := 5) S_law_even_word.nd rfl (Or.inl rfl) (d_add (d_add (d_var (pv 5)) (d_if (d_cmpT (op_eqD (room_u hr)) s_eq (d_var (pv 8)) d_int (by rfl)) (d_lst (da_cons d_str da_nil)) (d_mul (d_lst (da_cons d_str da_nil)) (d_var (pv 8))))) (d_lst (da_cons (c_call g_law_taken hr (by decide) (hy_glo y 2) tk (da_cons (d_var (pv 0)) (da_cons (d_var (pv 1)) da_nil))) da_nil)))) (dss_one (ds_set (i := 6) S_law_even_word.nd rfl (Or.inl rfl) (d_var (pv 7)))))))) (dss_cons (ds_set (i := 8) S_law_even_word.nd rfl (Or.inl rfl) (d_mod (d_intc (hy_free y 0) (da_cons (d_sub d_int (d_var (pv 6))) da_nil)) d_int)) (dss_one (ds_ret (d_tuple (hy_free y 7) (da_cons (d_add (d_var (pv 5)) (d_if (d_cmpT (op_eqD (room_u hr)) s_eq (d_var (pv 8)) d_int (by rfl)) (d_lst (da_cons d_str da_nil)) (d_mul (d_lst (da_cons d_str da_nil)) (d_var (pv 8))))) da_nil))))))))))

/-! _law_even_book -/
abbrev N_law_even_book : List Str := ["_law_row", "_law_letters", "_law_move", "_law_words", "_law_start", "_law_k"]
theorem S_law_even_book : FnScope ["_law_row", "_law_letters", "_law_move", "_law_words", "_law_start", "_law_k"] ["_law_row"] (defScope st_law_even_book) := ⟨rfl, rfl, rfl, by decide +kernel, rfl, by decide +kernel, by decide +kernel⟩
def e_law_even_book_0 : EF := (xCall F_law_branched (aCons (xVar 0) (aCons (xCall F_law_even_word (aCons (xVar 0) (aCons (xVar 1) (aCons (xVar 2) aNil)))) (aCons (xVar 1) aNil))))
def b_law_even_book : SF := (sSeq (sAsg (xTup (aCons (xOp oAdd (xC (.int 1)) (xCall F_law_taken (aCons (xVar 0) (aCons (xC (.int 2)) aNil)))) (aCons (xCall F_law_pick (aCons (xVar 0) (aCons (xLst (aCons (xTup (aCons (xC (.int 1)) (aCons (xC (.int 1)) aNil))) (aCons (xTup (aCons (xC (.int 1)) (aCons (xC (.int 1)) aNil))) (aCons (xTup (aCons (xC (.int 2)) (aCons (xC (.int 0)) aNil))) (aCons (xTup (aCons (xC (.int 2)) (aCons (xC (.int 1)) aNil))) (aCons (xTup (aCons (xC (.int 1)) (aCons (xUn oNeg (xC (.int 1))) aNil))) (aCons (xTup (aCons (xUn oNeg (xC (.int 1))) (aCons (xC (.int 1)) aNil))) (aCons (xTup (aCons (xC (.int 0)) (aCons (xC (.int 2)) aNil))) (aCons (xTup (aCons (xC (.int 1)) (aCons (xC (.int 2)) aNil))) (aCons (xTup (aCons (xC (.int 3)) (aCons (xC (.int 0)) aNil))) aNil)))))))))) aNil))) aNil))) (tgT 2 (tgCons (tgN 1) (tgCons (tgN 2) tgNil)))) (sSeq (sAsg (xCB oTuple (aCons (xLcR letGo rng1 [5] (aCons (xVar 1) aNil) (ogN 5) tYesD e_law_even_book_0) aNil)) (tgN 3)) (sSeq (sAsg (xCall F_law_pick (aCons (xVar 0) (aCons (xLst (aCons (xTup (aCons (xC (.int 0)) aNil)) (aCons (xTup (aCons (xC (.int 0)) aNil)) (aCons (xTup (aCons (xC (.int 0)) (aCons (xC (.str "+")) (aCons (xC (.int 0)) aNil)))) (aCons (xTup (aCons (xC (.int 0)) (aCons (xC (.str "+")) (aCons (xC (.int 0)) (aCons (xC (.str "+")) (aCons (xC (.int 0)) (aCons (xC (.str "+")) (aCons (xC (.int 0)) aNil)))))))) (aCons (xTup (aCons (xOp oSub (xVar 1) (xC (.int 1))) (aCons (xC (.int 0)) aNil))) aNil)))))) aNil))) (tgN 4)) (sRet (xTup (aCons (xTup (aCons (xVar 3) (aCons (xVar 4) aNil))) (aCons (xVar 2) aNil)))))))
def F_law_even_book : FD := clos (fnD 1 6 b_law_even_book)
theorem ok_law_even_book {P : Program} {w : World} {K : PySem.W.Frag} {mg : Str → Option Value} {base : Heap} (y : Hq P K mg) : FnB P w K mg base 4 (He.ga K "_law_even_book") ["_law_row"] F_law_even_book := by
  obtain ⟨fd, Fd⟩ := hy_def y 36 (d := d_law_even_book)
  have g_law_pick := ok_law_pick (P := P) (w := w) (base := base) y
  have g_law_branched := ok_law_branched (P := P) (w := w) (base := base) y
  have g_law_even_word := ok_law_even_word (P := P) (w := w) (base := base) y
  have g_law_taken := ok_law_taken (P := P) (w := w) (base := base) y
  refine (FnB.of Fd S_law_even_book (fun _ _ _ _ _ _ us hl => match us, hl with | [_], _ => rfl) fun cdv A outer s H E hr X hX tk hp => ?_).clos
  subst hX
  exact (dss_cons (ds_asg (d_tup (da_cons (d_add d_int (c_call g_law_taken hr (by decide) (hy_glo y 2) tk (da_cons (d_var (pv 0)) (da_cons d_int da_nil)))) (da_cons (c_call g_law_pick hr (by decide) (hy_glo y 26) tk (da_cons (d_var (pv 0)) (da_cons (d_lst (da_cons (d_tup (da_cons d_int (da_cons d_int da_nil))) (da_cons (d_tup (da_cons d_int (da_cons d_int da_nil))) (da_cons (d_tup (da_cons d_int (da_cons d_int da_nil))) (da_cons (d_tup (da_cons d_int (da_cons d_int da_nil))) (da_cons (d_tup (da_cons d_int (da_cons (d_neg d_int) da_nil))) (da_cons (d_tup (da_cons (d_neg d_int) (da_cons d_int da_nil))) (da_cons (d_tup (da_cons d_int (da_cons d_int da_nil))) (da_cons (d_tup (da_cons d_int (da_cons d_int da_nil))) (da_cons (d_tup (da_cons d_int (da_cons d_int da_nil))) da_nil)))))))))) da_nil))) da_nil))) (dg_tup rfl (dgs_cons (dg_n (pg_name (i := 1) S_law_even_book.nd rfl (Or.inr rfl))) (dgs_cons (dg_n (pg_name (i := 2) S_law_even_book.nd rfl (Or.inr rfl))) dgs_nil)))) (dss_cons (ds_set (i := 3) S_law_even_book.nd rfl (Or.inl rfl) (d_tuple (hy_free y 7) (da_cons (d_lcR1 (own := [("_law_k", 5)]) letGo_ok rfl S_law_even_book.nd (hy_free y 10) (da_cons (d_var (pv 1)) da_nil) (blkOk_by (N := N_law_even_book) (sc := defScope st_law_even_book) (own := [("_law_k", 5)]) (by decide +kernel)) (own_n (by decide)) (fun _ _ _ _ _ => pg_name (i := 5) S_law_even_book.nd rfl (Or.inl rfl)) (fun _ _ _ _ _ => dts_nil rfl) (fun _ _ _ _ _ => (c_call g_law_branched hr (by decide) (hy_glo y 28) takesN0 (da_cons (d_var (pv 0)) (da_cons (c_call g_law_even_word hr (by decide) (hy_glo y 45) takesN0 (da_cons (d_var (pv 0)) (da_cons (d_var (pv 1)) (da_cons (d_var (pv 2)) da_nil)))) (da_cons (d_var (pv 1)) da_nil)))))) da_nil))) (dss_cons (ds_set (i := 4) S_law_even_book.nd rfl (Or.inl rfl) (c_call g_law_pick hr (by decide) (hy_glo y 26) tk (da_cons (d_var (pv 0)) (da_cons (d_lst (da_cons (d_tup (da_cons d_int da_nil)) (da_cons (d_tup (da_cons d_int da_nil)) (da_cons (d_tup (da_cons d_int (da_cons d_str (da_cons d_int da_nil)))) (da_cons (d_tup (da_cons d_int (da_cons d_str (da_cons d_int (da_cons d_str (da_cons d_int (da_cons d_str (da_cons d_int da_nil)))))))) (da_cons (d_tup (da_cons (d_sub (d_var (pv 1)) d_int) (da_cons d_int da_nil))) da_nil)))))) da_nil)))) (dss_one (ds_ret (d_tup (da_cons (d_tup (da_cons (d_var (pv 3)) (da_cons (d_var (pv 4)) da_nil))) (da_cons (d_var (pv 2)) da_nil))))))))

/-! law -/
abbrev N_law : List Str := ["_law_script", "_law_row", "_law_book_here", "_law_turn", "_law_other", "_law_plain", "_law_back", "error", "_law_age_here", "_law_strokes", "_law_end", "_law_due", "_law_found", "_law_x", "_law_y", "_law_heading", "_law_letter", "_law_unit_here", "_law_way", "_law_many", "_law_told", "_law_words", "_law_word_here", "_law_item"]
theorem S_law : FnScope ["_law_script", "_law_row", "_law_book_here", "_law_turn", "_law_other", "_law_plain", "_law_back", "error", "_law_age_here", "_law_strokes", "_law_end", "_law_due", "_law_found", "_law_x", "_law_y", "_law_heading", "_law_letter", "_law_unit_here", "_law_way", "_law_many", "_law_told", "_law_words", "_law_word_here", "_law_item"] ["_law_script"] (defScope st_law) := ⟨rfl, rfl, rfl, by decide +kernel, rfl, by decide +kernel, by decide +kernel⟩
def e_law_0 : EF := (xCB oTuple (aCons (xVar 22) aNil))
def y_law_1 : SF := (sAsg (xCall F_sped (aCons (xVar 2) (aCons (xVar 19) aNil))) (tgN 20))
def e_law_2 : EF := (xCB oLen (aCons (xVar 22) aNil))
def u_law_3 : UF := fun a dx er => (sRet (xAndV (xIsE a dx er (("Branching", false) :: ("TooMany", true) :: []) (xVar 7)) (xAndV (xOp oEq (xXf a dx er "TooMany" "most" (xVar 7)) (xC (.int 40))) (xOp oGt (xCB oMaxL (aCons (xLcH letGo [22] (xVar 21) (ogN 22) tYesD e_law_2) aNil)) (xC (.int 40))))))
def e_law_4 : EF := (xCall F_law_grown (aCons (xTup (aCons (xOp oIx (xVar 2) (xC (.int 0))) (aCons (xTup (aCons (xVar 16) aNil)) aNil))) (aCons (xVar 19) aNil)))
def l_law_5 : SF := (sSeq (sAsg (xCall F_law_unit (aCons (xVar 15) aNil)) (tgN 17)) (sSeq (sAsg (xCall F_law_quarter (aCons (xTup (aCons (xOp oSub (xOp oAdd (xVar 13) (xOp oIx (xVar 17) (xC (.int 0)))) (xOp oIx (xVar 10) (xC (.int 0)))) (aCons (xOp oSub (xOp oAdd (xVar 14) (xOp oIx (xVar 17) (xC (.int 1)))) (xOp oIx (xVar 10) (xC (.int 1)))) aNil))) (aCons (xOp oSub (xOp oSub (xC (.int 0)) (xOp oIx (xVar 10) (xC (.int 2)))) (xC (.int 2))) aNil))) (tgN 18)) (sExpr (xBM oAppend (xVar 12) (aCons (xOp oAdd (xVar 18) (xTup (aCons (xOp oMod (xCB oInt (aCons (xOp oSub (xVar 15) (xOp oIx (xVar 10) (xC (.int 2)))) aNil)) (xC (.int 4))) (aCons (xVar 16) aNil)))) aNil)))))
def e_law_6 : EF := (xTup (aCons (xVar 13) (aCons (xOp oSub (xC (.int 0)) (xVar 14)) (aCons (xOp oMod (xCB oInt (aCons (xOp oSub (xC (.int 0)) (xVar 15)) aNil)) (xC (.int 4))) (aCons (xVar 16) aNil)))))
def e_law_7 : EF := (xUn oRevT (xVar 22))
def y_law_8 : SF := (sAsg (xCall F_backward (aCons (xVar 2) aNil)) (tgN 6))
def u_law_9 : UF := fun a dx er => (sAsg (xIf (xT (xIsE a dx er (("Branching", true) :: ("TooMany", false) :: []) (xVar 7))) (xC (.str "branching")) (xC (.str "other"))) (tgN 6))
def t_law_10 : TF := (xT (xOp oIn (xC (.str "[")) (xVar 22)))
def e_law_11 : EF := (xVar 22)
def e_law_12 : EF := (xDGet2 (xVar 3) (xVar 23) (xVar 23))
def e_law_13 : EF := (xCB oTuple (aCons (xLc letGo [23] (xVar 22) (ogN 23) tYesD e_law_12) aNil))
def b_law : SF := (sSeq (sAsg (xLstM (aCons (xVar 0) (aCons (xC (.int 0)) (aCons (xC (.int 11314)) (aCons (xC (.int 0)) aNil))))) (tgN 1)) (sSeq (sAsg (xCall F_law_pick (aCons (xVar 1) (aCons (xLst (aCons (xCall F_law_book (aCons (xVar 1) aNil)) (aCons (xCall F_law_kit (aCons (xVar 1) aNil)) (aCons (xOp oIx (xCall F_law_even_book (aCons (xVar 1) aNil)) (xC (.int 0))) aNil)))) aNil))) (tgN 2)) (sSeq (sAsg (xDisp [("+", "-"), ("-", "+")]) (tgN 3)) (sSeq (sAsg (xCB oTuple (aCons (xLc letGo [22] (xOp oAdd (xOp oIx (xVar 2) (xC (.int 0))) (xTup (aCons (xOp oIx (xVar 2) (xC (.int 1))) aNil))) (ogN 22) tYesD e_law_13) aNil)) (tgN 4)) (sSeq (sIf (xNot (xT (xCall (F_law_alike 6) (aCons (xCall F_mirrored (aCons (xVar 2) aNil)) (aCons (xTup (aCons (xSl (xVar 4) pNo (pSome (xUn oNeg (xC (.int 1))))) (aCons (xOp oIx (xVar 4) (xUn oNeg (xC (.int 1)))) aNil))) aNil))))) (sRet (xC (.bl false))) sNext) (sSeq (sPar 5 6 (aCons (xOp oEq (xLc letGo [22] (xOp oAdd (xOp oIx (xVar 2) (xC (.int 0))) (xTup (aCons (xOp oIx (xVar 2) (xC (.int 1))) aNil))) (ogN 22) t_law_10 e_law_11) (xLst aNil)) (aCons (xC .non) aNil))) (sSeq (sTry 7 (("Branching", true) :: ("TooMany", true) :: []) y_law_8 u_law_9) (sSeq (sIf (xNot (xT (xCall (F_law_alike 6) (aCons (xVar 6) (aCons (xIf (xT (xVar 5)) (xTup (aCons (xCB oTuple (aCons (xLc letGo [22] (xSl (xVar 4) pNo (pSome (xUn oNeg (xC (.int 1))))) (ogN 22) tYesD e_law_7) aNil)) (aCons (xUn oRevT (xOp oIx (xVar 4) (xUn oNeg (xC (.int 1))))) aNil))) (xC (.str "branching"))) aNil))))) (sRet (xC (.bl false))) sNext) (sSeq (sAsg (xCall F_law_taken (aCons (xVar 1) (aCons (xOp oAdd (xC (.int 1)) (xCall F_law_age (aCons (xVar 2) (aCons (xC (.int 200)) aNil)))) aNil))) (tgN 8)) (sSeq (sAsg (xCall F_law_drawn (aCons (xCall F_law_grown (aCons (xVar 2) (aCons (xVar 8) aNil))) aNil)) (tgT 2 (tgCons (tgN 9) (tgCons (tgN 10) tgNil)))) (sSeq (sAsg (xCB oTuple (aCons (xLc letGo [13, 14, 15, 16] (xVar 9) (ogT [13, 14, 15, 16]) tYesD e_law_6) aNil)) (tgN 11)) (sSeq (sIf (xNot (xT (xCall (F_law_alike 6) (aCons (xCall F_drawing (aCons (xCall F_mirrored (aCons (xVar 2) aNil)) (aCons (xVar 8) aNil))) (aCons (xVar 11) aNil))))) (sRet (xC (.bl false))) sNext) (sSeq (sAsg (xLstM aNil) (tgN 12)) (sSeq (sForI (xRevI (xVar 9)) (tgT 4 (tgCons (tgN 13) (tgCons (tgN 14) (tgCons (tgN 15) (tgCons (tgN 16) tgNil))))) l_law_5) (sSeq (sIf (xAnd (xT (xVar 5)) (xNot (xT (xCall (F_law_alike 6) (aCons (xCall F_drawing (aCons (xVar 6) (aCons (xVar 8) aNil))) (aCons (xCB oTuple (aCons (xVar 12) aNil)) aNil)))))) (sRet (xC (.bl false))) sNext) (sSeq (sAsg (xTup (aCons (xOp oAdd (xC (.int 1)) (xCall F_law_taken (aCons (xVar 1) (aCons (xC (.int 4)) aNil)))) (aCons (xC .non) aNil))) (tgT 2 (tgCons (tgN 19) (tgCons (tgN 20) tgNil)))) (sSeq (sAsg (xLcR letGo rng1 [16] (aCons (xCB oLen (aCons (xOp oIx (xVar 2) (xC (.int 0))) aNil)) aNil) (ogN 16) tYesD e_law_4) (tgN 21)) (sSeq (sTry 7 (("Branching", true) :: ("TooMany", true) :: []) y_law_1 u_law_3) (sRet (xCall (F_law_alike 6) (aCons (xVar 20) (aCons (xTup (aCons (xCB oTuple (aCons (xLc letGo [22] (xVar 21) (ogN 22) tYesD e_law_0) aNil)) (aCons (xOp oIx (xVar 2) (xC (.int 1))) aNil))) aNil))))))))))))))))))))))
def F_law : FD := clos (fnD 1 24 b_law)
theorem okL {P : Program} {w : World} {K : PySem.W.Frag} {mg : Str → Option Value} {base : Heap} (y : Hq P K mg) {fd : FuncData} (Fd : FunD K "law" "law" (defArgs st_law) (defBody st_law) (defScope st_law) [] [] (He.ga K "law") fd) : FnOk P w K mg base (L2N.CX P w) 7 (He.ga K "law") fd ["_law_script"] (spD K F_law) := by
  have g_law_alike := ok_law_alike (P := P) (w := w) (base := base) y 6
  have g_sped := ok_sped (P := P) (w := w) (base := base) y
  have g_law_grown := ok_law_grown (P := P) (w := w) (base := base) y
  have g_law_taken := ok_law_taken (P := P) (w := w) (base := base) y
  have g_drawing := ok_drawing (P := P) (w := w) (base := base) y
  have g_law_quarter := ok_law_quarter (P := P) (w := w) (base := base) y
  have g_law_unit := ok_law_unit (P := P) (w := w) (base := base) y
  have g_mirrored := ok_mirrored (P := P) (w := w) (base := base) y
  have g_law_drawn := ok_law_drawn (P := P) (w := w) (base := base) y
  have g_law_age := ok_law_age (P := P) (w := w) (base := base) y
  have g_backward := ok_backward (P := P) (w := w) (base := base) y
  have g_law_pick := ok_law_pick (P := P) (w := w) (base := base) y
  have g_law_even_book := ok_law_even_book (P := P) (w := w) (base := base) y
  have g_law_kit := ok_law_kit (P := P) (w := w) (base := base) y
  have g_law_book := ok_law_book (P := P) (w := w) (base := base) y
  refine clos_ok (fn_ok Fd S_law fun cdv A outer s H E hr X hX tk hp => ?_)
  subst hX
  exact (dss_cons (ds_set (i := 1) S_law.nd rfl (Or.inl rfl) (d_lstM (da_cons (d_var (pv 0)) (da_cons d_int (da_cons d_int (da_cons d_int da_nil)))))) (dss_cons (ds_set (i := 2) S_law.nd rfl (Or.inr rfl) (c_call g_law_pick hr (by decide) (hy_glo y 26) tk (da_cons (d_var (pv 1)) (da_cons (d_lst (da_cons (c_call g_law_book hr (by decide) (hy_glo y 59) tk (da_cons (d_var (pv 1)) da_nil)) (da_cons (c_call g_law_kit hr (by decide) (hy_glo y 58) tk (da_cons (d_var (pv 1)) da_nil)) (da_cons (d_ix (c_call g_law_even_book hr (by decide) (hy_glo y 57) tk (da_cons (d_var (pv 1)) da_nil)) d_int) da_nil)))) da_nil)))) (dss_cons (ds_set (i := 3) S_law.nd rfl (Or.inr rfl) (d_disp2 (by rfl))) (dss_cons (ds_set (i := 4) S_law.nd rfl (Or.inl rfl) (d_tuple (hy_free y 7) (da_cons (d_lc (own := [("_law_word_here", 22)]) letGo_ok rfl S_law.nd (d_add (d_ix (d_var (pv 2)) d_int) (d_tup (da_cons (d_ix (d_var (pv 2)) d_int) da_nil))) (blkOk_by (N := N_law) (sc := defScope st_law) (own := [("_law_word_here", 22)]) (by decide +kernel)) (own_n (by decide)) (fun _ _ _ _ _ => pg_name (i := 22) S_law.nd rfl (Or.inl rfl)) (fun _ _ _ _ _ => dts_nil rfl) (fun _ _ _ _ _ => (d_tuple (hy_free y 7) (da_cons (d_lc (own := [("_law_item", 23)]) letGo_ok rfl S_law.nd (d_var (pv 22)) (blkOk_by (N := N_law) (own := [("_law_item", 23)]) (by rfl)) (own_n (by decide)) (fun _ _ _ _ _ => pg_name (i := 23) S_law.nd rfl (Or.inl rfl)) (fun _ _ _ _ _ => dts_nil rfl) (fun _ _ _ _ _ => (d_dget2 (room_1 hr) (d_var (pv 3)) (d_var (pv 23)) (d_var (pv 23)) ⟨rfl, rfl, rfl, rfl⟩))) da_nil)))) da_nil))) (dss_cons (ds_if (d_notT (d_val (c_call g_law_alike hr (by decide) (hy_glo y 9) tk (da_cons (c_call g_mirrored hr (by decide) (hy_glo y 53) tk (da_cons (d_var (pv 2)) da_nil)) (da_cons (d_tup (da_cons (d_sl (d_var (pv 4)) do_none (do_some (d_neg d_int))) (da_cons (d_ix (d_var (pv 4)) (d_neg d_int)) da_nil))) da_nil))))) (dss_one (ds_ret d_bl)) dss_nil) (dss_cons (ds_par (i := 5) (j := 6) rfl S_law.nd rfl rfl (by decide) rfl rfl (da_cons (d_cmp (op_eqD (room_u hr)) s_eq (d_lc (own := [("_law_word_here", 22)]) letGo_ok rfl S_law.nd (d_add (d_ix (d_var (pv 2)) d_int) (d_tup (da_cons (d_ix (d_var (pv 2)) d_int) da_nil))) (blkOk_by (N := N_law) (sc := defScope st_law) (own := [("_law_word_here", 22)]) (by decide +kernel)) (own_n (by decide)) (fun _ _ _ _ _ => pg_name (i := 22) S_law.nd rfl (Or.inl rfl)) (fun _ _ _ _ _ => dts_one (d_cmpT (op_inA (room_u1 hr)) s_in d_str (d_var (pv 22)) (by rfl))) (fun _ _ _ _ _ => (d_var (pv 22)))) (d_lst da_nil) (by rfl)) (da_cons d_non da_nil))) (dss_cons (ds_try (i := 7) rfl rfl S_law.nd rfl rfl (hy_glo y 50) (cat_cons (hy_exm y 49) (cat_cons (hy_exm y 48) cat_nil)) tk (fun W pn xe tk hp => (dss_one (ds_set (i := 6) S_law.nd rfl (Or.inl rfl) (c_call g_backward hr (by decide) (hy_glo y 56) tk (da_cons (d_var (pv 2)) da_nil))))) (fun a oe cls dd pn hz hv er dx he hd => (dss_one (ds_set (i := 6) S_law.nd rfl (Or.inl rfl) (d_if (d_val (d_isE (c := .ref (He.ga K "Branching")) (cv := .ref (He.ga K "Branching")) hz hv he hd (ist_cons (hy_excC y 3) (hy_kit y 6) (ist_cons (hy_excC y 1) (hy_kit y 5) ist_nil)) (fun _ z => z) (hy_free y 3) (pe_glob rfl (hy_glo y 21) rfl (by decide)) (d_var (pv 7)))) d_str d_str))))) (dss_cons (ds_if (d_notT (d_val (c_call g_law_alike hr (by decide) (hy_glo y 9) tk (da_cons (d_var (pv 6)) (da_cons (d_if (d_val (d_var (pv 5))) (d_tup (da_cons (d_tuple (hy_free y 7) (da_cons (d_lc (own := [("_law_word_here", 22)]) letGo_ok rfl S_law.nd (d_sl (d_var (pv 4)) do_none (do_some (d_neg d_int))) (blkOk_by (N := N_law) (sc := defScope st_law) (own := [("_law_word_here", 22)]) (by decide +kernel)) (own_n (by decide)) (fun _ _ _ _ _ => pg_name (i := 22) S_law.nd rfl (Or.inl rfl)) (fun _ _ _ _ _ => dts_nil rfl) (fun _ _ _ _ _ => (d_revT (d_var (pv 22))))) da_nil)) (da_cons (d_revT (d_ix (d_var (pv 4)) (d_neg d_int))) da_nil))) d_str) da_nil))))) (dss_one (ds_ret d_bl)) dss_nil) (dss_cons (ds_set (i := 8) S_law.nd rfl (Or.inl rfl) (c_call g_law_taken hr (by decide) (hy_glo y 2) tk (da_cons (d_var (pv 1)) (da_cons (d_add d_int (c_call g_law_age hr (by decide) (hy_glo y 55) tk (da_cons (d_var (pv 2)) (da_cons d_int da_nil)))) da_nil)))) (dss_cons (ds_asg (c_call g_law_drawn hr (by decide) (hy_glo y 54) tk (da_cons (c_call g_law_grown hr (by decide) (hy_glo y 30) tk (da_cons (d_var (pv 2)) (da_cons (d_var (pv 8)) da_nil))) da_nil)) (dg_tup rfl (dgs_cons (dg_n (pg_name (i := 9) S_law.nd rfl (Or.inl rfl))) (dgs_cons (dg_n (pg_name (i := 10) S_law.nd rfl (Or.inl rfl))) dgs_nil)))) (dss_cons (ds_set (i := 11) S_law.nd rfl (Or.inl rfl) (d_tuple (hy_free y 7) (da_cons (d_lc (own := [("_law_x", 13), ("_law_y", 14), ("_law_heading", 15), ("_law_letter", 16)]) letGo_ok rfl S_law.nd (d_var (pv 9)) (blkOk_by (N := N_law) (sc := defScope st_law) (own := [("_law_x", 13), ("_law_y", 14), ("_law_heading", 15), ("_law_letter", 16)]) (by decide +kernel)) (own_t (is := [13, 14, 15, 16]) (by decide)) (fun _ _ _ _ _ => pg_tup rfl (pgs_cons (pg_name (i := 13) S_law.nd rfl (Or.inl rfl)) (pgs_cons (pg_name (i := 14) S_law.nd rfl (Or.inl rfl)) (pgs_cons (pg_name (i := 15) S_law.nd rfl (Or.inl rfl)) (pgs_cons (pg_name (i := 16) S_law.nd rfl (Or.inl rfl)) pgs_nil))))) (fun _ _ _ _ _ => dts_nil rfl) (fun _ _ _ _ _ => (d_tup (da_cons (d_var (pv 13)) (da_cons (d_sub d_int (d_var (pv 14))) (da_cons (d_mod (d_intc (hy_free y 0) (da_cons (d_sub d_int (d_var (pv 15))) da_nil)) d_int) (da_cons (d_var (pv 16)) da_nil))))))) da_nil))) (dss_cons (ds_if (d_notT (d_val (c_call g_law_alike hr (by decide) (hy_glo y 9) tk (da_cons (c_call g_drawing hr (by decide) (hy_glo y 51) tk (da_cons (c_call g_mirrored hr (by decide) (hy_glo y 53) tk (da_cons (d_var (pv 2)) da_nil)) (da_cons (d_var (pv 8)) da_nil))) (da_cons (d_var (pv 11)) da_nil))))) (dss_one (ds_ret d_bl)) dss_nil) (dss_cons (ds_set (i := 12) S_law.nd rfl (Or.inl rfl) (d_lstM da_nil)) (dss_cons (ds_forI hp rfl (di_rev (hy_free y 17) (d_var (pv 9))) (dg_tup rfl (dgs_cons (dg_n (pg_name (i := 13) S_law.nd rfl (Or.inl rfl))) (dgs_cons (dg_n (pg_name (i := 14) S_law.nd rfl (Or.inl rfl))) (dgs_cons (dg_n (pg_name (i := 15) S_law.nd rfl (Or.inl rfl))) (dgs_cons (dg_n (pg_name (i := 16) S_law.nd rfl (Or.inl rfl))) dgs_nil))))) (dss_cons (ds_set (i := 17) S_law.nd rfl (Or.inl rfl) (c_call g_law_unit hr (by decide) (hy_glo y 5) tk (da_cons (d_var (pv 15)) da_nil))) (dss_cons (ds_set (i := 18) S_law.nd rfl (Or.inl rfl) (c_call g_law_quarter hr (by decide) (hy_glo y 52) tk (da_cons (d_tup (da_cons (d_sub (d_add (d_var (pv 13)) (d_ix (d_var (pv 17)) d_int)) (d_ix (d_var (pv 10)) d_int)) (da_cons (d_sub (d_add (d_var (pv 14)) (d_ix (d_var (pv 17)) d_int)) (d_ix (d_var (pv 10)) d_int)) da_nil))) (da_cons (d_sub (d_sub d_int (d_ix (d_var (pv 10)) d_int)) d_int) da_nil)))) (dss_one (ds_expr (d_append (d_var (pv 12)) (da_cons (d_add (d_var (pv 18)) (d_tup (da_cons (d_mod (d_intc (hy_free y 0) (da_cons (d_sub (d_var (pv 15)) (d_ix (d_var (pv 10)) d_int)) da_nil)) d_int) (da_cons (d_var (pv 16)) da_nil)))) da_nil))))))) (dss_cons (ds_if (dw_and (d_val (d_var (pv 5))) (dw_and1 (d_notT (d_val (c_call g_law_alike hr (by decide) (hy_glo y 9) tk (da_cons (c_call g_drawing hr (by decide) (hy_glo y 51) tk (da_cons (d_var (pv 6)) (da_cons (d_var (pv 8)) da_nil))) (da_cons (d_tuple (hy_free y 7) (da_cons (d_var (pv 12)) da_nil)) da_nil))))))).pt (dss_one (ds_ret d_bl)) dss_nil) (dss_cons (ds_asg (d_tup (da_cons (d_add d_int (c_call g_law_taken hr (by decide) (hy_glo y 2) tk (da_cons (d_var (pv 1)) (da_cons d_int da_nil)))) (da_cons d_non da_nil))) (dg_tup rfl (dgs_cons (dg_n (pg_name (i := 19) S_law.nd rfl (Or.inr rfl))) (dgs_cons (dg_n (pg_name (i := 20) S_law.nd rfl (Or.inl rfl))) dgs_nil)))) (dss_cons (ds_setLcR1 (i := 21) (own := [("_law_letter", 16)]) letGo_ok rfl S_law.nd rfl rfl rfl (hy_free y 10) (da_cons (d_len (hy_free y 1) (da_cons (d_ix (d_var (pv 2)) d_int) da_nil)) da_nil) (blkOk_by (N := N_law) (sc := defScope st_law) (own := [("_law_letter", 16)]) (by decide +kernel)) (own_n (by decide)) (fun _ _ _ _ _ => pg_name (i := 16) S_law.nd rfl (Or.inl rfl)) (fun _ _ _ _ _ => dts_nil rfl) (fun _ _ _ _ _ => (c_call g_law_grown hr (by decide) (hy_glo y 30) takesN0 (da_cons (d_tup (da_cons (d_ix (d_var (pv 2)) d_int) (da_cons (d_tup (da_cons (d_var (pv 16)) da_nil)) da_nil))) (da_cons (d_var (pv 19)) da_nil))))) (dss_cons (ds_try (i := 7) rfl rfl S_law.nd rfl rfl (hy_glo y 50) (cat_cons (hy_exm y 49) (cat_cons (hy_exm y 48) cat_nil)) tk (fun W pn xe tk hp => (dss_one (ds_set (i := 20) S_law.nd rfl (Or.inl rfl) (c_call g_sped hr (by decide) (hy_glo y 46) tk (da_cons (d_var (pv 2)) (da_cons (d_var (pv 19)) da_nil)))))) (fun a oe cls dd pn hz hv er dx he hd => (dss_one (ds_ret (d_andV (d_isE (c := .ref (He.ga K "TooMany")) (cv := .ref (He.ga K "TooMany")) hz hv he hd (ist_cons (hy_excC y 3) (hy_kit y 4) (ist_cons (hy_excC y 1) (hy_kit y 2) ist_nil)) (fun _ z => z) (hy_free y 3) (pe_glob rfl (hy_glo y 23) rfl (by decide)) (d_var (pv 7))) (d_andV (d_cmp (op_eqD (room_uS hr)) s_eq (d_xf hz hv he hd (hy_xf y 0) (d_var (pv 7))) d_int (by rfl)) (d_one (d_cmp op_gt s_gt (d_maxLH (hot_suite hz hv) (hy_free y 47) (da_cons (d_lcH (own := [("_law_word_here", 22)]) letGo_ok (hot_suite hz hv) S_law.nd (d_var (pv 21)) (blkOk_by (N := N_law) (sc := defScope st_law) (own := [("_law_word_here", 22)]) (by decide +kernel)) (own_n (by decide)) (fun _ _ _ _ _ => pg_name (i := 22) S_law.nd rfl (Or.inl rfl)) (fun _ _ _ _ _ => dts_nil rfl) (fun _ _ _ _ _ => (d_len (hy_free y 1) (da_cons (d_var (pv 22)) da_nil)))) da_nil)) d_int (by rfl))))))))) (dss_one (ds_ret (c_call g_law_alike hr (by decide) (hy_glo y 9) tk (da_cons (d_var (pv 20)) (da_cons (d_tup (da_cons (d_tuple (hy_free y 7) (da_cons (d_lc (own := [("_law_word_here", 22)]) letGo_ok rfl S_law.nd (d_var (pv 21)) (blkOk_by (N := N_law) (sc := defScope st_law) (own := [("_law_word_here", 22)]) (by decide +kernel)) (own_n (by decide)) (fun _ _ _ _ _ => pg_name (i := 22) S_law.nd rfl (Or.inl rfl)) (fun _ _ _ _ _ => dts_nil rfl) (fun _ _ _ _ _ => (d_tuple (hy_free y 7) (da_cons (d_var (pv 22)) da_nil)))) da_nil)) (da_cons (d_ix (d_var (pv 2)) d_int) da_nil))) da_nil)))))))))))))))))))))))
end Wk
end

set_option Elab.async false
set_option linter.all false
set_option maxRecDepth 100000
set_option maxHeartbeats 4000000
noncomputable section
namespace Wk
open PySem PySem.Spec PyProof.Rows L2 Dl
def loose_0 : List Str := ["__name__", "StrokeError", "BadBook", "BadNumber", "Branching", "TooMany", "MOST_LETTERS", "MOST_WORD", "MOST_AGE", "LEFT", "RIGHT", "OUT", "BACK", "HEADINGS", "is_in", "is_letter", "are_branches", "is_word", "need_book", "need_number", "Pen", "quarters", "turned", "plus", "MOST_ITEMS", "grown", "word_in", "strokes_of", "drawing", "MOST_SPED"]
def loose_1 : List Str := ["other_way", "each_word", "mirrored_word", "backward_word", "mirrored", "backward", "sped", "_law_taken", "_law_pick", "_law_branched", "_law_word", "_law_book", "_law_kit", "_law_even_word", "_law_even_book", "_law_alike", "_law_grown", "_law_age", "_law_unit", "_law_drawn", "_law_quarter"]
def loose : List Str := loose_0 ++ loose_1
abbrev R : PySem.W.OpenRow := PySem.W.OpenLaw.row PySem.Challenge.rw_strokeonce_k14_whole_variants
abbrev hk : PySem.W.Hook := hookC 5 fa fn cs
def ob (s : PySem.W.SharedT) : AlC := obsCG 5 fa fn cs (HandSHeadRun.getT s)
theorem ob_eq (s : PySem.W.SharedT) : ob s = hk.obs s.abs := obsCG_eq (HandSHeadRun.getT_eq s)
theorem run (w : World) : HandSHeadRun.RunEq R (PySem.W.view R.prog [55]) hk ob 4000 loose w := by
  intro os
  kernel_rfl
theorem facts {P : Program} {w : World} {K : PySem.W.Frag} {h : Heap} {mg : Str → Option Value} {f : Addr} (X : K.In h) (G : h.Ns mainGlobals mg) (hfa : mg ("law" : Str) = some (.ref f)) (c : SaysC fa fn cs K) (pr : ∀ d ∈ cs.su, PrgOk P d.file) :
    ∃ fd : FuncData, (∀ (s : Shared) (v : Value), BindsTo s fd ⟨[v], []⟩ [("_law_script", v)]) ∧ ∀ base : Heap, K.In base → base.Ns mainGlobals mg → FnOk P w K mg base (L2N.CX P w) 7 f fd ["_law_script"] (spD K F_law) := by
  have y : Hq P K mg := ⟨⟨h, X, G, c⟩, pr⟩
  have e := hfa.symm.trans (hy_glo y 60)
  cases e
  obtain ⟨fd, F⟩ := hy_def y 37 (d := d_law)
  have b := FunD.bindsA (ps := ["_law_script"]) F fun _ _ _ _ _ _ us hl => match us, hl with | [_], _ => rfl
  exact ⟨fd, fun s v => b s [v] rfl, fun base _ _ => okL y F⟩
end Wk
end

set_option Elab.async false
set_option linter.all false
set_option maxRecDepth 100000
set_option maxHeartbeats 4000000
namespace Pl
open PySem PySem.Spec L2 Dl Wk
/-- a sum -/
structure Sm where
  many : Int
  ex : Int
  ey : Int
  turns : Int
  wx : Int
  wy : Int
  area : Int
def rot (k : Int) (p : Int × Int) : Int × Int := if k % 4 = 0 then p else if k % 4 = 1 then (-p.2, p.1) else if k % 4 = 2 then (-p.1, -p.2) else (p.2, -p.1)
def IsP (d : D) (x y : Int) : Prop := d = .tup [.int x, .int y] ∨ d = .ctup [.int x, .int y]
theorem IsP.t {d : D} {x y : Int} (h : IsP d x y) : d.tup? = some [.int x, .int y] := by rcases h with rfl | rfl <;> rfl
theorem IsP.b {d : D} {x y : Int} (h : IsP d x y) (n : Nat) : d.bel n = true := by rcases h with rfl | rfl <;> rfl
theorem IsP.ix0 {d : D} {x y : Int} (h : IsP d x y) (m : Mem) : oIx d (.int 0) m = some (.int x, m) := by rcases h with rfl | rfl <;> rfl
theorem IsP.ix1 {d : D} {x y : Int} (h : IsP d x y) (m : Mem) : oIx d (.int 1) m = some (.int y, m) := by rcases h with rfl | rfl <;> rfl
theorem IsP.mk (x y : Int) : IsP (.tup [.int x, .int y]) x y := .inl rfl
theorem turned_eq {d : D} {x y k : Int} (h : IsP d x y) (m : Mem) : F_turned [d, .int k] m = .ok (.tup [.int (rot k (x, y)).1, .int (rot k (x, y)).2]) m := by
  refine clos_same ?_ rfl
  have hk : k % 4 = 0 ∨ k % 4 = 1 ∨ k % 4 = 2 ∨ k % 4 = 3 := by omega
  rcases hk with e | e | e | e
  all_goals simp [q_fn, big, b_turned, h.t, o_mod, e, rot, oIx, D.seq?, L2.atI, L2.ixN]
theorem plus_eq {d e : D} {x y z w : Int} (h : IsP d x y) (h2 : IsP e z w) (m : Mem) : F_plus [d, e] m = .ok (.tup [.int (x + z), .int (y + w)]) m := by
  refine clos_same ?_ rfl
  simp [q_fn, big, b_plus, h.ix0, h.ix1, h2.ix0, h2.ix1]
/-- the signs of a word -/
inductive It where
  | L (i : Int) | P | M | O | C
  deriving DecidableEq
def It.d : It → D
  | .L i => .int i
  | .P => .str "+"
  | .M => .str "-"
  | .O => .str "["
  | .C => .str "]"
def It.isL : It → Bool
  | .L _ => true
  | _ => false
theorem is_letter_eq (a : It) (m : Mem) : F_is_letter [a.d] m = .ok (.bl a.isL) m := by
  refine clos_same ?_ rfl
  cases a <;> simp [q_fn, big, b_is_letter, oIsi, D.ty, isTy, It.d, It.isL]
theorem eqS (s t : Str) (m : Mem) (h1 : PyData.strOk s = true) (h2 : PyData.strOk t = true) (b : Bool) (h : deq (.str s) (.str t) = b) : oEq (.str s) (.str t) m = some (.bl b, m) := by
  rw [oEq_ok (show D.ok 60 (D.der m (.str s)) = true from h1) (show D.ok 60 (D.der m (.str t)) = true from h2)]
  show some (D.bl (deq (.str s) (.str t)), m) = _
  rw [h]
def It.sgn : It → Int
  | .P => 1
  | _ => 3
theorem quarters_eq (a : It) (h : a = .P ∨ a = .M) (m : Mem) : F_quarters [a.d] m = .ok (.int a.sgn) m := by
  refine clos_same ?_ rfl
  have e1 : oEq (D.str "+") (.str "+") m = some (.bl true, m) := eqS _ _ m (by decide +kernel) (by decide +kernel) _ (by decide +kernel)
  have e2 : oEq (D.str "-") (.str "+") m = some (.bl false, m) := eqS _ _ m (by decide +kernel) (by decide +kernel) _ (by decide +kernel)
  rcases h with rfl | rfl
  · simp [q_fn, big, b_quarters, c_LEFT, It.d, e1, It.sgn]
  · simp [q_fn, big, b_quarters, c_LEFT, It.d, e2, It.sgn]
def smF (e w : D) (s : Sm) : List (Str × D) := [("many", .int s.many), ("end", e), ("turns", .int s.turns), ("ways", w), ("area", .int s.area)]
/-- d is the sum s -/
def IsS (d : D) (s : Sm) : Prop := ∃ e w, IsP e s.ex s.ey ∧ IsP w s.wx s.wy ∧ d = .ins "Sum" (smF e w s)
theorem smF_b {e w : D} {s : Sm} (h : e.bel 0 = true) (h2 : w.bel 0 = true) (n : Nat) : D.belf n (smF e w s) = true := by
  refine belf_mono (Nat.zero_le n) _ ?_
  simp [smF, D.belf, D.bel, h, h2]
theorem IsS.b {d : D} {s : Sm} (h : IsS d s) (n : Nat) : d.bel n = true := by
  obtain ⟨e, w, h1, h2, rfl⟩ := h
  exact smF_b (h1.b 0) (h2.b 0) n
def Sm.zero : Sm := ⟨0, 0, 0, 0, 0, 0, 0⟩
/-- the fields -/
theorem lk_many {e w : D} {s : Sm} : List.lookup ("many" : Str) (smF e w s) = some (.int s.many) := rfl
theorem lk_end {e w : D} {s : Sm} : List.lookup ("end" : Str) (smF e w s) = some e := rfl
theorem lk_turns {e w : D} {s : Sm} : List.lookup ("turns" : Str) (smF e w s) = some (.int s.turns) := rfl
theorem lk_ways {e w : D} {s : Sm} : List.lookup ("ways" : Str) (smF e w s) = some w := rfl
theorem lk_area {e w : D} {s : Sm} : List.lookup ("area" : Str) (smF e w s) = some (.int s.area) := rfl
def Sm.turning (s : Sm) (a : It) : Sm := { s with turns := s.turns + (if a = .P then 1 else -1) }
def Sm.back (s t : Sm) : Sm := { s with ex := t.ex, ey := t.ey, turns := t.turns }
/-- products of these are within the lines -/
def Sm.Bd (s : Sm) (n : Nat) : Prop := s.ex.natAbs ≤ n ∧ s.ey.natAbs ≤ n ∧ s.wx.natAbs ≤ n ∧ s.wy.natAbs ≤ n
def Sm.thn (s t : Sm) : Sm := ⟨s.many + t.many, s.ex + (rot s.turns (t.ex, t.ey)).1, s.ey + (rot s.turns (t.ex, t.ey)).2, s.turns + t.turns, s.wx + (rot s.turns (t.wx, t.wy)).1, s.wy + (rot s.turns (t.wx, t.wy)).2,
  s.area + t.area + s.ex * (rot s.turns (t.wx, t.wy)).2 - s.ey * (rot s.turns (t.wx, t.wy)).1⟩
end Pl

set_option Elab.async false
set_option linter.all false
set_option maxRecDepth 100000
set_option maxHeartbeats 4000000
namespace Pl
open PySem PySem.Spec L2 Dl Wk
theorem turnN {i : Nat} {b : SF} {x : D} {r : Sl → Mem → SR} {sd : Sl} {m : Mem} {sd2 : Sl} {m2 : Mem} (h : b (sd.set i (some x)) m = .nx sd2 m2) : turnD (tgN i) b x r sd m = r sd2 m2 := by
  simp [turnD, h]
def AllS : List D → List Sm → Prop
  | [], [] => True
  | d :: ds, s :: ss => IsS d s ∧ AllS ds ss
  | _, _ => False
theorem AllS.app : ∀ {ds : List D} {ss : List Sm} {d : D} {s : Sm}, AllS ds ss → IsS d s → AllS (ds ++ [d]) (ss ++ [s])
  | [], [], _, _, _, h => ⟨h, trivial⟩
  | _ :: _, _ :: _, _, _, ⟨a, b⟩, h => ⟨a, AllS.app b h⟩
  | [], _ :: _, _, _, h, _ => h.elim
  | _ :: _, [], _, _, h, _ => h.elim
theorem AllS.last : ∀ {ds : List D} {ss : List Sm} {s : Sm}, AllS ds (ss ++ [s]) → ∃ d0 d, ds = d0 ++ [d] ∧ AllS d0 ss ∧ IsS d s
  | [], [], _, h => h.elim
  | [], _ :: _, _, h => h.elim
  | d :: ds, [], s, ⟨a, b⟩ => by
    cases ds with
    | nil => exact ⟨[], d, rfl, trivial, a⟩
    | cons _ _ => exact b.elim
  | d :: ds, t :: ss, s, ⟨a, b⟩ => by
    obtain ⟨d0, d1, rfl, h2, h3⟩ := AllS.last (ss := ss) b
    exact ⟨d :: d0, d1, rfl, ⟨a, h2⟩, h3⟩
theorem AllS.len : ∀ {ds : List D} {ss : List Sm}, AllS ds ss → ds.length = ss.length
  | [], [], _ => rfl
  | _ :: _, _ :: _, ⟨_, b⟩ => congrArg (· + 1) (AllS.len b)
  | [], _ :: _, h => h.elim
  | _ :: _, [], h => h.elim
theorem AllS.get : ∀ {ds : List D} {ss : List Sm} {i : Nat} {s : Sm}, AllS ds ss → ss[i]? = some s → ∃ d, ds[i]? = some d ∧ IsS d s
  | _ :: _, _ :: _, 0, _, ⟨a, _⟩, e => by cases e; exact ⟨_, rfl, a⟩
  | _ :: _, _ :: _, i + 1, _, ⟨_, b⟩, e => AllS.get (i := i) b e
  | [], [], _, _, _, e => by cases e
  | [], _ :: _, _, _, h, _ => h.elim
  | _ :: _, [], _, _, h, _ => h.elim
/-- small enough for products -/
def Sm.small (s : Sm) : Prop := s.ex.natAbs.log2 < 400000 ∧ s.ey.natAbs.log2 < 400000 ∧ s.wx.natAbs.log2 < 400000 ∧ s.wy.natAbs.log2 < 400000
theorem rot_abs (k : Int) (p : Int × Int) : ((rot k p).1.natAbs = p.1.natAbs ∨ (rot k p).1.natAbs = p.2.natAbs) ∧ ((rot k p).2.natAbs = p.1.natAbs ∨ (rot k p).2.natAbs = p.2.natAbs) := by
  unfold rot
  split
  · simp
  · split
    · simp
    · split <;> simp
theorem rot_small {k x y : Int} (h : x.natAbs.log2 < 400000) (h2 : y.natAbs.log2 < 400000) : (rot k (x, y)).1.natAbs.log2 < 400000 ∧ (rot k (x, y)).2.natAbs.log2 < 400000 := by
  obtain ⟨a, b⟩ := rot_abs k (x, y)
  constructor
  · rcases a with a | a <;> rw [a] <;> assumption
  · rcases b with a | a <;> rw [a] <;> assumption
/-- one item -/
inductive Stp (σ : Int → Option Sm) : It → Sm × List Sm → Sm × List Sm → Prop
  | l {i : Int} {f t : Sm} {st : List Sm} (e : σ i = some t) (h : f.small) (h2 : t.small) : Stp σ (.L i) (f, st) (f.thn t, st)
  | p {f : Sm} {st : List Sm} : Stp σ .P (f, st) (f.turning .P, st)
  | m {f : Sm} {st : List Sm} : Stp σ .M (f, st) (f.turning .M, st)
  | o {f : Sm} {st : List Sm} : Stp σ .O (f, st) (f, f :: st)
  | c {f t : Sm} {st : List Sm} : Stp σ .C (f, t :: st) (f.back t, st)
inductive Run (σ : Int → Option Sm) : List It → Sm × List Sm → Sm × List Sm → Prop
  | nil {s : Sm × List Sm} : Run σ [] s s
  | cons {a : It} {w : List It} {s s1 s2 : Sm × List Sm} (h : Stp σ a s s1) (r : Run σ w s1 s2) : Run σ (a :: w) s s2
theorem insC_s {d : D} {s : Sm} (h : IsS d s) (m : Mem) : ∃ e w, insC "Sum" m d = some (smF e w s) := by
  obtain ⟨e, w, _, _, rfl⟩ := h
  exact ⟨e, w, insC_ins _ _ _⟩
theorem lkF {e w : D} {s : Sm} : List.lookup ("then" : Str) (smF e w s) = none ∧ List.lookup ("turning" : Str) (smF e w s) = none ∧ List.lookup ("back_at" : Str) (smF e w s) = none := by
  refine ⟨?_, ?_, ?_⟩ <;> rfl
theorem eq_it (a b : It) (hb : b.isL = false) (m : Mem) : oEq a.d b.d m = some (.bl (decide (a = b)), m) := by
  cases b with
  | L i => cases hb
  | P => cases a with
    | L i => exact oEq_ok (by rfl) (show D.ok 60 (D.der m (.str "+")) = true from by show PyData.strOk "+" = true; decide +kernel)
    | _ => exact eqS _ _ m (by decide +kernel) (by decide +kernel) _ (by decide +kernel)
  | M => cases a with
    | L i => exact oEq_ok (by rfl) (show D.ok 60 (D.der m (.str "-")) = true from by show PyData.strOk "-" = true; decide +kernel)
    | _ => exact eqS _ _ m (by decide +kernel) (by decide +kernel) _ (by decide +kernel)
  | O => cases a with
    | L i => exact oEq_ok (by rfl) (show D.ok 60 (D.der m (.str "[")) = true from by show PyData.strOk "[" = true; decide +kernel)
    | _ => exact eqS _ _ m (by decide +kernel) (by decide +kernel) _ (by decide +kernel)
  | C => cases a with
    | L i => exact oEq_ok (by rfl) (show D.ok 60 (D.der m (.str "]")) = true from by show PyData.strOk "]" = true; decide +kernel)
    | _ => exact eqS _ _ m (by decide +kernel) (by decide +kernel) _ (by decide +kernel)
theorem eq_O (a : It) (m : Mem) : oEq a.d (.str "[") m = some (.bl (decide (a = .O)), m) := eq_it a .O rfl m
theorem eq_C (a : It) (m : Mem) : oEq a.d (.str "]") m = some (.bl (decide (a = .C)), m) := eq_it a .C rfl m
end Pl

set_option Elab.async false
set_option linter.all false
set_option maxRecDepth 100000
set_option maxHeartbeats 4000000
namespace Pl
open PySem PySem.Spec L2 Dl Wk
def wD (w : List It) : D := .tup (w.map It.d)
theorem Stp.len {σ : Int → Option Sm} {a : It} {s s1 : Sm × List Sm} (h : Stp σ a s s1) : s1.2.length ≤ s.2.length + 1 := by
  cases h <;> (simp only [List.length_cons]; omega)
/-- the sums of an age -/
structure Row (σ : Int → Option Sm) (n : Nat) (l : List D) : Prop where
  len : l.length = n
  at_ : ∀ i : Nat, i < n → ∃ d s, l[i]? = some d ∧ σ i = some s ∧ IsS d s
  out : ∀ i : Int, (i < 0 ∨ (n : Int) ≤ i) → σ i = none
theorem Row.get {σ : Int → Option Sm} {n : Nat} {l : List D} (h : Row σ n l) : ∀ i s, σ i = some s → ∀ m, ∃ d, oIx (.lst l) (.int i) m = some (d, m) ∧ IsS d s := by
  intro i s e m
  by_cases q : i < 0 ∨ (n : Int) ≤ i
  · rw [h.out i q] at e; cases e
  · have h1 : 0 ≤ i := by omega
    have h2 : i.toNat < n := by omega
    obtain ⟨d, s', e1, e2, e3⟩ := h.at_ i.toNat h2
    have ei : ((i.toNat : Nat) : Int) = i := by omega
    rw [ei, e] at e2
    cases e2
    refine ⟨d, ?_, e3⟩
    have ha : L2.atI l i = some d := by
      unfold L2.atI L2.ixN
      rw [h.len, if_pos h1, if_pos (by omega)]
      exact e1
    show (match L2.atI l i with
      | some y => some (y, m)
      | none => none) = _
    rw [ha]
theorem Row.b {σ : Int → Option Sm} {n : Nat} {l : List D} (h : Row σ n l) (k : Nat) : D.bels k l = true := by
  have : ∀ (l : List D), (∀ d ∈ l, d.bel k = true) → D.bels k l = true := by
    intro l
    induction l with
    | nil => intro _; rfl
    | cons d l ih => intro h; exact Bool.and_eq_true_iff.mpr ⟨h d List.mem_cons_self, ih fun x hx => h x (List.mem_cons_of_mem _ hx)⟩
  refine this l fun d hd => ?_
  obtain ⟨i, hi, e⟩ := List.getElem_of_mem hd
  obtain ⟨d', s, e1, _, e3⟩ := h.at_ i (by rw [← h.len]; exact hi)
  rw [List.getElem?_eq_getElem hi, e] at e1
  cases e1
  exact e3.b k
end Pl

set_option Elab.async false
set_option linter.all false
set_option maxRecDepth 100000
set_option maxHeartbeats 4000000
namespace Pl
open PySem PySem.Spec L2 Dl Wk
structure Bk where
  words : List (List It)
  start : List It
def bkD (b : Bk) : D := .tup [.tup (b.words.map wD), wD b.start]
def Sm.unit : Sm := ⟨1, 1, 0, 0, 1, 0, 0⟩
def stp (σ : Int → Option Sm) : It → Sm × List Sm → Option (Sm × List Sm)
  | .L i, (f, st) => (σ i).map fun t => (f.thn t, st)
  | .P, (f, st) => some (f.turning .P, st)
  | .M, (f, st) => some (f.turning .M, st)
  | .O, (f, st) => some (f, f :: st)
  | .C, (f, t :: st) => some (f.back t, st)
  | .C, (_, []) => none
def run (σ : Int → Option Sm) : List It → Sm × List Sm → Option (Sm × List Sm)
  | [], s => some s
  | a :: w, s => (stp σ a s).bind (run σ w)
def sig (b : Bk) : Nat → Int → Option Sm
  | 0, i => if 0 ≤ i ∧ i < b.words.length then some Sm.unit else none
  | a + 1, i => if 0 ≤ i ∧ i < b.words.length then (run (sig b a) (b.words.getD i.toNat []) (Sm.zero, [])).map (·.1) else none
theorem Stp.f {σ : Int → Option Sm} {a : It} {s s1 : Sm × List Sm} (h : Stp σ a s s1) : stp σ a s = some s1 := by
  cases h with
  | l e _ _ => simp [stp, e]
  | p => rfl
  | m => rfl
  | o => rfl
  | c => rfl
theorem Run.f {σ : Int → Option Sm} : ∀ {w : List It} {s s1 : Sm × List Sm}, Run σ w s s1 → run σ w s = some s1
  | [], _, _, .nil => rfl
  | a :: w, _, _, .cons h r => by
    show (stp σ a _).bind (run σ w) = _
    rw [h.f]
    exact r.f
/-- the words of b can be joined, to that age -/
def Fine (b : Bk) (last : Nat) : Prop := ∀ a, a < last → ∀ i, i < b.words.length → ∃ s, Run (sig b a) (b.words.getD i []) (Sm.zero, []) s
theorem sig_out (b : Bk) (a : Nat) (i : Int) (h : i < 0 ∨ (b.words.length : Int) ≤ i) : sig b a i = none := by
  cases a with
  | zero => exact if_neg (by omega)
  | succ a => exact if_neg (by omega)
theorem headings (m : Mem) : oIx c_HEADINGS (.int 0) m = some (.ctup [.int 1, .int 0], m) := rfl
theorem row0 (b : Bk) (l : List D) (hl : l.length = b.words.length) (h : ∀ d ∈ l, IsS d Sm.unit) : Row (sig b 0) b.words.length l := by
  refine ⟨hl, fun i hi => ?_, fun i h => sig_out b 0 i h⟩
  refine ⟨l[i], Sm.unit, by simp [hl, hi], ?_, h _ (List.getElem_mem _)⟩
  exact if_pos (by omega)
theorem get2 (m : Mem) (a b : D) : (m ++ [a, b])[m.length + 1]? = some b := by
  rw [List.getElem?_append_right (by omega)]
  have : m.length + 1 - m.length = 1 := by omega
  rw [this]
  rfl
theorem set2 (m : Mem) (a b c : D) : (m ++ [a, b]).set (m.length + 1) c = m ++ [a, c] := by
  rw [List.set_append]
  have h : ¬ m.length + 1 < m.length := by omega
  have : m.length + 1 - m.length = 1 := by omega
  simp [h, this]
theorem get1 (m : Mem) (a b : D) : (m ++ [a, b])[m.length]? = some a := get_last m a [b]
def agF (bk : D) (n : Nat) : List (Str × D) := [("book", bk), ("rows", .loc n)]
theorem word_at (b : Bk) {i : Nat} (hi : i < b.words.length) : b.words.getD i [] = b.words[i] := by simp [hi]
theorem It.d_inj : ∀ a b : It, a.d = b.d → a = b := by
  intro a b h
  cases a <;> cases b <;> first | rfl | (cases h; done) | (have := D.int.inj h; subst this; rfl) | (exact absurd (D.str.inj h) (by decide))
theorem wD_inj (u v : List It) (h : wD u = wD v) : u = v := by
  have h2 := D.tup.inj h
  clear h
  induction u generalizing v with
  | nil => cases v with
    | nil => rfl
    | cons _ _ => cases h2
  | cons a u ih => cases v with
    | nil => cases h2
    | cons b v =>
      rw [List.map_cons, List.map_cons] at h2
      obtain ⟨h3, h4⟩ := List.cons.inj h2
      rw [It.d_inj a b h3, ih v h4]
end Pl

set_option Elab.async false
set_option linter.all false
set_option maxRecDepth 100000
set_option maxHeartbeats 4000000
namespace Pl
open PySem PySem.Spec L2 Dl Wk
/-- the rows of the ages to a -/
def Rows (b : Bk) (a : Nat) (rows : List D) : Prop := rows.length = a + 1 ∧ ∀ k, k ≤ a → ∃ l, rows[k]? = some (.lst l) ∧ Row (sig b k) b.words.length l
theorem Rows.last {b : Bk} {a : Nat} {rows : List D} (h : Rows b a rows) : ∃ l, rows.getLast? = some (.lst l) ∧ Row (sig b a) b.words.length l := by
  obtain ⟨l, e, r⟩ := h.2 a (Nat.le_refl a)
  refine ⟨l, ?_, r⟩
  rw [List.getLast?_eq_getElem?, h.1, Nat.add_sub_cancel]
  exact e
theorem Rows.next {b : Bk} {a : Nat} {rows l : List D} (h : Rows b a rows) (r : Row (sig b (a + 1)) b.words.length l) : Rows b (a + 1) (rows ++ [.lst l]) := by
  refine ⟨by rw [List.length_append, h.1]; rfl, fun k hk => ?_⟩
  by_cases q : k ≤ a
  · obtain ⟨l', e, r'⟩ := h.2 k q
    exact ⟨l', by rw [List.getElem?_append_left (by rw [h.1]; omega)]; exact e, r'⟩
  · have e : k = a + 1 := by omega
    subst e
    exact ⟨l, by rw [List.getElem?_append_right (by rw [h.1]; omega), h.1]; simp, r⟩
theorem rng1_nat {n : Nat} (h : n ≤ big) : rng1 [D.int (n : Int)] = some (0, 1, n) := by
  have h2 : n ≤ 16777216 := h
  have h3 : -(2 ^ 62) ≤ (n : Int) := by omega
  have h4 : (n : Int) < 2 ^ 62 := by omega
  have : -(2 ^ 62) ≤ (n : Int) ∧ (n : Int) < 2 ^ 62 := ⟨h3, h4⟩
  unfold rng1
  simp only [cIf_pos this, Int.toNat_natCast]
end Pl

set_option Elab.async false
set_option linter.all false
set_option maxRecDepth 100000
set_option maxHeartbeats 4000000
namespace Pl
open PySem PySem.Spec L2 Dl Wk
theorem is_in_i (i a b : Int) (m : Mem) : F_is_in [.int i, .int a, .int b] m = .ok (.bl (decide (a ≤ i) && decide (i ≤ b))) m := by
  refine clos_same ?_ rfl
  by_cases h : a ≤ i
  · simp [q_fn, b_is_in, oIsi, D.ty, isTy, h]
  · simp [q_fn, b_is_in, oIsi, D.ty, isTy, h]
theorem is_in_s (s : Str) (a b : Int) (m : Mem) : F_is_in [.str s, .int a, .int b] m = .ok (.bl false) m := by
  refine clos_same ?_ rfl
  simp [q_fn, b_is_in, oIsi, D.ty, isTy]
theorem oIn_fl {d e : D} {m : Mem} {l : List D} (h : e.seq? m = some l) (h1 : d.flat = true) (h2 : l.all D.flat = true) (b : Bool) (hb : dIn d l = b) : oIn d e m = some (.bl b, m) := by
  unfold oIn oInB
  rw [h]
  simp only [h1, h2, Bool.and_self, if_true, hb]
  rfl
/-- depth behind a word, none if it falls below nought -/
def dep : List It → Int → Option Int
  | [], k => some k
  | .O :: w, k => dep w (k + 1)
  | .C :: w, k => if k - 1 < 0 then none else dep w (k - 1)
  | _ :: w, k => dep w k
theorem in_oc (a : It) (h : a.isL = false) (m : Mem) : oIn a.d (.tup [.str "[", .str "]"]) m = some (.bl (decide (a = .O ∨ a = .C)), m) := by
  cases a with
  | L i => cases h
  | _ => exact oIn_fl (l := [.str "[", .str "]"]) rfl rfl rfl _ (by decide +kernel)
theorem in_all4 (a : It) (h : a.isL = false) (m : Mem) : oIn a.d (.tup [.str "+", .str "-", .str "[", .str "]"]) m = some (.bl true, m) := by
  cases a with
  | L i => cases h
  | _ => exact oIn_fl (l := [.str "+", .str "-", .str "[", .str "]"]) rfl rfl rfl _ (by decide +kernel)
theorem o_addI2 (i j : Int) (m : Mem) : oAddI (.int i) (.int j) m = some (.int (i + j), m) := rfl
theorem br_step (a : It) (k : Int) (hk : 0 ≤ k) (k' : Int) (w : List It) (h : dep (a :: w) k = some k') {wd : D} {it : Option D} {m : Mem} : ∃ k2 : Int, 0 ≤ k2 ∧ dep w k2 = some k' ∧ l_are_branches_0 [some wd, some (.int k), some a.d] m = .nx [some wd, some (.int k2), some a.d] m := by
  cases a with
  | L i =>
    refine ⟨k, hk, h, ?_⟩
    have hk' : ¬ k < 0 := by omega
    simp [l_are_branches_0, is_letter_eq, It.isL, hk']
  | P =>
    refine ⟨k, hk, h, ?_⟩
    have hk' : ¬ k < 0 := by omega
    simp [l_are_branches_0, is_letter_eq, It.isL, hk', in_oc .P rfl m, eq_O .P m, c_OUT, c_BACK, big]
  | M =>
    refine ⟨k, hk, h, ?_⟩
    have hk' : ¬ k < 0 := by omega
    simp [l_are_branches_0, is_letter_eq, It.isL, hk', in_oc .M rfl m, eq_O .M m, c_OUT, c_BACK, big]
  | O =>
    refine ⟨k + 1, by omega, h, ?_⟩
    have hk' : ¬ k + 1 < 0 := by omega
    simp [l_are_branches_0, is_letter_eq, It.isL, hk', in_oc .O rfl m, eq_O .O m, c_OUT, c_BACK, big, o_addI2]
  | C =>
    unfold dep at h
    by_cases q : k - 1 < 0
    · rw [if_pos q] at h; cases h
    · rw [if_neg q] at h
      refine ⟨k - 1, by omega, h, ?_⟩
      have e : k + -1 = k - 1 := by omega
      simp [l_are_branches_0, is_letter_eq, It.isL, in_oc .C rfl m, eq_O .C m, c_OUT, c_BACK, big, o_addI2, e, q]
theorem br_loop {wd : D} {m : Mem} : ∀ (w : List It) (k k' : Int) (it : Option D), 0 ≤ k → dep w k = some k' → ∃ it', forD (tgN 2) l_are_branches_0 (w.map It.d) [some wd, some (.int k), it] m = .nx [some wd, some (.int k'), it'] m
  | [], k, k', it, _, h => ⟨it, by cases h; rfl⟩
  | a :: w, k, k', it, hk, h => by
    obtain ⟨k2, h2, h3, e⟩ := br_step a k hk k' w h (wd := wd) (it := it) (m := m)
    obtain ⟨it', e2⟩ := br_loop w k2 k' (some a.d) h2 h3
    refine ⟨it', ?_⟩
    rw [List.map_cons, forD_cons, turnN e]
    exact e2
theorem are_branches_eq (w : List It) (h : dep w 0 = some 0) (m : Mem) : F_are_branches [wD w] m = .ok (.bl true) m := by
  refine clos_same ?_ rfl
  obtain ⟨it', e⟩ := br_loop (wd := wD w) (m := m) w 0 0 none (by decide) h
  simp [wD] at e
  simp [q_fn, b_are_branches, wD, e, oEq_int]
/-- a word of n letters -/
structure WOk (n : Nat) (w : List It) : Prop where
  len : 1 ≤ w.length ∧ w.length ≤ 40
  lets : ∀ i, It.L i ∈ w → 0 ≤ i ∧ i < n
  bal : dep w 0 = some 0
  some_ : ∃ i, It.L i ∈ w
theorem iw_loop {n : Nat} {wd : D} {m : Mem} : ∀ (w : List It) (it : Option D), (∀ i, It.L i ∈ w → 0 ≤ i ∧ i < n) → ∃ it', forD (tgN 2) l_is_word_2 (w.map It.d) [some (.int n), some wd, it] m = .nx [some (.int n), some wd, it'] m
  | [], it, _ => ⟨it, rfl⟩
  | a :: w, it, h => by
    obtain ⟨it', e2⟩ := iw_loop w (some a.d) fun i hi => h i (List.mem_cons_of_mem _ hi)
    refine ⟨it', ?_⟩
    rw [List.map_cons, forD_cons]
    have e : l_is_word_2 [some (.int n), some wd, some a.d] m = .nx [some (.int n), some wd, some a.d] m := by
      cases a with
      | L i =>
        obtain ⟨h1, h2⟩ := h i List.mem_cons_self
        have h3 : i ≤ (n : Int) - 1 := by omega
        simp [l_is_word_2, It.d, is_in_i, h1, h3]
      | _ =>
        first
          | (have e4 := in_all4 .P rfl m; simp only [It.d] at e4; simp [l_is_word_2, It.d, is_in_s, oIsi, D.ty, isTy, c_LEFT, c_RIGHT, c_OUT, c_BACK, big, e4]; done)
          | (have e4 := in_all4 .M rfl m; simp only [It.d] at e4; simp [l_is_word_2, It.d, is_in_s, oIsi, D.ty, isTy, c_LEFT, c_RIGHT, c_OUT, c_BACK, big, e4]; done)
          | (have e4 := in_all4 .O rfl m; simp only [It.d] at e4; simp [l_is_word_2, It.d, is_in_s, oIsi, D.ty, isTy, c_LEFT, c_RIGHT, c_OUT, c_BACK, big, e4]; done)
          | (have e4 := in_all4 .C rfl m; simp only [It.d] at e4; simp [l_is_word_2, It.d, is_in_s, oIsi, D.ty, isTy, c_LEFT, c_RIGHT, c_OUT, c_BACK, big, e4]; done)
    rw [turnN e]
    exact e2
def isInt : D → Bool
  | .int _ => true
  | _ => false
theorem ints_ok {k : Nat} : ∀ {l : List D}, (∀ d ∈ l, isInt d = true) → D.oks k l = true
  | [], _ => by cases k <;> rfl
  | d :: l, h => by
    have h1 := h d List.mem_cons_self
    have h2 : D.oks k l = true := ints_ok fun x hx => h x (List.mem_cons_of_mem _ hx)
    cases d <;> first | (cases h1; done) | skip
    show (D.ok k (.int _) && D.oks k l) = true
    rw [h2]
    cases k <;> rfl
theorem bels_ints {k : Nat} {l : List D} (h : ∀ d ∈ l, isInt d = true) : D.bels k l = true := bels_of fun d hd => by
  have := h d hd
  cases d <;> first | rfl | cases this
theorem ne_nil {l : List D} (h : ∀ d ∈ l, isInt d = true) (hn : l ≠ []) (m : Mem) : oNe (.lst l) (.lst []) m = some (.bl true, m) := by
  rw [oNe_ok (d := .lst l) (e := .lst []) (show D.oks 59 l = true from ints_ok h) (by rfl)]
  cases l with
  | nil => exact absurd rfl hn
  | cons d l => rfl
theorem is_word_eq {n : Nat} {w : List It} (h : WOk n w) (m : Mem) : F_is_word [.int n, wD w] m = .ok (.bl true) m := by
  refine clos_same ?_ rfl
  obtain ⟨it', e⟩ := iw_loop (n := n) (wd := wD w) (m := m) w none h.lets
  have hb : w.length ≤ big := Nat.le_trans h.len.2 (by decide)
  have c := lcD_fil (vs := [2]) (gd := ogN 2) (t := t_is_word_0) (e := e_is_word_1) (sd := [some (.int n), some (wD w), it']) (p := isInt) (g := id) (m := m) (n := m.length) rfl (xs := w.map It.d) (acc := [])
    (fun x hx m' => by
      obtain ⟨a, _, rfl⟩ := List.mem_map.mp hx
      refine ⟨_, rfl, ?_, fun _ => ?_⟩
      · have : isInt a.d = a.isL := by cases a <;> rfl
        rw [this]
        simp [t_is_word_0, wipeD, is_letter_eq]
      · simp [e_is_word_1, wipeD]) (by simpa using hb)
  have hall : ∀ d ∈ ((w.map It.d).filter isInt).map id, isInt d = true := fun d hd => by
    rw [List.map_id] at hd
    exact (List.mem_filter.mp hd).2
  have hne : ((w.map It.d).filter isInt).map id ≠ [] := by
    obtain ⟨i, hi⟩ := h.some_
    rw [List.map_id]
    refine List.ne_nil_of_mem (a := D.int i) (List.mem_filter.mpr ⟨List.mem_map.mpr ⟨_, hi, rfl⟩, rfl⟩)
  have g := lc_go (Cells.refl m) (bels_ints (k := m.length) hall)
  rw [List.nil_append] at c
  have l1 : (1 : Int) ≤ (w.length : Int) := by have := h.len.1; omega
  have l2 : (w.length : Int) ≤ 40 := by have := h.len.2; omega
  have ab := are_branches_eq w h.bal m
  have nn := ne_nil hall hne m
  simp only [wD] at e c ab ⊢
  simp [q_fn, b_is_word, oIsi, D.ty, isTy, oLen, D.seq?, c_MOST_WORD, l1, l2, e, ab, lcV]
  rw [c, g]
  simp at nn
  simp [nn]
theorem need_number_eq (i a b : Int) (h1 : a ≤ i) (h2 : i ≤ b) (m : Mem) : F_need_number [.int i, .int a, .int b] m = .ok .non m := by
  refine clos_same ?_ rfl
  simp [q_fn, b_need_number, is_in_i, h1, h2]
theorem oLen_tup (l : List D) (m : Mem) : oLen [.tup l] m = some (.int l.length, m) := rfl
theorem oLen_lst (l : List D) (m : Mem) : oLen [.lst l] m = some (.int l.length, m) := rfl
theorem isi_tup (l : List D) (m : Mem) : oIsi .tuple (.tup l) m = some (.bl true, m) := rfl
structure BOk (b : Bk) : Prop where
  len : 1 ≤ b.words.length ∧ b.words.length ≤ 3
  words : ∀ w ∈ b.words, WOk b.words.length w
  start : WOk b.words.length b.start
  sh : ∀ w ∈ b.words, w.length ≤ 21
theorem nb_loop {b : Bk} (h : BOk b) {m : Mem} : ∀ (ws : List (List It)) (k : Nat) (x y : Option D), (∀ w ∈ ws, WOk b.words.length w) → ∃ x' y', forD (tgT 2 (tgCons (tgN 1) (tgCons (tgN 2) tgNil))) l_need_book_0 (enF k (ws.map wD)) [some (bkD b), x, y] m = .nx [some (bkD b), x', y'] m
  | [], k, x, y, _ => ⟨x, y, rfl⟩
  | w :: ws, k, x, y, hw => by
    obtain ⟨x', y', e⟩ := nb_loop h ws (k + 1) (some (.int (k : Nat))) (some (wD w)) fun u hu => hw u (List.mem_cons_of_mem _ hu)
    refine ⟨x', y', ?_⟩
    have ix0 : ∀ mm : Mem, oIx (bkD b) (.int 0) mm = some (.tup (b.words.map wD), mm) := fun mm => rfl
    have e2 : l_need_book_0 [some (bkD b), some (.int (k : Nat)), some (wD w)] m = .nx [some (bkD b), some (.int (k : Nat)), some (wD w)] m := by
      simp [l_need_book_0, ix0, oLen_tup, is_word_eq (hw w List.mem_cons_self)]
    rw [List.map_cons, enF, forD_cons]
    have : turnD (tgT 2 (tgCons (tgN 1) (tgCons (tgN 2) tgNil))) l_need_book_0 (.tup [.int (k : Nat), wD w]) (fun sd m => forD (tgT 2 (tgCons (tgN 1) (tgCons (tgN 2) tgNil))) l_need_book_0 (enF (k + 1) (ws.map wD)) sd m) [some (bkD b), x, y] m = forD (tgT 2 (tgCons (tgN 1) (tgCons (tgN 2) tgNil))) l_need_book_0 (enF (k + 1) (ws.map wD)) [some (bkD b), some (.int (k : Nat)), some (wD w)] m := by
      simp [turnD, D.tup?, e2]
    rw [this]
    exact e
theorem need_book_eq {b : Bk} (h : BOk b) (m : Mem) : F_need_book [bkD b] m = .ok .non m := by
  refine clos_same ?_ rfl
  obtain ⟨x', y', e⟩ := nb_loop h (m := m) b.words 0 none none h.words
  have ix0 : ∀ mm : Mem, oIx (bkD b) (.int 0) mm = some (.tup (b.words.map wD), mm) := fun mm => rfl
  have ix1 : ∀ mm : Mem, oIx (bkD b) (.int 1) mm = some (wD b.start, mm) := fun mm => rfl
  have ty0 : ∀ mm : Mem, oIsi .tuple (bkD b) mm = some (.bl true, mm) := fun mm => rfl
  have ln : ∀ mm : Mem, oLen [bkD b] mm = some (.int 2, mm) := fun mm => rfl
  have l1 : (1 : Int) ≤ (b.words.length : Int) := by have := h.len.1; omega
  have l2 : (b.words.length : Int) ≤ 8 := by have := h.len.2; omega
  simp [q_fn, b_need_book, ix0, ix1, ty0, ln, oLen_tup, isi_tup, c_MOST_LETTERS, l1, l2, oNe_int, e, is_word_eq h.start]
end Pl

set_option Elab.async false
set_option linter.all false
set_option maxRecDepth 100000
set_option maxHeartbeats 4000000
namespace Pl
open PySem PySem.Spec L2 Dl Wk
theorem It.bel (a : It) (k : Nat) : a.d.bel k = true := by cases a <;> rfl
theorem wD_b (w : List It) (k : Nat) : (wD w).bel k = true := bels_of fun d hd => by
  obtain ⟨a, _, rfl⟩ := List.mem_map.mp hd
  exact a.bel k
theorem ws_b (ws : List (List It)) (k : Nat) : D.bels k (ws.map wD) = true := bels_of fun d hd => by
  obtain ⟨a, _, rfl⟩ := List.mem_map.mp hd
  exact wD_b a k
theorem bkD_b (b : Bk) (k : Nat) : (bkD b).bel k = true := by
  show (D.bels k (b.words.map wD) && ((wD b.start).bel k && true)) = true
  rw [ws_b, wD_b]
  rfl
theorem Rows.b {b : Bk} {a : Nat} {rows : List D} (h : Rows b a rows) (k : Nat) : D.bels k rows = true := bels_of fun d hd => by
  obtain ⟨i, hi, e⟩ := List.getElem_of_mem hd
  obtain ⟨l, e2, r⟩ := h.2 i (by have := h.1; omega)
  rw [List.getElem?_eq_getElem hi, e] at e2
  cases e2
  exact r.b k
def agD (b : Bk) (rows : List D) : D := .ins "Ages" [("book", bkD b), ("rows", .lst rows)]
theorem agD_b {b : Bk} {a : Nat} {rows : List D} (h : Rows b a rows) (k : Nat) : (agD b rows).bel k = true := by
  show ((bkD b).bel k && (D.bels k rows && true)) = true
  rw [bkD_b, h.b]
  rfl
end Pl

set_option Elab.async false
set_option linter.all false
set_option maxRecDepth 100000
set_option maxHeartbeats 4000000
namespace Pl
open PySem PySem.Spec L2 Dl Wk
section
variable {b : Bk} {age : Nat} (hb : BOk b) (hf : Fine b age) (ha : age ≤ 1000) {s : Sm × List Sm} (hr : Run (sig b age) b.start (Sm.zero, []) s) (m : Mem)
include hb hf ha hr
end
end Pl

set_option Elab.async false
set_option linter.all false
set_option maxRecDepth 100000
set_option maxHeartbeats 4000000
namespace Pl
open PySem PySem.Spec L2 Dl Wk
/-- the row of the draws -/
def rowD (s : List Int) (p seed rest : Int) : D := .lst [.scr (s.map D.int), .int p, .int seed, .int rest]
def RwOk (s : List Int) (r : D) : Prop := ∃ p seed rest : Int, r = rowD s p seed rest ∧ 0 ≤ p ∧ 0 ≤ seed ∧ seed < 2147483647
theorem ints_b (l : List Int) (k : Nat) : D.bels k (l.map D.int) = true := bels_of fun d hd => by
  obtain ⟨a, _, rfl⟩ := List.mem_map.mp hd
  rfl
theorem RwOk.b {s : List Int} {r : D} (h : RwOk s r) (k : Nat) : r.belc k = true := by
  obtain ⟨p, seed, rest, rfl, _⟩ := h
  show (D.bels k (s.map D.int) && _) = true
  rw [ints_b]
  rfl
theorem clos_row {F : FD} {ds : List D} {r r' : D} {m ex : Mem} {d : D} {s : List Int} (h : F ds (r :: m) = .ok d (r' :: m ++ ex)) (hr : RwOk s r') (hb : d.bel 0 = true) : clos F ds (r :: m) = .ok d (r' :: m) := by
  show letGo (r :: m) (F ds (r :: m)) = _
  rw [h]
  exact letGo_old (m1 := r' :: m) (Cells.cons (hr.b _)) (bel_mono (Nat.zero_le _) d hb)
section
variable {a b c d : D} {m : Mem}
theorem ixR0 : oIx (.loc 0) (.int 0) (.lst [a, b, c, d] :: m) = some (a, .lst [a, b, c, d] :: m) := rfl
theorem ixR1 : oIx (.loc 0) (.int 1) (.lst [a, b, c, d] :: m) = some (b, .lst [a, b, c, d] :: m) := rfl
theorem ixR2 : oIx (.loc 0) (.int 2) (.lst [a, b, c, d] :: m) = some (c, .lst [a, b, c, d] :: m) := rfl
theorem ixR3 : oIx (.loc 0) (.int 3) (.lst [a, b, c, d] :: m) = some (d, .lst [a, b, c, d] :: m) := rfl
theorem stR1 {y : D} : setIx (.loc 0) (.int 1) y (.lst [a, b, c, d] :: m) = some (.lst [a, y, c, d] :: m) := rfl
theorem stR2 {y : D} : setIx (.loc 0) (.int 2) y (.lst [a, b, c, d] :: m) = some (.lst [a, b, y, d] :: m) := rfl
theorem stR3 {y : D} : setIx (.loc 0) (.int 3) y (.lst [a, b, c, d] :: m) = some (.lst [a, b, c, y] :: m) := rfl
theorem oInt_i (i : Int) : oInt [.int i] m = some (.int i, m) := rfl
theorem oLen_scr (l : List D) : oLen [.scr l] m = some (.int l.length, m) := rfl
end
theorem ix_scr {s : List Int} {i : Int} (h : 0 ≤ i) (h2 : i < s.length) (m : Mem) : ∃ z, oIx (.scr (s.map D.int)) (.int i) m = some (.int z, m) := by
  have hl : i.toNat < s.length := by omega
  refine ⟨s[i.toNat], ?_⟩
  have ha : L2.atI (s.map D.int) i = some (.int s[i.toNat]) := by
    unfold L2.atI L2.ixN
    rw [if_pos h, if_pos (by rw [List.length_map]; omega)]
    simp [hl]
  show (match L2.atI (s.map D.int) i with
    | some y => some (y, m)
    | none => none) = _
  rw [ha]
theorem log_lt {n : Int} {k : Nat} (h0 : 0 ≤ n) (h : n < 2 ^ k) : n.natAbs.log2 < k ∨ n = 0 := by
  by_cases q : n = 0
  · exact .inr q
  · left
    rw [Nat.log2_lt (by omega)]
    have : ((n.natAbs : Nat) : Int) = n := Int.natAbs_of_nonneg h0
    have h2 : ((n.natAbs : Nat) : Int) < ((2 ^ k : Nat) : Int) := by rw [this]; exact_mod_cast h
    exact_mod_cast h2
theorem log_le {n : Int} {k : Nat} (hk : 0 < k) (h0 : 0 ≤ n) (h : n < 2 ^ k) : n.natAbs.log2 < k := by
  rcases log_lt h0 h with h | rfl
  · exact h
  · exact hk
theorem pow18 (m : Mem) : oPow (.int 10) (.int 18) m = some (.int 1000000000000000000, m) := by
  have : cPow 10 18 = true := by decide +kernel
  show Option.map (fun d => (d, m)) (if cPow 10 18 = true then some (D.int (10 ^ (18 : Int).toNat)) else none) = _
  rw [if_pos this]
  rfl
theorem taken_eq {s : List Int} {r : D} (hr : RwOk s r) {many : Int} (h1 : 0 < many) (h2 : many < 2 ^ 250) (m : Mem) :
    ∃ v r', F_law_taken [.loc 0, .int many] (r :: m) = .ok (.int v) (r' :: m) ∧ 0 ≤ v ∧ v < many ∧ RwOk s r' := by
  obtain ⟨p, seed, rest, rfl, hp, hs1, hs2⟩ := hr
  have hlog : many.natAbs.log2 < 9000 := Nat.lt_trans (log_le (k := 250) (by decide) (by omega) h2) (by decide)
  have hmod : ∀ x : Int, 0 ≤ x % many ∧ x % many < many := fun x => ⟨Int.emod_nonneg _ (by omega), Int.emod_lt_of_pos _ h1⟩
  have hseed : ∀ x : Int, 0 ≤ x % 2147483647 ∧ x % 2147483647 < 2147483647 := fun x => ⟨Int.emod_nonneg _ (by omega), Int.emod_lt_of_pos _ (by omega)⟩
  have lseed : seed.natAbs.log2 + (48271 : Int).natAbs.log2 < 1000000 := by
    have e1 : seed.natAbs.log2 < 31 := log_le (by decide) hs1 (by omega)
    have e2 : (48271 : Int).natAbs.log2 = 15 := by decide +kernel
    omega
  by_cases q1 : 0 < rest
  · refine ⟨rest % many, rowD s p seed (rest / many), clos_row (ex := []) ?_ ⟨_, _, _, rfl, hp, hs1, hs2⟩ rfl, (hmod _).1, (hmod _).2, ⟨_, _, _, rfl, hp, hs1, hs2⟩⟩
    simp [q_fn, b_law_taken, rowD, ixR0, ixR1, ixR2, ixR3, stR1, stR2, stR3, q1, oInt_i, o_mod h1, o_div h1 hlog]
  · by_cases q2 : (s.length : Int) < p + 1
    · refine ⟨((seed * 48271 + 11) % 2147483647) / 7 % many, rowD s (p + 1) ((seed * 48271 + 11) % 2147483647) rest, clos_row (ex := []) ?_ ⟨_, _, _, rfl, by omega, (hseed _).1, (hseed _).2⟩ rfl, (hmod _).1, (hmod _).2, ⟨_, _, _, rfl, by omega, (hseed _).1, (hseed _).2⟩⟩
      have d7 := fun (x : Int) (mm : Mem) => o_div (m := mm) (i := x) (j := 7) (by decide) (by decide +kernel)
      have m31 := fun (x : Int) (mm : Mem) => o_mod (m := mm) (i := x) (j := 2147483647) (by decide)
      simp [q_fn, b_law_taken, rowD, ixR0, ixR1, ixR2, ixR3, stR1, stR2, stR3, q1, q2, oInt_i, oLen_scr, o_mod h1, o_div h1 hlog, o_mul lseed, d7, m31]
    · obtain ⟨z, hz⟩ := ix_scr (s := s) (i := p) hp (by omega) (.lst [.scr (s.map D.int), .int (p + 1), .int seed, .int rest] :: m)
      have m31 := fun (x : Int) (mm : Mem) => o_mod (m := mm) (i := x) (j := 2147483647) (by decide)
      have ep : p + 1 - 1 = p := by omega
      by_cases q3 : (1000000000000000000 : Int) ≤ z
      · refine ⟨z % many, rowD s (p + 1) ((seed * 48271 + z + 11) % 2147483647) (z / many), clos_row (ex := []) ?_ ⟨_, _, _, rfl, by omega, (hseed _).1, (hseed _).2⟩ rfl, (hmod _).1, (hmod _).2, ⟨_, _, _, rfl, by omega, (hseed _).1, (hseed _).2⟩⟩
        simp [q_fn, b_law_taken, rowD, ixR0, ixR1, ixR2, ixR3, stR1, stR2, stR3, q1, q2, oInt_i, oLen_scr, o_mod h1, o_div h1 hlog, o_mul lseed, m31, ep, hz, pow18, q3]
      · refine ⟨z % many, rowD s (p + 1) ((seed * 48271 + z + 11) % 2147483647) rest, clos_row (ex := []) ?_ ⟨_, _, _, rfl, by omega, (hseed _).1, (hseed _).2⟩ rfl, (hmod _).1, (hmod _).2, ⟨_, _, _, rfl, by omega, (hseed _).1, (hseed _).2⟩⟩
        simp [q_fn, b_law_taken, rowD, ixR0, ixR1, ixR2, ixR3, stR1, stR2, stR3, q1, q2, oInt_i, oLen_scr, o_mod h1, o_div h1 hlog, o_mul lseed, m31, ep, hz, pow18, q3]
theorem pick_eq {s : List Int} {r : D} (hr : RwOk s r) {l : List D} (hl : l ≠ []) (hl2 : l.length ≤ 1000) (hb : ∀ d ∈ l, d.bel 0 = true) (m : Mem) :
    ∃ d r', F_law_pick [.loc 0, .lst l] (r :: m) = .ok d (r' :: m) ∧ d ∈ l ∧ RwOk s r' := by
  have hpos : 0 < l.length := List.length_pos_iff.mpr hl
  obtain ⟨v, r', e, h1, h2, h3⟩ := taken_eq hr (many := (l.length : Int)) (by omega) (by omega) m
  have hv : v.toNat < l.length := by omega
  have ix : ∀ mm : Mem, oIx (.lst l) (.int v) mm = some (l[v.toNat], mm) := fun mm => by
    have ha : L2.atI l v = some l[v.toNat] := by
      unfold L2.atI L2.ixN
      rw [if_pos h1, if_pos (by omega)]
      simp [hv]
    show (match L2.atI l v with
      | some y => some (y, mm)
      | none => none) = _
    rw [ha]
  refine ⟨l[v.toNat], r', clos_row (ex := []) ?_ h3 (hb _ (List.getElem_mem hv)), List.getElem_mem hv, h3⟩
  simp [q_fn, b_law_pick, oLen_lst, e, ix]
end Pl

set_option Elab.async false
set_option linter.all false
set_option maxRecDepth 100000
set_option maxHeartbeats 4000000
namespace Pl
open PySem PySem.Spec L2 Dl Wk
def sub1 (b : Bk) : It → List It
  | .L i => b.words.getD i.toNat []
  | a => [a]
def grow1 (b : Bk) (w : List It) : List It := w.flatMap (sub1 b)
def growN (b : Bk) : Nat → List It
  | 0 => b.start
  | n + 1 => grow1 b (growN b n)
def Lets (n : Nat) (w : List It) : Prop := ∀ i, It.L i ∈ w → 0 ≤ i ∧ i < n
theorem sub1_lets {b : Bk} (hb : ∀ w ∈ b.words, Lets b.words.length w) {a : It} (ha : ∀ i, a = .L i → 0 ≤ i ∧ i < b.words.length) : Lets b.words.length (sub1 b a) := by
  cases a with
  | L i =>
    obtain ⟨h1, h2⟩ := ha i rfl
    have hl : i.toNat < b.words.length := by omega
    show Lets _ (b.words.getD i.toNat [])
    rw [word_at b hl]
    exact hb _ (List.getElem_mem hl)
  | _ => intro i hi; rcases List.mem_singleton.mp hi with z; cases z
theorem grow1_lets {b : Bk} (hb : ∀ w ∈ b.words, Lets b.words.length w) {w : List It} (hw : Lets b.words.length w) : Lets b.words.length (grow1 b w) := by
  intro i hi
  obtain ⟨a, ha, h2⟩ := List.mem_flatMap.mp hi
  exact sub1_lets hb (fun j e => hw j (e ▸ ha)) i h2
theorem growN_lets {b : Bk} (hb : BOk b) : ∀ n, Lets b.words.length (growN b n)
  | 0 => hb.start.lets
  | n + 1 => grow1_lets (fun w hw => (hb.words w hw).lets) (growN_lets hb n)
theorem grow_step {b : Bk} {a : It} (ha : ∀ i, a = .L i → 0 ≤ i ∧ i < b.words.length) {acc : List It} (hl : acc.length + (sub1 b a).length ≤ big) {x y z : Option D} {m : Mem} :
    l_law_grown_0 [some (bkD b), x, y, z, some (.lst (acc.map It.d)), some a.d] m = .nx [some (bkD b), x, y, z, some (.lst ((acc ++ sub1 b a).map It.d)), some a.d] m := by
  have ix0 : ∀ mm : Mem, oIx (bkD b) (.int 0) mm = some (.tup (b.words.map wD), mm) := fun mm => rfl
  have ad : ∀ (l : List It), acc.length + l.length ≤ big → oAdd (.lst (acc.map It.d)) (.lst (l.map It.d)) m = some (.lst ((acc ++ l).map It.d), m) := by
    intro l h
    show (if (acc.map It.d).length + (l.map It.d).length ≤ big then some (D.lst (acc.map It.d ++ l.map It.d), m) else none) = _
    rw [if_pos (by rw [List.length_map, List.length_map]; exact h), List.map_append]
  cases a with
  | L i =>
    obtain ⟨h1, h2⟩ := ha i rfl
    have hi : i.toNat < b.words.length := by omega
    have ix : ∀ mm : Mem, oIx (.tup (b.words.map wD)) (.int i) mm = some (wD b.words[i.toNat], mm) := fun mm => by
      have hx : L2.atI (b.words.map wD) i = some (wD b.words[i.toNat]) := by
        unfold L2.atI L2.ixN
        rw [if_pos h1, if_pos (by rw [List.length_map]; omega)]
        simp [hi]
      show (match L2.atI (b.words.map wD) i with
        | some y => some (y, mm)
        | none => none) = _
      rw [hx]
    have ls : ∀ (l : List D) (mm : Mem), oList [.tup l] mm = some (.lst l, mm) := fun _ _ => rfl
    have e : sub1 b (.L i) = b.words[i.toNat] := word_at b hi
    rw [e] at hl ⊢
    have ad2 := ad _ hl
    simp [l_law_grown_0, It.d, oIsi, D.ty, isTy, ix0, ix, wD, ls, ad2]
  | _ =>
    have ad2 := ad _ hl
    simp [l_law_grown_0, It.d, oIsi, D.ty, isTy, big, sub1] at ad2 ⊢
    simp [ad2]
theorem grow_loop {b : Bk} {x y z : Option D} {m : Mem} : ∀ {w acc : List It} {it : Option D}, Lets b.words.length w → acc.length + (grow1 b w).length ≤ big → ∃ it', forD (tgN 5) l_law_grown_0 (w.map It.d) [some (bkD b), x, y, z, some (.lst (acc.map It.d)), it] m = .nx [some (bkD b), x, y, z, some (.lst ((acc ++ grow1 b w).map It.d)), it'] m
  | [], acc, it, _, _ => ⟨it, by rw [show grow1 b [] = [] from rfl, List.append_nil]; rfl⟩
  | a :: w, acc, it, hw, hl => by
    have eg : grow1 b (a :: w) = sub1 b a ++ grow1 b w := rfl
    rw [eg, List.length_append] at hl
    obtain ⟨it', e⟩ := grow_loop (b := b) (x := x) (y := y) (z := z) (m := m) (w := w) (acc := acc ++ sub1 b a) (it := some a.d) (fun i hi => hw i (List.mem_cons_of_mem _ hi)) (by rw [List.length_append]; omega)
    refine ⟨it', ?_⟩
    rw [List.map_cons, forD_cons, turnN (grow_step (fun i e => hw i (e ▸ List.mem_cons_self)) (by omega))]
    rw [e, eg, List.append_assoc]
/-- a word, a tuple or a list -/
def IsW (d : D) (w : List It) : Prop := d = wD w ∨ d = .lst (w.map It.d)
theorem grow_age {b : Bk} {d : D} {w : List It} (h : IsW d w) (hw : Lets b.words.length w) (hl : (grow1 b w).length ≤ big) {x z f it : Option D} {m : Mem} :
    ∃ it', l_law_grown_1 [some (bkD b), x, some d, z, f, it] m = .nx [some (bkD b), x, some (.lst ((grow1 b w).map It.d)), z, some (.lst ((grow1 b w).map It.d)), it'] m := by
  obtain ⟨it', e⟩ := grow_loop (b := b) (x := x) (y := some d) (z := z) (m := m) (w := w) (acc := []) (it := it) hw (by simpa using hl)
  refine ⟨it', ?_⟩
  rcases h with rfl | rfl
  · simp [wD] at e
    simp [l_law_grown_1, big, wD, e]
  · simp at e
    simp [l_law_grown_1, big, e]
theorem grown_eq {b : Bk} (hb : BOk b) {age : Nat} (ha : age ≤ big) (hl : ∀ k, k ≤ age → (growN b k).length ≤ big) (m : Mem) : F_law_grown [bkD b, .int age] m = .ok (.lst ((growN b age).map It.d)) m := by
  have loop : ∀ (n k : Nat) (d : D) (z f it : Option D), k + n = age → IsW d (growN b k) → ∃ d' z' f' it', IsW d' (growN b age) ∧ forD (tgN 3) l_law_grown_1 ((rngD 0 1 age).drop k) [some (bkD b), some (.int age), some d, z, f, it] m = .nx [some (bkD b), some (.int age), some d', z', f', it'] m := by
    intro n
    induction n with
    | zero =>
      intro k d z f it e h
      have : k = age := by omega
      subst this
      exact ⟨d, z, f, it, h, by rw [List.drop_eq_nil_of_le (by rw [rngD_length]; exact Nat.le_refl _)]; rfl⟩
    | succ n ih =>
      intro k d z f it e h
      obtain ⟨it1, e1⟩ := grow_age (b := b) h (growN_lets hb k) (hl (k + 1) (by omega)) (x := some (.int age)) (z := some (.int (0 + (k : Int) * 1))) (f := f) (it := it) (m := m)
      obtain ⟨d', z', f', it', h', e2⟩ := ih (k + 1) _ (some (.int (0 + (k : Int) * 1))) _ it1 (by omega) (.inr rfl)
      refine ⟨d', z', f', it', h', ?_⟩
      rw [drop_get (rngD_get (show k < age by omega)), forD_cons, turnN (by simpa using e1)]
      simpa [growN] using e2
  obtain ⟨d', z', f', it', h', e⟩ := loop age 0 (wD b.start) none none none (by omega) (.inl rfl)
  have ix1 : ∀ mm : Mem, oIx (bkD b) (.int 1) mm = some (wD b.start, mm) := fun mm => rfl
  have rg := rng1_nat ha
  have ls : oList [d'] m = some (.lst ((growN b age).map It.d), m) := by rcases h' with rfl | rfl <;> rfl
  refine clos_same ?_ (bels_of fun x hx => by obtain ⟨a, _, rfl⟩ := List.mem_map.mp hx; exact a.bel 0)
  simp at e
  simp [q_fn, b_law_grown, ix1, rg, e, ls]
end Pl

set_option Elab.async false
set_option linter.all false
set_option maxRecDepth 100000
set_option maxHeartbeats 4000000
namespace Pl
open PySem PySem.Spec L2 Dl Wk
def lets (w : List It) : Nat := (w.filter It.isL).length
theorem sub1_len {b : Bk} (hb : BOk b) (a : It) : (sub1 b a).length ≤ 1 + if a.isL then 40 else 0 := by
  cases a with
  | L i =>
    show (b.words.getD i.toNat []).length ≤ 1 + 40
    by_cases h : i.toNat < b.words.length
    · rw [word_at b h]
      exact Nat.le_trans (hb.words _ (List.getElem_mem h)).len.2 (by decide)
    · rw [List.getD_eq_getElem?_getD, List.getElem?_eq_none (by omega)]
      exact Nat.zero_le _
  | _ => exact Nat.le_refl 1
theorem grow1_len {b : Bk} (hb : BOk b) : ∀ w : List It, (grow1 b w).length ≤ w.length + 40 * lets w
  | [] => Nat.le_refl _
  | a :: w => by
    have ih := grow1_len hb w
    have h := sub1_len hb a
    have e : (grow1 b (a :: w)).length = (sub1 b a).length + (grow1 b w).length := by
      show (sub1 b a ++ grow1 b w).length = _
      rw [List.length_append]
    have el : lets (a :: w) = (if a.isL then 1 else 0) + lets w := by
      unfold lets
      cases q : a.isL with
      | true => rw [List.filter_cons_of_pos q]; simp; omega
      | false => rw [List.filter_cons_of_neg (by simp [q])]; simp
    rw [e, el, List.length_cons]
    cases q : a.isL with
    | true => rw [q] at h; simp at h ⊢; omega
    | false => rw [q] at h; simp at h ⊢; omega
theorem lets_le (w : List It) : lets w ≤ w.length := List.length_filter_le _ _
/-- the ages to a are not above so many strokes -/
theorem growN_len {b : Bk} (hb : BOk b) {most : Nat} (hm : 40 ≤ most) {a : Nat} (h : ∀ k, 1 ≤ k → k ≤ a → lets (growN b k) ≤ most) : ∀ k, k ≤ a + 1 → (growN b k).length ≤ 40 + 40 * most * k
  | 0, _ => hb.start.len.2
  | k + 1, hk => by
    have ih := growN_len hb hm h k (by omega)
    have h1 := grow1_len hb (growN b k)
    have h2 : lets (growN b k) ≤ most := by
      by_cases q : k = 0
      · subst q
        exact Nat.le_trans (lets_le _) (Nat.le_trans hb.start.len.2 hm)
      · exact h k (by omega) (by omega)
    have h3 : 40 * lets (growN b k) ≤ 40 * most := Nat.mul_le_mul_left _ h2
    show (grow1 b (growN b k)).length ≤ _
    rw [Nat.mul_add, Nat.mul_one]
    omega
theorem filt_d (w : List It) : (w.map It.d).filter isInt = (w.filter It.isL).map It.d := by
  induction w with
  | nil => rfl
  | cons a w ih =>
    rw [List.map_cons]
    have e : isInt a.d = a.isL := by cases a <;> rfl
    cases q : a.isL with
    | true => rw [List.filter_cons_of_pos (by rw [e]; exact q), List.filter_cons_of_pos q, ih]; rfl
    | false => rw [List.filter_cons_of_neg (by rw [e]; simp [q]), List.filter_cons_of_neg (by simp [q]), ih]
theorem age_test {b : Bk} (hb : BOk b) {most : Nat} {k : Nat} (hk : k < 8) (hl : ∀ j, j ≤ k + 1 → (growN b j).length ≤ big) {z : Option D} {m : Mem} :
    t_law_age_2 [some (bkD b), some (.int most), some (.int k), z] m = .ok (decide (lets (growN b (k + 1)) ≤ most)) m := by
  have g := grown_eq hb (age := k + 1) (Nat.le_trans (by omega : k + 1 ≤ 100) (by decide)) hl m
  have c := lcD_fil (vs := [3]) (gd := ogN 3) (t := t_law_age_0) (e := e_law_age_1) (sd := [some (bkD b), some (.int most), some (.int k), z]) (p := isInt) (g := id) (m := m) (n := m.length) rfl (xs := (growN b (k + 1)).map It.d) (acc := [])
    (fun x hx m' => by
      obtain ⟨a, _, rfl⟩ := List.mem_map.mp hx
      refine ⟨_, rfl, ?_, fun _ => ?_⟩
      · cases a <;> simp [t_law_age_0, wipeD, It.d, oIsi, D.ty, isTy, isInt]
      · simp [e_law_age_1, wipeD]) (by simpa using hl (k + 1) (Nat.le_refl _))
  rw [List.nil_append, List.map_id, filt_d] at c
  have hall : D.bels m.length (((growN b (k + 1)).filter It.isL).map It.d) = true := bels_of fun x hx => by obtain ⟨a, _, rfl⟩ := List.mem_map.mp hx; exact a.bel _
  have gg := lc_go (Cells.refl m) hall
  have hk' : (k : Int) < 8 := by omega
  have g2 : F_law_grown [bkD b, .int ((k : Int) + 1)] m = .ok (.lst ((growN b (k + 1)).map It.d)) m := g
  simp [t_law_age_2, hk', g2, lcV]
  rw [c, gg]
  simp [oLen_lst, lets]
  exact decide_eq_decide.mpr Iff.rfl
theorem age_eq {b : Bk} (hb : BOk b) {most : Nat} (hm : 40 ≤ most) (hm2 : most ≤ 1000) (m : Mem) : ∃ a, F_law_age [bkD b, .int most] m = .ok (.int (a : Nat)) m ∧ a ≤ 8 ∧ ∀ k, 1 ≤ k → k ≤ a → lets (growN b k) ≤ most := by
  have len : ∀ a, a ≤ 8 → (∀ k, 1 ≤ k → k ≤ a → lets (growN b k) ≤ most) → ∀ j, j ≤ a + 1 → (growN b j).length ≤ big := fun a ha h j hj => by
    have h1 := growN_len hb hm h j hj
    have h2 : 40 * most * j ≤ 40 * 1000 * 9 := Nat.mul_le_mul (Nat.mul_le_mul_left _ hm2) (by omega)
    show _ ≤ 16777216
    omega
  have loop : ∀ (n k : Nat) (z : Option D) (fuel : Nat), k + n = 8 → n < fuel → (∀ j, 1 ≤ j → j ≤ k → lets (growN b j) ≤ most) →
      ∃ a z', whileD t_law_age_2 l_law_age_3 fuel [some (bkD b), some (.int most), some (.int k), z] m = .nx [some (bkD b), some (.int most), some (.int (a : Nat)), z'] m ∧ a ≤ 8 ∧ ∀ k, 1 ≤ k → k ≤ a → lets (growN b k) ≤ most := by
    intro n
    induction n with
    | zero =>
      intro k z fuel e hf h
      have : k = 8 := by omega
      subst this
      cases fuel with
      | zero => omega
      | succ fuel =>
        refine ⟨8, z, ?_, Nat.le_refl _, h⟩
        have : ¬ ((8 : Nat) : Int) < 8 := by omega
        simp [whileD, t_law_age_2]
    | succ n ih =>
      intro k z fuel e hf h
      cases fuel with
      | zero => omega
      | succ fuel =>
        have t := age_test hb (most := most) (k := k) (by omega) (len k (by omega) h) (z := z) (m := m)
        by_cases q : lets (growN b (k + 1)) ≤ most
        · obtain ⟨a, z', e2, h2, h3⟩ := ih (k + 1) z fuel (by omega) (by omega) (fun j h1 hj => by
            by_cases q2 : j ≤ k
            · exact h j h1 q2
            · have : j = k + 1 := by omega
              rw [this]; exact q)
          refine ⟨a, z', ?_, h2, h3⟩
          have e3 : whileD t_law_age_2 l_law_age_3 fuel [some (bkD b), some (.int most), some (.int ((k : Int) + 1)), z] m = .nx [some (bkD b), some (.int most), some (.int (a : Nat)), z'] m := e2
          have le : l_law_age_3 [some (bkD b), some (.int most), some (.int k), z] m = .nx [some (bkD b), some (.int most), some (.int ((k : Int) + 1)), z] m := by simp [l_law_age_3]
          simp [whileD, t, q, le, e3]
        · refine ⟨k, z, ?_, by omega, h⟩
          simp [whileD, t, q]
  obtain ⟨a, z', e, h1, h2⟩ := loop 8 0 none 1000 rfl (by omega) (fun j h1 h2 => by omega)
  refine ⟨a, clos_same ?_ rfl, h1, h2⟩
  simp at e
  simp [q_fn, b_law_age, e]
end Pl

set_option Elab.async false
set_option linter.all false
set_option maxRecDepth 100000
set_option maxHeartbeats 4000000
namespace Pl
open PySem PySem.Spec L2 Dl Wk
theorem unit_law (h : Int) (m : Mem) : F_law_unit [.int h] m = .ok (.tup [.int (rot h (1, 0)).1, .int (rot h (1, 0)).2]) m := by
  refine clos_same ?_ rfl
  have hk : h % 4 = 0 ∨ h % 4 = 1 ∨ h % 4 = 2 ∨ h % 4 = 3 := by omega
  rcases hk with e | e | e | e
  all_goals simp [q_fn, big, b_law_unit, o_mod, e, rot, oIx, D.seq?, L2.atI, L2.ixN, oInt_i]
/-- a place and a heading -/
structure Pn where
  x : Int
  y : Int
  h : Int
def Pn.d (p : Pn) : D := .tup [.int p.x, .int p.y, .int p.h]
def skD (q : Pn × Int) : D := .tup [.int q.1.x, .int q.1.y, .int q.1.h, .int q.2]
structure Dr where
  p : Pn
  sk : List (Pn × Int)
  st : List Pn
def dstp : It → Dr → Option Dr
  | .L i, s => some { s with p := ⟨s.p.x + (rot s.p.h (1, 0)).1, s.p.y + (rot s.p.h (1, 0)).2, s.p.h⟩, sk := s.sk ++ [(s.p, i)] }
  | .P, s => some { s with p := { s.p with h := (s.p.h + 1) % 4 } }
  | .M, s => some { s with p := { s.p with h := (s.p.h + 3) % 4 } }
  | .O, s => some { s with st := s.st ++ [s.p] }
  | .C, s => match s.st.getLast? with
    | some q => some { s with p := q, st := s.st.dropLast }
    | none => none
def drun : List It → Dr → Option Dr
  | [], s => some s
  | a :: w, s => (dstp a s).bind (drun w)
theorem ap2 {m : Mem} {a b : List D} {y : D} (h : b.length < big) : oAppend (.loc (m.length + 1)) [y] (m ++ [D.lst a, .lst b]) = some (.non, m ++ [D.lst a, .lst (b ++ [y])]) := by
  simp only [oAppend, get2, set2, h, if_true]
theorem lst2 {m : Mem} {a b : List D} : (D.loc (m.length + 1)).lst? (m ++ [D.lst a, .lst b]) = some b := by
  simp only [D.lst?, get2]
theorem pop2 {m : Mem} {a l : List D} {y : D} : oPop (.loc (m.length + 1)) (m ++ [D.lst a, .lst (l ++ [y])]) = some (y, m ++ [D.lst a, .lst l]) := by
  have e : (l ++ [y])[(l ++ [y]).length - 1]? = some y := by rw [List.length_append, List.length_singleton, Nat.add_sub_cancel, List.getElem?_append_right (Nat.le_refl _), Nat.sub_self]; rfl
  simp only [oPop, get2, set2, e, List.dropLast_concat]
def drS (wd : D) (m : Mem) (s : Dr) (it : Option D) : Sl := [some wd, some (.int s.p.x), some (.int s.p.y), some (.int s.p.h), some (.loc m.length), some (.loc (m.length + 1)), it]
def drM (m : Mem) (s : Dr) : Mem := m ++ [.lst (s.sk.map skD), .lst (s.st.map Pn.d)]
theorem eq_P (a : It) (m : Mem) : oEq a.d (.str "+") m = some (.bl (decide (a = .P)), m) := eq_it a .P rfl m
theorem eqPP (m : Mem) : oEq (.str "+") (.str "+") m = some (.bl true, m) := eq_it .P .P rfl m
theorem eqPO (m : Mem) : oEq (.str "+") (.str "[") m = some (.bl false, m) := eq_it .P .O rfl m
theorem eqPC (m : Mem) : oEq (.str "+") (.str "]") m = some (.bl false, m) := eq_it .P .C rfl m
theorem eqMP (m : Mem) : oEq (.str "-") (.str "+") m = some (.bl false, m) := eq_it .M .P rfl m
theorem eqMO (m : Mem) : oEq (.str "-") (.str "[") m = some (.bl false, m) := eq_it .M .O rfl m
theorem eqMC (m : Mem) : oEq (.str "-") (.str "]") m = some (.bl false, m) := eq_it .M .C rfl m
theorem eqOP (m : Mem) : oEq (.str "[") (.str "+") m = some (.bl false, m) := eq_it .O .P rfl m
theorem eqOO (m : Mem) : oEq (.str "[") (.str "[") m = some (.bl true, m) := eq_it .O .O rfl m
theorem eqOC (m : Mem) : oEq (.str "[") (.str "]") m = some (.bl false, m) := eq_it .O .C rfl m
theorem eqCP (m : Mem) : oEq (.str "]") (.str "+") m = some (.bl false, m) := eq_it .C .P rfl m
theorem eqCO (m : Mem) : oEq (.str "]") (.str "[") m = some (.bl false, m) := eq_it .C .O rfl m
theorem eqCC (m : Mem) : oEq (.str "]") (.str "]") m = some (.bl true, m) := eq_it .C .C rfl m
theorem eqLP (i : Int) (m : Mem) : oEq (.int i) (.str "+") m = some (.bl false, m) := eq_it (.L i) .P rfl m
theorem eqLO (i : Int) (m : Mem) : oEq (.int i) (.str "[") m = some (.bl false, m) := eq_it (.L i) .O rfl m
theorem eqLC (i : Int) (m : Mem) : oEq (.int i) (.str "]") m = some (.bl false, m) := eq_it (.L i) .C rfl m
theorem ixP0 (x y : D) (m : Mem) : oIx (.tup [x, y]) (.int 0) m = some (x, m) := rfl
theorem ixP1 (x y : D) (m : Mem) : oIx (.tup [x, y]) (.int 1) m = some (y, m) := rfl
theorem drawn_step {a : It} {s s1 : Dr} (h : dstp a s = some s1) (hl : s.sk.length < big) (hl2 : s.st.length < big) {wd : D} {m : Mem} {it : Option D} : l_law_drawn_0 ((drS wd m s it).set 6 (some a.d)) (drM m s) = .nx (drS wd m s1 (some a.d)) (drM m s1) := by
  have k1 : (s.sk.map skD).length < big := by rw [List.length_map]; exact hl
  have k2 : (s.st.map Pn.d).length < big := by rw [List.length_map]; exact hl2
  cases a with
  | L i =>
    cases h
    have ap := oAppend_last (m := m) (l := s.sk.map skD) (y := skD (s.p, i)) (ex := [.lst (s.st.map Pn.d)]) k1
    have ll := lst_last (m := m) (l := s.sk.map skD) (ex := [.lst (s.st.map Pn.d)])
    simp [skD] at ap
    simp [l_law_drawn_0, drS, It.d, eqPP, eqPO, eqPC, eqMP, eqMO, eqMC, eqOP, eqOO, eqOC, eqCP, eqCO, eqCC, eqLP, eqLO, eqLC, oIsi, D.ty, isTy]
    simp [drM, ll, big, ap, unit_law, skD, ixP0, ixP1]
  | P =>
    cases h
    simp [l_law_drawn_0, drS, eqPP, eqPO, eqPC, eqMP, eqMO, eqMC, eqOP, eqOO, eqOC, eqCP, eqCO, eqCC, eqLP, eqLO, eqLC, oIsi, D.ty, isTy, It.d, oInt_i, o_mod]
    rfl
  | M =>
    cases h
    simp [l_law_drawn_0, drS, eqPP, eqPO, eqPC, eqMP, eqMO, eqMC, eqOP, eqOO, eqOC, eqCP, eqCO, eqCC, eqLP, eqLO, eqLC, oIsi, D.ty, isTy, It.d, oInt_i, o_mod]
    rfl
  | O =>
    cases h
    have ap := ap2 (m := m) (a := s.sk.map skD) (y := s.p.d) k2
    have ll := lst2 (m := m) (a := s.sk.map skD) (b := s.st.map Pn.d)
    simp [Pn.d] at ap
    simp [l_law_drawn_0, drS, eqPP, eqPO, eqPC, eqMP, eqMO, eqMC, eqOP, eqOO, eqOC, eqCP, eqCO, eqCC, eqLP, eqLO, eqLC, oIsi, D.ty, isTy, It.d]
    simp [drM, ll, big, ap, Pn.d]
  | C =>
    cases q : s.st.getLast? with
    | none => simp only [dstp, q] at h; cases h
    | some z =>
      simp only [dstp, q] at h
      cases h
      have es : s.st = s.st.dropLast ++ [z] := by
        have hne : s.st ≠ [] := fun e => by rw [e] at q; cases q
        rw [List.getLast?_eq_some_getLast hne] at q
        have := List.dropLast_concat_getLast hne
        rw [Option.some.inj q] at this
        exact this.symm
      have eD : s.st.map Pn.d = s.st.dropLast.map Pn.d ++ [z.d] := by
        conv => lhs; rw [es]
        rw [List.map_append]
        rfl
      have pp := pop2 (m := m) (a := s.sk.map skD) (l := s.st.dropLast.map Pn.d) (y := z.d)
      simp [l_law_drawn_0, drS, eqPP, eqPO, eqPC, eqMP, eqMO, eqMC, eqOP, eqOO, eqOC, eqCP, eqCO, eqCC, eqLP, eqLO, eqLC, It.d]
      unfold drM
      rw [eD, pp]
      simp [Pn.d, D.tup?]
theorem dstp_len {a : It} {s s1 : Dr} (h : dstp a s = some s1) : s1.sk.length ≤ s.sk.length + 1 ∧ s1.st.length ≤ s.st.length + 1 := by
  cases a with
  | C =>
    cases q : s.st.getLast? with
    | none => simp only [dstp, q] at h; cases h
    | some z =>
      simp only [dstp, q] at h
      cases h
      exact ⟨by simp, by simp; omega⟩
  | _ => cases h; simp
theorem drawn_loop {wd : D} {m : Mem} : ∀ {w : List It} {s s1 : Dr} (h : drun w s = some s1) (hl : s.sk.length + w.length < big) (hl2 : s.st.length + w.length < big) (it : Option D), ∃ it', forD (tgN 6) l_law_drawn_0 (w.map It.d) (drS wd m s it) (drM m s) = .nx (drS wd m s1 it') (drM m s1)
  | [], s, _, h, _, _, it => by cases h; exact ⟨it, rfl⟩
  | a :: w, s, s2, h, hl, hl2, it => by
    rw [List.length_cons] at hl hl2
    have h' : (dstp a s).bind (drun w) = some s2 := h
    cases q : dstp a s with
    | none => rw [q] at h'; cases h'
    | some s1 =>
      rw [q] at h'
      have hle := dstp_len q
      obtain ⟨it', e⟩ := drawn_loop (wd := wd) (m := m) (w := w) (s := s1) h' (by omega) (by omega) (some a.d)
      refine ⟨it', ?_⟩
      rw [List.map_cons, forD_cons, turnN (drawn_step q (by omega) (by omega))]
      exact e
def Dr.zero : Dr := ⟨⟨0, 0, 0⟩, [], []⟩
theorem drawn_eq {w : List It} {s : Dr} (h : drun w Dr.zero = some s) (hl : w.length < big) (m : Mem) : F_law_drawn [.lst (w.map It.d)] m = .ok (.tup [.lst (s.sk.map skD), s.p.d]) m := by
  obtain ⟨it', e⟩ := drawn_loop (wd := .lst (w.map It.d)) (m := m) h (by simpa [Dr.zero] using hl) (by simpa [Dr.zero] using hl) none
  have hb : D.bels m.length (s.sk.map skD) = true := bels_of fun x hx => by obtain ⟨q, _, rfl⟩ := List.mem_map.mp hx; rfl
  have e0 : fnD 1 7 b_law_drawn [.lst (w.map It.d)] m = .ok (.tup [.loc m.length, s.p.d]) (m ++ [.lst (s.sk.map skD), .lst (s.st.map Pn.d)]) := by
    simp [drS, drM, Dr.zero] at e
    simp [q_fn, b_law_drawn, big, D.tup?, e, Pn.d]
  show letGo m (fnD 1 7 b_law_drawn [.lst (w.map It.d)] m) = _
  rw [e0]
  refine letGo_ok2 (Cells.refl m) ?_ (show (D.bels m.length (s.sk.map skD) && _) = true by rw [hb]; rfl)
  show D.tup [fz _ m.length 5 (.loc m.length), fz _ m.length 5 s.p.d] = _
  rw [show (5 : Nat) = 4 + 1 from rfl, fz_cellL (Nat.le_refl _) (get1 _ _ _), map_same fun x hx => fz_same 4 x (bels_mem hb x hx)]
  rfl
/-- what stands outside of all brackets -/
def mstp (a : It) (s : List It × Int) : List It × Int :=
  let k := if a = .C then s.2 - 1 else s.2
  let f := if k = 0 ∧ a ≠ .O ∧ a ≠ .C then s.1 ++ [a] else s.1
  (f, if a = .O then k + 1 else k)
def mrun : List It → List It × Int → List It × Int
  | [], s => s
  | a :: w, s => mrun w (mstp a s)
end Pl

set_option Elab.async false
set_option linter.all false
set_option maxRecDepth 100000
set_option maxHeartbeats 4000000
namespace Pl
open PySem PySem.Spec L2 Dl Wk
/-! ### alike -/
/-- ints, tuples and lists of that depth -/
def AK : Nat → D → Prop
  | _, .int _ => True
  | _, .bl _ => True
  | _, .non => True
  | n + 1, .tup l => l.length ≤ 100000 ∧ ∀ d ∈ l, AK n d
  | n + 1, .lst l => l.length ≤ 100000 ∧ ∀ d ∈ l, AK n d
  | _, _ => False
theorem ne_bl (a : Bool) (m : Mem) : oNe (.bl a) (.bl a) m = some (.bl false, m) := by
  rw [oNe_ok (by rfl) (by rfl)]
  show some (D.bl (!(a == a)), m) = _
  simp
theorem eq_bl (a : Bool) (m : Mem) : oEq (.bl a) (.bl a) m = some (.bl true, m) := by
  rw [oEq_ok (by rfl) (by rfl)]
  show some (D.bl (a == a), m) = _
  simp
theorem eq_non (m : Mem) : oEq .non .non m = some (.bl true, m) := by
  rw [oEq_ok (by rfl) (by rfl)]
  rfl
theorem eq_nil (m : Mem) : oEq (.lst []) (.lst []) m = some (.bl true, m) := by
  rw [oEq_ok (d := .lst []) (e := .lst []) (by rfl) (by rfl)]
  rfl
theorem ixT {l : List D} {i : Nat} (h : i < l.length) (m : Mem) : oIx (.tup l) (.int i) m = some (l[i], m) := by
  have ha : L2.atI l (i : Int) = some l[i] := by
    unfold L2.atI L2.ixN
    rw [if_pos (by omega), if_pos (by omega)]
    simp [h]
  show (match L2.atI l (i : Int) with
    | some y => some (y, m)
    | none => none) = _
  rw [ha]
theorem ixL {l : List D} {i : Nat} (h : i < l.length) (m : Mem) : oIx (.lst l) (.int i) m = some (l[i], m) := by
  have ha : L2.atI l (i : Int) = some l[i] := by
    unfold L2.atI L2.ixN
    rw [if_pos (by omega), if_pos (by omega)]
    simp [h]
  show (match L2.atI l (i : Int) with
    | some y => some (y, m)
    | none => none) = _
  rw [ha]
theorem alike_refl : ∀ (n : Nat) (d : D), AK n d → ∀ m, F_law_alike (n + 1) [d, d] m = .ok (.bl true) m := by
  intro n
  induction n with
  | zero =>
    intro d h m
    cases d with
    | int i =>
      refine clos_same ?_ rfl
      simp [q_fn, b_law_alike, D.ty, isTy, oIsi, oIsN, D.isNon, eq_bl, oEq_int]
    | bl i =>
      refine clos_same ?_ rfl
      simp [q_fn, b_law_alike, D.ty, isTy, oIsi, oIsN, D.isNon, eq_bl, oEq_int]
    | non =>
      refine clos_same ?_ rfl
      simp [q_fn, b_law_alike, D.ty, isTy, oIsi, oIsN, D.isNon, eq_bl, oEq_int, eq_non]
    | _ => exact h.elim
  | succ n ih =>
    intro d h m
    have sub : ∀ (l : List D) (mk : List D → D) (hx : ∀ (i : Nat) (h : i < l.length) (m : Mem), oIx (mk l) (.int i) m = some (l[i], m)) (hl : l.length ≤ 100000) (ha : ∀ d ∈ l, AK n d),
        letGo m (lcR rng1 [2] (ogN 2) (t_law_alike_0 (F_law_alike (n + 1))) (e_law_alike_1 (F_law_alike (n + 1))) [some (mk l), some (mk l), none] [.int l.length] m) = .ok (.lst []) m := by
      intro l mk hix hl ha
      have c := lcD_fil (vs := [2]) (gd := ogN 2) (t := t_law_alike_0 (F_law_alike (n + 1))) (e := e_law_alike_1 (F_law_alike (n + 1))) (sd := [some (mk l), some (mk l), none]) (p := fun _ => false) (g := id) (m := m) (n := m.length) rfl (xs := rngD 0 1 l.length) (acc := [])
        (fun x hx m' => by
          unfold rngD at hx
          obtain ⟨i, hi, rfl⟩ := List.mem_map.mp hx
          have hi' : i < l.length := List.mem_range.mp hi
          refine ⟨_, rfl, ?_, fun z => by cases z⟩
          have e1 := hix i hi' m'
          have e2 := ih l[i] (ha _ (List.getElem_mem hi')) m'
          simp [t_law_alike_0, wipeD, e1, e2]) (by rw [rngD_length]; exact Nat.le_trans (by simpa using hl) (by decide))
      have rg := rng1_nat (n := l.length) (Nat.le_trans hl (by decide))
      unfold lcR
      rw [rg]
      show letGo m (lcEnd m.length (lcD _ _ _ _ _ _ _ _)) = _
      rw [c]
      have : (List.map id (List.filter (fun _ => false) (rngD 0 1 l.length))) = [] := by simp
      rw [this, List.nil_append]
      exact lc_go (Cells.refl m) rfl
    cases d with
    | int i =>
      refine clos_same ?_ rfl
      simp [q_fn, b_law_alike, D.ty, isTy, oIsi, oIsN, D.isNon, eq_bl, oEq_int]
    | bl i =>
      refine clos_same ?_ rfl
      simp [q_fn, b_law_alike, D.ty, isTy, oIsi, oIsN, D.isNon, eq_bl, oEq_int]
    | non =>
      refine clos_same ?_ rfl
      simp [q_fn, b_law_alike, D.ty, isTy, oIsi, oIsN, D.isNon, eq_bl, oEq_int, eq_non]
    | tup l =>
      refine clos_same ?_ rfl
      have s := sub l .tup (fun i h m => ixT h m) h.1 h.2
      simp [q_fn, b_law_alike, D.ty, isTy, oIsi, ne_bl, oLen_tup, oNe_int, s, eq_nil, big]
    | lst l =>
      refine clos_same ?_ rfl
      have s := sub l .lst (fun i h m => ixL h m) h.1 h.2
      simp [q_fn, b_law_alike, D.ty, isTy, oIsi, ne_bl, oLen_lst, oNe_int, s, eq_nil, big]
    | _ => exact h.elim
end Pl

set_option Elab.async false
set_option linter.all false
set_option maxRecDepth 100000
set_option maxHeartbeats 4000000
namespace Pl
open PySem PySem.Spec L2 Dl Wk
theorem sl_take {l : List D} {k : Int} (h : 0 ≤ k) (h2 : k ≤ l.length) (m : Mem) : oSl (.lst l) none (some k) m = some (.lst (l.take k.toNat), m) := by
  show some (D.lst (cutD l none (some k)), m) = _
  obtain ⟨n, rfl⟩ := Int.eq_ofNat_of_zero_le h
  have : cutD l none (some (n : Int)) = l.take n := by
    unfold cutD
    rw [HT.sIx_none, HT.sIx_nat, List.drop_zero, Nat.sub_zero, Nat.min_eq_left (by omega)]
  rw [this]
  rfl
theorem sl_drop {l : List D} {k : Int} (h : 0 ≤ k) (h2 : k ≤ l.length) (m : Mem) : oSl (.lst l) (some k) none m = some (.lst (l.drop k.toNat), m) := by
  show some (D.lst (cutD l (some k) none), m) = _
  obtain ⟨n, rfl⟩ := Int.eq_ofNat_of_zero_le h
  have : cutD l (some (n : Int)) none = l.drop n := by
    unfold cutD
    rw [HT.sIx_none, HT.sIx_nat, Nat.min_eq_left (by omega)]
    rw [List.take_of_length_le (by rw [List.length_drop]; exact Nat.le_refl _)]
  rw [this]
  rfl
theorem ad_w {u v : List It} (h : u.length + v.length ≤ big) (m : Mem) : oAdd (.lst (u.map It.d)) (.lst (v.map It.d)) m = some (.lst ((u ++ v).map It.d), m) := by
  show (if (u.map It.d).length + (v.map It.d).length ≤ big then some (D.lst (u.map It.d ++ v.map It.d), m) else none) = _
  rw [if_pos (by rw [List.length_map, List.length_map]; exact h), List.map_append]
/-- no brackets, letters in range, at least one -/
structure Pln (n : Nat) (w : List It) : Prop where
  nb : ∀ a ∈ w, a ≠ .O ∧ a ≠ .C
  lets : Lets n w
  some_ : ∃ i, It.L i ∈ w
theorem dep_app : ∀ (u v : List It) (k : Int), dep (u ++ v) k = (dep u k).bind (dep v)
  | [], v, k => rfl
  | a :: u, v, k => by
    cases a with
    | L i => exact dep_app u v k
    | P => exact dep_app u v k
    | M => exact dep_app u v k
    | O => exact dep_app u v (k + 1)
    | C =>
      show (if k - 1 < 0 then none else dep (u ++ v) (k - 1)) = (if k - 1 < 0 then none else dep u (k - 1)).bind (dep v)
      by_cases q : k - 1 < 0
      · rw [if_pos q, if_pos q]; rfl
      · rw [if_neg q, if_neg q]; exact dep_app u v (k - 1)
theorem dep_pln : ∀ (w : List It) (k : Int), (∀ a ∈ w, a ≠ .O ∧ a ≠ .C) → dep w k = some k
  | [], k, _ => rfl
  | a :: w, k, h => by
    have h1 := h a List.mem_cons_self
    have h2 := dep_pln w k fun x hx => h x (List.mem_cons_of_mem _ hx)
    cases a with
    | O => exact absurd rfl h1.1
    | C => exact absurd rfl h1.2
    | _ => exact h2
/-- a word that may have one branch -/
structure Brn (n len : Nat) (w : List It) : Prop where
  len : 1 ≤ w.length ∧ w.length ≤ len
  lets : Lets n w
  bal : dep w 0 = some 0
  some_ : ∃ i, It.L i ∈ w
theorem Brn.ok {n len : Nat} {w : List It} (h : Brn n len w) (hl : len ≤ 40) : WOk n w := ⟨⟨h.len.1, Nat.le_trans h.len.2 hl⟩, h.lets, h.bal, h.some_⟩
theorem Pln.brn {n : Nat} {w : List It} (h : Pln n w) {len : Nat} (hl : w.length ≤ len) : Brn n len w := by
  refine ⟨⟨?_, hl⟩, h.lets, dep_pln w 0 h.nb, h.some_⟩
  obtain ⟨i, hi⟩ := h.some_
  exact List.length_pos_of_mem hi
theorem brn_ins {n : Nat} {w : List It} (h : Pln n w) {len : Nat} (hl : w.length ≤ len) (k : Nat) (t : List It) (ht : t = [.P] ∨ t = [.M] ∨ t = []) (v : Int) (hv : 0 ≤ v ∧ v < n) : Brn n (len + 4) (w.take k ++ [.O] ++ t ++ [.L v] ++ [.C] ++ w.drop k) := by
  have tl : t.length ≤ 1 := by rcases ht with rfl | rfl | rfl <;> decide
  have tn : ∀ a ∈ t, a ≠ .O ∧ a ≠ .C ∧ ∀ i, a ≠ .L i := by
    rcases ht with rfl | rfl | rfl
    · intro a ha; rcases List.mem_singleton.mp ha with rfl; exact ⟨by decide, by decide, fun i z => by cases z⟩
    · intro a ha; rcases List.mem_singleton.mp ha with rfl; exact ⟨by decide, by decide, fun i z => by cases z⟩
    · intro a ha; cases ha
  refine ⟨?_, ?_, ?_, ⟨v, by simp⟩⟩
  · simp only [List.length_append, List.length_take, List.length_drop, List.length_cons, List.length_nil]
    omega
  · intro i hi
    simp only [List.mem_append, List.mem_singleton] at hi
    rcases hi with ((((h1 | h1) | h1) | h1) | h1) | h1
    · exact h.lets i (List.mem_of_mem_take h1)
    · cases h1
    · exact absurd rfl ((tn _ h1).2.2 i)
    · cases h1; exact hv
    · cases h1
    · exact h.lets i (List.mem_of_mem_drop h1)
  · have p1 : dep (w.take k) 0 = some 0 := dep_pln _ _ fun a ha => h.nb a (List.mem_of_mem_take ha)
    have p2 : dep t (0 + 1) = some (0 + 1) := dep_pln _ _ fun a ha => ⟨(tn a ha).1, (tn a ha).2.1⟩
    have p3 : dep (w.drop k) 0 = some 0 := dep_pln _ _ fun a ha => h.nb a (List.mem_of_mem_drop ha)
    have o1 : dep [.O] 0 = some (0 + 1) := rfl
    have l1 : dep [.L v] (0 + 1) = some (0 + 1) := rfl
    have c1 : dep [.C] (0 + 1) = some 0 := rfl
    rw [dep_app, dep_app, dep_app, dep_app, dep_app, p1]
    simp only [Option.bind_some, o1, p2, l1, c1, p3]
theorem branched_eq {s : List Int} {r : D} (hr : RwOk s r) {n : Nat} (hn : 1 ≤ n) (hn2 : n ≤ 100) {w : List It} (hw : Pln n w) {len : Nat} (hl : w.length ≤ len) (hlen : len ≤ 1000) (m : Mem) :
    ∃ w' r', F_law_branched [.loc 0, wD w, .int n] (r :: m) = .ok (wD w') (r' :: m) ∧ RwOk s r' ∧ Brn n (len + 4) w' := by
  have ls : ∀ (l : List D) (mm : Mem), oList [.tup l] mm = some (.lst l, mm) := fun _ _ => rfl
  have tp : ∀ (l : List D) (mm : Mem), oTuple [.lst l] mm = some (.tup l, mm) := fun _ _ => rfl
  obtain ⟨v1, r1, e1, _, _, h1⟩ := taken_eq hr (many := 3) (by decide) (by decide) m
  by_cases q : v1 = 0
  · subst q
    obtain ⟨at_, r2, e2, a1, a2, h2⟩ := taken_eq h1 (many := (w.length : Int) + 1) (by omega) (by omega) m
    obtain ⟨t, r3, e3, t1, h3⟩ := pick_eq h2 (l := [.lst [.str "+"], .lst [.str "-"], .lst []]) (by simp) (by decide) (by intro d hd; simp at hd; rcases hd with rfl | rfl | rfl <;> rfl) m
    obtain ⟨v, r4, e4, v1, v2, h4⟩ := taken_eq h3 (many := (n : Int)) (by omega) (by omega) m
    have ht : ∃ t', t = .lst (t'.map It.d) ∧ (t' = [.P] ∨ t' = [.M] ∨ t' = []) := by
      simp at t1
      rcases t1 with rfl | rfl | rfl
      · exact ⟨[.P], rfl, .inl rfl⟩
      · exact ⟨[.M], rfl, .inr (.inl rfl)⟩
      · exact ⟨[], rfl, .inr (.inr rfl)⟩
    obtain ⟨t', rfl, ht'⟩ := ht
    have tl : t'.length ≤ 1 := by rcases ht' with rfl | rfl | rfl <;> decide
    have s1 := fun mm => sl_take (l := w.map It.d) a1 (by rw [List.length_map]; omega) mm
    have s2 := fun mm => sl_drop (l := w.map It.d) a1 (by rw [List.length_map]; omega) mm
    rw [← List.map_take] at s1
    rw [← List.map_drop] at s2
    have bnd : ∀ x : Nat, x ≤ 4000 → x ≤ big := fun x hx => Nat.le_trans hx (by decide)
    have lt : (w.take at_.toNat).length ≤ 1000 := Nat.le_trans (by rw [List.length_take]; omega) hlen
    have ld : (w.drop at_.toNat).length ≤ 1000 := Nat.le_trans (by rw [List.length_drop]; omega) hlen
    have b1 := fun mm => ad_w (u := w.take at_.toNat) (v := [.O]) (bnd _ (by simp only [List.length_cons, List.length_nil]; omega)) mm
    have b2 := fun mm => ad_w (u := w.take at_.toNat ++ [.O]) (v := t') (bnd _ (by simp only [List.length_append, List.length_cons, List.length_nil]; omega)) mm
    have b3 := fun mm => ad_w (u := w.take at_.toNat ++ [.O] ++ t') (v := [.L v]) (bnd _ (by simp only [List.length_append, List.length_cons, List.length_nil]; omega)) mm
    have b4 := fun mm => ad_w (u := w.take at_.toNat ++ [.O] ++ t' ++ [.L v]) (v := [.C]) (bnd _ (by simp only [List.length_append, List.length_cons, List.length_nil]; omega)) mm
    have b5 := fun mm => ad_w (u := w.take at_.toNat ++ [.O] ++ t' ++ [.L v] ++ [.C]) (v := w.drop at_.toNat) (bnd _ (by simp only [List.length_append, List.length_cons, List.length_nil]; omega)) mm
    refine ⟨w.take at_.toNat ++ [.O] ++ t' ++ [.L v] ++ [.C] ++ w.drop at_.toNat, r4, clos_row (ex := []) ?_ h4 (wD_b _ 0), h4, brn_ins hw hl at_.toNat t' ht' v ⟨v1, v2⟩⟩
    have x1 : ([It.O].map It.d) = [.str "["] := rfl
    have x2 : ([It.C].map It.d) = [.str "]"] := rfl
    have x3 : ([It.L v].map It.d) = [.int v] := rfl
    rw [x1] at b1
    rw [x3] at b3
    rw [x2] at b4
    simp only [wD, List.append_nil]
    simp [q_fn, b_law_branched, ls, e1, oEq_int, oLen_lst, e2, e3, e4, big, -List.map_take, -List.map_drop, -List.map_append, -List.append_assoc, s1, s2, b1, b2, b3, b4, b5, tp]
  · refine ⟨w, r1, clos_row (ex := []) ?_ h1 (wD_b _ 0), h1, hw.brn (by omega)⟩
    simp [q_fn, b_law_branched, ls, e1, oEq_int, q, tp, wD]
end Pl

set_option Elab.async false
set_option linter.all false
set_option maxRecDepth 100000
set_option maxHeartbeats 4000000
namespace Pl
open PySem PySem.Spec L2 Dl Wk
section
variable {r : D} {m : Mem} {l : List D}
theorem apW {y : D} (h : l.length < big) : oAppend (.loc (m.length + 1)) [y] (r :: (m ++ [D.lst l])) = some (.non, r :: (m ++ [D.lst (l ++ [y])])) := oAppend_last (m := r :: m) (ex := []) h
theorem lstW : (D.loc (m.length + 1)).lst? (r :: (m ++ [D.lst l])) = some l := lst_last (m := r :: m) (ex := [])
theorem rdlW : (D.loc (m.length + 1)).rdl? (r :: (m ++ [D.lst l])) = some l := by
  have := get_last (r :: m) (.lst l) []
  simp only [D.rdl?]
  simp at this
  simp [this]
theorem seqW : (D.loc (m.length + 1)).seq? (r :: (m ++ [D.lst l])) = some l := by
  have := get_last (r :: m) (.lst l) []
  simp only [D.seq?]
  simp at this
  simp [this]
theorem sl_loc {d : D} {lo hi : Option Int} {mm : Mem} (h : d.rdl? mm = some l) : oSl d lo hi mm = some (.lst (cutD l lo hi), mm) := by
  unfold oSl
  rw [h]
end
theorem cut1 {l : List D} (h : 1 ≤ l.length) : cutD l (some 1) none = l.drop 1 ∧ cutD l none (some 1) = l.take 1 := by
  have e1 := HT.sIx_nat l.length 0 1
  have e2 := HT.sIx_nat l.length l.length 1
  constructor
  · unfold cutD
    rw [HT.sIx_none, show (1 : Int) = ((1 : Nat) : Int) from rfl, e1, Nat.min_eq_left h]
    rw [List.take_of_length_le (by rw [List.length_drop]; exact Nat.le_refl _)]
  · unfold cutD
    rw [HT.sIx_none, show (1 : Int) = ((1 : Nat) : Int) from rfl, e2, List.drop_zero, Nat.sub_zero, Nat.min_eq_left h]
/-- a word under way -/
def Way (n k : Nat) (w : List It) : Prop := (∀ a ∈ w, a ≠ .O ∧ a ≠ .C) ∧ Lets n w ∧ w.length ≤ 2 * k ∧ (1 ≤ k → ∃ i, It.L i ∈ w)
theorem Way.add {n k : Nat} {w : List It} (h : Way n k w) {v : Int} (hv : 0 ≤ v ∧ v < n) (t : List It) (ht : t = [] ∨ t = [.P] ∨ t = [.M]) : Way n (k + 1) (w ++ [It.L v] ++ t) := by
  have tn : ∀ a ∈ t, a ≠ .O ∧ a ≠ .C ∧ ∀ i, a ≠ .L i := by
    rcases ht with rfl | rfl | rfl
    · intro a ha; cases ha
    · intro a ha; rcases List.mem_singleton.mp ha with rfl; exact ⟨by decide, by decide, fun i z => by cases z⟩
    · intro a ha; rcases List.mem_singleton.mp ha with rfl; exact ⟨by decide, by decide, fun i z => by cases z⟩
  have tl : t.length ≤ 1 := by rcases ht with rfl | rfl | rfl <;> decide
  refine ⟨fun a ha => ?_, fun i hi => ?_, ?_, fun _ => ⟨v, by simp⟩⟩
  · simp only [List.mem_append, List.mem_singleton] at ha
    rcases ha with (ha | rfl) | ha
    · exact h.1 a ha
    · exact ⟨by simp, by simp⟩
    · exact ⟨(tn a ha).1, (tn a ha).2.1⟩
  · simp only [List.mem_append, List.mem_singleton] at hi
    rcases hi with (hi | hi) | hi
    · exact h.2.1 i hi
    · cases hi; exact hv
    · exact absurd rfl ((tn _ hi).2.2 i)
  · simp only [List.length_append, List.length_cons, List.length_nil]
    have := h.2.2.1
    omega
theorem word_step {s : List Int} {r : D} (hr : RwOk s r) {n : Nat} (hn : 1 ≤ n) (hn2 : n ≤ 100) {k : Nat} (hk : k ≤ 1000) {w : List It} (hw : Way n k w) {x z : Option D} {m : Mem} :
    ∃ w' r', l_law_word_0 [some (.loc 0), some (.int n), x, some (.loc (m.length + 1)), z] (r :: (m ++ [.lst (w.map It.d)])) = .nx [some (.loc 0), some (.int n), x, some (.loc (m.length + 1)), z] (r' :: (m ++ [.lst (w'.map It.d)])) ∧ RwOk s r' ∧ Way n (k + 1) w' := by
  have hb : (2000 : Nat) + 10 < big := by decide
  obtain ⟨v, r1, e1, v1, v2, h1⟩ := taken_eq hr (many := (n : Int)) (by omega) (by omega) (m ++ [.lst (w.map It.d)])
  have a1 := apW (r := r1) (m := m) (l := w.map It.d) (y := .int v) (by rw [List.length_map]; have := hw.2.2.1; omega)
  have x1 : w.map It.d ++ [D.int v] = (w ++ [It.L v]).map It.d := by rw [List.map_append]; rfl
  rw [x1] at a1
  obtain ⟨c, r2, e2, _, _, h2⟩ := taken_eq h1 (many := 2) (by decide) (by decide) (m ++ [.lst ((w ++ [It.L v]).map It.d)])
  have l1 := lstW (r := r) (m := m) (l := w.map It.d)
  by_cases q : c = 0
  · subst q
    obtain ⟨t, r3, e3, t1, h3⟩ := pick_eq h2 (l := [.str "+", .str "-"]) (by simp) (by decide) (by intro d hd; simp at hd; rcases hd with rfl | rfl <;> rfl) (m ++ [.lst ((w ++ [It.L v]).map It.d)])
    have ht : ∃ a : It, t = a.d ∧ (a = .P ∨ a = .M) := by
      simp at t1
      rcases t1 with rfl | rfl
      · exact ⟨.P, rfl, .inl rfl⟩
      · exact ⟨.M, rfl, .inr rfl⟩
    obtain ⟨a, rfl, ha⟩ := ht
    have a2 := apW (r := r3) (m := m) (l := (w ++ [It.L v]).map It.d) (y := a.d) (by rw [List.length_map, List.length_append]; have := hw.2.2.1; simp only [List.length_cons, List.length_nil]; omega)
    have x2 : (w ++ [It.L v]).map It.d ++ [a.d] = (w ++ [It.L v] ++ [a]).map It.d := by rw [List.map_append (l₁ := w ++ [It.L v])]; rfl
    rw [x2] at a2
    have l2 := lstW (r := r2) (m := m) (l := (w ++ [It.L v]).map It.d)
    refine ⟨w ++ [It.L v] ++ [a], r3, ?_, h3, hw.add ⟨v1, v2⟩ [a] (by rcases ha with rfl | rfl; exact .inr (.inl rfl); exact .inr (.inr rfl))⟩
    simp [l_law_word_0, l1, e1, a1, e2, oEq_int, l2, e3, a2, big, -List.map_append, -List.append_assoc]
  · refine ⟨w ++ [It.L v], r2, ?_, h2, by have := hw.add ⟨v1, v2⟩ [] (.inl rfl); rwa [List.append_nil] at this⟩
    simp [l_law_word_0, l1, e1, a1, e2, oEq_int, q, big, -List.map_append, -List.append_assoc]
theorem word_loop {s : List Int} {n : Nat} (hn : 1 ≤ n) (hn2 : n ≤ 100) {x : Option D} {m : Mem} : ∀ (l : List D) (k : Nat) (r : D) (w : List It) (z : Option D), RwOk s r → Way n k w → k + l.length ≤ 1000 →
    ∃ w' r' z', forD (tgN 4) l_law_word_0 l [some (.loc 0), some (.int n), x, some (.loc (m.length + 1)), z] (r :: (m ++ [.lst (w.map It.d)])) = .nx [some (.loc 0), some (.int n), x, some (.loc (m.length + 1)), z'] (r' :: (m ++ [.lst (w'.map It.d)])) ∧ RwOk s r' ∧ Way n (k + l.length) w'
  | [], k, r, w, z, hr, hw, _ => ⟨w, r, z, rfl, hr, hw⟩
  | y :: l, k, r, w, z, hr, hw, hk => by
    rw [List.length_cons] at hk
    obtain ⟨w1, r1, e1, h1, hw1⟩ := word_step hr hn hn2 (k := k) (by omega) hw (x := x) (z := some y) (m := m)
    obtain ⟨w2, r2, z2, e2, h2, hw2⟩ := word_loop hn hn2 (x := x) (m := m) l (k + 1) r1 w1 (some y) h1 hw1 (by omega)
    refine ⟨w2, r2, z2, ?_, h2, ?_⟩
    · rw [forD_cons, turnN (by simpa using e1)]
      exact e2
    · have : k + (y :: l).length = k + 1 + l.length := by rw [List.length_cons]; omega
      rw [this]; exact hw2
theorem rng1_int {i : Int} (h0 : 0 ≤ i) (h : i ≤ 1000) : rng1 [D.int i] = some (0, 1, i.toNat) := by
  obtain ⟨n, rfl⟩ := Int.eq_ofNat_of_zero_le h0
  exact rng1_nat (Nat.le_trans (by omega : n ≤ 1000) (by decide))
theorem word_eq {s : List Int} {r : D} (hr : RwOk s r) {n : Nat} (hn : 1 ≤ n) (hn2 : n ≤ 100) {most : Nat} (h1 : 1 ≤ most) (h2 : most ≤ 100) (m : Mem) :
    ∃ w r', F_law_word [.loc 0, .int n, .int most] (r :: m) = .ok (wD w) (r' :: m) ∧ RwOk s r' ∧ Pln n w ∧ w.length ≤ 2 * most := by
  obtain ⟨v, r1, e1, v1, v2, k1⟩ := taken_eq hr (many := (most : Int)) (by omega) (by omega) (m ++ [.lst []])
  have rg := rng1_int (i := 1 + v) (by omega) (by omega)
  obtain ⟨w, r2, z, e2, k2, hw⟩ := word_loop (s := s) hn hn2 (x := some (.int most)) (m := m) (rngD 0 1 (1 + v).toNat) 0 r1 [] none k1 ⟨by simp, ⟨(fun i hi => by cases hi), ⟨by simp, fun h => by omega⟩⟩⟩ (by rw [rngD_length]; omega)
  rw [rngD_length] at hw
  obtain ⟨q3, r3, e3, _, _, k3⟩ := taken_eq k2 (many := 3) (by decide) (by decide) (m ++ [.lst (w.map It.d)])
  obtain ⟨i, hi⟩ := hw.2.2.2 (by omega)
  have hlen : 1 ≤ w.length := List.length_pos_of_mem hi
  have hl2 : w.length ≤ 2 * most := by have := hw.2.2.1; omega
  have pl : Pln n w := ⟨hw.1, hw.2.1, i, hi⟩
  have tp : ∀ (l : List D) (mm : Mem), oTuple [.lst l] mm = some (.tup l, mm) := fun _ _ => rfl
  simp at e2
  by_cases q : q3 = 0
  · subst q
    have pl2 : Pln n (w.drop 1 ++ w.take 1) := by
      refine ⟨fun a ha => ?_, fun j hj => ?_, i, ?_⟩
      · rcases List.mem_append.mp ha with h | h
        · exact hw.1 a (List.mem_of_mem_drop h)
        · exact hw.1 a (List.mem_of_mem_take h)
      · rcases List.mem_append.mp hj with h | h
        · exact hw.2.1 j (List.mem_of_mem_drop h)
        · exact hw.2.1 j (List.mem_of_mem_take h)
      · have : i = i := rfl
        rw [← List.take_append_drop 1 w] at hi
        rcases List.mem_append.mp hi with h | h
        · exact List.mem_append.mpr (.inr h)
        · exact List.mem_append.mpr (.inl h)
    obtain ⟨c1, c2⟩ := cut1 (l := w.map It.d) (by rw [List.length_map]; exact hlen)
    have s1 := sl_loc (lo := some 1) (hi := none) (rdlW (r := r3) (m := m) (l := w.map It.d))
    have s2 := sl_loc (lo := none) (hi := some 1) (rdlW (r := r3) (m := m) (l := w.map It.d))
    rw [c1, ← List.map_drop] at s1
    rw [c2, ← List.map_take] at s2
    have ad := ad_w (u := w.drop 1) (v := w.take 1) (Nat.le_trans (by simp only [List.length_drop, List.length_take]; omega : (w.drop 1).length + (w.take 1).length ≤ 1000) (by decide)) (r3 :: (m ++ [.lst (w.map It.d)]))
    refine ⟨w.drop 1 ++ w.take 1, r3, clos_row (ex := [.lst (w.map It.d)]) ?_ k3 (wD_b _ 0), k3, pl2, by simp only [List.length_append, List.length_drop, List.length_take]; omega⟩
    simp [q_fn, b_law_word, big, e1, rg, e2, e3, oEq_int, s1, s2, ad, tp, wD, -List.map_append, -List.map_take, -List.map_drop, -List.drop_one]
  · have t2 : oTuple [.loc (m.length + 1)] (r3 :: (m ++ [D.lst (w.map It.d)])) = some (.tup (w.map It.d), r3 :: (m ++ [D.lst (w.map It.d)])) := by
      simp only [oTuple, rdlW]
    refine ⟨w, r3, clos_row (ex := [.lst (w.map It.d)]) ?_ k3 (wD_b _ 0), k3, pl, hl2⟩
    simp [q_fn, b_law_word, big, e1, rg, e2, e3, oEq_int, q, wD]
    simp [t2]
end Pl

set_option Elab.async false
set_option linter.all false
set_option maxRecDepth 100000
set_option maxHeartbeats 4000000
namespace Pl
open PySem PySem.Spec L2 Dl Wk
theorem ws_of {Q : List It → Prop} : ∀ {ys : List D}, (∀ y ∈ ys, ∃ w, y = wD w ∧ Q w) → ∃ ws : List (List It), ys = ws.map wD ∧ ∀ w ∈ ws, Q w
  | [], _ => ⟨[], rfl, fun _ h => by cases h⟩
  | y :: ys, h => by
    obtain ⟨w, rfl, q⟩ := h y List.mem_cons_self
    obtain ⟨ws, rfl, q2⟩ := ws_of (ys := ys) fun z hz => h z (List.mem_cons_of_mem _ hz)
    refine ⟨w :: ws, rfl, fun u hu => ?_⟩
    rcases List.mem_cons.mp hu with rfl | hu
    · exact q
    · exact q2 u hu
/-- words drawn one behind another -/
theorem lc_draw {s : List Int} {vs : List Nat} {gd : OF} {e : EF} {sd : Sl} {m : Mem} {r : D} (hr : RwOk s r) {Q : List It → Prop} {xs : List D} (hl : xs.length ≤ big)
    (h : ∀ x ∈ xs, ∀ r m', RwOk s r → ∃ sd1, gd x (wipeD sd vs) = some sd1 ∧ ∃ w r', e sd1 (r :: m') = .ok (wD w) (r' :: m') ∧ RwOk s r' ∧ Q w) :
    ∃ (ws : List (List It)) (r' : D), letGo (r :: m) (lcEnd (m.length + 1) (lcD vs gd tYesD e (m.length + 1) sd xs (r :: (m ++ [.lst []])))) = .ok (.lst (ws.map wD)) (r' :: m) ∧ RwOk s r' ∧ ws.length = xs.length ∧ ∀ w ∈ ws, Q w := by
  obtain ⟨ys, m', z, ⟨r', rfl, hr'⟩, e4⟩ := lcD_st (P := fun _ y => ∃ w, y = wD w ∧ Q w) (St := fun M => ∃ r', M = r' :: m ∧ RwOk s r') (n := m.length + 1) (sd := sd) (vs := vs) (gd := gd) (t := tYesD) (e := e) (xs := xs) (acc := []) (m := r :: m)
    (fun x hx M acc hM => by
      obtain ⟨r1, rfl, h1⟩ := hM
      obtain ⟨sd1, e1, w, r2, e2, h2, q⟩ := h x hx r1 (m ++ [.lst acc]) h1
      exact ⟨sd1, e1, rfl, wD w, r2 :: m, e2, ⟨r2, rfl, h2⟩, w, rfl, q⟩) (fun M hM => by obtain ⟨r1, rfl, _⟩ := hM; rfl) ⟨r, rfl, hr⟩ (by simpa using hl)
  obtain ⟨ws, rfl, q⟩ := ws_of (z.right (Q := fun y => ∃ w, y = wD w ∧ Q w) fun _ _ h => h)
  refine ⟨ws, r', ?_, hr', by have := z.len; simpa using this, q⟩
  rw [List.nil_append] at e4
  have e5 : lcD vs gd tYesD e (m.length + 1) sd xs (r :: (m ++ [.lst []])) = some ((r' :: m) ++ [.lst (ws.map wD)]) := e4
  rw [e5]
  exact lc_go (m := r :: m) (m' := r' :: m) (Cells.cons (hr'.b _)) (ws_b ws _)
theorem tup_lst (l : List D) (m : Mem) : oTuple [.lst l] m = some (.tup l, m) := rfl
theorem book_eq {s : List Int} {r : D} (hr : RwOk s r) (m : Mem) : ∃ b r', F_law_book [.loc 0] (r :: m) = .ok (bkD b) (r' :: m) ∧ RwOk s r' ∧ BOk b := by
  obtain ⟨v, r1, e1, v1, v2, h1⟩ := taken_eq hr (many := 3) (by decide) (by decide) m
  obtain ⟨n, hn⟩ := Int.eq_ofNat_of_zero_le (show 0 ≤ 1 + v by omega)
  have hn1 : 1 ≤ n := by omega
  have hn3 : n ≤ 3 := by omega
  obtain ⟨ws, r2, e2, h2, wl, wq⟩ := lc_draw h1 (vs := [3]) (gd := ogN 3) (e := e_law_book_0) (sd := [some (.loc 0), some (.int n), none, none]) (m := m) (Q := Brn n 10) (xs := rngD 0 1 n) (by rw [rngD_length]; exact Nat.le_trans hn3 (by decide))
    (fun x hx r m' hr => by
      refine ⟨_, rfl, ?_⟩
      obtain ⟨w, r3, e3, h3, p3, l3⟩ := word_eq hr (n := n) hn1 (by omega) (most := 3) (by decide) (by decide) m'
      obtain ⟨w4, r4, e4, h4, b4⟩ := branched_eq h3 (n := n) hn1 (by omega) p3 (len := 6) l3 (by decide) m'
      refine ⟨w4, r4, ?_, h4, b4⟩
      have e3' : F_law_word [.loc 0, .int n, .int 3] (r :: m') = .ok (wD w) (r3 :: m') := e3
      simp [e_law_book_0, wipeD, e3', e4])
  obtain ⟨w, r3, e3, h3, p3, l3⟩ := word_eq h2 (n := n) hn1 (by omega) (most := 3) (by decide) (by decide) m
  obtain ⟨w4, r4, e4, h4, b4⟩ := branched_eq h3 (n := n) hn1 (by omega) p3 (len := 6) l3 (by decide) m
  have e3' : F_law_word [.loc 0, .int n, .int 3] (r2 :: m) = .ok (wD w) (r3 :: m) := e3
  have hwl : ws.length = n := by rw [wl, rngD_length]
  have rg := rng1_nat (n := n) (Nat.le_trans hn3 (by decide))
  refine ⟨⟨ws, w4⟩, r4, clos_row (ex := []) ?_ h4 (bkD_b _ 0), h4, ⟨by show 1 ≤ ws.length ∧ ws.length ≤ 3; omega, fun u hu => ?_, ?_, fun u hu => Nat.le_trans (wq u hu).len.2 (by decide)⟩⟩
  · have hn' : 1 + v = (n : Int) := hn
    simp [q_fn, b_law_book, e1, hn', lcR, rg, e2, tup_lst, e3', e4, big, bkD]
  · show WOk ws.length u
    rw [hwl]
    exact (wq u hu).ok (by decide)
  · show WOk ws.length w4
    rw [hwl]
    exact b4.ok (by decide)
/-! the kit -/
def wokB (n : Nat) (w : List It) : Bool := decide (1 ≤ w.length) && (decide (w.length ≤ 40) && (w.all (fun a => match a with
  | .L i => decide (0 ≤ i) && decide (i < n)
  | _ => true) && (decide (dep w 0 = some 0) && w.any It.isL)))
theorem wokB_ok {n : Nat} {w : List It} (h : wokB n w = true) : WOk n w := by
  unfold wokB at h
  simp only [Bool.and_eq_true, decide_eq_true_eq] at h
  obtain ⟨h1, h2, h3, h4, h5⟩ := h
  refine ⟨⟨h1, h2⟩, fun i hi => ?_, h4, ?_⟩
  · have := List.all_eq_true.mp h3 _ hi
    simpa using this
  · obtain ⟨a, ha, q⟩ := List.any_eq_true.mp h5
    cases a with
    | L i => exact ⟨i, ha⟩
    | _ => cases q
def bokB (b : Bk) : Bool := decide (1 ≤ b.words.length) && (decide (b.words.length ≤ 3) && (b.words.all (wokB b.words.length) && (wokB b.words.length b.start && b.words.all fun w => decide (w.length ≤ 21))))
theorem bokB_ok {b : Bk} (h : bokB b = true) : BOk b := by
  unfold bokB at h
  simp only [Bool.and_eq_true, decide_eq_true_eq] at h
  obtain ⟨h1, h2, h3, h4, h5⟩ := h
  exact ⟨⟨h1, h2⟩, fun w hw => wokB_ok (List.all_eq_true.mp h3 w hw), wokB_ok h4, fun w hw => of_decide_eq_true (List.all_eq_true.mp h5 w hw)⟩
def kDragon : List (List It) := [[.L 0, .P, .L 1, .M], [.P, .L 0, .M, .L 1]]
def kSquare : List (List It) := [[.L 0, .P, .L 0, .M, .L 0, .M, .L 0, .P, .L 0]]
def kLevy : List (List It) := [[.L 0, .P, .L 0, .M]]
def kWide : List (List It) := [[.L 0, .P, .L 0, .M, .M, .L 0, .P, .L 0, .L 0]]
def kits : List Bk := [⟨kDragon, [.L 0]⟩, ⟨kSquare, [.L 0]⟩, ⟨kLevy, [.L 0]⟩, ⟨kDragon, [.L 1, .P, .L 0]⟩, ⟨kSquare, [.L 0, .M, .L 0]⟩, ⟨kWide, [.L 0]⟩]
theorem kits_ok : ∀ b ∈ kits, BOk b := fun b hb => bokB_ok (List.all_eq_true.mp (show kits.all bokB = true by decide +kernel) b hb)
theorem kit_eq {s : List Int} {r : D} (hr : RwOk s r) (m : Mem) : ∃ b r', F_law_kit [.loc 0] (r :: m) = .ok (bkD b) (r' :: m) ∧ RwOk s r' ∧ BOk b := by
  obtain ⟨d, r1, e1, h1, h2⟩ := pick_eq hr (l := kits.map bkD) (by simp [kits]) (by decide) (fun d hd => by obtain ⟨b, _, rfl⟩ := List.mem_map.mp hd; exact bkD_b b 0) m
  obtain ⟨b, hb, rfl⟩ := List.mem_map.mp h1
  refine ⟨b, r1, clos_row (ex := []) ?_ h2 (bkD_b b 0), h2, kits_ok b hb⟩
  simp [kits, bkD, wD, It.d, kDragon, kSquare, kLevy, kWide] at e1
  simp [q_fn, b_law_kit, big, D.tup?, e1, bkD]
  rfl
end Pl

set_option Elab.async false
set_option linter.all false
set_option maxRecDepth 100000
set_option maxHeartbeats 4000000
namespace Pl
open PySem PySem.Spec L2 Dl Wk
theorem o_rep {d : D} {k : Int} (h0 : 0 ≤ k) (h1 : k ≤ 1000) (m : Mem) : oMul (.lst [d]) (.int k) m = some (.lst (List.replicate k.toNat d), m) := by
  have hc : -(2 ^ 63) ≤ k ∧ k < 2 ^ 63 ∧ [d].length * k.toNat ≤ big := by
    refine ⟨by omega, by omega, ?_⟩
    have : k.toNat ≤ 1000 := by omega
    exact Nat.le_trans (by simp; omega) (by decide : 1000 ≤ big)
  have e : repD k.toNat [d] = List.replicate k.toNat d := by
    unfold repD
    generalize k.toNat = n
    induction n with
    | zero => rfl
    | succ n ih => rw [List.replicate_succ, List.flatten_cons, ih]; rfl
  show (cIf (-(2 ^ 63) ≤ k ∧ k < 2 ^ 63 ∧ [d].length * k.toNat ≤ big) (some (D.lst (repD k.toNat [d]), m)) none) = _
  rw [cIf_pos hc, e]
theorem erase_map : ∀ (l : List Int) (n : Nat), (l.map D.int).eraseIdx n = (l.eraseIdx n).map D.int
  | [], _ => rfl
  | _ :: _, 0 => rfl
  | a :: l, n + 1 => by
    rw [List.map_cons, List.eraseIdx_cons_succ, List.eraseIdx_cons_succ, List.map_cons, erase_map l n]
theorem popW {r : D} {m : Mem} {l : List Int} {i : Int} (h0 : 0 ≤ i) (h : i < l.length) (hb : l.length ≤ 1000) : ∃ z, oPopAt (.loc (m.length + 1)) [.int i] (r :: (m ++ [D.lst (l.map D.int)])) = some (.int z, r :: (m ++ [D.lst ((l.eraseIdx i.toNat).map D.int)])) := by
  have hl : i.toNat < l.length := by omega
  refine ⟨l[i.toNat], ?_⟩
  have g := get_last (r :: m) (.lst (l.map D.int)) []
  have st := set_last (r :: m) (.lst (l.map D.int)) (.lst ((l.eraseIdx i.toNat).map D.int)) []
  simp at g st
  have e := erase_map l i.toNat
  have hi : i < 4611686018427387904 := by omega
  have e2 : (l.map D.int)[i.toNat]? = some (.int l[i.toNat]) := by simp [hl]
  have h2 : 0 ≤ i ∧ i < (l.map D.int).length := by rw [List.length_map]; exact ⟨h0, h⟩
  simp only [oPopAt]
  simp [g, st, h0, h, e, hl, hi]
theorem ints_lst_ok (l : List Int) (k : Nat) : D.oks k (l.map D.int) = true := ints_ok fun d hd => by obtain ⟨i, _, rfl⟩ := List.mem_map.mp hd; rfl
theorem derW {r : D} {m : Mem} {l : List D} : (D.loc (m.length + 1)).der (r :: (m ++ [D.lst l])) = .lst l := by
  have g := get_last (r :: m) (.lst l) []
  simp at g
  simp only [D.der]
  simp [g]
theorem neW {r : D} {m : Mem} {l : List Int} : oNe (.loc (m.length + 1)) (.lst []) (r :: (m ++ [D.lst (l.map D.int)])) = some (.bl (decide (l ≠ [])), r :: (m ++ [D.lst (l.map D.int)])) := by
  rw [oNe_ok (by rw [derW]; exact ints_lst_ok l 59) (by rfl), derW]
  cases l with
  | nil => rfl
  | cons a l => rfl
theorem lenW {r : D} {m : Mem} {l : List D} : oLen [.loc (m.length + 1)] (r :: (m ++ [D.lst l])) = some (.int l.length, r :: (m ++ [D.lst l])) := by
  simp only [oLen, seqW]
/-- the signs that turn by so many quarters -/
def turnW (k : Int) : List It := if k = 3 then [.M] else List.replicate k.toNat .P
theorem turnW_len {k : Int} (h : 0 ≤ k) (h4 : k < 4) : (turnW k).length ≤ 2 := by
  unfold turnW
  split
  · decide
  · rw [List.length_replicate]; omega
theorem turnW_nb {k : Int} : ∀ a ∈ turnW k, a = .P ∨ a = .M := by
  intro a ha
  unfold turnW at ha
  split at ha
  · exact .inr (List.mem_singleton.mp ha)
  · exact .inl (List.eq_of_mem_replicate ha)
theorem turnW_d (k : Int) : (turnW k).map It.d = if k = 3 then [.str "-"] else List.replicate k.toNat (.str "+") := by
  unfold turnW
  split
  · rfl
  · rw [List.map_replicate]; rfl
theorem even_step {s : List Int} {r : D} (hr : RwOk s r) {n : Nat} (hn : 1 ≤ n) (hn2 : n ≤ 100) {mv : D} {l : List Int} (hl : l ≠ []) (hb : l.length ≤ 1000) {w : List It} (hw : w.length ≤ 10000) {h : Int} {x4 x7 x8 : Option D} {m : Mem} :
    ∃ z v k r' c, l_law_even_word_1 [some (.loc 0), some (.int n), some mv, some (.loc (m.length + 1)), x4, some (.lst (w.map It.d)), some (.int h), x7, x8] (r :: (m ++ [.lst (l.map D.int)])) =
      .nx [some (.loc 0), some (.int n), some mv, some (.loc (m.length + 1)), x4, some (.lst ((w ++ turnW k ++ [It.L v]).map It.d)), some (.int z), some (.int z), some (.int k)] (r' :: (m ++ [.lst ((l.eraseIdx c).map D.int)])) ∧ RwOk s r' ∧ 0 ≤ v ∧ v < n ∧ 0 ≤ k ∧ k < 4 ∧ c < l.length := by
  have hpos : 0 < l.length := List.length_pos_iff.mpr hl
  obtain ⟨i, r1, e1, i1, i2, h1⟩ := taken_eq hr (many := (l.length : Int)) (by omega) (by omega) (m ++ [.lst (l.map D.int)])
  obtain ⟨z, e2⟩ := popW (r := r1) (m := m) i1 i2 hb
  obtain ⟨v, r2, e3, v1, v2, h2⟩ := taken_eq h1 (many := (n : Int)) (by omega) (by omega) (m ++ [.lst ((l.eraseIdx i.toNat).map D.int)])
  have k1 : 0 ≤ (z - h) % 4 := Int.emod_nonneg _ (by decide)
  have k2 : (z - h) % 4 < 4 := Int.emod_lt_of_pos _ (by decide)
  have tl := turnW_len k1 k2
  have a1 := ad_w (u := w) (v := turnW ((z - h) % 4)) (Nat.le_trans (by omega : w.length + (turnW ((z - h) % 4)).length ≤ 20000) (by decide)) (r1 :: (m ++ [.lst ((l.eraseIdx i.toNat).map D.int)]))
  have a2 := ad_w (u := w ++ turnW ((z - h) % 4)) (v := [It.L v]) (Nat.le_trans (by simp only [List.length_append, List.length_cons, List.length_nil]; omega : (w ++ turnW ((z - h) % 4)).length + [It.L v].length ≤ 20000) (by decide)) (r2 :: (m ++ [.lst ((l.eraseIdx i.toNat).map D.int)]))
  refine ⟨z, v, (z - h) % 4, r2, i.toNat, ?_, h2, v1, v2, k1, k2, by omega⟩
  have x1 : [It.L v].map It.d = [.int v] := rfl
  rw [x1] at a2
  rw [turnW_d] at a1
  have lw := lenW (r := r) (m := m) (l := l.map D.int)
  rw [List.length_map] at lw
  have ll := lstW (r := r) (m := m) (l := l.map D.int)
  have rp := o_rep (d := .str "+") k1 (by omega) (r1 :: (m ++ [D.lst ((l.eraseIdx i.toNat).map D.int)]))
  by_cases q : (z - h) % 4 = 3
  · rw [if_pos q] at a1
    rw [q] at a1 a2
    simp [l_law_even_word_1, ll, lw, e1, e2, oInt_i, o_mod, oEq_int, q, big, a1, e3, a2, -List.map_append, -List.append_assoc]
  · rw [if_neg q] at a1
    simp [l_law_even_word_1, ll, lw, e1, e2, oInt_i, o_mod, oEq_int, q, big, a1, rp, e3, a2, -List.map_append, -List.append_assoc]
/-- a word of steps under way: k letters at most -/
theorem even_loop {s : List Int} {n : Nat} (hn : 1 ≤ n) (hn2 : n ≤ 100) {mv : D} {x4 : Option D} {m : Mem} : ∀ (c : Nat) (l : List Int) (r : D) (w : List It) (h : Int) (x7 x8 : Option D) (fuel : Nat), l.length = c → c < fuel → c ≤ 1000 → RwOk s r → w.length + 3 * c ≤ 9000 → (∀ a ∈ w, a ≠ .O ∧ a ≠ .C) → Lets n w →
    ∃ w' r' h' y7 y8, whileD t_law_even_word_0 l_law_even_word_1 fuel [some (.loc 0), some (.int n), some mv, some (.loc (m.length + 1)), x4, some (.lst (w.map It.d)), some (.int h), x7, x8] (r :: (m ++ [.lst (l.map D.int)])) =
      .nx [some (.loc 0), some (.int n), some mv, some (.loc (m.length + 1)), x4, some (.lst (w'.map It.d)), some (.int h'), y7, y8] (r' :: (m ++ [.lst []])) ∧ RwOk s r' ∧ w'.length ≤ w.length + 3 * c ∧ (∀ a ∈ w', a ≠ .O ∧ a ≠ .C) ∧ Lets n w' ∧ ((∃ i, It.L i ∈ w) ∨ 1 ≤ c → ∃ i, It.L i ∈ w') := by
  intro c
  induction c with
  | zero =>
    intro l r w h x7 x8 fuel hl hf _ hr _ nb lt
    have : l = [] := List.length_eq_zero_iff.mp hl
    subst this
    cases fuel with
    | zero => omega
    | succ fuel =>
      have t : t_law_even_word_0 [some (.loc 0), some (.int n), some mv, some (.loc (m.length + 1)), x4, some (.lst (w.map It.d)), some (.int h), x7, x8] (r :: (m ++ [.lst []])) = .ok false (r :: (m ++ [.lst []])) := by
        have := neW (r := r) (m := m) (l := [])
        simp at this
        simp [t_law_even_word_0, big, this]
      refine ⟨w, r, h, x7, x8, ?_, hr, by omega, nb, lt, fun z => z.elim id (fun z => by omega)⟩
      simp [whileD, t]
  | succ c ih =>
    intro l r w h x7 x8 fuel hl hf hc hr hw nb lt
    have hne : l ≠ [] := fun e => by rw [e] at hl; cases hl
    cases fuel with
    | zero => omega
    | succ fuel =>
      have t : t_law_even_word_0 [some (.loc 0), some (.int n), some mv, some (.loc (m.length + 1)), x4, some (.lst (w.map It.d)), some (.int h), x7, x8] (r :: (m ++ [.lst (l.map D.int)])) = .ok true (r :: (m ++ [.lst (l.map D.int)])) := by
        have := neW (r := r) (m := m) (l := l)
        simp [t_law_even_word_0, big, this, hne]
      obtain ⟨z, v, k, r1, i, e1, h1, v1, v2, k1, k2, hi⟩ := even_step hr hn hn2 hne (by omega) (w := w) (by omega) (mv := mv) (h := h) (x4 := x4) (x7 := x7) (x8 := x8) (m := m)
      have tl := turnW_len k1 k2
      have le : (l.eraseIdx i).length = c := by rw [List.length_eraseIdx_of_lt hi, hl]; rfl
      have lw : (w ++ turnW k ++ [It.L v]).length ≤ w.length + 3 := by simp only [List.length_append, List.length_cons, List.length_nil]; omega
      obtain ⟨w', r', h', y7, y8, e2, q1, q2, q3, q4, q5⟩ := ih (l.eraseIdx i) r1 (w ++ turnW k ++ [It.L v]) z (some (.int z)) (some (.int k)) fuel le (by omega) (by omega) h1 (by omega)
        (fun a ha => by
          simp only [List.mem_append, List.mem_singleton] at ha
          rcases ha with (ha | ha) | rfl
          · exact nb a ha
          · rcases turnW_nb a ha with rfl | rfl <;> exact ⟨by decide, by decide⟩
          · exact ⟨by simp, by simp⟩)
        (fun j hj => by
          simp only [List.mem_append, List.mem_singleton] at hj
          rcases hj with (hj | hj) | hj
          · exact lt j hj
          · rcases turnW_nb _ hj with z | z <;> cases z
          · cases hj; exact ⟨v1, v2⟩)
      refine ⟨w', r', h', y7, y8, ?_, q1, by omega, q3, q4, fun _ => q5 (.inl ⟨v, by simp⟩)⟩
      rw [← e2]
      simp only [whileD, t, SR.ofR_ok, if_true, e1]
end Pl

set_option Elab.async false
set_option linter.all false
set_option maxRecDepth 100000
set_option maxHeartbeats 4000000
namespace Pl
open PySem PySem.Spec L2 Dl Wk
theorem oAddM_l {a b : List D} (h : a.length + b.length ≤ big) (m : Mem) : oAddM (.lst a) (.lst b) m = some (.loc m.length, m ++ [.lst (a ++ b)]) := by
  show (if a.length + b.length ≤ big then some (D.loc m.length, m ++ [D.lst (a ++ b)]) else none) = _
  rw [if_pos h]
theorem oAddM_w {r : D} {m : Mem} {a b : List D} (h : a.length + b.length ≤ big) : oAddM (.loc (m.length + 1)) (.lst b) (r :: (m ++ [D.lst a])) = some (.loc (m.length + 2), r :: (m ++ [D.lst a, .lst (a ++ b)])) := by
  unfold oAddM
  rw [lstW]
  have : (D.lst b).lst? (r :: (m ++ [D.lst a])) = some b := rfl
  rw [this]
  simp [h]
theorem oAbs_i (i : Int) (m : Mem) : oAbs [.int i] m = some (.int (if i < 0 then -i else i), m) := rfl
/-- the steps of a move -/
def stepsOf (dx dy : Int) : List Int := List.replicate dx.natAbs (if 0 < dx then 0 else 2) ++ List.replicate dy.natAbs (if 0 < dy then 1 else 3)
theorem rep_ints (k : Nat) (i : Int) : List.replicate k (D.int i) = (List.replicate k i).map D.int := by rw [List.map_replicate]
theorem abs_rep (dx : Int) : (if dx < 0 then -dx else dx).toNat = dx.natAbs := by split <;> omega
theorem even_tail {s : List Int} {r r' : D} {n : Nat} {mv x4 y7 y8 : Option D} {w : List It} {h : Int} {m ex : Mem} {lc : Nat} (hw : w.length ≤ 9000) (nb : ∀ a ∈ w, a ≠ .O ∧ a ≠ .C) (lt : Lets n w) (hs : ∃ i, It.L i ∈ w) (M : Mem) :
    ∃ w', Pln n w' ∧ w'.length ≤ w.length + 2 ∧ (sSeq (sAsg (xOp oMod (xCB oInt (aCons (xOp oSub (xC (.int 0)) (xVar 6)) aNil)) (xC (.int 4))) (tgN 8)) (sRet (xCB oTuple (aCons (xOp oAdd (xVar 5) (xIf (xT (xOp oEq (xVar 8) (xC (.int 3)))) (xLst (aCons (xC (.str "-")) aNil)) (xOp oMul (xLst (aCons (xC (.str "+")) aNil)) (xVar 8)))) aNil))))
      [some (.loc 0), some (.int n), mv, some (.loc lc), x4, some (.lst (w.map It.d)), some (.int h), y7, y8] M = .rt (wD w') M := by
  have k1 : 0 ≤ (0 - h) % 4 := Int.emod_nonneg _ (by decide)
  have k2 : (0 - h) % 4 < 4 := Int.emod_lt_of_pos _ (by decide)
  have tl := turnW_len k1 k2
  have a1 := ad_w (u := w) (v := turnW ((0 - h) % 4)) (Nat.le_trans (by omega : w.length + (turnW ((0 - h) % 4)).length ≤ 20000) (by decide)) M
  have rp := o_rep (d := .str "+") k1 (by omega) M
  obtain ⟨i, hi⟩ := hs
  refine ⟨w ++ turnW ((0 - h) % 4), ⟨fun a ha => ?_, fun j hj => ?_, i, List.mem_append.mpr (.inl hi)⟩, by rw [List.length_append]; omega, ?_⟩
  · rcases List.mem_append.mp ha with ha | ha
    · exact nb a ha
    · rcases turnW_nb a ha with rfl | rfl <;> exact ⟨by decide, by decide⟩
  · rcases List.mem_append.mp hj with hj | hj
    · exact lt j hj
    · rcases turnW_nb _ hj with z | z <;> cases z
  · rw [turnW_d] at a1
    by_cases q : (0 - h) % 4 = 3
    · rw [if_pos q] at a1
      rw [q] at a1
      simp only [Int.zero_sub] at q a1
      simp [oInt_i, o_mod, oEq_int, q, big, a1, tup_lst, wD, -List.map_append]
    · rw [if_neg q] at a1
      simp only [Int.zero_sub] at q a1 rp
      simp [oInt_i, o_mod, oEq_int, q, big, rp, a1, tup_lst, wD, -List.map_append]
theorem seq2 {f g k : SF} {sd sd1 : Sl} {m m1 : Mem} (h : sSeq f g sd m = .nx sd1 m1) : sSeq f (sSeq g k) sd m = k sd1 m1 := by
  simp only [q_seq] at h ⊢
  cases q : f sd m with
  | nx a b =>
    rw [q] at h
    simp only at h ⊢
    rw [h]
  | rt d m' => rw [q] at h; cases h
  | bk a b => rw [q] at h; cases h
  | ct a b => rw [q] at h; cases h
  | er e a b => rw [q] at h; cases h
  | stuck => rw [q] at h; cases h
theorem seq1 {f k : SF} {sd sd1 : Sl} {m m1 : Mem} (h : f sd m = .nx sd1 m1) : sSeq f k sd m = k sd1 m1 := by
  rw [q_seq, h]
theorem even_word_eq {s : List Int} {r : D} (hr : RwOk s r) {n : Nat} (hn : 1 ≤ n) (hn2 : n ≤ 100) {dx dy : Int} (hx : dx.natAbs ≤ 10) (hy : dy.natAbs ≤ 10) (hxy : 1 ≤ dx.natAbs + dy.natAbs) (m : Mem) :
    ∃ w r', F_law_even_word [.loc 0, .int n, .tup [.int dx, .int dy]] (r :: m) = .ok (wD w) (r' :: m) ∧ RwOk s r' ∧ Pln n w ∧ w.length ≤ 3 * (dx.natAbs + dy.natAbs + 2) + 2 := by
  have ax : oMul (.lst [.int 0]) (.int (if dx < 0 then -dx else dx)) (r :: m) = some (.lst ((List.replicate dx.natAbs (0 : Int)).map D.int), r :: m) := by
    rw [o_rep (by split <;> omega) (by split <;> omega), abs_rep, rep_ints]
  have ax2 : oMul (.lst [.int 2]) (.int (if dx < 0 then -dx else dx)) (r :: m) = some (.lst ((List.replicate dx.natAbs (2 : Int)).map D.int), r :: m) := by
    rw [o_rep (by split <;> omega) (by split <;> omega), abs_rep, rep_ints]
  have ay : oMul (.lst [.int 1]) (.int (if dy < 0 then -dy else dy)) (r :: m) = some (.lst ((List.replicate dy.natAbs (1 : Int)).map D.int), r :: m) := by
    rw [o_rep (by split <;> omega) (by split <;> omega), abs_rep, rep_ints]
  have ay2 : oMul (.lst [.int 3]) (.int (if dy < 0 then -dy else dy)) (r :: m) = some (.lst ((List.replicate dy.natAbs (3 : Int)).map D.int), r :: m) := by
    rw [o_rep (by split <;> omega) (by split <;> omega), abs_rep, rep_ints]
  have sl : (stepsOf dx dy).length = dx.natAbs + dy.natAbs := by unfold stepsOf; simp
  have ad := oAddM_l (a := (List.replicate dx.natAbs (if 0 < dx then (0 : Int) else 2)).map D.int) (b := (List.replicate dy.natAbs (if 0 < dy then (1 : Int) else 3)).map D.int) (Nat.le_trans (by simp; omega : _ ≤ 20) (by decide)) (r :: m)
  have ad2 : ((List.replicate dx.natAbs (if 0 < dx then (0 : Int) else 2)).map D.int) ++ ((List.replicate dy.natAbs (if 0 < dy then (1 : Int) else 3)).map D.int) = (stepsOf dx dy).map D.int := by unfold stepsOf; rw [List.map_append]
  rw [ad2] at ad
  obtain ⟨q0, r1, e1, _, _, h1⟩ := taken_eq hr (many := 3) (by decide) (by decide) (m ++ [.lst ((stepsOf dx dy).map D.int)])
  have st : ∀ (Q : R D → Prop), (∀ k : SF, k = k) → True := fun _ _ => trivial
  have step1 : (sSeq (sAsg (xIf (xT (xOp oGt (xOp oIx (xVar 2) (xC (.int 0))) (xC (.int 0)))) (xOp oMul (xLst (aCons (xC (.int 0)) aNil)) (xCB oAbs (aCons (xOp oIx (xVar 2) (xC (.int 0))) aNil))) (xOp oMul (xLst (aCons (xC (.int 2)) aNil)) (xCB oAbs (aCons (xOp oIx (xVar 2) (xC (.int 0))) aNil)))) (tgN 3))
      (sAsg (xOp oAddM (xVar 3) (xIf (xT (xOp oGt (xOp oIx (xVar 2) (xC (.int 1))) (xC (.int 0)))) (xOp oMul (xLst (aCons (xC (.int 1)) aNil)) (xCB oAbs (aCons (xOp oIx (xVar 2) (xC (.int 1))) aNil))) (xOp oMul (xLst (aCons (xC (.int 3)) aNil)) (xCB oAbs (aCons (xOp oIx (xVar 2) (xC (.int 1))) aNil))))) (tgN 3)))
      [some (.loc 0), some (.int n), some (.tup [.int dx, .int dy]), none, none, none, none, none, none] (r :: m) = .nx [some (.loc 0), some (.int n), some (.tup [.int dx, .int dy]), some (.loc (m.length + 1)), none, none, none, none, none] (r :: (m ++ [.lst ((stepsOf dx dy).map D.int)])) := by
    by_cases hdx : 0 < dx
    · by_cases hdy : 0 < dy
      · simp only [hdx, hdy, if_true] at ad
        simp [ixP0, ixP1, hdx, hdy, big, oAbs_i, ax, ay, ad, -List.map_replicate]
      · simp only [hdx, hdy, if_true, if_false] at ad
        simp [ixP0, ixP1, hdx, hdy, big, oAbs_i, ax, ay2, ad, -List.map_replicate]
    · by_cases hdy : 0 < dy
      · simp only [hdx, hdy, if_true, if_false] at ad
        simp [ixP0, ixP1, hdx, hdy, big, oAbs_i, ax2, ay, ad, -List.map_replicate]
      · simp only [hdx, hdy, if_true, if_false] at ad
        simp [ixP0, ixP1, hdx, hdy, big, oAbs_i, ax2, ay2, ad, -List.map_replicate]
  have fin : ∀ (l : List Int) (m2 : Mem) (x4 : Option D) (r2 : D), l.length ≤ dx.natAbs + dy.natAbs + 2 → 1 ≤ l.length → RwOk s r2 → ∃ w r' ex, Pln n w ∧ w.length ≤ 3 * (dx.natAbs + dy.natAbs + 2) + 2 ∧ RwOk s r' ∧
      (sSeq (sPar 5 6 (aCons (xLst aNil) (aCons (xC (.int 0)) aNil))) (sSeq (sWhile 1000 t_law_even_word_0 l_law_even_word_1) (sSeq (sAsg (xOp oMod (xCB oInt (aCons (xOp oSub (xC (.int 0)) (xVar 6)) aNil)) (xC (.int 4))) (tgN 8)) (sRet (xCB oTuple (aCons (xOp oAdd (xVar 5) (xIf (xT (xOp oEq (xVar 8) (xC (.int 3)))) (xLst (aCons (xC (.str "-")) aNil)) (xOp oMul (xLst (aCons (xC (.str "+")) aNil)) (xVar 8)))) aNil))))))
        [some (.loc 0), some (.int n), some (.tup [.int dx, .int dy]), some (.loc (m2.length + 1)), x4, none, none, none, none] (r2 :: (m2 ++ [.lst (l.map D.int)])) = .rt (wD w) (r' :: (m2 ++ ex)) := by
    intro l m2 x4 r2 hl hl1 h2
    obtain ⟨w, r3, h, y7, y8, e2, h3, p1, p2, p3, p4⟩ := even_loop (s := s) hn hn2 (mv := .tup [.int dx, .int dy]) (x4 := x4) (m := m2) l.length l r2 [] 0 none none 1000 rfl (by omega) (by omega) h2 (by simp; omega) (fun a ha => by cases ha) (fun i hi => by cases hi)
    obtain ⟨w', q1, q2, e3⟩ := even_tail (s := s) (r := r3) (r' := r3) (n := n) (mv := some (.tup [.int dx, .int dy])) (x4 := x4) (y7 := y7) (y8 := y8) (w := w) (h := h) (m := m2) (ex := []) (lc := m2.length + 1) (by simp at p1; omega) p2 p3 (p4 (.inr hl1)) (r3 :: (m2 ++ [.lst []]))
    refine ⟨w', r3, [.lst []], q1, by simp at p1; omega, h3, ?_⟩
    simp only [List.map_nil] at e2
    rw [q_seq, q_par]
    simp only [q_cons, q_lst, q_nil, q_c, R.bind_ok, List.length_nil, Nat.zero_le, if_true, SR.ofR_ok, List.set_cons_succ, List.set_cons_zero]
    rw [q_seq, q_while, e2]
    exact e3
  have sl1 : 1 ≤ (stepsOf dx dy).length := by rw [sl]; exact hxy
  by_cases q : q0 = 0
  · subst q
    obtain ⟨way, r2, e3, w1, w2, h2⟩ := taken_eq h1 (many := 4) (by decide) (by decide) (m ++ [.lst ((stepsOf dx dy).map D.int)])
    obtain ⟨w, r', ex, p1, p2, h3, e4⟩ := fin (stepsOf dx dy ++ [way, (way + 2) % 4]) (m ++ [.lst ((stepsOf dx dy).map D.int)]) (some (.int way)) r2 (by rw [List.length_append, sl]; simp) (by rw [List.length_append]; omega) h2
    have am := oAddM_w (r := r2) (m := m) (a := (stepsOf dx dy).map D.int) (b := [.int way, .int ((way + 2) % 4)]) (Nat.le_trans (by rw [List.length_map, sl]; simp only [List.length_cons, List.length_nil]; omega : _ ≤ 30) (by decide))
    refine ⟨w, r', clos_row (ex := [.lst ((stepsOf dx dy).map D.int)] ++ ex) ?_ h3 (wD_b w 0), h3, p1, p2⟩
    have c1 : (sIf (xT (xOp oEq (xCall F_law_taken (aCons (xVar 0) (aCons (xC (.int 3)) aNil))) (xC (.int 0)))) (sSeq (sAsg (xCall F_law_taken (aCons (xVar 0) (aCons (xC (.int 4)) aNil))) (tgN 4)) (sAsg (xOp oAddM (xVar 3) (xLst (aCons (xVar 4) (aCons (xOp oMod (xCB oInt (aCons (xOp oAdd (xVar 4) (xC (.int 2))) aNil)) (xC (.int 4))) aNil)))) (tgN 3))) sNext)
        [some (.loc 0), some (.int n), some (.tup [.int dx, .int dy]), some (.loc (m.length + 1)), none, none, none, none, none] (r :: (m ++ [.lst ((stepsOf dx dy).map D.int)])) = .nx [some (.loc 0), some (.int n), some (.tup [.int dx, .int dy]), some (.loc (m.length + 2)), some (.int way), none, none, none, none] (r2 :: (m ++ [.lst ((stepsOf dx dy).map D.int), .lst ((stepsOf dx dy).map D.int ++ [.int way, .int ((way + 2) % 4)])])) := by
      simp [e1, oEq_int, e3, oInt_i, o_mod, big, am]
    have e5 : b_law_even_word [some (.loc 0), some (.int n), some (.tup [.int dx, .int dy]), none, none, none, none, none, none] (r :: m) = .rt (wD w) (r' :: m ++ ([.lst ((stepsOf dx dy).map D.int)] ++ ex)) := by
      unfold b_law_even_word
      rw [seq2 step1, seq1 c1]
      simp at e4
      simpa using e4
    rw [q_fn]
    simp only [List.length_cons, List.length_nil, if_true]
    show (match b_law_even_word [some (.loc 0), some (.int n), some (.tup [.int dx, .int dy]), none, none, none, none, none, none] (r :: m) with
      | .nx _ m' => R.ok D.non m'
      | .rt d m' => .ok d m'
      | .er e _ m' => .err e m'
      | _ => .stuck) = _
    rw [e5]
  · obtain ⟨w, r', ex, p1, p2, h3, e4⟩ := fin (stepsOf dx dy) m none r1 (by omega) sl1 h1
    refine ⟨w, r', clos_row (ex := ex) ?_ h3 (wD_b w 0), h3, p1, p2⟩
    have c1 : (sIf (xT (xOp oEq (xCall F_law_taken (aCons (xVar 0) (aCons (xC (.int 3)) aNil))) (xC (.int 0)))) (sSeq (sAsg (xCall F_law_taken (aCons (xVar 0) (aCons (xC (.int 4)) aNil))) (tgN 4)) (sAsg (xOp oAddM (xVar 3) (xLst (aCons (xVar 4) (aCons (xOp oMod (xCB oInt (aCons (xOp oAdd (xVar 4) (xC (.int 2))) aNil)) (xC (.int 4))) aNil)))) (tgN 3))) sNext)
        [some (.loc 0), some (.int n), some (.tup [.int dx, .int dy]), some (.loc (m.length + 1)), none, none, none, none, none] (r :: (m ++ [.lst ((stepsOf dx dy).map D.int)])) = .nx [some (.loc 0), some (.int n), some (.tup [.int dx, .int dy]), some (.loc (m.length + 1)), none, none, none, none, none] (r1 :: (m ++ [.lst ((stepsOf dx dy).map D.int)])) := by
      simp [e1, oEq_int, q]
    have e5 : b_law_even_word [some (.loc 0), some (.int n), some (.tup [.int dx, .int dy]), none, none, none, none, none, none] (r :: m) = .rt (wD w) (r' :: m ++ ex) := by
      unfold b_law_even_word
      rw [seq2 step1, seq1 c1]
      exact e4
    rw [q_fn]
    simp only [List.length_cons, List.length_nil, if_true]
    show (match b_law_even_word [some (.loc 0), some (.int n), some (.tup [.int dx, .int dy]), none, none, none, none, none, none] (r :: m) with
      | .nx _ m' => R.ok D.non m'
      | .rt d m' => .ok d m'
      | .er e _ m' => .err e m'
      | _ => .stuck) = _
    rw [e5]
end Pl

set_option Elab.async false
set_option linter.all false
set_option maxRecDepth 100000
set_option maxHeartbeats 4000000
namespace Pl
open PySem PySem.Spec L2 Dl Wk
def mvD (p : Int × Int) : D := .tup [.int p.1, .int p.2]
def moves : List (Int × Int) := [(1, 1), (1, 1), (2, 0), (2, 1), (1, -1), (-1, 1), (0, 2), (1, 2), (3, 0)]
theorem moves_ok : ∀ p ∈ moves, p.1.natAbs ≤ 10 ∧ p.2.natAbs ≤ 10 ∧ 1 ≤ p.1.natAbs + p.2.natAbs ∧ p.1.natAbs + p.2.natAbs ≤ 3 := by decide +kernel
def starts (n : Nat) : List (List It) := [[.L 0], [.L 0], [.L 0, .P, .L 0], [.L 0, .P, .L 0, .P, .L 0, .P, .L 0], [.L ((n : Int) - 1), .L 0]]
theorem starts_ok {n : Nat} (hn : n = 1 ∨ n = 2) : ∀ w ∈ starts n, WOk n w := by
  rcases hn with rfl | rfl
  · exact fun w hw => wokB_ok (List.all_eq_true.mp (show (starts 1).all (wokB 1) = true by decide +kernel) w hw)
  · exact fun w hw => wokB_ok (List.all_eq_true.mp (show (starts 2).all (wokB 2) = true by decide +kernel) w hw)
theorem even_book_eq {s : List Int} {r : D} (hr : RwOk s r) (m : Mem) : ∃ b p r', F_law_even_book [.loc 0] (r :: m) = .ok (.tup [bkD b, mvD p]) (r' :: m) ∧ RwOk s r' ∧ BOk b := by
  obtain ⟨v, r1, e1, v1, v2, h1⟩ := taken_eq hr (many := 2) (by decide) (by decide) m
  obtain ⟨n, hn⟩ := Int.eq_ofNat_of_zero_le (show 0 ≤ 1 + v by omega)
  have hn1 : 1 ≤ n := by omega
  have hn3 : n ≤ 2 := by omega
  obtain ⟨d, r2, e2, d1, h2⟩ := pick_eq h1 (l := moves.map mvD) (by simp [moves]) (by decide) (fun d hd => by obtain ⟨p, _, rfl⟩ := List.mem_map.mp hd; rfl) m
  obtain ⟨p, hp, rfl⟩ := List.mem_map.mp d1
  obtain ⟨m1, m2, m3, m4⟩ := moves_ok p hp
  obtain ⟨ws, r3, e3, h3, wl, wq⟩ := lc_draw h2 (vs := [5]) (gd := ogN 5) (e := e_law_even_book_0) (sd := [some (.loc 0), some (.int n), some (mvD p), none, none, none]) (m := m) (Q := Brn n 21) (xs := rngD 0 1 n) (by rw [rngD_length]; exact Nat.le_trans hn3 (by decide))
    (fun x hx r m' hr => by
      refine ⟨_, rfl, ?_⟩
      obtain ⟨w, r3, e3, h3, p3, l3⟩ := even_word_eq hr (n := n) hn1 (by omega) m1 m2 m3 m'
      obtain ⟨w4, r4, e4, h4, b4⟩ := branched_eq h3 (n := n) hn1 (by omega) p3 (len := 17) (by omega) (by decide) m'
      refine ⟨w4, r4, ?_, h4, b4⟩
      have e3' : F_law_even_word [.loc 0, .int n, mvD p] (r :: m') = .ok (wD w) (r3 :: m') := e3
      simp [e_law_even_book_0, wipeD, e3', e4])
  obtain ⟨sd, r4, e4, s1, h4⟩ := pick_eq h3 (l := (starts n).map wD) (by simp [starts]) (by simp [starts]) (fun d hd => by obtain ⟨w, _, rfl⟩ := List.mem_map.mp hd; exact wD_b w 0) m
  obtain ⟨st, hst, rfl⟩ := List.mem_map.mp s1
  have hwl : ws.length = n := by rw [wl, rngD_length]
  have rg := rng1_nat (n := n) (Nat.le_trans hn3 (by decide))
  refine ⟨⟨ws, st⟩, p, r4, clos_row (ex := []) ?_ h4 ?_, h4, ⟨by show 1 ≤ ws.length ∧ ws.length ≤ 3; omega, fun u hu => ?_, ?_, fun u hu => (wq u hu).len.2⟩⟩
  · have hn' : 1 + v = (n : Int) := hn
    simp [moves, mvD] at e2
    simp [starts, wD, It.d] at e4
    simp [q_fn, b_law_even_book, e1, hn', big, e2, D.tup?, lcR, rg, mvD] at e3 ⊢
    simp [e3, tup_lst, e4, bkD, wD]
  · show ((bkD ⟨ws, st⟩).bel 0 && _) = true
    rw [bkD_b]
    rfl
  · show WOk ws.length u
    rw [hwl]
    exact (wq u hu).ok (by decide)
  · show WOk ws.length st
    rw [hwl]
    exact starts_ok (by omega) st hst
end Pl

set_option Elab.async false
set_option linter.all false
set_option maxRecDepth 100000
set_option maxHeartbeats 4000000
/-! Ks: small facts of operations -/
namespace Pl
open PySem PySem.Spec L2 Dl Wk
theorem turnT {i : Nat} {b : SF} {x : D} {r : Sl → Mem → SR} {sd : Sl} {m : Mem} {sd2 : Sl} {m2 : Mem} {z : SR} (h : b (sd.set i (some x)) m = .nx sd2 m2) (k : r sd2 m2 = z) : turnD (tgN i) b x r sd m = z := (turnN h).trans k
theorem in_word (w : List It) (m : Mem) : oIn (.str "[") (wD w) m = some (.bl (decide (It.O ∈ w)), m) := by
  refine oIn_fl (l := w.map It.d) rfl rfl ?_ _ ?_
  · rw [List.all_eq_true]
    intro x hx
    obtain ⟨y, _, rfl⟩ := List.mem_map.mp hx
    cases y <;> rfl
  · unfold dIn
    rw [List.any_map]
    have : (fun z => PyData.eqv (D.toP z) (D.toP (.str "["))) ∘ It.d = fun x => decide (x = It.O) := funext fun x => by
      cases x with
      | L i => rfl
      | _ => decide +kernel
    rw [this]
    induction w with
    | nil => rfl
    | cons a w ih =>
      rw [List.any_cons, ih]
      by_cases q : a = .O
      · subst q; simp
      · have q2 : ¬ It.O = a := fun z => q z.symm
        simp [q, q2]
theorem in_dec (w : List It) : dIn (.str "[") (w.map It.d) = decide (It.O ∈ w) := by
  have h := in_word w []
  have hall : (w.map It.d).all D.flat = true := by
    rw [List.all_eq_true]
    intro x hx
    obtain ⟨y, _, rfl⟩ := List.mem_map.mp hx
    cases y <;> rfl
  have h2 := oIn_fl (d := .str "[") (e := wD w) (m := []) (l := w.map It.d) rfl rfl hall _ rfl
  rw [h] at h2
  exact (D.bl.inj (Prod.mk.inj (Option.some.inj h2)).1).symm
theorem add_tt {a b : List D} (ha : a ≠ []) (hb : b ≠ []) (h : a.length + b.length ≤ big) (m : Mem) : oAdd (.tup a) (.tup b) m = some (.tup (a ++ b), m) := by
  cases a with
  | nil => exact absurd rfl ha
  | cons x a =>
    cases b with
    | nil => exact absurd rfl hb
    | cons y b =>
      show (if _ then _ else _) = _
      rw [if_pos h]
      rfl
theorem it_ok (a : It) (k : Nat) : D.ok k a.d = true := by
  cases a with
  | L i => cases k <;> rfl
  | _ => cases k <;> (show PyData.strOk _ = true; decide +kernel)
theorem oks_of {k : Nat} : ∀ {l : List D}, (∀ d ∈ l, D.ok k d = true) → D.oks k l = true
  | [], _ => by cases k <;> rfl
  | d :: l, h => by
    show (D.ok k d && D.oks k l) = true
    rw [h d List.mem_cons_self, oks_of fun x hx => h x (List.mem_cons_of_mem _ hx)]
    rfl
theorem wD_ok (w : List It) (k : Nat) : D.ok (k + 1) (wD w) = true := oks_of fun d hd => by
  obtain ⟨a, _, rfl⟩ := List.mem_map.mp hd
  exact it_ok a k
theorem eq_nil2 {l : List D} (h : ∀ d ∈ l, D.ok 59 d = true) (m : Mem) : oEq (.lst l) (.lst []) m = some (.bl l.isEmpty, m) := by
  rw [oEq_ok (d := .lst l) (e := .lst []) (show D.oks 59 l = true from oks_of h) (by rfl)]
  cases l with
  | nil => rfl
  | cons d l => rfl
/-- no word has a branch -/
def plB (b : Bk) : Bool := ((b.words ++ [b.start]).filter fun w => decide (It.O ∈ w)).isEmpty
theorem plB_pl {b : Bk} (h : plB b = true) : ∀ w ∈ b.words ++ [b.start], It.O ∉ w := by
  intro w hw ho
  have h2 : w ∈ (b.words ++ [b.start]).filter fun w => decide (It.O ∈ w) := List.mem_filter.mpr ⟨hw, decide_eq_true ho⟩
  unfold plB at h
  rw [List.isEmpty_iff] at h
  rw [h] at h2
  cases h2
/-- `[w for w in book[0] + (book[1],) if "[" in w] == []`, the comprehension's name in slot v -/
theorem plain_lc {b : Bk} (hb : BOk b) {v : Nat} {t : TF} {e : EF} {sd : Sl} (hv : v < sd.length) (h2 : sd[2]? = some (some (bkD b))) (ht : t = xT (xOp oIn (xC (.str "[")) (xVar v))) (he : e = xVar v) (m : Mem) :
    ∃ Z : List D, (xLc letGo [v] (xOp oAdd (xOp oIx (xVar 2) (xC (.int 0))) (xTup (aCons (xOp oIx (xVar 2) (xC (.int 1))) aNil))) (ogN v) t e) sd m = .ok (.lst Z) m ∧ ∀ mm, oEq (.lst Z) (.lst []) mm = some (.bl (plB b), mm) := by
  subst ht he
  refine ⟨((b.words ++ [b.start]).filter fun w => decide (It.O ∈ w)).map wD, ?_, fun mm => ?_⟩
  · skip
    have c := lcD_fil (vs := [v]) (gd := ogN v) (t := xT (xOp oIn (xC (.str "[")) (xVar v))) (e := xVar v) (sd := sd) (p := fun x => dIn (.str "[") (x.tup?.getD [])) (g := id) (m := m) (n := m.length) rfl (xs := (b.words ++ [b.start]).map wD) (acc := [])
      (fun x hx m' => by
        obtain ⟨w, _, rfl⟩ := List.mem_map.mp hx
        have gv : ((wipeD sd [v]).set v (some (wD w)))[v]? = some (some (wD w)) := by
          have : v < (wipeD sd [v]).length := by simp [wipeD]; exact hv
          rw [List.getElem?_set_self this]
        refine ⟨_, rfl, ?_, fun _ => ?_⟩
        · have e := in_word w m'
          have e2 : dIn (.str "[") (w.map It.d) = decide (It.O ∈ w) := in_dec w
          show _ = R.ok (dIn (.str "[") (w.map It.d)) m'
          rw [e2]
          simp [gv, e]
        · simp [gv]) (by simp only [List.length_nil, List.length_map, List.length_append, List.length_cons]; have := hb.len.2; exact Nat.le_trans (by omega : _ ≤ 20) (by decide))
    have fe : ((b.words ++ [b.start]).map wD).filter (fun x => dIn (.str "[") (x.tup?.getD [])) = ((b.words ++ [b.start]).filter fun w => decide (It.O ∈ w)).map wD := by
      rw [List.filter_map]
      congr 1
      apply List.filter_congr
      intro w _
      exact in_dec w
    rw [List.map_id, fe, List.nil_append] at c
    have gl : letGo m (lcEnd m.length (some (m ++ [.lst (((b.words ++ [b.start]).filter fun w => decide (It.O ∈ w)).map wD)]))) = .ok (.lst (((b.words ++ [b.start]).filter fun w => decide (It.O ∈ w)).map wD)) m :=
      lc_go (Cells.refl m) (ws_b _ _)
    have ad := add_tt (a := b.words.map wD) (b := [wD b.start]) (by have := hb.len.1; intro z; have z2 := congrArg List.length z; simp at z2; rw [z2] at this; simp at this) (by simp) (by simp only [List.length_map, List.length_singleton]; have := hb.len.2; exact Nat.le_trans (by omega : _ ≤ 20) (by decide)) m
    have ad2 : b.words.map wD ++ [wD b.start] = (b.words ++ [b.start]).map wD := by simp
    rw [ad2] at ad
    have i0 : ∀ mm, oIx (bkD b) (.int 0) mm = some (.tup (b.words.map wD), mm) := fun _ => rfl
    have i1 : ∀ mm, oIx (bkD b) (.int 1) mm = some (wD b.start, mm) := fun _ => rfl
    have lv : lcV [v] (ogN v) (xT (xOp oIn (xC (.str "[")) (xVar v))) (xVar v) sd (.tup ((b.words ++ [b.start]).map wD)) m = lcEnd m.length (some (m ++ [.lst (((b.words ++ [b.start]).filter fun w => decide (It.O ∈ w)).map wD)])) := by
      rw [← c]; rfl
    rw [← lv] at gl
    generalize (((b.words ++ [b.start]).filter fun w => decide (It.O ∈ w)).map wD) = Z at gl
    generalize List.map wD (b.words ++ [b.start]) = Y at gl ad
    simp [big, h2, i0, i1, ad, gl]
  · have en := eq_nil2 (l := ((b.words ++ [b.start]).filter fun w => decide (It.O ∈ w)).map wD) (fun d hd => by
      obtain ⟨w, _, rfl⟩ := List.mem_map.mp hd
      exact wD_ok w 58) mm
    have epl : (((b.words ++ [b.start]).filter fun w => decide (It.O ∈ w)).map wD).isEmpty = plB b := by
      unfold plB; cases ((b.words ++ [b.start]).filter fun w => decide (It.O ∈ w)) <;> rfl
    rw [epl] at en
    exact en
end Pl

set_option Elab.async false
set_option linter.all false
set_option maxRecDepth 100000
set_option maxHeartbeats 4000000
namespace Pl
open PySem PySem.Spec L2 Dl Wk
/-- the book that is drawn -/
theorem book_step {s : List Int} {r : D} (hr : RwOk s r) {v0 : Option D} {t : List (Option D)} : ∃ b r', (sAsg (xCall F_law_pick (aCons (xVar 1) (aCons (xLst (aCons (xCall F_law_book (aCons (xVar 1) aNil)) (aCons (xCall F_law_kit (aCons (xVar 1) aNil)) (aCons (xOp oIx (xCall F_law_even_book (aCons (xVar 1) aNil)) (xC (.int 0))) aNil)))) aNil))) (tgN 2)) (v0 :: some (.loc 0) :: none :: t) [r] = .nx (v0 :: some (.loc 0) :: some (bkD b) :: t) [r'] ∧ RwOk s r' ∧ BOk b := by
  obtain ⟨b1, r1, e1, h1, o1⟩ := book_eq hr []
  obtain ⟨b2, r2, e2, h2, o2⟩ := kit_eq h1 []
  obtain ⟨b3, p, r3, e3, h3, o3⟩ := even_book_eq h2 []
  obtain ⟨d, r4, e4, d1, h4⟩ := pick_eq h3 (l := [bkD b1, bkD b2, bkD b3]) (by simp) (by simp) (by intro d hd; simp at hd; rcases hd with rfl | rfl | rfl <;> exact bkD_b _ 0) []
  have : ∃ b, d = bkD b ∧ BOk b := by
    simp at d1
    rcases d1 with rfl | rfl | rfl
    · exact ⟨b1, rfl, o1⟩
    · exact ⟨b2, rfl, o2⟩
    · exact ⟨b3, rfl, o3⟩
  obtain ⟨b, rfl, hb⟩ := this
  refine ⟨b, r4, ?_, h4, hb⟩
  have ix : ∀ mm : Mem, oIx (.tup [bkD b3, mvD p]) (.int 0) mm = some (bkD b3, mm) := fun mm => rfl
  simp [e1, e2, e3, ix, big, e4]
/-- the age near -/
theorem age_step2 {s : List Int} {r : D} (hr : RwOk s r) {b : Bk} (hb : BOk b) {v0 : Option D} {t : List (Option D)} {most : Nat} (hm : 40 ≤ most) (hm2 : most ≤ 1000) : ∃ (a : Nat) (r' : D), (sAsg (xCall F_law_taken (aCons (xVar 1) (aCons (xOp oAdd (xC (.int 1)) (xCall F_law_age (aCons (xVar 2) (aCons (xC (.int most)) aNil)))) aNil))) (tgN 3)) (v0 :: some (.loc 0) :: some (bkD b) :: none :: t) [r] = .nx (v0 :: some (.loc 0) :: some (bkD b) :: some (.int a) :: t) [r'] ∧ RwOk s r' ∧ a ≤ 8 ∧ ∀ k, k ≤ a → (growN b k).length ≤ 400000 := by
  obtain ⟨a0, e0, h8, hl⟩ := age_eq hb hm hm2 [r]
  obtain ⟨v, r', e1, v1, v2, h1⟩ := taken_eq hr (many := 1 + (a0 : Int)) (by omega) (by omega) []
  obtain ⟨a, rfl⟩ := Int.eq_ofNat_of_zero_le v1
  refine ⟨a, r', ?_, h1, by omega, fun k hk => ?_⟩
  · have e0' : F_law_age [bkD b, .int most] [r] = .ok (.int (a0 : Nat)) [r] := e0
    simp [e0', e1]
  · have h1 := growN_len hb hm hl k (by omega)
    have h2 : 40 * most * k ≤ 40 * 1000 * 9 := Nat.mul_le_mul (Nat.mul_le_mul_left _ hm2) (by omega)
    omega
end Pl

set_option Elab.async false
set_option linter.all false
set_option maxRecDepth 100000
set_option maxHeartbeats 4000000
namespace Pl
open PySem PySem.Spec L2 Dl Wk
theorem quarter_eq {d : D} {x y k : Int} (h : IsP d x y) (m : Mem) : F_law_quarter [d, .int k] m = .ok (.tup [.int (rot k (x, y)).1, .int (rot k (x, y)).2]) m := by
  refine clos_same ?_ rfl
  have hk : k % 4 = 0 ∨ k % 4 = 1 ∨ k % 4 = 2 ∨ k % 4 = 3 := by omega
  rcases hk with e | e | e | e
  all_goals simp [q_fn, big, b_law_quarter, h.t, o_mod, e, rot, oIx, D.seq?, L2.atI, L2.ixN, oInt_i]
end Pl

set_option Elab.async false
set_option linter.all false
set_option maxRecDepth 100000
set_option maxHeartbeats 4000000
namespace Pl
open PySem PySem.Spec L2 Dl Wk
theorem rot_mod (k : Int) (p : Int × Int) : rot (k % 4) p = rot k p := by
  unfold rot
  rw [Int.emod_emod_of_dvd k (by decide : (4 : Int) ∣ 4)]
theorem rot0 (p : Int × Int) : rot 0 p = p := rfl
theorem rot_cases (k : Int) (p : Int × Int) : (k % 4 = 0 ∧ rot k p = p) ∨ (k % 4 = 1 ∧ rot k p = (-p.2, p.1)) ∨ (k % 4 = 2 ∧ rot k p = (-p.1, -p.2)) ∨ (k % 4 = 3 ∧ rot k p = (p.2, -p.1)) := by
  have h : k % 4 = 0 ∨ k % 4 = 1 ∨ k % 4 = 2 ∨ k % 4 = 3 := by omega
  rcases h with h | h | h | h
  · exact .inl ⟨h, by simp [rot, h]⟩
  · exact .inr (.inl ⟨h, by simp [rot, h]⟩)
  · exact .inr (.inr (.inl ⟨h, by simp [rot, h]⟩))
  · exact .inr (.inr (.inr ⟨h, by simp [rot, h]⟩))
theorem rot_add (a b : Int) (p : Int × Int) : rot (a + b) p = rot a (rot b p) := by
  have hab : (a + b) % 4 = (a % 4 + b % 4) % 4 := by omega
  rcases rot_cases b p with ⟨h1, e1⟩ | ⟨h1, e1⟩ | ⟨h1, e1⟩ | ⟨h1, e1⟩ <;> rw [e1] <;>
  rcases rot_cases a p with ⟨h2, _⟩ | ⟨h2, _⟩ | ⟨h2, _⟩ | ⟨h2, _⟩ <;>
  · have h3 : (a + b) % 4 = (a % 4 + b % 4) % 4 := hab
    rw [h1, h2] at h3
    simp [rot, h2, h3]
theorem rot_lin (k x y z w : Int) : rot k (x + z, y + w) = ((rot k (x, y)).1 + (rot k (z, w)).1, (rot k (x, y)).2 + (rot k (z, w)).2) := by
  unfold rot
  split
  · rfl
  · split
    · simp; omega
    · split
      · simp; omega
      · simp; omega
/-- the cross product is kept by turns -/
theorem rot_cross (k x y z w : Int) : (rot k (x, y)).1 * (rot k (z, w)).2 - (rot k (x, y)).2 * (rot k (z, w)).1 = x * w - y * z := by
  unfold rot
  split
  · rfl
  · split
    · simp [Int.neg_mul, Int.mul_neg]; omega
    · split
      · simp [Int.neg_mul, Int.mul_neg]
      · simp [Int.neg_mul, Int.mul_neg]; omega
theorem Sm.ext' {s t : Sm} (h1 : s.many = t.many) (h2 : s.ex = t.ex) (h3 : s.ey = t.ey) (h4 : s.turns = t.turns) (h5 : s.wx = t.wx) (h6 : s.wy = t.wy) (h7 : s.area = t.area) : s = t := by
  cases s; cases t; simp at *; exact ⟨h1, h2, h3, h4, h5, h6, h7⟩
theorem thn_zero (f : Sm) : f.thn Sm.zero = f := by
  have e : rot f.turns (0, 0) = (0, 0) := by unfold rot; split <;> (try split) <;> (try split) <;> rfl
  apply Sm.ext' <;> simp [Sm.thn, Sm.zero, e]
theorem zero_thn (f : Sm) : Sm.zero.thn f = f := by
  apply Sm.ext' <;> simp [Sm.thn, Sm.zero, rot0]
theorem thn_turning (f g : Sm) (a : It) : (f.thn g).turning a = f.thn (g.turning a) := by
  apply Sm.ext' <;> simp [Sm.thn, Sm.turning]
  omega
theorem thn_back (f g t : Sm) : (f.thn g).back (f.thn t) = f.thn (g.back t) := by
  apply Sm.ext' <;> simp [Sm.thn, Sm.back]
theorem thn_assoc (f g t : Sm) : (f.thn g).thn t = f.thn (g.thn t) := by
  have r1 := rot_add f.turns g.turns (t.ex, t.ey)
  have r2 := rot_add f.turns g.turns (t.wx, t.wy)
  have l1 : rot f.turns (g.ex + (rot g.turns (t.ex, t.ey)).1, g.ey + (rot g.turns (t.ex, t.ey)).2) = ((rot f.turns (g.ex, g.ey)).1 + (rot f.turns (rot g.turns (t.ex, t.ey))).1, (rot f.turns (g.ex, g.ey)).2 + (rot f.turns (rot g.turns (t.ex, t.ey))).2) := rot_lin f.turns g.ex g.ey (rot g.turns (t.ex, t.ey)).1 (rot g.turns (t.ex, t.ey)).2
  have l2 : rot f.turns (g.wx + (rot g.turns (t.wx, t.wy)).1, g.wy + (rot g.turns (t.wx, t.wy)).2) = ((rot f.turns (g.wx, g.wy)).1 + (rot f.turns (rot g.turns (t.wx, t.wy))).1, (rot f.turns (g.wx, g.wy)).2 + (rot f.turns (rot g.turns (t.wx, t.wy))).2) := rot_lin f.turns g.wx g.wy (rot g.turns (t.wx, t.wy)).1 (rot g.turns (t.wx, t.wy)).2
  have c : (rot f.turns (g.ex, g.ey)).1 * (rot f.turns (rot g.turns (t.wx, t.wy))).2 - (rot f.turns (g.ex, g.ey)).2 * (rot f.turns (rot g.turns (t.wx, t.wy))).1 = g.ex * (rot g.turns (t.wx, t.wy)).2 - g.ey * (rot g.turns (t.wx, t.wy)).1 := rot_cross f.turns g.ex g.ey (rot g.turns (t.wx, t.wy)).1 (rot g.turns (t.wx, t.wy)).2
  apply Sm.ext'
  · simp [Sm.thn]; omega
  · simp only [Sm.thn]; rw [r1, l1]; simp only; omega
  · simp only [Sm.thn]; rw [r1, l1]; simp only; omega
  · simp only [Sm.thn]; omega
  · simp only [Sm.thn]; rw [r2, l2]; simp only; omega
  · simp only [Sm.thn]; rw [r2, l2]; simp only; omega
  · simp only [Sm.thn]
    rw [r2, l2]
    simp only at c ⊢
    generalize (rot f.turns (rot g.turns (t.wx, t.wy))).1 = p1 at *
    generalize (rot f.turns (rot g.turns (t.wx, t.wy))).2 = p2 at *
    generalize (rot f.turns (g.ex, g.ey)).1 = q1 at *
    generalize (rot f.turns (g.ex, g.ey)).2 = q2 at *
    generalize (rot f.turns (g.wx, g.wy)).1 = u1 at *
    generalize (rot f.turns (g.wx, g.wy)).2 = u2 at *
    simp only [Int.add_mul, Int.mul_add]
    omega
/-- a word run behind f is f then the word -/
theorem run_thn {σ : Int → Option Sm} (f : Sm) (st0 : List Sm) : ∀ (u : List It) (g g' : Sm) (st st' : List Sm), run σ u (g, st) = some (g', st') → run σ u (f.thn g, st.map f.thn ++ st0) = some (f.thn g', st'.map f.thn ++ st0)
  | [], g, g', st, st', h => by cases h; rfl
  | a :: u, g, g', st, st', h => by
    have h' : (stp σ a (g, st)).bind (run σ u) = some (g', st') := h
    show (stp σ a (f.thn g, st.map f.thn ++ st0)).bind (run σ u) = _
    cases a with
    | L i =>
      cases e : σ i with
      | none => simp [stp, e] at h'
      | some t =>
        simp only [stp, e, Option.map_some, Option.bind_some] at h' ⊢
        rw [thn_assoc]
        exact run_thn f st0 u _ _ _ _ h'
    | P =>
      simp only [stp, Option.bind_some] at h' ⊢
      rw [thn_turning]
      exact run_thn f st0 u _ _ _ _ h'
    | M =>
      simp only [stp, Option.bind_some] at h' ⊢
      rw [thn_turning]
      exact run_thn f st0 u _ _ _ _ h'
    | O =>
      simp only [stp, Option.bind_some] at h' ⊢
      exact run_thn f st0 u g g' (g :: st) st' h'
    | C =>
      cases st with
      | nil => simp [stp] at h'
      | cons t st =>
        simp only [stp, Option.bind_some, List.map_cons, List.cons_append] at h' ⊢
        rw [thn_back]
        exact run_thn f st0 u _ _ _ _ h'
theorem run_app {σ : Int → Option Sm} : ∀ (u v : List It) (s : Sm × List Sm), run σ (u ++ v) s = (run σ u s).bind (run σ v)
  | [], v, s => rfl
  | a :: u, v, s => by
    show (stp σ a s).bind (run σ (u ++ v)) = ((stp σ a s).bind (run σ u)).bind (run σ v)
    cases stp σ a s with
    | none => rfl
    | some s1 => exact run_app u v s1
/-- a word of known letters that is well bracketed runs through -/
theorem run_dep {σ : Int → Option Sm} : ∀ (u : List It) (s : Sm × List Sm) (k' : Int), (∀ i, It.L i ∈ u → ∃ t, σ i = some t) → dep u s.2.length = some k' → ∃ s', run σ u s = some s' ∧ (s'.2.length : Int) = k'
  | [], s, k', _, h => ⟨s, rfl, by cases h; rfl⟩
  | a :: u, s, k', hl, h => by
    have hl' : ∀ i, It.L i ∈ u → ∃ t, σ i = some t := fun i hi => hl i (List.mem_cons_of_mem _ hi)
    obtain ⟨f, st⟩ := s
    cases a with
    | L i =>
      obtain ⟨t, e⟩ := hl i List.mem_cons_self
      obtain ⟨s', e1, e2⟩ := run_dep u (f.thn t, st) k' hl' h
      refine ⟨s', ?_, e2⟩
      show (stp σ (.L i) (f, st)).bind (run σ u) = _
      simp only [stp, e, Option.map_some, Option.bind_some]
      exact e1
    | P => exact run_dep u (f.turning .P, st) k' hl' h
    | M => exact run_dep u (f.turning .M, st) k' hl' h
    | O =>
      have h2 : dep u ((f :: st).length : Nat) = some k' := by
        have : ((f :: st).length : Int) = (st.length : Int) + 1 := by simp
        rw [this]; exact h
      exact run_dep u (f, f :: st) k' hl' h2
    | C =>
      cases st with
      | nil =>
        have h2 : (if ((([] : List Sm).length : Nat) : Int) - 1 < 0 then none else dep u ((([] : List Sm).length : Nat) - 1)) = some k' := h
        rw [if_pos (by simp)] at h2
        cases h2
      | cons t st =>
        have h2 : (if ((st.length + 1 : Nat) : Int) - 1 < 0 then none else dep u (((st.length + 1 : Nat) : Int) - 1)) = some k' := h
        rw [if_neg (by omega)] at h2
        have e : (((st.length + 1 : Nat) : Int) - 1) = (st.length : Int) := by omega
        rw [e] at h2
        exact run_dep u (f.back t, st) k' hl' h2
theorem run_bal {σ : Int → Option Sm} {n : Nat} (hσ : ∀ i, 0 ≤ i → i < (n : Int) → ∃ t, σ i = some t) {u : List It} (hu : Lets n u) (hb : dep u 0 = some 0) : ∃ g, run σ u (Sm.zero, []) = some (g, []) := by
  obtain ⟨⟨g, st⟩, e, h⟩ := run_dep u (Sm.zero, []) 0 (fun i hi => hσ i (hu i hi).1 (hu i hi).2) hb
  have : st = [] := List.length_eq_zero_iff.mp (by simpa using h)
  subst this
  exact ⟨g, e⟩
theorem sig_some {b : Bk} (hb : BOk b) : ∀ (a : Nat) (i : Int), 0 ≤ i → i < b.words.length → ∃ t, sig b a i = some t
  | 0, i, h0, h1 => ⟨Sm.unit, if_pos ⟨h0, h1⟩⟩
  | a + 1, i, h0, h1 => by
    have hi : i.toNat < b.words.length := by omega
    have ok := hb.words _ (List.getElem_mem hi)
    obtain ⟨g, e⟩ := run_bal (sig_some hb a) ok.lets ok.bal
    refine ⟨g, ?_⟩
    show (if _ then _ else _) = _
    rw [if_pos ⟨h0, h1⟩, word_at b hi, e]
    rfl
/-- one age less, the word grown once -/
theorem run_grow {b : Bk} (hb : BOk b) (a : Nat) : ∀ (w : List It) (s : Sm × List Sm), Lets b.words.length w → run (sig b (a + 1)) w s = run (sig b a) (grow1 b w) s
  | [], s, _ => rfl
  | x :: w, s, hl => by
    have hl' : Lets b.words.length w := fun i hi => hl i (List.mem_cons_of_mem _ hi)
    have eg : grow1 b (x :: w) = sub1 b x ++ grow1 b w := rfl
    rw [eg, run_app]
    show (stp (sig b (a + 1)) x s).bind (run (sig b (a + 1)) w) = _
    have key : stp (sig b (a + 1)) x s = run (sig b a) (sub1 b x) s := by
      obtain ⟨f, st⟩ := s
      cases x with
      | L i =>
        obtain ⟨h0, h1⟩ := hl i List.mem_cons_self
        have hi : i.toNat < b.words.length := by omega
        have ok := hb.words _ (List.getElem_mem hi)
        obtain ⟨g, e⟩ := run_bal (sig_some hb a) ok.lets ok.bal
        have es : sig b (a + 1) i = some g := by
          show (if _ then _ else _) = _
          rw [if_pos ⟨h0, h1⟩, word_at b hi, e]
          rfl
        have h3 := run_thn f st _ _ _ _ _ e
        rw [thn_zero] at h3
        show (sig b (a + 1) i).map _ = run (sig b a) (b.words.getD i.toNat []) (f, st)
        rw [es, word_at b hi]
        exact h3.symm
      | P => rfl
      | M => rfl
      | O => rfl
      | C => cases st <;> rfl
    rw [key]
    cases run (sig b a) (sub1 b x) s with
    | none => rfl
    | some s1 => exact run_grow hb a w s1 hl'
theorem run_all {b : Bk} (hb : BOk b) (a : Nat) (s : Sm × List Sm) : ∀ j, j ≤ a → run (sig b a) b.start s = run (sig b (a - j)) (growN b j) s
  | 0, _ => rfl
  | j + 1, h => by
    rw [run_all hb a s j (by omega)]
    have e : a - j = (a - (j + 1)) + 1 := by omega
    rw [e, run_grow hb (a - (j + 1)) _ s (growN_lets hb j)]
    rfl
end Pl

set_option Elab.async false
set_option linter.all false
set_option maxRecDepth 100000
set_option maxHeartbeats 4000000
namespace Pl
open PySem PySem.Spec L2 Dl Wk
def Sm.bd (A : Nat) (s : Sm) : Prop := s.ex.natAbs ≤ A ∧ s.ey.natAbs ≤ A ∧ s.wx.natAbs ≤ A ∧ s.wy.natAbs ≤ A
theorem Sm.bd.mono {A B : Nat} {s : Sm} (h : s.bd A) (q : A ≤ B) : s.bd B := ⟨Nat.le_trans h.1 q, Nat.le_trans h.2.1 q, Nat.le_trans h.2.2.1 q, Nat.le_trans h.2.2.2 q⟩
theorem rot_bd {k x y : Int} {B : Nat} (hx : x.natAbs ≤ B) (hy : y.natAbs ≤ B) : (rot k (x, y)).1.natAbs ≤ B ∧ (rot k (x, y)).2.natAbs ≤ B := by
  obtain ⟨a, b⟩ := rot_abs k (x, y)
  constructor
  · rcases a with a | a <;> rw [a] <;> assumption
  · rcases b with a | a <;> rw [a] <;> assumption
theorem thn_bd {f t : Sm} {A B : Nat} (h : f.bd A) (k : t.bd B) : (f.thn t).bd (A + B) := by
  obtain ⟨r1, r2⟩ := rot_bd (k := f.turns) k.1 k.2.1
  obtain ⟨r3, r4⟩ := rot_bd (k := f.turns) k.2.2.1 k.2.2.2
  obtain ⟨h1, h2, h3, h4⟩ := h
  refine ⟨?_, ?_, ?_, ?_⟩ <;> simp only [Sm.thn] <;> omega
theorem stp_bd {σ : Int → Option Sm} {A B : Nat} (hσ : ∀ i t, σ i = some t → t.bd B) {a : It} {s s1 : Sm × List Sm} (h : stp σ a s = some s1) (hf : s.1.bd A) (hs : ∀ t ∈ s.2, t.bd A) : s1.1.bd (A + B) ∧ ∀ t ∈ s1.2, t.bd (A + B) := by
  obtain ⟨f, st⟩ := s
  have up : ∀ t ∈ st, t.bd (A + B) := fun t ht => (hs t ht).mono (Nat.le_add_right _ _)
  have hf2 := hf.mono (Nat.le_add_right A B)
  cases a with
  | L i =>
    cases e : σ i with
    | none => simp [stp, e] at h
    | some t =>
      simp [stp, e] at h
      subst h
      exact ⟨thn_bd hf (hσ i t e), up⟩
  | P => cases h; exact ⟨hf2, up⟩
  | M => cases h; exact ⟨hf2, up⟩
  | O =>
    cases h
    exact ⟨hf2, fun t ht => by
      rcases List.mem_cons.mp ht with rfl | ht
      · exact hf2
      · exact up t ht⟩
  | C =>
    cases st with
    | nil => cases h
    | cons t st =>
      cases h
      have ht := up t List.mem_cons_self
      exact ⟨⟨ht.1, ht.2.1, hf2.2.2.1, hf2.2.2.2⟩, fun u hu => up u (List.mem_cons_of_mem _ hu)⟩
theorem run_bd {σ : Int → Option Sm} {B : Nat} (hσ : ∀ i t, σ i = some t → t.bd B) : ∀ (u : List It) (A : Nat) (s s1 : Sm × List Sm), run σ u s = some s1 → s.1.bd A → (∀ t ∈ s.2, t.bd A) → s1.1.bd (A + B * u.length)
  | [], A, s, s1, h, hf, _ => by cases h; exact hf.mono (Nat.le_add_right _ _)
  | a :: u, A, s, s1, h, hf, hs => by
    have h' : (stp σ a s).bind (run σ u) = some s1 := h
    cases e : stp σ a s with
    | none => rw [e] at h'; cases h'
    | some s2 =>
      rw [e] at h'
      obtain ⟨k1, k2⟩ := stp_bd hσ e hf hs
      have := run_bd hσ u (A + B) s2 s1 h' k1 k2
      rw [List.length_cons, Nat.mul_succ]
      exact this.mono (by omega)
theorem sig_bd {b : Bk} (hb : BOk b) : ∀ (a : Nat) (i : Int) (t : Sm), sig b a i = some t → t.bd (40 ^ a)
  | 0, i, t, h => by
    have h' : (if 0 ≤ i ∧ i < b.words.length then some Sm.unit else none) = some t := h
    by_cases q : 0 ≤ i ∧ i < (b.words.length : Int)
    · rw [if_pos q] at h'; cases h'; exact ⟨by decide, by decide, by decide, by decide⟩
    · rw [if_neg q] at h'; cases h'
  | a + 1, i, t, h => by
    have h' : (if 0 ≤ i ∧ i < b.words.length then (run (sig b a) (b.words.getD i.toNat []) (Sm.zero, [])).map (·.1) else none) = some t := h
    by_cases q : 0 ≤ i ∧ i < (b.words.length : Int)
    · rw [if_pos q] at h'
      have hi : i.toNat < b.words.length := by omega
      rw [word_at b hi] at h'
      cases e : run (sig b a) b.words[i.toNat] (Sm.zero, []) with
      | none => rw [e] at h'; cases h'
      | some s =>
        rw [e] at h'
        cases h'
        have := run_bd (sig_bd hb a) b.words[i.toNat] 0 (Sm.zero, []) s e ⟨by decide, by decide, by decide, by decide⟩ (fun t ht => by cases ht)
        refine this.mono ?_
        rw [Nat.zero_add, Nat.pow_succ]
        exact Nat.mul_le_mul_left _ (hb.words _ (List.getElem_mem hi)).len.2
    · rw [if_neg q] at h'; cases h'
theorem small_of {s : Sm} {K : Nat} (h : s.bd K) (hk : K < 2 ^ 2000) : s.small := by
  have one : ∀ x : Int, x.natAbs ≤ K → x.natAbs.log2 < 400000 := fun x hx => by
    by_cases q : x.natAbs = 0
    · rw [q]; decide
    · have : x.natAbs.log2 < 2000 := (Nat.log2_lt q).mpr (Nat.lt_of_le_of_lt hx hk)
      omega
  exact ⟨one _ h.1, one _ h.2.1, one _ h.2.2.1, one _ h.2.2.2⟩
theorem run_Run {σ : Int → Option Sm} {B K : Nat} (hσ : ∀ i t, σ i = some t → t.bd B) (hB : B ≤ K) (hk : K < 2 ^ 2000) : ∀ (u : List It) (A : Nat) (s s1 : Sm × List Sm), run σ u s = some s1 → s.1.bd A → (∀ t ∈ s.2, t.bd A) → A + B * u.length ≤ K → Run σ u s s1
  | [], A, s, s1, h, _, _, _ => by cases h; exact .nil
  | a :: u, A, s, s1, h, hf, hs, hl => by
    have h' : (stp σ a s).bind (run σ u) = some s1 := h
    rw [List.length_cons, Nat.mul_succ] at hl
    cases e : stp σ a s with
    | none => rw [e] at h'; cases h'
    | some s2 =>
      rw [e] at h'
      obtain ⟨k1, k2⟩ := stp_bd hσ e hf hs
      refine .cons (s1 := s2) ?_ (run_Run hσ hB hk u (A + B) s2 s1 h' k1 k2 (by omega))
      obtain ⟨f, st⟩ := s
      cases a with
      | L i =>
        cases e2 : σ i with
        | none => simp [stp, e2] at e
        | some t =>
          simp [stp, e2] at e
          subst e
          exact .l e2 (small_of (hf.mono (by omega)) hk) (small_of ((hσ i t e2).mono hB) hk)
      | P => cases e; exact .p
      | M => cases e; exact .m
      | O => cases e; exact .o
      | C =>
        cases st with
        | nil => cases e
        | cons t st => cases e; exact .c
theorem pow40 {a : Nat} (h : a ≤ 320) : 40 ^ a < 2 ^ 2000 := by
  have h1 : 40 ^ a ≤ (2 ^ 6) ^ a := Nat.pow_le_pow_left (by decide) a
  rw [← Nat.pow_mul] at h1
  exact Nat.lt_of_le_of_lt h1 (Nat.pow_lt_pow_right (by decide) (by omega))
/-- a word of at most forty items, with the sums of an age -/
theorem run_sig {b : Bk} (hb : BOk b) {a : Nat} (ha : a ≤ 310) {u : List It} (hu : u.length ≤ 40) {s : Sm × List Sm} (h : run (sig b a) u (Sm.zero, []) = some s) : Run (sig b a) u (Sm.zero, []) s := by
  refine run_Run (B := 40 ^ a) (K := 40 ^ (a + 1)) (sig_bd hb a) (Nat.pow_le_pow_right (by decide) (by omega)) (pow40 (by omega)) u 0 (Sm.zero, []) s h ⟨by decide, by decide, by decide, by decide⟩ (fun t ht => by cases ht) ?_
  rw [Nat.zero_add, Nat.pow_succ]
  exact Nat.mul_le_mul_left _ hu
theorem fine {b : Bk} (hb : BOk b) {last : Nat} (h : last ≤ 310) : Fine b last := by
  intro a ha i hi
  rw [word_at b hi]
  have ok := hb.words _ (List.getElem_mem hi)
  obtain ⟨g, e⟩ := run_bal (sig_some hb a) ok.lets ok.bal
  exact ⟨_, run_sig hb (by omega) ok.len.2 e⟩
theorem whole_run {b : Bk} (hb : BOk b) {a : Nat} (ha : a ≤ 310) : ∃ g, run (sig b a) b.start (Sm.zero, []) = some (g, []) ∧ Run (sig b a) b.start (Sm.zero, []) (g, []) := by
  obtain ⟨g, e⟩ := run_bal (sig_some hb a) hb.start.lets hb.start.bal
  exact ⟨g, e, run_sig hb ha hb.start.len.2 e⟩
end Pl

set_option Elab.async false
set_option linter.all false
set_option maxRecDepth 100000
set_option maxHeartbeats 4000000
namespace Pl
open PySem PySem.Spec L2 Dl Wk
def pn (t : Sm) : Pn := ⟨t.ex, t.ey, t.turns % 4⟩
def ar1 (p : Pn) : Int := p.x * (p.y + (rot p.h (1, 0)).2) - (p.x + (rot p.h (1, 0)).1) * p.y
def areaOf (l : List (Pn × Int)) : Int := l.foldl (fun a q => a + ar1 q.1) 0
def cntP (l : List It) : Int := ((l.countP fun a => decide (a = .P) : Nat) : Int)
def cntM (l : List It) : Int := ((l.countP fun a => decide (a = .M) : Nat) : Int)
def base (f : Sm) (st : List Sm) : Int := match st.getLast? with
  | none => f.turns
  | some t => t.turns
structure Near (s : Sm × List Sm) (d : Dr) (ms : List It × Int) : Prop where
  p : d.p = pn s.1
  st : d.st = s.2.reverse.map pn
  many : s.1.many = d.sk.length
  area : s.1.area = areaOf d.sk
  dep : ms.2 = s.2.length
  turns : base s.1 s.2 = cntP ms.1 - cntM ms.1
theorem base_cons (f t : Sm) (st : List Sm) : base f (t :: st) = base t st := by
  unfold base
  cases st with
  | nil => rfl
  | cons u st => rw [List.getLast?_cons_cons]; simp [List.getLast?_cons]
theorem cnt_app (l : List It) (a : It) : cntP (l ++ [a]) = cntP l + (if a = .P then 1 else 0) ∧ cntM (l ++ [a]) = cntM l + (if a = .M then 1 else 0) := by
  unfold cntP cntM
  rw [List.countP_append, List.countP_append]
  constructor
  · by_cases h : a = .P <;> simp [h]
  · by_cases h : a = .M <;> simp [h]
theorem near_step {b : Bk} {a : It} (ha : ∀ i, a = .L i → 0 ≤ i ∧ i < b.words.length) {s s1 : Sm × List Sm} {d : Dr} {ms : List It × Int} (h : Near s d ms) (hs : stp (sig b 0) a s = some s1) : ∃ d1, dstp a d = some d1 ∧ Near s1 d1 (mstp a ms) := by
  obtain ⟨f, st⟩ := s
  obtain ⟨h1, h2, h3, h4, h5, h6⟩ := h
  simp only at h1 h2 h3 h4 h5 h6
  cases a with
  | L i =>
    have e : sig b 0 i = some Sm.unit := if_pos (ha i rfl)
    simp [stp, e] at hs
    subst hs
    refine ⟨_, rfl, ⟨?_, h2, ?_, ?_, ?_, ?_⟩⟩
    · rw [h1]
      simp [pn, Sm.thn, Sm.unit, rot_mod]
    · simp [Sm.thn, Sm.unit, h3]
    · show (f.thn Sm.unit).area = areaOf (d.sk ++ [(d.p, i)])
      unfold areaOf
      rw [List.foldl_append]
      show _ = areaOf d.sk + ar1 d.p
      rw [← h4, h1]
      simp only [ar1, pn, rot_mod, Sm.thn, Sm.unit, Int.mul_add, Int.add_mul]
      have c1 := Int.mul_comm (rot f.turns (1, 0)).1 f.ey
      omega
    · simp [mstp, h5]
    · have hb : base (f.thn Sm.unit) st = base f st := by
        unfold base
        cases st.getLast? with
        | none => simp [Sm.thn, Sm.unit]
        | some t => rfl
      simp only
      rw [hb, h6]
      simp only [mstp]
      by_cases q : ms.2 = 0
      · obtain ⟨c1, c2⟩ := cnt_app ms.1 (.L i)
        simp [q]
        rw [c1, c2]
        simp
      · simp [q]
  | P =>
    cases hs
    refine ⟨_, rfl, ⟨?_, h2, by simpa [Sm.turning] using h3, by simpa [Sm.turning] using h4, by simp [mstp, h5], ?_⟩⟩
    · rw [h1]
      simp [pn, Sm.turning]
    · simp only
      cases st with
      | nil =>
        have k0 : ms.2 = 0 := by simpa using h5
        obtain ⟨c1, c2⟩ := cnt_app ms.1 .P
        have h6' : f.turns = cntP ms.1 - cntM ms.1 := h6
        show f.turns + 1 = _
        simp [mstp, k0]
        rw [c1, c2]
        simp
        omega
      | cons t st =>
        have k0 : ms.2 ≠ 0 := by rw [h5]; simp; omega
        rw [base_cons] at h6 ⊢
        simp [mstp, k0]
        exact h6
  | M =>
    cases hs
    refine ⟨_, rfl, ⟨?_, h2, by simpa [Sm.turning] using h3, by simpa [Sm.turning] using h4, by simp [mstp, h5], ?_⟩⟩
    · rw [h1]
      simp [pn, Sm.turning]
      omega
    · simp only
      cases st with
      | nil =>
        have k0 : ms.2 = 0 := by simpa using h5
        obtain ⟨c1, c2⟩ := cnt_app ms.1 .M
        have h6' : f.turns = cntP ms.1 - cntM ms.1 := h6
        show f.turns + -1 = _
        simp [mstp, k0]
        rw [c1, c2]
        simp
        omega
      | cons t st =>
        have k0 : ms.2 ≠ 0 := by rw [h5]; simp; omega
        rw [base_cons] at h6 ⊢
        simp [mstp, k0]
        exact h6
  | O =>
    cases hs
    refine ⟨_, rfl, ⟨h1, ?_, h3, h4, by simp [mstp, h5], ?_⟩⟩
    · show d.st ++ [d.p] = _
      rw [h1, h2]
      simp
    · simp only
      rw [base_cons]
      simp [mstp]
      exact h6
  | C =>
    cases st with
    | nil => cases hs
    | cons t st =>
      cases hs
      have q : d.st.getLast? = some (pn t) := by rw [h2]; simp
      have q2 : d.st.dropLast = st.reverse.map pn := by rw [h2]; simp
      refine ⟨{ d with p := pn t, st := d.st.dropLast }, by simp only [dstp, q], ⟨?_, q2, by simpa [Sm.back] using h3, by simpa [Sm.back] using h4, ?_, ?_⟩⟩
      · simp [pn, Sm.back]
      · simp [mstp, h5]
      · simp only
        rw [base_cons] at h6
        have hb : base (f.back t) st = base t st := by
          unfold base
          cases st.getLast? with
          | none => simp [Sm.back]
          | some u => rfl
        rw [hb]
        simp [mstp]
        exact h6
theorem near_run {b : Bk} : ∀ (w : List It) (s s1 : Sm × List Sm) (d : Dr) (ms : List It × Int), Lets b.words.length w → Near s d ms → run (sig b 0) w s = some s1 → ∃ d1, drun w d = some d1 ∧ Near s1 d1 (mrun w ms)
  | [], s, s1, d, ms, _, h, e => by cases e; exact ⟨d, rfl, h⟩
  | a :: w, s, s1, d, ms, hl, h, e => by
    have e' : (stp (sig b 0) a s).bind (run (sig b 0) w) = some s1 := e
    cases q : stp (sig b 0) a s with
    | none => rw [q] at e'; cases e'
    | some s2 =>
      rw [q] at e'
      obtain ⟨d1, q1, h1⟩ := near_step (fun i z => hl i (z ▸ List.mem_cons_self)) h q
      obtain ⟨d2, q2, h2⟩ := near_run w s2 s1 d1 (mstp a ms) (fun i hi => hl i (List.mem_cons_of_mem _ hi)) h1 e'
      refine ⟨d2, ?_, h2⟩
      show (dstp a d).bind (drun w) = _
      rw [q1]
      exact q2
theorem near_all {b : Bk} {w : List It} (hl : Lets b.words.length w) {g : Sm} (h : run (sig b 0) w (Sm.zero, []) = some (g, [])) :
    ∃ d, drun w Dr.zero = some d ∧ d.p = pn g ∧ g.many = d.sk.length ∧ g.area = areaOf d.sk ∧ g.turns = cntP (mrun w ([], 0)).1 - cntM (mrun w ([], 0)).1 := by
  obtain ⟨d, e, n⟩ := near_run w (Sm.zero, []) (g, []) Dr.zero ([], 0) hl ⟨rfl, rfl, rfl, rfl, rfl, rfl⟩ h
  exact ⟨d, e, n.p, n.many, n.area, n.turns⟩
end Pl

set_option Elab.async false
set_option linter.all false
set_option maxRecDepth 100000
set_option maxHeartbeats 4000000
namespace Pl
open PySem PySem.Spec L2 Dl Wk
def Pn.bd (A : Nat) (p : Pn) : Prop := p.x.natAbs ≤ A ∧ p.y.natAbs ≤ A
theorem Pn.bd.mono {A B : Nat} {p : Pn} (h : p.bd A) (q : A ≤ B) : p.bd B := ⟨Nat.le_trans h.1 q, Nat.le_trans h.2 q⟩
def Dr.bd (A : Nat) (d : Dr) : Prop := d.p.bd A ∧ (∀ q ∈ d.sk, q.1.bd A) ∧ ∀ q ∈ d.st, q.bd A
theorem dstp_bd {A : Nat} {a : It} {d d1 : Dr} (h : dstp a d = some d1) (hd : d.bd A) : d1.bd (A + 1) := by
  obtain ⟨h1, h2, h3⟩ := hd
  have u1 := h1.mono (Nat.le_succ A)
  have u2 : ∀ q ∈ d.sk, q.1.bd (A + 1) := fun q hq => (h2 q hq).mono (Nat.le_succ A)
  have u3 : ∀ q ∈ d.st, q.bd (A + 1) := fun q hq => (h3 q hq).mono (Nat.le_succ A)
  cases a with
  | L i =>
    cases h
    obtain ⟨r1, r2⟩ := rot_bd (k := d.p.h) (x := 1) (y := 0) (B := 1) (by decide) (by decide)
    refine ⟨⟨?_, ?_⟩, fun q hq => ?_, u3⟩
    · show (d.p.x + (rot d.p.h (1, 0)).1).natAbs ≤ _
      have := h1.1; omega
    · show (d.p.y + (rot d.p.h (1, 0)).2).natAbs ≤ _
      have := h1.2; omega
    · rcases List.mem_append.mp hq with hq | hq
      · exact u2 q hq
      · rcases List.mem_singleton.mp hq with rfl; exact u1
  | P => cases h; exact ⟨u1, u2, u3⟩
  | M => cases h; exact ⟨u1, u2, u3⟩
  | O =>
    cases h
    refine ⟨u1, u2, fun q hq => ?_⟩
    rcases List.mem_append.mp hq with hq | hq
    · exact u3 q hq
    · rcases List.mem_singleton.mp hq with rfl; exact u1
  | C =>
    cases q : d.st.getLast? with
    | none => simp only [dstp, q] at h; cases h
    | some z =>
      simp only [dstp, q] at h
      cases h
      exact ⟨u3 z (List.mem_of_getLast? q), u2, fun q hq => u3 q ((List.dropLast_sublist _).mem hq)⟩
theorem drun_bd : ∀ (w : List It) (A : Nat) (d d1 : Dr), drun w d = some d1 → d.bd A → d1.bd (A + w.length)
  | [], A, d, d1, h, hd => by cases h; exact hd
  | a :: w, A, d, d1, h, hd => by
    have h' : (dstp a d).bind (drun w) = some d1 := h
    cases e : dstp a d with
    | none => rw [e] at h'; cases h'
    | some d2 =>
      rw [e] at h'
      have := drun_bd w (A + 1) d2 d1 h' (dstp_bd e hd)
      rw [List.length_cons]
      rw [show A + (w.length + 1) = A + 1 + w.length by omega]
      exact this
theorem log_small {x : Int} (h : x.natAbs ≤ 2 ^ 30) : x.natAbs.log2 < 400000 := by
  by_cases q : x.natAbs = 0
  · rw [q]; decide
  · have : x.natAbs.log2 < 31 := (Nat.log2_lt q).mpr (by omega)
    omega
end Pl

set_option Elab.async false
set_option linter.all false
set_option maxRecDepth 100000
set_option maxHeartbeats 4000000
namespace Pl
open PySem PySem.Spec L2 Dl Wk
/-! a word grown so many ages, and its strokes from a stand -/
def gro (b : Bk) : Nat → List It → List It
  | 0, w => w
  | k + 1, w => gro b k (grow1 b w)
theorem grow1_app (b : Bk) (u v : List It) : grow1 b (u ++ v) = grow1 b u ++ grow1 b v := List.flatMap_append
theorem gro_app (b : Bk) : ∀ (k : Nat) (u v : List It), gro b k (u ++ v) = gro b k u ++ gro b k v
  | 0, _, _ => rfl
  | k + 1, u, v => by
    show gro b k (grow1 b (u ++ v)) = gro b k (grow1 b u) ++ gro b k (grow1 b v)
    rw [grow1_app, gro_app b k]
theorem gro_nil (b : Bk) : ∀ k, gro b k [] = []
  | 0 => rfl
  | k + 1 => gro_nil b k
theorem gro_succ (b : Bk) : ∀ (k : Nat) (w : List It), gro b (k + 1) w = grow1 b (gro b k w)
  | 0, _ => rfl
  | k + 1, w => gro_succ b k (grow1 b w)
theorem gro_start (b : Bk) : ∀ k, gro b k b.start = growN b k
  | 0 => rfl
  | k + 1 => by rw [gro_succ, gro_start b k]; rfl
theorem gro_mark (b : Bk) (a : It) (h : a.isL = false) : ∀ k, gro b k [a] = [a]
  | 0 => rfl
  | k + 1 => by
    have e : grow1 b [a] = [a] := by cases a <;> first | rfl | cases h
    show gro b k (grow1 b [a]) = _
    rw [e]; exact gro_mark b a h k
theorem gro_letter (b : Bk) (i : Int) (k : Nat) : gro b (k + 1) [It.L i] = gro b k (b.words.getD i.toNat []) := by
  show gro b k (grow1 b [It.L i]) = _
  have : grow1 b [It.L i] = b.words.getD i.toNat [] := by
    show [It.L i].flatMap (sub1 b) = _
    simp [sub1]
  rw [this]
theorem gro_lets {b : Bk} (hb : BOk b) : ∀ (k : Nat) {w : List It}, Lets b.words.length w → Lets b.words.length (gro b k w)
  | 0, _, h => h
  | k + 1, w, h => gro_lets hb k (grow1_lets (fun w hw => (hb.words w hw).lets) h)
theorem run_gro {b : Bk} (hb : BOk b) : ∀ (k : Nat) (w : List It) (s : Sm × List Sm), Lets b.words.length w → run (sig b k) w s = run (sig b 0) (gro b k w) s
  | 0, _, _, _ => rfl
  | k + 1, w, s, h => by
    rw [run_grow hb k w s h]
    exact run_gro hb k (grow1 b w) s (grow1_lets (fun w hw => (hb.words w hw).lets) h)
/-! drawing -/
theorem drun_app : ∀ (u v : List It) (d : Dr), drun (u ++ v) d = (drun u d).bind (drun v)
  | [], _, _ => rfl
  | a :: u, v, d => by
    show (dstp a d).bind (drun (u ++ v)) = ((dstp a d).bind (drun u)).bind (drun v)
    cases dstp a d with
    | none => rfl
    | some d1 => exact drun_app u v d1
/-- strokes ahead stay -/
def Dr.pre (l : List (Pn × Int)) (d : Dr) : Dr := { d with sk := l ++ d.sk }
theorem dstp_sk (l : List (Pn × Int)) (a : It) (d : Dr) : dstp a (d.pre l) = (dstp a d).map (Dr.pre l) := by
  obtain ⟨p, s, st⟩ := d
  cases a with
  | L i =>
    show some (Dr.mk _ ((l ++ s) ++ [(p, i)]) st) = _
    rw [List.append_assoc]
    rfl
  | P => rfl
  | M => rfl
  | O => rfl
  | C =>
    simp only [dstp, Dr.pre]
    cases st.getLast? with
    | none => rfl
    | some t => rfl
theorem drun_sk (l : List (Pn × Int)) : ∀ (w : List It) (d : Dr), drun w (d.pre l) = (drun w d).map (Dr.pre l)
  | [], _ => rfl
  | a :: w, d => by
    show (dstp a (d.pre l)).bind (drun w) = ((dstp a d).bind (drun w)).map (Dr.pre l)
    rw [dstp_sk]
    cases dstp a d with
    | none => rfl
    | some d1 => exact drun_sk l w d1
/-- stands below stay -/
theorem dstp_st (st0 : List Pn) (a : It) (d d1 : Dr) (h : dstp a d = some d1) : dstp a { d with st := st0 ++ d.st } = some { d1 with st := st0 ++ d1.st } := by
  obtain ⟨p, s, st⟩ := d
  cases a with
  | L i => cases h; rfl
  | P => cases h; rfl
  | M => cases h; rfl
  | O =>
    cases h
    show some (Dr.mk _ _ ((st0 ++ st) ++ [p])) = _
    rw [List.append_assoc]
  | C =>
    simp only [dstp] at h ⊢
    cases q : st.getLast? with
    | none => rw [q] at h; cases h
    | some t =>
      rw [q] at h
      cases h
      have hne : st ≠ [] := fun z => by rw [z] at q; cases q
      have e : (st0 ++ st).getLast? = some t := by rw [List.getLast?_append, q]; rfl
      rw [e]
      simp only [List.dropLast_append_of_ne_nil hne]
theorem drun_st (st0 : List Pn) : ∀ (w : List It) (d d1 : Dr), drun w d = some d1 → drun w { d with st := st0 ++ d.st } = some { d1 with st := st0 ++ d1.st }
  | [], _, _, h => by cases h; rfl
  | a :: w, d, d2, h => by
    have h' : (dstp a d).bind (drun w) = some d2 := h
    cases q : dstp a d with
    | none => rw [q] at h'; cases h'
    | some d1 =>
      rw [q] at h'
      show (dstp a _).bind (drun w) = _
      rw [dstp_st st0 a d d1 q]
      exact drun_st st0 w d1 d2 h'
/-- a heading -/
def Pn.hd (p : Pn) : Prop := 0 ≤ p.h ∧ p.h < 4
def Pn.go (p : Pn) (t : Sm) : Pn := ⟨p.x + (rot p.h (t.ex, t.ey)).1, p.y + (rot p.h (t.ex, t.ey)).2, (p.h + t.turns) % 4⟩
theorem Pn.go_hd (p : Pn) (t : Sm) : (p.go t).hd := ⟨Int.emod_nonneg _ (by decide), Int.emod_lt_of_pos _ (by decide)⟩
/-- a letter's part, from any stand -/
theorem letter_run {b : Bk} (hb : BOk b) {k : Nat} {i : Int} (h0 : 0 ≤ i) (h1 : i < b.words.length) {t : Sm} (ht : sig b k i = some t) {p : Pn} (hp : p.hd) (st : List Pn) :
    ∃ l, drun (gro b k [It.L i]) ⟨p, [], st⟩ = some ⟨p.go t, l, st⟩ ∧ (l.length : Int) = t.many := by
  have hl : Lets b.words.length [It.L i] := fun j hj => by
    have : j = i := by simpa using hj
    subst this; exact ⟨h0, h1⟩
  have r : run (sig b k) [It.L i] (⟨0, p.x, p.y, p.h, 0, 0, 0⟩, []) = some ((⟨0, p.x, p.y, p.h, 0, 0, 0⟩ : Sm).thn t, []) := by
    show (stp (sig b k) (It.L i) _).bind _ = _
    simp [stp, ht, run]
  rw [run_gro hb k _ _ hl] at r
  have hk : (p.h.toNat : Int) = p.h := Int.toNat_of_nonneg hp.1
  have n0 : Near (⟨0, p.x, p.y, p.h, 0, 0, 0⟩, []) ⟨p, [], []⟩ (List.replicate p.h.toNat It.P, 0) := by
    refine ⟨?_, rfl, rfl, rfl, rfl, ?_⟩
    · show p = ⟨p.x, p.y, p.h % 4⟩
      rw [Int.emod_eq_of_lt hp.1 hp.2]
    · show p.h = cntP (List.replicate p.h.toNat It.P) - cntM (List.replicate p.h.toNat It.P)
      unfold cntP cntM
      rw [List.countP_replicate, List.countP_replicate]
      simp [hk]
  obtain ⟨d1, e1, n1⟩ := near_run (gro b k [It.L i]) _ _ _ _ (gro_lets hb k hl) n0 r
  have e2 := drun_st st _ _ _ e1
  have hst : d1.st = [] := n1.st
  have hpp : d1.p = p.go t := by
    rw [n1.p]
    rfl
  refine ⟨d1.sk, ?_, ?_⟩
  · have e3 : drun (gro b k [It.L i]) ⟨p, [], st⟩ = some { d1 with st := st ++ d1.st } := by simpa using e2
    rw [e3]
    obtain ⟨dp, dsk, dst⟩ := d1
    simp only at hst hpp
    subst hst hpp
    simp
  · have := n1.many
    rw [← this]
    simp [Sm.thn]
end Pl

set_option Elab.async false
set_option linter.all false
set_option maxRecDepth 100000
set_option maxHeartbeats 4000000
namespace Pl
open PySem PySem.Spec L2 Dl Wk
/-! the letters of a word, and of what it draws -/
def ltr (w : List It) : List Int := w.filterMap fun a => match a with
  | .L i => some i
  | _ => none
theorem ltr_app (u v : List It) : ltr (u ++ v) = ltr u ++ ltr v := List.filterMap_append
theorem ltr_L (i : Int) (w : List It) : ltr (.L i :: w) = i :: ltr w := rfl
theorem ltr_mark {a : It} (h : a.isL = false) (w : List It) : ltr (a :: w) = ltr w := by
  cases a <;> first | rfl | cases h
theorem ltr_mem {w : List It} {i : Int} : i ∈ ltr w ↔ It.L i ∈ w := by
  unfold ltr
  rw [List.mem_filterMap]
  constructor
  · rintro ⟨a, ha, e⟩
    cases a with
    | L j => cases e; exact ha
    | _ => cases e
  · intro h
    exact ⟨_, h, rfl⟩
theorem dstp_ltr {a : It} {d d1 : Dr} (h : dstp a d = some d1) : d1.sk.map (·.2) = d.sk.map (·.2) ++ ltr [a] := by
  cases a with
  | L i => cases h; show (d.sk ++ [(d.p, i)]).map (·.2) = _; rw [List.map_append]; rfl
  | P => cases h; simp [ltr]
  | M => cases h; simp [ltr]
  | O => cases h; simp [ltr]
  | C =>
    simp only [dstp] at h
    cases q : d.st.getLast? with
    | none => rw [q] at h; cases h
    | some t => rw [q] at h; cases h; simp [ltr]
theorem drun_ltr : ∀ {w : List It} {d d1 : Dr}, drun w d = some d1 → d1.sk.map (·.2) = d.sk.map (·.2) ++ ltr w
  | [], _, _, h => by cases h; simp [ltr]
  | a :: w, d, d2, h => by
    have h' : (dstp a d).bind (drun w) = some d2 := h
    cases q : dstp a d with
    | none => rw [q] at h'; cases h'
    | some d1 =>
      rw [q] at h'
      have e1 := drun_ltr (w := w) (d := d1) h'
      rw [e1, dstp_ltr q, List.append_assoc, ← ltr_app]
      rfl
theorem drun_len {w : List It} {d1 : Dr} {p : Pn} {st : List Pn} (h : drun w ⟨p, [], st⟩ = some d1) : d1.sk.length = (ltr w).length := by
  have := congrArg List.length (drun_ltr h)
  simpa using this
theorem drun_sk_ltr {w : List It} {d1 : Dr} {p : Pn} {st : List Pn} (h : drun w ⟨p, [], st⟩ = some d1) (n : Nat) : (d1.sk[n]?).map (·.2) = (ltr w)[n]? := by
  have := drun_ltr h
  rw [List.map_nil, List.nil_append] at this
  rw [← this, List.getElem?_map]
/-- a word has letters at all ages -/
theorem grow1_has {b : Bk} (hb : BOk b) {w : List It} (hl : Lets b.words.length w) (h : ∃ i, It.L i ∈ w) : ∃ i, It.L i ∈ grow1 b w := by
  obtain ⟨i, hi⟩ := h
  obtain ⟨h0, h1⟩ := hl i hi
  have hj : i.toNat < b.words.length := by omega
  obtain ⟨j, hj2⟩ := (hb.words _ (List.getElem_mem hj)).some_
  refine ⟨j, List.mem_flatMap.mpr ⟨_, hi, ?_⟩⟩
  show It.L j ∈ b.words.getD i.toNat []
  rw [word_at b hj]
  exact hj2
theorem gro_has {b : Bk} (hb : BOk b) : ∀ (k : Nat) {w : List It}, Lets b.words.length w → (∃ i, It.L i ∈ w) → ∃ i, It.L i ∈ gro b k w
  | 0, _, _, h => h
  | k + 1, w, hl, h => gro_has hb k (grow1_lets (fun w hw => (hb.words w hw).lets) hl) (grow1_has hb hl h)
theorem ltr_pos {w : List It} (h : ∃ i, It.L i ∈ w) : 0 < (ltr w).length := by
  obtain ⟨i, hi⟩ := h
  exact List.length_pos_of_mem (ltr_mem.mpr hi)
/-! no branches -/
def Nob (w : List It) : Prop := It.O ∉ w ∧ It.C ∉ w
theorem nob_app {u v : List It} : Nob (u ++ v) ↔ Nob u ∧ Nob v := by
  unfold Nob
  simp only [List.mem_append, not_or]
  constructor
  · rintro ⟨⟨a, b⟩, c, d⟩; exact ⟨⟨a, c⟩, b, d⟩
  · rintro ⟨⟨a, b⟩, c, d⟩; exact ⟨⟨a, c⟩, b, d⟩
theorem nob_of {w : List It} {n : Nat} (h : WOk n w) (hn : It.O ∉ w) : Nob w := by
  have key : ∀ (w : List It), It.O ∉ w → dep w 0 = some 0 → It.C ∉ w := by
    intro w
    induction w with
    | nil => intro _ _ h; cases h
    | cons a w ih =>
      intro h1 h2 h3
      have h1' : It.O ∉ w := fun z => h1 (List.mem_cons_of_mem _ z)
      cases a with
      | O => exact h1 List.mem_cons_self
      | C =>
        have : (if (0 : Int) - 1 < 0 then none else dep w (0 - 1)) = some 0 := h2
        rw [if_pos (by decide)] at this
        cases this
      | L i => rcases List.mem_cons.mp h3 with z | z; cases z; exact ih h1' h2 z
      | P => rcases List.mem_cons.mp h3 with z | z; cases z; exact ih h1' h2 z
      | M => rcases List.mem_cons.mp h3 with z | z; cases z; exact ih h1' h2 z
  exact ⟨hn, key w hn h.bal⟩
theorem grow1_nob {b : Bk} (hw : ∀ w ∈ b.words, Nob w) {w : List It} (h : Nob w) : Nob (grow1 b w) := by
  have key : ∀ x ∈ w, ∀ a ∈ sub1 b x, a ≠ It.O ∧ a ≠ It.C := by
    intro x hx a ha
    cases x with
    | L i =>
      have ha' : a ∈ b.words.getD i.toNat [] := ha
      by_cases hi : i.toNat < b.words.length
      · rw [word_at b hi] at ha'
        have := hw _ (List.getElem_mem hi)
        exact ⟨fun z => this.1 (z ▸ ha'), fun z => this.2 (z ▸ ha')⟩
      · have e0 : b.words.getD i.toNat [] = [] := by simp [List.getElem?_eq_none (Nat.le_of_not_lt hi)]
        rw [e0] at ha'
        cases ha'
    | P => rw [List.mem_singleton.mp (show a ∈ [It.P] from ha)]; exact ⟨by decide, by decide⟩
    | M => rw [List.mem_singleton.mp (show a ∈ [It.M] from ha)]; exact ⟨by decide, by decide⟩
    | O => exact absurd hx h.1
    | C => exact absurd hx h.2
  constructor
  · intro z
    obtain ⟨x, hx, hz⟩ := List.mem_flatMap.mp z
    exact (key x hx _ hz).1 rfl
  · intro z
    obtain ⟨x, hx, hz⟩ := List.mem_flatMap.mp z
    exact (key x hx _ hz).2 rfl
theorem gro_nob {b : Bk} (hw : ∀ w ∈ b.words, Nob w) : ∀ (k : Nat) {w : List It}, Nob w → Nob (gro b k w)
  | 0, _, h => h
  | k + 1, _, h => gro_nob hw k (grow1_nob hw h)
/-- where a stroke ends -/
def aft (p : Pn) : Int × Int := (p.x + (rot p.h (1, 0)).1, p.y + (rot p.h (1, 0)).2)
/-- stroke by stroke, each where the one ahead ended -/
def Chn (d : Dr) : Prop := (∀ n q q', d.sk[n]? = some q → d.sk[n + 1]? = some q' → (q'.1.x, q'.1.y) = aft q.1) ∧ ∀ q, d.sk.getLast? = some q → (d.p.x, d.p.y) = aft q.1
theorem chn_step {a : It} {d d1 : Dr} (ha : a ≠ .O ∧ a ≠ .C) (h : dstp a d = some d1) (hc : Chn d) : Chn d1 := by
  cases a with
  | L i =>
    cases h
    refine ⟨fun n q q' h1 h2 => ?_, fun q h1 => ?_⟩
    · have h1' : (d.sk ++ [(d.p, i)])[n]? = some q := h1
      have h2' : (d.sk ++ [(d.p, i)])[n + 1]? = some q' := h2
      by_cases q1 : n + 1 < d.sk.length
      · rw [List.getElem?_append_left q1] at h2'
        rw [List.getElem?_append_left (by omega)] at h1'
        exact hc.1 n q q' h1' h2'
      · have hn : n + 1 = d.sk.length := by
          have := (List.getElem?_eq_some_iff.mp h2').1
          simp at this
          omega
        rw [List.getElem?_append_right (by omega), hn, Nat.sub_self] at h2'
        cases h2'
        rw [List.getElem?_append_left (by omega)] at h1'
        refine hc.2 q ?_
        rw [List.getLast?_eq_getElem?]
        have : d.sk.length - 1 = n := by omega
        rw [this]; exact h1'
    · have h1' : (d.sk ++ [(d.p, i)]).getLast? = some q := h1
      rw [List.getLast?_concat] at h1'
      cases h1'
      rfl
  | P => cases h; exact hc
  | M => cases h; exact hc
  | O => exact absurd rfl ha.1
  | C => exact absurd rfl ha.2
theorem chn_run : ∀ {w : List It} {d d1 : Dr}, Nob w → drun w d = some d1 → Chn d → Chn d1
  | [], _, _, _, h, hc => by cases h; exact hc
  | a :: w, d, d2, hn, h, hc => by
    have h' : (dstp a d).bind (drun w) = some d2 := h
    cases q : dstp a d with
    | none => rw [q] at h'; cases h'
    | some d1 =>
      rw [q] at h'
      exact chn_run (w := w) ⟨fun z => hn.1 (List.mem_cons_of_mem _ z), fun z => hn.2 (List.mem_cons_of_mem _ z)⟩ h' (chn_step ⟨fun z => hn.1 (z ▸ List.mem_cons_self), fun z => hn.2 (z ▸ List.mem_cons_self)⟩ q hc)
/-- the words alone say what letters become -/
theorem gro_words (ws : List (List It)) (s1 s2 : List It) : ∀ (k : Nat) (w : List It), gro ⟨ws, s1⟩ k w = gro ⟨ws, s2⟩ k w
  | 0, _ => rfl
  | k + 1, w => gro_words ws s1 s2 k (grow1 ⟨ws, s1⟩ w)
theorem book_of {b : Bk} (hb : BOk b) {i : Int} (h0 : 0 ≤ i) (h1 : i < b.words.length) : BOk ⟨b.words, [.L i]⟩ :=
  ⟨hb.len, hb.words, ⟨⟨by simp, by simp⟩, fun j hj => by
    have : j = i := by simpa using hj
    subst this; exact ⟨h0, h1⟩, rfl, i, List.mem_singleton.mpr rfl⟩, hb.sh⟩
end Pl

set_option Elab.async false
set_option linter.all false
set_option maxRecDepth 100000
set_option maxHeartbeats 4000000
namespace Pl
open PySem PySem.Spec L2 Dl Wk
/-! what a word draws from any stand, and the next age at the multiple -/
def Dr.mp (T : Pn → Pn) (d : Dr) : Dr := ⟨T d.p, d.sk.map fun q => (T q.1, q.2), d.st.map T⟩
/-- T goes with the steps -/
structure Com (T : Pn → Pn) : Prop where
  go : ∀ q : Pn, T ⟨q.x + (rot q.h (1, 0)).1, q.y + (rot q.h (1, 0)).2, q.h⟩ = ⟨(T q).x + (rot (T q).h (1, 0)).1, (T q).y + (rot (T q).h (1, 0)).2, (T q).h⟩
  up : ∀ q : Pn, T ⟨q.x, q.y, (q.h + 1) % 4⟩ = ⟨(T q).x, (T q).y, ((T q).h + 1) % 4⟩
  dn : ∀ q : Pn, T ⟨q.x, q.y, (q.h + 3) % 4⟩ = ⟨(T q).x, (T q).y, ((T q).h + 3) % 4⟩
theorem dstp_mp {T : Pn → Pn} (hT : Com T) (a : It) (d : Dr) : dstp a (d.mp T) = (dstp a d).map (Dr.mp T) := by
  obtain ⟨p, sk, st⟩ := d
  cases a with
  | L i =>
    simp only [dstp, Dr.mp, Option.map_some, List.map_append, List.map_cons, List.map_nil, hT.go]
  | P => simp only [dstp, Dr.mp, Option.map_some, hT.up]
  | M => simp only [dstp, Dr.mp, Option.map_some, hT.dn]
  | O => simp only [dstp, Dr.mp, Option.map_some, List.map_append, List.map_cons, List.map_nil]
  | C =>
    simp only [dstp, Dr.mp, List.getLast?_map]
    cases st.getLast? with
    | none => rfl
    | some t => simp [Dr.mp, List.map_dropLast]
theorem drun_mp {T : Pn → Pn} (hT : Com T) : ∀ (w : List It) (d : Dr), drun w (d.mp T) = (drun w d).map (Dr.mp T)
  | [], _ => rfl
  | a :: w, d => by
    show (dstp a (d.mp T)).bind (drun w) = ((dstp a d).bind (drun w)).map (Dr.mp T)
    rw [dstp_mp hT]
    cases dstp a d with
    | none => rfl
    | some d1 => exact drun_mp hT w d1
/-- turned and moved to a stand -/
def tr (p q : Pn) : Pn := ⟨p.x + (rot p.h (q.x, q.y)).1, p.y + (rot p.h (q.x, q.y)).2, (p.h + q.h) % 4⟩
theorem rot_addP (k x y z w : Int) : rot k (x + z, y + w) = ((rot k (x, y)).1 + (rot k (z, w)).1, (rot k (x, y)).2 + (rot k (z, w)).2) := by
  unfold rot
  split
  · rfl
  · split
    · simp only [Prod.mk.injEq]; exact ⟨by omega, trivial⟩
    · split
      · simp only [Prod.mk.injEq]; exact ⟨by omega, by omega⟩
      · simp only [Prod.mk.injEq]; exact ⟨trivial, by omega⟩
theorem rot_rot (j k x y : Int) : rot j (rot k (x, y)) = rot ((j + k) % 4) (x, y) := by
  have hj : j % 4 = 0 ∨ j % 4 = 1 ∨ j % 4 = 2 ∨ j % 4 = 3 := by omega
  have hk : k % 4 = 0 ∨ k % 4 = 1 ∨ k % 4 = 2 ∨ k % 4 = 3 := by omega
  have hm : (j + k) % 4 = (j % 4 + k % 4) % 4 := by omega
  rcases hj with e | e | e | e <;> rcases hk with f | f | f | f <;> simp [rot, hm, e, f]
theorem tr_com (p : Pn) : Com (tr p) := by
  refine ⟨fun q => ?_, fun q => ?_, fun q => ?_⟩
  · have e := rot_rot p.h q.h 1 0
    have e1 := congrArg Prod.fst e
    have e2 := congrArg Prod.snd e
    simp only [tr, rot_addP, Pn.mk.injEq]
    refine ⟨?_, ?_, trivial⟩
    · rw [← e1]
      have : rot q.h (1, 0) = ((rot q.h (1, 0)).1, (rot q.h (1, 0)).2) := rfl
      rw [← this]
      omega
    · rw [← e2]
      have : rot q.h (1, 0) = ((rot q.h (1, 0)).1, (rot q.h (1, 0)).2) := rfl
      rw [← this]
      omega
  · simp only [tr, Pn.mk.injEq, true_and]; omega
  · simp only [tr, Pn.mk.injEq, true_and]; omega
theorem rot_00 (k : Int) : rot k (0, 0) = (0, 0) := by unfold rot; split <;> (try split) <;> (try split) <;> rfl
theorem tr_zero {p : Pn} (h : p.hd) : tr p ⟨0, 0, 0⟩ = p := by
  obtain ⟨x, y, k⟩ := p
  have h1 : (0 : Int) ≤ k := h.1
  have h2 : k < 4 := h.2
  simp only [tr, rot_00, Pn.mk.injEq]
  exact ⟨by omega, by omega, by omega⟩
/-- a word from any stand -/
theorem drun_at {w : List It} {e : Dr} (h : drun w Dr.zero = some e) (he : e.st = []) {p : Pn} (hp : p.hd) (l : List (Pn × Int)) (st : List Pn) :
    drun w ⟨p, l, st⟩ = some ⟨tr p e.p, l ++ e.sk.map (fun q => (tr p q.1, q.2)), st⟩ := by
  have h1 := drun_mp (tr_com p) w Dr.zero
  rw [h] at h1
  have z : Dr.mp (tr p) Dr.zero = ⟨p, [], []⟩ := by show (Dr.mk (tr p ⟨0, 0, 0⟩) [] []) = _; rw [tr_zero hp]
  rw [z] at h1
  have h2 := drun_st st w _ _ h1
  have h3 := drun_sk l w ⟨p, [], st⟩
  have e1 : (Dr.pre l ⟨p, [], st⟩) = ⟨p, l, st⟩ := by simp [Dr.pre]
  rw [e1] at h3
  rw [h3]
  have e2 : drun w ⟨p, [], st⟩ = some { Dr.mp (tr p) e with st := st ++ (Dr.mp (tr p) e).st } := by simpa using h2
  rw [e2]
  simp [Dr.pre, Dr.mp, he]
/-- a place times the multiple -/
def mul (u : Int × Int) (p : Pn) : Pn := ⟨u.1 * p.x - u.2 * p.y, u.1 * p.y + u.2 * p.x, p.h⟩
/-- the strokes that a stroke becomes -/
def bec (W : Int → List (Pn × Int)) (u : Int × Int) (q : Pn × Int) : List (Pn × Int) := (W q.2).map fun s => (tr (mul u q.1) s.1, s.2)
theorem mul_go (u : Int × Int) (p : Pn) : mul u ⟨p.x + (rot p.h (1, 0)).1, p.y + (rot p.h (1, 0)).2, p.h⟩ = ⟨(mul u p).x + (rot p.h u).1, (mul u p).y + (rot p.h u).2, p.h⟩ := by
  obtain ⟨a, c⟩ := u
  simp only [mul, rot, Pn.mk.injEq, and_true]
  split
  · simp only [Int.mul_add]; constructor <;> omega
  · split
    · simp only [Int.mul_add]; constructor <;> omega
    · split
      · simp only [Int.mul_add]; constructor <;> omega
      · simp only [Int.mul_add]; constructor <;> omega
/-- all letters of w have words that end at the multiple, without turning -/
theorem next_run {b : Bk} {W : Int → List (Pn × Int)} {u : Int × Int} : ∀ (w : List It) (d d1 : Dr), (∀ i, It.L i ∈ w → ∃ e, drun (b.words.getD i.toNat []) Dr.zero = some e ∧ e.st = [] ∧ e.p = ⟨u.1, u.2, 0⟩ ∧ e.sk = W i) →
    d.p.hd → (∀ q ∈ d.st, q.hd) → drun w d = some d1 → drun (grow1 b w) ⟨mul u d.p, d.sk.flatMap (bec W u), d.st.map (mul u)⟩ = some ⟨mul u d1.p, d1.sk.flatMap (bec W u), d1.st.map (mul u)⟩
  | [], d, d1, _, _, _, h => by cases h; rfl
  | a :: w, d, d2, hw, hp, hs, h => by
    have h' : (dstp a d).bind (drun w) = some d2 := h
    have hw' : ∀ i, It.L i ∈ w → ∃ e, drun (b.words.getD i.toNat []) Dr.zero = some e ∧ e.st = [] ∧ e.p = ⟨u.1, u.2, 0⟩ ∧ e.sk = W i := fun i hi => hw i (List.mem_cons_of_mem _ hi)
    have eg : grow1 b (a :: w) = sub1 b a ++ grow1 b w := rfl
    rw [eg, drun_app]
    cases q : dstp a d with
    | none => rw [q] at h'; cases h'
    | some d1 =>
      rw [q] at h'
      have key : drun (sub1 b a) ⟨mul u d.p, d.sk.flatMap (bec W u), d.st.map (mul u)⟩ = some ⟨mul u d1.p, d1.sk.flatMap (bec W u), d1.st.map (mul u)⟩ ∧ d1.p.hd ∧ ∀ q ∈ d1.st, q.hd := by
        cases a with
        | L i =>
          cases q
          obtain ⟨e, e1, e2, e3, e4⟩ := hw i List.mem_cons_self
          refine ⟨?_, hp, hs⟩
          show drun (b.words.getD i.toNat []) _ = _
          rw [drun_at e1 e2 (p := mul u d.p) hp, e3, e4]
          have hk : (d.p.h + 0) % 4 = d.p.h := by have := hp.1; have := hp.2; omega
          rw [mul_go]
          simp only [List.flatMap_append, List.flatMap_cons, List.flatMap_nil, List.append_nil, tr, bec]
          have hm : (mul u d.p).h = d.p.h := rfl
          rw [hm, hk]
        | P => cases q; exact ⟨rfl, ⟨Int.emod_nonneg _ (by decide), Int.emod_lt_of_pos _ (by decide)⟩, hs⟩
        | M => cases q; exact ⟨rfl, ⟨Int.emod_nonneg _ (by decide), Int.emod_lt_of_pos _ (by decide)⟩, hs⟩
        | O =>
          cases q
          refine ⟨?_, hp, fun x hx => ?_⟩
          · show some (Dr.mk _ _ (d.st.map (mul u) ++ [mul u d.p])) = _
            simp
          · rcases List.mem_append.mp hx with z | z
            · exact hs x z
            · rw [List.mem_singleton.mp z]; exact hp
        | C =>
          simp only [dstp] at q
          cases z : d.st.getLast? with
          | none => rw [z] at q; cases q
          | some t =>
            rw [z] at q
            cases q
            refine ⟨?_, hs t (List.mem_of_getLast? z), fun x hx => hs x (List.dropLast_subset _ hx)⟩
            show (dstp .C _).bind _ = _
            simp only [dstp, List.getLast?_map, z, Option.map_some]
            simp [drun, List.map_dropLast]
      rw [key.1]
      exact next_run w d1 d2 hw' key.2.1 key.2.2 h'
theorem next_age {b : Bk} {W : Int → List (Pn × Int)} {u : Int × Int} {w : List It} {d : Dr} (hw : ∀ i, It.L i ∈ w → ∃ e, drun (b.words.getD i.toNat []) Dr.zero = some e ∧ e.st = [] ∧ e.p = ⟨u.1, u.2, 0⟩ ∧ e.sk = W i) (h : drun w Dr.zero = some d) :
    ∃ d', drun (grow1 b w) Dr.zero = some d' ∧ d'.sk = d.sk.flatMap (bec W u) := by
  have h1 := next_run w Dr.zero d hw ⟨by decide, by decide⟩ (fun q hq => by cases hq) h
  have z : (⟨mul u Dr.zero.p, Dr.zero.sk.flatMap (bec W u), Dr.zero.st.map (mul u)⟩ : Dr) = Dr.zero := by
    simp [Dr.zero, mul]
  rw [z] at h1
  exact ⟨_, h1, rfl⟩
end Pl

set_option Elab.async false
set_option linter.all false
set_option maxRecDepth 100000
set_option maxHeartbeats 4000000
namespace Pl
open PySem PySem.Spec L2 Dl Wk
/-! the pen, a cell, and its stands, the next one -/
def stD (q : Pn) : D := .tup [.tup [.int q.x, .int q.y], .int q.h]
def penF (p : Pn) (k : Nat) : List (Str × D) := [("place", .tup [.int p.x, .int p.y]), ("heading", .int p.h), ("stands", .loc k)]
def penM (m : Mem) (d : Dr) : Mem := m ++ [.ins "Pen" (penF d.p (m.length + 1)), .lst (d.st.map stD)]
section
variable {m : Mem} {d : Dr}
theorem pen_len : (penM m d).length = m.length + 2 := by simp [penM]
theorem pen0 : (penM m d)[m.length]? = some (.ins "Pen" (penF d.p (m.length + 1))) := get1 m _ _
theorem pen1 : (penM m d)[m.length + 1]? = some (.lst (d.st.map stD)) := get2 m _ _
theorem insC_pen : insC "Pen" (penM m d) (.loc m.length) = some (penF d.p (m.length + 1)) := by
  simp only [insC, pen0, if_true]
theorem lkp {p : Pn} {k : Nat} : List.lookup ("place" : Str) (penF p k) = some (.tup [.int p.x, .int p.y]) := rfl
theorem lkh {p : Pn} {k : Nat} : List.lookup ("heading" : Str) (penF p k) = some (.int p.h) := rfl
theorem lks {p : Pn} {k : Nat} : List.lookup ("stands" : Str) (penF p k) = some (.loc k) := rfl
theorem lkm {p : Pn} {k : Nat} : List.lookup ("mark" : Str) (penF p k) = none ∧ List.lookup ("go" : Str) (penF p k) = none := ⟨rfl, rfl⟩
theorem lst_pen : (D.loc (m.length + 1)).lst? (penM m d) = some (d.st.map stD) := by
  simp only [D.lst?, pen1]
theorem stD_bel (q : Pn) (k : Nat) : (stD q).bel k = true := rfl
theorem pen_cells (d1 : Dr) : Cells (penM m d) (penM m d1) := by
  refine ⟨by rw [pen_len, pen_len], fun k c h => ?_⟩
  by_cases q : k < m.length
  · left
    unfold penM at h ⊢
    rw [List.getElem?_append_left q] at h ⊢
    exact h
  · right
    have hk : k < m.length + 2 := by
      have := (List.getElem?_eq_some_iff.mp h).1
      rwa [pen_len] at this
    by_cases q2 : k = m.length
    · subst q2
      rw [pen0] at h
      cases h
      show D.belf _ (penF d1.p _) = true
      rw [pen_len]
      simp [penF, D.belf, D.bel, D.bels]
    · have : k = m.length + 1 := by omega
      subst this
      rw [pen1] at h
      cases h
      show D.bels _ _ = true
      exact bels_of fun x hx => by
        obtain ⟨q, _, rfl⟩ := List.mem_map.mp hx
        rfl
theorem set_place (p : Pn) : setFld "Pen" "place" (.loc m.length) (.tup [.int p.x, .int p.y]) (penM m d) = some (penM m { d with p := ⟨p.x, p.y, d.p.h⟩ }) := by
  unfold penM
  rw [setFld_last (ex := [.lst (d.st.map stD)]) (by simp [penF])]
  rfl
theorem set_head (h : Int) : setFld "Pen" "heading" (.loc m.length) (.int h) (penM m d) = some (penM m { d with p := ⟨d.p.x, d.p.y, h⟩ }) := by
  unfold penM
  rw [setFld_last (ex := [.lst (d.st.map stD)]) (by simp [penF])]
  have e1 : ("place" : Str) ≠ "heading" := by decide
  rw [penF, putD_ne e1]
  rfl
theorem ap_pen {q : Pn} (h : d.st.length < big) : oAppend (.loc (m.length + 1)) [stD q] (penM m d) = some (.non, penM m { d with st := d.st ++ [q] }) := by
  have hl : (d.st.map stD).length < big := by simpa using h
  simp only [oAppend, pen1, hl, if_true]
  unfold penM
  rw [set2, List.map_append]
  rfl
theorem pop_pen {q : Pn} {st : List Pn} (h : d.st = st ++ [q]) : oPop (.loc (m.length + 1)) (penM m d) = some (stD q, penM m { d with st := st }) := by
  obtain ⟨p, sk, st'⟩ := d
  simp only at h
  subst h
  have e : (penM m ⟨p, sk, st ++ [q]⟩) = (m ++ [.ins "Pen" (penF p (m.length + 1))]) ++ D.lst (st.map stD ++ [stD q]) :: [] := by
    unfold penM
    simp
  have el : (m ++ [D.ins "Pen" (penF p (m.length + 1))]).length = m.length + 1 := by simp
  have pl := oPop_last (m := m ++ [D.ins "Pen" (penF p (m.length + 1))]) (l := st.map stD) (y := stD q) (ex := [])
  rw [el] at pl
  rw [e, pl]
  simp [penM]
theorem pen_init {x y h : Int} : F_Pen_init [.loc m.length, .tup [.int x, .int y], .int h] (m ++ [.ins "Pen" []]) = .ok .non (penM m ⟨⟨x, y, h⟩, [], []⟩) := by
  have e1 : ("place" : Str) ≠ "heading" := by decide
  have e2 : ("place" : Str) ≠ "stands" := by decide
  have e3 : ("heading" : Str) ≠ "stands" := by decide
  have s1 := setFld_last (m := m) (C := "Pen") (f := "place") (fs := []) (y := .tup [.int x, .int y]) (ex := []) (by simp)
  have s2 := setFld_last (m := m) (C := "Pen") (f := "heading") (fs := [("place", .tup [.int x, .int y])]) (y := .int h) (ex := []) (by simp)
  have s3 := setFld_last (m := m) (C := "Pen") (f := "stands") (fs := [("place", .tup [.int x, .int y]), ("heading", .int h)]) (y := .loc (m.length + 1)) (ex := [.lst []]) (by simp)
  unfold F_Pen_init
  simp [q_fn, b_Pen_init, big, s1, s2, s3, putD_ne, e1, e2, e3, penM, penF]
theorem mark_eq {a : It} (ha : a.isL = false) {d1 : Dr} (h : dstp a d = some d1) (hl : d.st.length < big) : F_Pen_mark [.loc m.length, a.d] (penM m d) = .ok .non (penM m d1) := by
  have key : fnD 2 2 b_Pen_mark [.loc m.length, a.d] (penM m d) = .ok .non (penM m d1) := by
    have eo : ∀ mm, oEq a.d c_OUT mm = some (.bl (decide (a = .O)), mm) := eq_O a
    have ec : ∀ mm, oEq a.d c_BACK mm = some (.bl (decide (a = .C)), mm) := eq_C a
    cases a with
    | L i => cases ha
    | P =>
      cases h
      have q1 := quarters_eq .P (.inl rfl) (penM m d)
      have s1 := set_head (m := m) (d := d) ((d.p.h + 1) % 4)
      simp [q_fn, b_Pen_mark, eo, ec, insC_pen, lkh, q1, It.sgn, o_mod, s1]
    | M =>
      cases h
      have q1 := quarters_eq .M (.inr rfl) (penM m d)
      have s1 := set_head (m := m) (d := d) ((d.p.h + 3) % 4)
      simp [q_fn, b_Pen_mark, eo, ec, insC_pen, lkh, q1, It.sgn, o_mod, s1]
    | O =>
      cases h
      have a1 := ap_pen (m := m) (d := d) (q := d.p) hl
      simp only [stD] at a1
      simp [q_fn, b_Pen_mark, eo, ec, insC_pen, lkp, lkh, lks, lst_pen, big, a1]
    | C =>
      simp only [dstp] at h
      cases q : d.st.getLast? with
      | none => rw [q] at h; cases h
      | some t =>
        rw [q] at h
        cases h
        have hne : d.st ≠ [] := fun z => by rw [z] at q; cases q
        have e : d.st = d.st.dropLast ++ [t] := by
          rw [List.getLast?_eq_some_getLast hne] at q
          cases q
          exact (List.dropLast_concat_getLast hne).symm
        have p1 := pop_pen (m := m) (d := d) e
        have s1 := set_place (m := m) (d := { d with st := d.st.dropLast }) t
        have s2 := set_head (m := m) (d := { d with st := d.st.dropLast, p := ⟨t.x, t.y, d.p.h⟩ }) t.h
        simp only at s1 s2
        simp [q_fn, b_Pen_mark, eo, ec, insC_pen, lks, lst_pen, p1, stD, D.tup?, s1, s2]
  show letGo _ (fnD 2 2 b_Pen_mark [.loc m.length, a.d] (penM m d)) = _
  rw [key]
  have := letGo_old (d := .non) (ex := []) (pen_cells (m := m) (d := d) d1) rfl
  rwa [List.append_nil] at this
theorem go_eq {e : D} {t : Sm} (he : IsP e t.ex t.ey) : F_Pen_go [.loc m.length, e, .int t.turns] (penM m d) = .ok .non (penM m { d with p := d.p.go t }) := by
  have key : fnD 3 3 b_Pen_go [.loc m.length, e, .int t.turns] (penM m d) = .ok .non (penM m { d with p := d.p.go t }) := by
    have t1 := turned_eq (k := d.p.h) he (penM m d)
    have t2 := plus_eq (IsP.mk d.p.x d.p.y) (IsP.mk (rot d.p.h (t.ex, t.ey)).1 (rot d.p.h (t.ex, t.ey)).2) (penM m d)
    have s1 := set_place (m := m) (d := d) (d.p.go t)
    simp only [Pn.go] at s1
    have s2 := set_head (m := m) (d := { d with p := ⟨(d.p.go t).x, (d.p.go t).y, d.p.h⟩ }) ((d.p.h + t.turns) % 4)
    simp only [Pn.go] at s2
    simp [q_fn, b_Pen_go, insC_pen, lkp, lkh, t1, t2, s1, o_mod, s2, Pn.go]
  show letGo _ (fnD 3 3 b_Pen_go [.loc m.length, e, .int t.turns] (penM m d)) = _
  rw [key]
  have := letGo_old (d := .non) (ex := []) (pen_cells (m := m) (d := d) { d with p := d.p.go t }) rfl
  rwa [List.append_nil] at this
end
end Pl

set_option Elab.async false
set_option linter.all false
set_option maxRecDepth 100000
set_option maxHeartbeats 4000000
namespace Pl
open PySem PySem.Spec L2 Dl Wk
/-! the pen with more cells behind it -/
def penX (m ex : Mem) (d : Dr) : Mem := m ++ .ins "Pen" (penF d.p (m.length + 1)) :: .lst (d.st.map stD) :: ex
section
variable {m ex : Mem} {d : Dr}
theorem penX_as : penX m ex d = (m ++ [D.ins "Pen" (penF d.p (m.length + 1))]) ++ D.lst (d.st.map stD) :: ex := by simp [penX]
theorem pen1_len : (m ++ [D.ins "Pen" (penF d.p (m.length + 1))]).length = m.length + 1 := by simp
theorem penX_len : (penX m ex d).length = m.length + 2 + ex.length := by simp [penX]; omega
theorem penX0 : (penX m ex d)[m.length]? = some (.ins "Pen" (penF d.p (m.length + 1))) := get_last m _ _
theorem penX1 : (penX m ex d)[m.length + 1]? = some (.lst (d.st.map stD)) := by
  have h := get_last (m ++ [D.ins "Pen" (penF d.p (m.length + 1))]) (.lst (d.st.map stD)) ex
  rw [pen1_len] at h
  rw [penX_as]
  exact h
theorem insC_penX : insC "Pen" (penX m ex d) (.loc m.length) = some (penF d.p (m.length + 1)) := by
  simp only [insC, penX0, if_true]
theorem lst_penX : (D.loc (m.length + 1)).lst? (penX m ex d) = some (d.st.map stD) := by
  simp only [D.lst?, penX1]
theorem penX_cells (d1 : Dr) : Cells (penX m ex d) (penX m ex d1) := by
  refine ⟨by rw [penX_len, penX_len], fun k c h => ?_⟩
  by_cases q : k < m.length
  · left
    unfold penX at h ⊢
    rw [List.getElem?_append_left q] at h ⊢
    exact h
  · by_cases q2 : k = m.length
    · right
      subst q2
      rw [penX0] at h
      cases h
      show D.belf _ (penF d1.p _) = true
      rw [penX_len]
      have : m.length + 1 < m.length + 2 + ex.length := by omega
      simp [penF, D.belf, D.bel, D.bels, this]
    · by_cases q3 : k = m.length + 1
      · right
        subst q3
        rw [penX1] at h
        cases h
        show D.bels _ _ = true
        exact bels_of fun x hx => by
          obtain ⟨q, _, rfl⟩ := List.mem_map.mp hx
          rfl
      · left
        unfold penX at h ⊢
        rw [List.getElem?_append_right (by omega)] at h ⊢
        obtain ⟨j, hj⟩ : ∃ j, k - m.length = j + 2 := ⟨k - m.length - 2, by omega⟩
        rw [hj] at h ⊢
        exact h
theorem set_placeX (p : Pn) : setFld "Pen" "place" (.loc m.length) (.tup [.int p.x, .int p.y]) (penX m ex d) = some (penX m ex { d with p := ⟨p.x, p.y, d.p.h⟩ }) := by
  unfold penX
  rw [setFld_last (ex := .lst (d.st.map stD) :: ex) (by simp [penF])]
  rfl
theorem set_headX (h : Int) : setFld "Pen" "heading" (.loc m.length) (.int h) (penX m ex d) = some (penX m ex { d with p := ⟨d.p.x, d.p.y, h⟩ }) := by
  unfold penX
  rw [setFld_last (ex := .lst (d.st.map stD) :: ex) (by simp [penF])]
  have e1 : ("place" : Str) ≠ "heading" := by decide
  rw [penF, putD_ne e1]
  rfl
theorem ap_penX {q : Pn} (h : d.st.length < big) : oAppend (.loc (m.length + 1)) [stD q] (penX m ex d) = some (.non, penX m ex { d with st := d.st ++ [q] }) := by
  have hl : (d.st.map stD).length < big := by simpa using h
  have := oAppend_last (m := m ++ [D.ins "Pen" (penF d.p (m.length + 1))]) (l := d.st.map stD) (y := stD q) (ex := ex) hl
  rw [pen1_len] at this
  rw [penX_as, this, penX_as, List.map_append]
  rfl
theorem pop_penX {q : Pn} {st : List Pn} (h : d.st = st ++ [q]) : oPop (.loc (m.length + 1)) (penX m ex d) = some (stD q, penX m ex { d with st := st }) := by
  have := oPop_last (m := m ++ [D.ins "Pen" (penF d.p (m.length + 1))]) (l := st.map stD) (y := stD q) (ex := ex)
  rw [pen1_len] at this
  rw [penX_as, h, List.map_append]
  show oPop _ ((m ++ [D.ins "Pen" (penF d.p (m.length + 1))]) ++ D.lst (st.map stD ++ [stD q]) :: ex) = _
  rw [this, penX_as]
theorem mark_eqX {a : It} (ha : a.isL = false) {d1 : Dr} (h : dstp a d = some d1) (hl : d.st.length < big) : F_Pen_mark [.loc m.length, a.d] (penX m ex d) = .ok .non (penX m ex d1) := by
  have key : fnD 2 2 b_Pen_mark [.loc m.length, a.d] (penX m ex d) = .ok .non (penX m ex d1) := by
    have eo : ∀ mm, oEq a.d c_OUT mm = some (.bl (decide (a = .O)), mm) := eq_O a
    have ec : ∀ mm, oEq a.d c_BACK mm = some (.bl (decide (a = .C)), mm) := eq_C a
    cases a with
    | L i => cases ha
    | P =>
      cases h
      have q1 := quarters_eq .P (.inl rfl) (penX m ex d)
      have s1 := set_headX (m := m) (ex := ex) (d := d) ((d.p.h + 1) % 4)
      simp [q_fn, b_Pen_mark, eo, ec, insC_penX, lkh, q1, It.sgn, o_mod, s1]
    | M =>
      cases h
      have q1 := quarters_eq .M (.inr rfl) (penX m ex d)
      have s1 := set_headX (m := m) (ex := ex) (d := d) ((d.p.h + 3) % 4)
      simp [q_fn, b_Pen_mark, eo, ec, insC_penX, lkh, q1, It.sgn, o_mod, s1]
    | O =>
      cases h
      have a1 := ap_penX (m := m) (ex := ex) (d := d) (q := d.p) hl
      simp only [stD] at a1
      simp [q_fn, b_Pen_mark, eo, ec, insC_penX, lkp, lkh, lks, lst_penX, big, a1]
    | C =>
      simp only [dstp] at h
      cases q : d.st.getLast? with
      | none => rw [q] at h; cases h
      | some t =>
        rw [q] at h
        cases h
        have hne : d.st ≠ [] := fun z => by rw [z] at q; cases q
        have e : d.st = d.st.dropLast ++ [t] := by
          rw [List.getLast?_eq_some_getLast hne] at q
          cases q
          exact (List.dropLast_concat_getLast hne).symm
        have p1 := pop_penX (m := m) (ex := ex) (d := d) e
        have s1 := set_placeX (m := m) (ex := ex) (d := { d with st := d.st.dropLast }) t
        have s2 := set_headX (m := m) (ex := ex) (d := { d with st := d.st.dropLast, p := ⟨t.x, t.y, d.p.h⟩ }) t.h
        simp only at s1 s2
        simp [q_fn, b_Pen_mark, eo, ec, insC_penX, lks, lst_penX, p1, stD, D.tup?, s1, s2]
  show letGo _ (fnD 2 2 b_Pen_mark [.loc m.length, a.d] (penX m ex d)) = _
  rw [key]
  have := letGo_old (d := .non) (ex := []) (penX_cells (m := m) (ex := ex) (d := d) d1) rfl
  rwa [List.append_nil] at this
theorem go_eqX {e : D} {t : Sm} (he : IsP e t.ex t.ey) : F_Pen_go [.loc m.length, e, .int t.turns] (penX m ex d) = .ok .non (penX m ex { d with p := d.p.go t }) := by
  have key : fnD 3 3 b_Pen_go [.loc m.length, e, .int t.turns] (penX m ex d) = .ok .non (penX m ex { d with p := d.p.go t }) := by
    have t1 := turned_eq (k := d.p.h) he (penX m ex d)
    have t2 := plus_eq (IsP.mk d.p.x d.p.y) (IsP.mk (rot d.p.h (t.ex, t.ey)).1 (rot d.p.h (t.ex, t.ey)).2) (penX m ex d)
    have s1 := set_placeX (m := m) (ex := ex) (d := d) (d.p.go t)
    simp only [Pn.go] at s1
    have s2 := set_headX (m := m) (ex := ex) (d := { d with p := ⟨(d.p.go t).x, (d.p.go t).y, d.p.h⟩ }) ((d.p.h + t.turns) % 4)
    simp only [Pn.go] at s2
    simp [q_fn, b_Pen_go, insC_penX, lkp, lkh, t1, t2, s1, o_mod, s2, Pn.go]
  show letGo _ (fnD 3 3 b_Pen_go [.loc m.length, e, .int t.turns] (penX m ex d)) = _
  rw [key]
  have := letGo_old (d := .non) (ex := []) (penX_cells (m := m) (ex := ex) (d := d) { d with p := d.p.go t }) rfl
  rwa [List.append_nil] at this
end
/-! strokes_of -/
theorem hd_stepS {a : It} {d d1 : Dr} (h : dstp a d = some d1) (hp : d.p.hd) (hs : ∀ q ∈ d.st, q.hd) : d1.p.hd ∧ ∀ q ∈ d1.st, q.hd := by
  cases a with
  | L i => cases h; exact ⟨hp, hs⟩
  | P => cases h; exact ⟨⟨Int.emod_nonneg _ (by decide), Int.emod_lt_of_pos _ (by decide)⟩, hs⟩
  | M => cases h; exact ⟨⟨Int.emod_nonneg _ (by decide), Int.emod_lt_of_pos _ (by decide)⟩, hs⟩
  | O =>
    cases h
    refine ⟨hp, fun q hq => ?_⟩
    rcases List.mem_append.mp hq with z | z
    · exact hs q z
    · rw [List.mem_singleton.mp z]; exact hp
  | C =>
    simp only [dstp] at h
    cases q : d.st.getLast? with
    | none => rw [q] at h; cases h
    | some t =>
      rw [q] at h
      cases h
      exact ⟨hs _ (List.mem_of_getLast? q), fun x hx => hs x (List.dropLast_subset _ hx)⟩
def soS (wd : D) (m : Mem) (it : Option D) : Sl := [some wd, some (.loc m.length), some (.loc (m.length + 2)), it]
def soM (m : Mem) (d : Dr) : Mem := penX m [.lst (d.sk.map skD)] d
theorem so_step {a : It} {d d1 : Dr} (h : dstp a d = some d1) (hp : d.p.hd) (hl : d.sk.length < big) (hl2 : d.st.length < big) {wd : D} {m : Mem} {it : Option D} :
    l_strokes_of_0 ((soS wd m it).set 3 (some a.d)) (soM m d) = .nx (soS wd m (some a.d)) (soM m d1) := by
  have lkg : ∀ {p : Pn} {k : Nat}, List.lookup ("mark" : Str) (penF p k) = none ∧ List.lookup ("go" : Str) (penF p k) = none := lkm
  cases ha : a.isL with
  | false =>
    have m1 := mark_eqX (m := m) (ex := [.lst (d.sk.map skD)]) ha h hl2
    have sk1 : d1.sk = d.sk := by
      cases a with
      | L i => cases ha
      | P => cases h; rfl
      | M => cases h; rfl
      | O => cases h; rfl
      | C =>
        simp only [dstp] at h
        cases q : d.st.getLast? with
        | none => rw [q] at h; cases h
        | some t => rw [q] at h; cases h; rfl
    have il := is_letter_eq a (penX m [.lst (d.sk.map skD)] d)
    unfold soM
    rw [sk1]
    simp [l_strokes_of_0, soS, il, ha, insC_penX, lkm, m1]
  | true =>
    cases a with
    | L i =>
      cases h
      have ad : ∀ mm, oAdd (.tup [.int d.p.x, .int d.p.y]) (.tup [.int d.p.h, .int i]) mm = some (skD (d.p, i), mm) := fun mm => add_tt (a := [.int d.p.x, .int d.p.y]) (b := [.int d.p.h, .int i]) (by simp) (by simp) (by show 4 ≤ 16777216; decide) mm
      have e0 : penX m [.lst (d.sk.map skD)] d = (m ++ [D.ins "Pen" (penF d.p (m.length + 1)), .lst (d.st.map stD)]) ++ D.lst (d.sk.map skD) :: [] := by simp [penX]
      have e1 : (m ++ [D.ins "Pen" (penF d.p (m.length + 1)), D.lst (d.st.map stD)]).length = m.length + 2 := by simp
      have ap := oAppend_last (m := m ++ [D.ins "Pen" (penF d.p (m.length + 1)), .lst (d.st.map stD)]) (l := d.sk.map skD) (y := skD (d.p, i)) (ex := []) (by rw [List.length_map]; exact hl)
      have ll := lst_last (m := m ++ [D.ins "Pen" (penF d.p (m.length + 1)), .lst (d.st.map stD)]) (l := d.sk.map skD) (ex := [])
      rw [e1, ← e0] at ap ll
      have e2 : (m ++ [D.ins "Pen" (penF d.p (m.length + 1)), .lst (d.st.map stD)]) ++ D.lst (d.sk.map skD ++ [skD (d.p, i)]) :: [] = penX m [.lst ((d.sk ++ [(d.p, i)]).map skD)] d := by simp [penX]
      rw [e2] at ap
      have g1 := go_eqX (m := m) (ex := [.lst ((d.sk ++ [(d.p, i)]).map skD)]) (d := d) (e := .ctup [.int 1, .int 0]) (t := Sm.unit) (.inr rfl)
      have hh : d.p.go Sm.unit = ⟨d.p.x + (rot d.p.h (1, 0)).1, d.p.y + (rot d.p.h (1, 0)).2, d.p.h⟩ := by
        have h1 := hp.1
        have h2 := hp.2
        have : (d.p.h + 0) % 4 = d.p.h := by omega
        simp only [Pn.go, Sm.unit, this]
      rw [hh] at g1
      have g1' : F_Pen_go [.loc m.length, .ctup [.int 1, .int 0], .int 0] (penX m [.lst ((d.sk ++ [(d.p, i)]).map skD)] d) = .ok .non (penX m [.lst ((d.sk ++ [(d.p, i)]).map skD)] { d with p := ⟨d.p.x + (rot d.p.h (1, 0)).1, d.p.y + (rot d.p.h (1, 0)).2, d.p.h⟩ }) := g1
      have il : F_is_letter [.int i] (penX m [.lst (d.sk.map skD)] d) = .ok (.bl true) (penX m [.lst (d.sk.map skD)] d) := is_letter_eq (.L i) _
      have hd0 := fun mm => headings mm
      have lm : List.map skD (d.sk ++ [(d.p, i)]) = List.map skD d.sk ++ [skD (d.p, i)] := by simp
      rw [lm] at ap g1'
      unfold soM
      show l_strokes_of_0 [some wd, some (.loc m.length), some (.loc (m.length + 2)), some (.int i)] _ = .nx [some wd, some (.loc m.length), some (.loc (m.length + 2)), some (.int i)] (penX m [.lst (List.map skD (d.sk ++ [(d.p, i)]))] _)
      rw [lm]
      simp [l_strokes_of_0, il, insC_penX, lkp, lkh, ll, ad, ap, lkm, hd0, big, g1']
      rfl
    | _ => cases ha
theorem so_loop {wd : D} {m : Mem} : ∀ {w : List It} {d d1 : Dr} (h : drun w d = some d1) (hp : d.p.hd) (hs : ∀ q ∈ d.st, q.hd) (hl : d.sk.length + w.length < big) (hl2 : d.st.length + w.length < big) (it : Option D),
    ∃ it', forD (tgN 3) l_strokes_of_0 (w.map It.d) (soS wd m it) (soM m d) = .nx (soS wd m it') (soM m d1)
  | [], _, _, h, _, _, _, _, it => by cases h; exact ⟨it, rfl⟩
  | a :: w, d, d2, h, hp, hs, hl, hl2, it => by
    rw [List.length_cons] at hl hl2
    have h' : (dstp a d).bind (drun w) = some d2 := h
    cases q : dstp a d with
    | none => rw [q] at h'; cases h'
    | some d1 =>
      rw [q] at h'
      have hle := dstp_len q
      obtain ⟨p1, s1⟩ := hd_stepS q hp hs
      obtain ⟨it', e⟩ := so_loop (wd := wd) (m := m) (w := w) h' p1 s1 (by omega) (by omega) (some a.d)
      refine ⟨it', ?_⟩
      rw [List.map_cons, forD_cons, turnN (so_step q hp (by omega) (by omega))]
      exact e
theorem strokes_of_eq {w : List It} {d : Dr} (h : drun w Dr.zero = some d) (hl : w.length < big) (m : Mem) : F_strokes_of [wD w] m = .ok (.lst (d.sk.map skD)) m := by
  obtain ⟨it', e⟩ := so_loop (wd := wD w) (m := m) h ⟨by decide, by decide⟩ (fun q hq => by cases hq) (by simpa [Dr.zero] using hl) (by simpa [Dr.zero] using hl) none
  have hb : D.bels m.length (d.sk.map skD) = true := bels_of fun x hx => by obtain ⟨q, _, rfl⟩ := List.mem_map.mp hx; rfl
  have pi := pen_init (m := m) (x := 0) (y := 0) (h := 0)
  have e0 : fnD 1 4 b_strokes_of [wD w] m = .ok (.loc (m.length + 2)) (soM m d) := by
    have pm : penM m ⟨⟨0, 0, 0⟩, [], []⟩ = m ++ [D.ins "Pen" (penF ⟨0, 0, 0⟩ (m.length + 1)), .lst []] := rfl
    have e' : forD (tgN 3) l_strokes_of_0 (w.map It.d) [some (wD w), some (.loc m.length), some (.loc (m.length + 2)), none] (m ++ [D.ins "Pen" (penF ⟨0, 0, 0⟩ (m.length + 1)), .lst [], .lst []]) = .nx (soS (wD w) m it') (soM m d) := e
    rw [pm] at pi
    simp only [wD] at e' ⊢
    simp [q_fn, b_strokes_of, big, pi, e', soS]
  show letGo m (fnD 1 4 b_strokes_of [wD w] m) = _
  rw [e0]
  refine letGo_ok2 (ex := [.ins "Pen" (penF d.p (m.length + 1)), .lst (d.st.map stD), .lst (d.sk.map skD)]) (Cells.refl m) ?_ hb
  have g2 : (m ++ [D.ins "Pen" (penF d.p (m.length + 1)), .lst (d.st.map stD), .lst (d.sk.map skD)])[m.length + 2]? = some (.lst (d.sk.map skD)) := by
    rw [List.getElem?_append_right (by omega)]
    have : m.length + 2 - m.length = 2 := by omega
    rw [this]
    rfl
  rw [show (6 : Nat) = 5 + 1 from rfl, fz_cellL (by omega) g2, map_same fun x hx => fz_same 5 x (bels_mem hb x hx)]
/-! grown, word_in, drawing -/
theorem gr_loop {b : Bk} (hb : BOk b) {wd : D} {m : Mem} : ∀ (w acc : List It) (it : Option D), Lets b.words.length w → (acc ++ grow1 b w).length ≤ 60000 →
    ∃ it', forD (tgN 3) l_grown_0 (w.map It.d) [some (bkD b), some wd, some (.loc m.length), it] (m ++ [.lst (acc.map It.d)]) = .nx [some (bkD b), some wd, some (.loc m.length), it'] (m ++ [.lst ((acc ++ grow1 b w).map It.d)])
  | [], acc, it, _, _ => ⟨it, by rw [show grow1 b [] = [] from rfl, List.append_nil]; rfl⟩
  | a :: w, acc, it, hl, hle => by
    have eg : grow1 b (a :: w) = sub1 b a ++ grow1 b w := rfl
    rw [eg, ← List.append_assoc] at hle
    obtain ⟨it', e⟩ := gr_loop hb (wd := wd) (m := m) w (acc ++ sub1 b a) (some a.d) (fun i hi => hl i (List.mem_cons_of_mem _ hi)) hle
    refine ⟨it', ?_⟩
    have hlen : (acc ++ sub1 b a).length ≤ 60000 := by rw [List.length_append] at hle; omega
    have hb2 : (acc.map It.d).length + ((sub1 b a).map It.d).length ≤ big := by
      rw [List.length_map, List.length_map]
      rw [List.length_append] at hlen
      show _ ≤ 16777216
      omega
    have ext : ∀ x : D, x.lst? (m ++ [.lst (acc.map It.d)]) = none → x.tup? = some ((sub1 b a).map It.d) → oExtend (.loc m.length) [x] (m ++ [.lst (acc.map It.d)]) = some (.non, m ++ [.lst ((acc ++ sub1 b a).map It.d)]) := fun x h1 h2 => by
      unfold oExtend
      simp only [get_last, h1, h2, if_pos hb2, set_last, List.map_append]
    have ll := lst_last (m := m) (l := acc.map It.d) (ex := [])
    have ol : oLen [.loc m.length] (m ++ [.lst ((acc ++ sub1 b a).map It.d)]) = some (.int (acc ++ sub1 b a).length, m ++ [.lst ((acc ++ sub1 b a).map It.d)]) := by
      have : (D.loc m.length).seq? (m ++ [.lst ((acc ++ sub1 b a).map It.d)]) = some ((acc ++ sub1 b a).map It.d) := by
        show (match (m ++ [D.lst ((acc ++ sub1 b a).map It.d)])[m.length]? with
          | some (.lst l) => some l
          | _ => none) = _
        rw [get_last]
      show (match (D.loc m.length).seq? _ with
        | some l => some (D.int l.length, _)
        | none => none) = _
      rw [this]
      simp only [List.length_map]
    have gt : ∀ mm, oGt (.int (acc ++ sub1 b a).length) (.int 60000) mm = some (.bl false, mm) := fun mm => by
      have : decide (((acc ++ sub1 b a).length : Int) > 60000) = false := decide_eq_false (by omega)
      show some (D.bl (decide (((acc ++ sub1 b a).length : Int) > 60000)), mm) = _
      rw [this]
    have st : l_grown_0 [some (bkD b), some wd, some (.loc m.length), some a.d] (m ++ [.lst (acc.map It.d)]) = .nx [some (bkD b), some wd, some (.loc m.length), some a.d] (m ++ [.lst ((acc ++ sub1 b a).map It.d)]) := by
      have il := is_letter_eq a (m ++ [.lst (acc.map It.d)])
      cases ha : a.isL with
      | true =>
        cases a with
        | L i =>
          obtain ⟨h0, h1⟩ := hl i List.mem_cons_self
          have i0 : ∀ mm, oIx (bkD b) (.int 0) mm = some (.tup (b.words.map wD), mm) := fun _ => rfl
          have i1 : ∀ mm, oIx (.tup (b.words.map wD)) (.int i) mm = some (wD (b.words.getD i.toNat []), mm) := fun mm => by
            obtain ⟨j, rfl⟩ := Int.eq_ofNat_of_zero_le h0
            have hj : j < b.words.length := by omega
            rw [ixT (by simpa using hj) mm]
            simp [hj]
          have ex1 := ext (wD (b.words.getD i.toNat [])) rfl rfl
          rw [ha] at il
          simp only [It.d] at il ⊢
          simp only [l_grown_0, q_seq, q_expr, q_bm, q_cons, q_if, q_T, q_call, q_op, q_var, q_c, q_nil, List.getElem?_cons_succ, List.getElem?_cons_zero, R.bind_ok, ll, il, if_true, i0, i1, R.ofO_some, ex1, SR.ofR_ok, q_sif, q_cb, ol, c_MOST_ITEMS, gt, q_stuck, q_next]
          rfl
        | _ => cases ha
      | false =>
        have sb : (sub1 b a).map It.d = [a.d] := by cases a <;> first | rfl | cases ha
        have ex1 := ext (.tup [a.d]) rfl (by rw [sb]; rfl)
        rw [ha] at il
        simp only [l_grown_0, q_seq, q_expr, q_bm, q_cons, q_if, q_T, q_call, q_op, q_var, q_c, q_nil, List.getElem?_cons_succ, List.getElem?_cons_zero, R.bind_ok, ll, il, Bool.false_eq_true, if_false, q_tup, List.length_cons, List.length_nil]
        simp only [show (0 + 1 ≤ big) = True from eq_true (by decide), if_true, R.bind_ok, ex1, R.ofO_some, SR.ofR_ok, q_sif, q_T, q_op, q_cb, q_cons, q_var, q_nil, q_c, List.getElem?_cons_succ, List.getElem?_cons_zero, ol, c_MOST_ITEMS, gt, q_stuck, q_next]
        rfl
    rw [List.map_cons, forD_cons, eg, ← List.append_assoc]
    exact turnT (i := 3) st e
theorem grown_eqP {b : Bk} (hb : BOk b) {w : List It} (hl : Lets b.words.length w) (hle : (grow1 b w).length ≤ 60000) (m : Mem) : F_grown [bkD b, wD w] m = .ok (wD (grow1 b w)) m := by
  obtain ⟨it', e⟩ := gr_loop hb (wd := wD w) (m := m) w [] none hl (by simpa using hle)
  rw [List.nil_append] at e
  have e0 : fnD 2 4 b_grown [bkD b, wD w] m = .ok (wD (grow1 b w)) (m ++ [.lst ((grow1 b w).map It.d)]) := by
    have e' : forD (tgN 3) l_grown_0 (w.map It.d) [some (bkD b), some (wD w), some (.loc m.length), none] (m ++ [.lst []]) = .nx [some (bkD b), some (wD w), some (.loc m.length), it'] (m ++ [.lst ((grow1 b w).map It.d)]) := e
    have ot : oTuple [.loc m.length] (m ++ [.lst ((grow1 b w).map It.d)]) = some (.tup ((grow1 b w).map It.d), m ++ [.lst ((grow1 b w).map It.d)]) := by
      have : (D.loc m.length).rdl? (m ++ [.lst ((grow1 b w).map It.d)]) = some ((grow1 b w).map It.d) := by
        show (match (m ++ [D.lst ((grow1 b w).map It.d)])[m.length]? with
          | some (.lst l) => some l
          | _ => none) = _
        rw [get_last]
      show (match (D.loc m.length).rdl? _ with
        | some l => some (D.tup l, _)
        | none => _) = _
      rw [this]
    simp only [wD] at e' ⊢
    simp [q_fn, b_grown, big, e', ot]
  show letGo m (fnD 2 4 b_grown [bkD b, wD w] m) = _
  rw [e0]
  exact letGo_ex (wD_b _ _)
theorem wi_loop {b : Bk} (hb : BOk b) {A : Nat} (hA : ∀ k, k ≤ A → (growN b k).length ≤ 60000) {m : Mem} {x : Option D} : ∀ (n a : Nat) (y : Option D), a + n = A →
    ∃ y', forD (tgN 3) l_word_in_0 ((rngD 0 1 A).drop a) [some (bkD b), x, some (wD (growN b a)), y] m = .nx [some (bkD b), x, some (wD (growN b A)), y'] m
  | 0, a, y, e => by
    have : a = A := by omega
    subst this
    rw [List.drop_eq_nil_of_le (by rw [rngD_length]; exact Nat.le_refl _)]
    exact ⟨y, rfl⟩
  | n + 1, a, y, e => by
    obtain ⟨y', e2⟩ := wi_loop hb hA n (a + 1) (some (.int (0 + (a : Int) * 1))) (by omega) (m := m) (x := x)
    refine ⟨y', ?_⟩
    have gl : Lets b.words.length (growN b a) := by
      rw [← gro_start]
      exact gro_lets hb a hb.start.lets
    have ge := grown_eqP hb gl (by have := hA (a + 1) (by omega); exact this) m
    rw [drop_get (rngD_get (show a < A by omega)), forD_cons]
    refine turnT (i := 3) (sd2 := [some (bkD b), x, some (wD (growN b (a + 1))), some (.int (0 + (a : Int) * 1))]) (m2 := m) ?_ e2
    simp [l_word_in_0, ge]
    rfl
theorem word_in_eq {b : Bk} (hb : BOk b) {A : Nat} (hA : ∀ k, k ≤ A → (growN b k).length ≤ 60000) (hA2 : A ≤ 1000) (m : Mem) : F_word_in [bkD b, .int A] m = .ok (wD (growN b A)) m := by
  obtain ⟨y', e⟩ := wi_loop hb hA (m := m) (x := some (.int A)) A 0 none (by omega)
  have rg := rng1_nat (n := A) (Nat.le_trans hA2 (by decide))
  have i1 : ∀ mm, oIx (bkD b) (.int 1) mm = some (wD b.start, mm) := fun _ => rfl
  have e' : forD (tgN 3) l_word_in_0 (rngD 0 1 A) [some (bkD b), some (.int A), some (wD b.start), none] m = .nx [some (bkD b), some (.int A), some (wD (growN b A)), y'] m := e
  refine clos_same ?_ (wD_b _ _)
  simp [q_fn, b_word_in, i1, rg, e']
theorem drawing_eq {b : Bk} (hb : BOk b) {A : Nat} (hA : ∀ k, k ≤ A → (growN b k).length ≤ 60000) (hA2 : A ≤ 1000) {d : Dr} (h : drun (growN b A) Dr.zero = some d) (m : Mem) : F_drawing [bkD b, .int A] m = .ok (.tup (d.sk.map skD)) m := by
  have w1 := word_in_eq hb hA hA2 m
  have s1 := strokes_of_eq h (Nat.lt_of_le_of_lt (hA A (Nat.le_refl _)) (by decide)) m
  have nn := need_number_eq (A : Int) 0 1000 (by omega) (by omega) m
  refine clos_same ?_ (show D.bels 0 (d.sk.map skD) = true from bels_of fun x hx => by obtain ⟨q, _, rfl⟩ := List.mem_map.mp hx; rfl)
  simp [q_fn, b_drawing, need_book_eq hb, nn, c_MOST_AGE, w1, s1, tup_lst]
end Pl

set_option Elab.async false
set_option linter.all false
set_option maxRecDepth 100000
set_option maxHeartbeats 4000000
namespace Pl
open PySem PySem.Spec L2 Dl Wk
/-! mirrored and backward words, in plain words -/
def mir : It → It
  | .P => .M
  | .M => .P
  | a => a
def mirW (w : List It) : List It := w.map mir
def bakW (w : List It) : List It := w.reverse.map mir
def mirB (b : Bk) : Bk := ⟨b.words.map mirW, mirW b.start⟩
def bakB (b : Bk) : Bk := ⟨b.words.map bakW, bakW b.start⟩
theorem mir_L {a : It} {i : Int} : mir a = .L i ↔ a = .L i := by cases a <;> simp [mir]
theorem mir_O {a : It} : mir a = .O ↔ a = .O := by cases a <;> simp [mir]
theorem mir_C {a : It} : mir a = .C ↔ a = .C := by cases a <;> simp [mir]
theorem memL_mir {w : List It} {i : Int} : It.L i ∈ mirW w ↔ It.L i ∈ w := by
  unfold mirW
  rw [List.mem_map]
  constructor
  · rintro ⟨a, h, e⟩
    rw [mir_L] at e
    rw [← e]; exact h
  · intro h
    exact ⟨_, h, rfl⟩
theorem memL_bak {w : List It} {i : Int} : It.L i ∈ bakW w ↔ It.L i ∈ w := by
  have h := memL_mir (w := w.reverse) (i := i)
  rw [List.mem_reverse] at h
  exact h
theorem dep_mir : ∀ (w : List It) (k : Int), dep (mirW w) k = dep w k
  | [], k => rfl
  | a :: w, k => by
    have ih := dep_mir w
    unfold mirW at ih ⊢
    rw [List.map_cons]
    cases a <;> simp only [mir, dep, ih]
theorem dep_nob : ∀ (w : List It) (k : Int), 0 ≤ k → Nob w → dep w k = some k
  | [], k, _, _ => rfl
  | a :: w, k, hk, h => by
    have ih := dep_nob w k hk ⟨fun z => h.1 (List.mem_cons_of_mem _ z), fun z => h.2 (List.mem_cons_of_mem _ z)⟩
    cases a with
    | O => exact absurd List.mem_cons_self h.1
    | C => exact absurd List.mem_cons_self h.2
    | _ => simp only [dep]; first | exact ih | (split <;> first | exact ih | omega)
theorem nob_bak {w : List It} (h : Nob w) : Nob (bakW w) := by
  unfold bakW
  constructor
  · intro z
    obtain ⟨a, ha, e⟩ := List.mem_map.mp z
    rw [mir_O] at e
    subst e
    exact h.1 (List.mem_reverse.mp ha)
  · intro z
    obtain ⟨a, ha, e⟩ := List.mem_map.mp z
    rw [mir_C] at e
    subst e
    exact h.2 (List.mem_reverse.mp ha)
theorem mirW_len (w : List It) : (mirW w).length = w.length := List.length_map _
theorem bakW_len (w : List It) : (bakW w).length = w.length := by unfold bakW; rw [List.length_map, List.length_reverse]
theorem wok_mir {n : Nat} {w : List It} (h : WOk n w) : WOk n (mirW w) := ⟨by rw [mirW_len]; exact h.len, fun i hi => h.lets i (memL_mir.mp hi), by rw [dep_mir]; exact h.bal, let ⟨i, hi⟩ := h.some_; ⟨i, memL_mir.mpr hi⟩⟩
theorem wok_bak {n : Nat} {w : List It} (h : WOk n w) (hn : Nob w) : WOk n (bakW w) := ⟨by rw [bakW_len]; exact h.len, fun i hi => h.lets i (memL_bak.mp hi), dep_nob _ 0 (by decide) (nob_bak hn), let ⟨i, hi⟩ := h.some_; ⟨i, memL_bak.mpr hi⟩⟩
theorem bok_mir {b : Bk} (h : BOk b) : BOk (mirB b) := by
  have hl : (mirB b).words.length = b.words.length := List.length_map _
  refine ⟨by rw [hl]; exact h.len, fun w hw => ?_, by rw [hl]; exact wok_mir h.start, fun w hw => ?_⟩
  · obtain ⟨v, hv, rfl⟩ := List.mem_map.mp hw
    rw [hl]; exact wok_mir (h.words v hv)
  · obtain ⟨v, hv, rfl⟩ := List.mem_map.mp hw
    rw [mirW_len]; exact h.sh v hv
theorem bok_bak {b : Bk} (h : BOk b) (hw : ∀ w ∈ b.words, Nob w) (hs : Nob b.start) : BOk (bakB b) := by
  have hl : (bakB b).words.length = b.words.length := List.length_map _
  refine ⟨by rw [hl]; exact h.len, fun w h1 => ?_, by rw [hl]; exact wok_bak h.start hs, fun w h1 => ?_⟩
  · obtain ⟨v, hv, rfl⟩ := List.mem_map.mp h1
    rw [hl]; exact wok_bak (h.words v hv) (hw v hv)
  · obtain ⟨v, hv, rfl⟩ := List.mem_map.mp h1
    rw [bakW_len]; exact h.sh v hv
/-! growing goes with both -/
theorem getD_map (f : List It → List It) (h0 : f [] = []) (l : List (List It)) (i : Nat) : (l.map f).getD i [] = f (l.getD i []) := by
  rw [List.getD_eq_getElem?_getD, List.getD_eq_getElem?_getD, List.getElem?_map]
  cases l[i]? with
  | none => exact h0.symm
  | some x => rfl
theorem sub1_mir (b : Bk) (a : It) : sub1 (mirB b) (mir a) = mirW (sub1 b a) := by
  cases a with
  | L i => exact getD_map mirW rfl b.words i.toNat
  | _ => rfl
theorem grow1_mir (b : Bk) : ∀ w : List It, grow1 (mirB b) (mirW w) = mirW (grow1 b w)
  | [] => rfl
  | a :: w => by
    have ih := grow1_mir b w
    have e1 : grow1 (mirB b) (mirW (a :: w)) = sub1 (mirB b) (mir a) ++ grow1 (mirB b) (mirW w) := rfl
    have e2 : grow1 b (a :: w) = sub1 b a ++ grow1 b w := rfl
    rw [e1, e2, ih, sub1_mir]
    unfold mirW
    rw [List.map_append]
theorem growN_mir (b : Bk) : ∀ k, growN (mirB b) k = mirW (growN b k)
  | 0 => rfl
  | k + 1 => by
    show grow1 (mirB b) (growN (mirB b) k) = mirW (grow1 b (growN b k))
    rw [growN_mir b k, grow1_mir]
theorem bakW_app (u v : List It) : bakW (u ++ v) = bakW v ++ bakW u := by
  unfold bakW
  rw [List.reverse_append, List.map_append]
theorem sub1_bak (b : Bk) (a : It) : sub1 (bakB b) (mir a) = bakW (sub1 b a) := by
  cases a with
  | L i => exact getD_map bakW rfl b.words i.toNat
  | _ => rfl
theorem grow1_bak (b : Bk) : ∀ w : List It, grow1 (bakB b) (bakW w) = bakW (grow1 b w)
  | [] => rfl
  | a :: w => by
    have ih := grow1_bak b w
    have e0 : bakW (a :: w) = bakW w ++ [mir a] := by
      unfold bakW
      rw [List.reverse_cons, List.map_append]
      rfl
    have e1 : grow1 (bakB b) (bakW w ++ [mir a]) = grow1 (bakB b) (bakW w) ++ sub1 (bakB b) (mir a) := by
      rw [grow1_app]
      congr 1
      show (sub1 (bakB b) (mir a)) ++ [] = _
      rw [List.append_nil]
    have e2 : grow1 b (a :: w) = sub1 b a ++ grow1 b w := rfl
    rw [e0, e1, ih, sub1_bak, e2, bakW_app]
theorem growN_bak (b : Bk) : ∀ k, growN (bakB b) k = bakW (growN b k)
  | 0 => rfl
  | k + 1 => by
    show grow1 (bakB b) (growN (bakB b) k) = bakW (grow1 b (growN b k))
    rw [growN_bak b k, grow1_bak]
/-! the mirrored drawing -/
def mirP (q : Pn) : Pn := ⟨q.x, 0 - q.y, (0 - q.h) % 4⟩
theorem rot_neg (h : Int) : rot ((0 - h) % 4) (1, 0) = ((rot h (1, 0)).1, -(rot h (1, 0)).2) := by
  have hk : h % 4 = 0 ∨ h % 4 = 1 ∨ h % 4 = 2 ∨ h % 4 = 3 := by omega
  rcases hk with e | e | e | e
  · have e2 : -h % 4 = 0 := by omega
    simp [rot, e, e2]
  · have e2 : -h % 4 = 3 := by omega
    simp [rot, e, e2]
  · have e2 : -h % 4 = 2 := by omega
    simp [rot, e, e2]
  · have e2 : -h % 4 = 1 := by omega
    simp [rot, e, e2]
theorem dstp_mir (a : It) (d : Dr) : dstp (mir a) (d.mp mirP) = (dstp a d).map (Dr.mp mirP) := by
  obtain ⟨p, sk, st⟩ := d
  cases a with
  | L i =>
    simp only [mir, dstp, Dr.mp, Option.map_some, List.map_append, List.map_cons, List.map_nil, mirP, rot_neg, Option.some.injEq, Dr.mk.injEq, Pn.mk.injEq, true_and, and_true]
    omega
  | P =>
    simp only [mir, dstp, Dr.mp, Option.map_some, mirP, Option.some.injEq, Dr.mk.injEq, Pn.mk.injEq, true_and, and_true]
    omega
  | M =>
    simp only [mir, dstp, Dr.mp, Option.map_some, mirP, Option.some.injEq, Dr.mk.injEq, Pn.mk.injEq, true_and, and_true]
    omega
  | O => simp only [mir, dstp, Dr.mp, Option.map_some, List.map_append, List.map_cons, List.map_nil]
  | C =>
    simp only [mir, dstp, Dr.mp, List.getLast?_map]
    cases st.getLast? with
    | none => rfl
    | some t => simp [Dr.mp, List.map_dropLast]
theorem drun_mir : ∀ (w : List It) (d : Dr), drun (mirW w) (d.mp mirP) = (drun w d).map (Dr.mp mirP)
  | [], _ => rfl
  | a :: w, d => by
    show (dstp (mir a) (d.mp mirP)).bind (drun (mirW w)) = ((dstp a d).bind (drun w)).map (Dr.mp mirP)
    rw [dstp_mir]
    cases dstp a d with
    | none => rfl
    | some d1 => exact drun_mir w d1
theorem mir_drawn {w : List It} {e : Dr} (h : drun w Dr.zero = some e) : drun (mirW w) Dr.zero = some (e.mp mirP) := by
  have h1 := drun_mir w Dr.zero
  rw [h] at h1
  exact h1
/-! the drawing backward -/
def bkP (p : Pn) : Pn := ⟨p.x, p.y, (p.h + 2) % 4⟩
def bkS (q : Pn × Int) : Pn × Int := (⟨(aft q.1).1, (aft q.1).2, (q.1.h + 2) % 4⟩, q.2)
theorem rot_two (h : Int) : rot ((h + 2) % 4) (1, 0) = (-(rot h (1, 0)).1, -(rot h (1, 0)).2) := by
  have hk : h % 4 = 0 ∨ h % 4 = 1 ∨ h % 4 = 2 ∨ h % 4 = 3 := by omega
  rcases hk with e | e | e | e
  · have e2 : ((h + 2) % 4) % 4 = 2 := by omega
    simp [rot, e, e2]
  · have e2 : ((h + 2) % 4) % 4 = 3 := by omega
    simp [rot, e, e2]
  · have e2 : ((h + 2) % 4) % 4 = 0 := by omega
    simp [rot, e, e2]
  · have e2 : ((h + 2) % 4) % 4 = 1 := by omega
    simp [rot, e, e2]
theorem bak_run : ∀ (w : List It) (p : Pn) (e : Dr), Nob w → drun w ⟨p, [], []⟩ = some e → drun (bakW w) ⟨bkP e.p, [], []⟩ = some ⟨bkP p, e.sk.reverse.map bkS, []⟩ ∧ e.st = []
  | [], p, e, _, h => by cases h; exact ⟨rfl, rfl⟩
  | a :: w, p, e, hn, h => by
    have hn' : Nob w := ⟨fun z => hn.1 (List.mem_cons_of_mem _ z), fun z => hn.2 (List.mem_cons_of_mem _ z)⟩
    have e0 : bakW (a :: w) = bakW w ++ [mir a] := by
      unfold bakW
      rw [List.reverse_cons, List.map_append]
      rfl
    have h' : (dstp a ⟨p, [], []⟩).bind (drun w) = some e := h
    rw [e0, drun_app]
    have one : ∀ (b : It) (d : Dr), drun [b] d = dstp b d := fun b d => by
      show (dstp b d).bind (fun d => some d) = _
      cases dstp b d <;> rfl
    cases a with
    | O => exact absurd List.mem_cons_self hn.1
    | C => exact absurd List.mem_cons_self hn.2
    | L i =>
      have h2 : drun w (Dr.pre [(p, i)] ⟨⟨p.x + (rot p.h (1, 0)).1, p.y + (rot p.h (1, 0)).2, p.h⟩, [], []⟩) = some e := h'
      rw [drun_sk] at h2
      cases z : drun w ⟨⟨p.x + (rot p.h (1, 0)).1, p.y + (rot p.h (1, 0)).2, p.h⟩, [], []⟩ with
      | none => rw [z] at h2; cases h2
      | some e1 =>
        rw [z] at h2
        cases h2
        obtain ⟨ih, ih2⟩ := bak_run w _ e1 hn' z
        refine ⟨?_, ih2⟩
        show (drun (bakW w) ⟨bkP e1.p, [], []⟩).bind (drun [mir (.L i)]) = _
        rw [ih]
        show drun [mir (.L i)] _ = _
        rw [one]
        simp only [mir, dstp, bkP, rot_two, Dr.pre, List.reverse_append, List.reverse_cons, List.reverse_nil, List.nil_append, List.map_append, List.map_cons, List.map_nil, bkS, aft, Option.some.injEq, Dr.mk.injEq, Pn.mk.injEq, and_true]
        omega
    | P =>
      have h2 : drun w ⟨⟨p.x, p.y, (p.h + 1) % 4⟩, [], []⟩ = some e := h'
      obtain ⟨ih, ih2⟩ := bak_run w _ e hn' h2
      refine ⟨?_, ih2⟩
      rw [ih]
      show drun [mir .P] _ = _
      rw [one]
      simp only [mir, dstp, bkP, Option.some.injEq, Dr.mk.injEq, Pn.mk.injEq, true_and, and_true]
      omega
    | M =>
      have h2 : drun w ⟨⟨p.x, p.y, (p.h + 3) % 4⟩, [], []⟩ = some e := h'
      obtain ⟨ih, ih2⟩ := bak_run w _ e hn' h2
      refine ⟨?_, ih2⟩
      rw [ih]
      show drun [mir .M] _ = _
      rw [one]
      simp only [mir, dstp, bkP, Option.some.injEq, Dr.mk.injEq, Pn.mk.injEq, true_and, and_true]
      omega
/-- the way back from a place, seen from the end -/
def bkT (e : Pn) (q : Pn × Int) : Pn × Int := (⟨(rot (0 - e.h - 2) ((aft q.1).1 - e.x, (aft q.1).2 - e.y)).1, (rot (0 - e.h - 2) ((aft q.1).1 - e.x, (aft q.1).2 - e.y)).2, (q.1.h - e.h) % 4⟩, q.2)
theorem bak_drawn {w : List It} (hn : Nob w) {e : Dr} (h : drun w Dr.zero = some e) : ∃ d, drun (bakW w) Dr.zero = some d ∧ d.sk = e.sk.reverse.map (bkT e.p) := by
  obtain ⟨h1, _⟩ := bak_run w ⟨0, 0, 0⟩ e hn h
  generalize hc : (⟨(rot (0 - e.p.h - 2) (-e.p.x, -e.p.y)).1, (rot (0 - e.p.h - 2) (-e.p.x, -e.p.y)).2, 0 - e.p.h - 2⟩ : Pn) = c
  have h2 := drun_mp (tr_com c) (bakW w) ⟨bkP e.p, [], []⟩
  rw [h1] at h2
  have z : (Dr.mp (tr c) ⟨bkP e.p, [], []⟩) = Dr.zero := by
    show (Dr.mk (tr c (bkP e.p)) [] []) = ⟨⟨0, 0, 0⟩, [], []⟩
    have r := rot_addP (0 - e.p.h - 2) (-e.p.x) (-e.p.y) e.p.x e.p.y
    have r0 : rot (0 - e.p.h - 2) (-e.p.x + e.p.x, -e.p.y + e.p.y) = (0, 0) := by
      rw [show -e.p.x + e.p.x = 0 by omega, show -e.p.y + e.p.y = 0 by omega]
      exact rot_00 _
    rw [r0] at r
    have r1 := congrArg Prod.fst r
    have r2 := congrArg Prod.snd r
    simp only at r1 r2
    simp only [tr, bkP, ← hc, Dr.mk.injEq, Pn.mk.injEq, and_true]
    exact ⟨r1.symm, r2.symm, by omega⟩
  rw [z] at h2
  refine ⟨_, h2, ?_⟩
  show (e.sk.reverse.map bkS).map (fun q => (tr c q.1, q.2)) = _
  rw [List.map_map]
  refine List.map_congr_left fun q _ => ?_
  simp only [Function.comp, bkS, bkT, tr, ← hc, Prod.mk.injEq, Pn.mk.injEq, and_true]
  have r := rot_addP (0 - e.p.h - 2) (-e.p.x) (-e.p.y) (aft q.1).1 (aft q.1).2
  have r1 := congrArg Prod.fst r
  have r2 := congrArg Prod.snd r
  simp only at r1 r2
  have s1 : -e.p.x + (aft q.1).1 = (aft q.1).1 - e.p.x := by omega
  have s2 : -e.p.y + (aft q.1).2 = (aft q.1).2 - e.p.y := by omega
  rw [s1, s2] at r1 r2
  exact ⟨r1.symm, r2.symm, by omega⟩
end Pl

set_option Elab.async false
set_option linter.all false
set_option maxRecDepth 100000
set_option maxHeartbeats 4000000
namespace Pl
open PySem PySem.Spec L2 Dl Wk
/-! mirrored, backward in the program -/
theorem other_way_eq (a : It) (m : Mem) : F_other_way [a.d] m = .ok (mir a).d m := by
  refine clos_same ?_ ((mir a).bel 0)
  have e1 : ∀ mm, oEq a.d c_LEFT mm = some (.bl (decide (a = .P)), mm) := eq_it a .P rfl
  have e2 : ∀ mm, oEq a.d c_RIGHT mm = some (.bl (decide (a = .M)), mm) := eq_it a .M rfl
  cases a with
  | L i => simp [q_fn, b_other_way, e1, e2, mir]
  | P => simp [q_fn, b_other_way, e1, e2, mir]; rfl
  | M => simp [q_fn, b_other_way, e1, e2, mir]; rfl
  | O => simp [q_fn, b_other_way, e1, e2, mir]
  | C => simp [q_fn, b_other_way, e1, e2, mir]
theorem oTuple_lst (l : List D) (m : Mem) : oTuple [.lst l] m = some (.tup l, m) := rfl
theorem mirrored_word_eq {w : List It} (hl : w.length ≤ big) (m : Mem) : F_mirrored_word [wD w] m = .ok (wD (mirW w)) m := by
  refine clos_same ?_ (wD_b _ 0)
  have h := lc_goM (m := m) (d := .tup (w.map It.d)) (l := w) (f := It.d) (g := fun a => (mir a).d) (vs := [1]) (gd := ogN 1) (t := tYesD) (e := e_mirrored_word_0) (sd := [some (wD w), none]) rfl
    (fun a _ acc => ⟨[some (wD w), some a.d], rfl, rfl, fun _ => by simp [e_mirrored_word_0, other_way_eq]⟩) hl (fun a _ => (mir a).bel _)
  have e : w.map (fun a => (mir a).d) = (mirW w).map It.d := by unfold mirW; rw [List.map_map]; rfl
  rw [e] at h
  have h2 : letGo m (lcV [1] (ogN 1) tYesD e_mirrored_word_0 [some (wD w), none] (wD w) m) = .ok (.lst ((mirW w).map It.d)) m := h
  simp [q_fn, b_mirrored_word, h2, oTuple_lst]; rfl
theorem backward_word_eq {w : List It} (hl : w.length ≤ big) (m : Mem) : F_backward_word [wD w] m = .ok (wD (bakW w)) m := by
  refine clos_same ?_ (wD_b _ 0)
  have h := lc_goM (m := m) (d := .lst (w.reverse.map It.d)) (l := w.reverse) (f := It.d) (g := fun a => (mir a).d) (vs := [1]) (gd := ogN 1) (t := tYesD) (e := e_backward_word_0) (sd := [some (wD w), none]) rfl
    (fun a _ acc => ⟨[some (wD w), some a.d], rfl, rfl, fun _ => by simp [e_backward_word_0, other_way_eq]⟩) (by rw [List.length_reverse]; exact hl) (fun a _ => (mir a).bel _)
  have e : w.reverse.map (fun a => (mir a).d) = (bakW w).map It.d := by unfold bakW; rw [List.map_map]; rfl
  rw [e, List.map_reverse] at h
  have h2 : letGo m (lcEnd m.length (lcD [1] (ogN 1) tYesD e_backward_word_0 m.length [some (wD w), none] (w.map It.d).reverse (m ++ [.lst []]))) = .ok (.lst ((bakW w).map It.d)) m := h
  have fr : (wD w).fro? = some (w.map It.d, false) ∨ ∃ k, (wD w).fro? = some (w.map It.d, k) := .inr ⟨_, rfl⟩
  obtain ⟨k, fr⟩ : ∃ k, (wD w).fro? = some (w.map It.d, k) := ⟨_, rfl⟩
  simp [q_fn, b_backward_word, fr, h2, oTuple_lst]; rfl
theorem letGo_er3 {m m1 ex : Mem} {e : Er} (hc : Cells m m1) (hb : D.belf m.length e.fs = true) : letGo m (.err e (m1 ++ ex)) = .err e m1 := by
  have hl := hc.1
  have s : m.length ≤ (m1 ++ ex).length ∧ D.belf m.length e.fs = true ∧ ∀ k c, k < m.length → (m1 ++ ex)[k]? = some c → m[k]? = some c ∨ c.belc m.length = true := by
    refine ⟨by rw [List.length_append, hl]; omega, hb, fun k c hk h => ?_⟩
    rw [List.getElem?_append_left (by rw [hl]; exact hk)] at h
    exact hc.2 k c h
  unfold Dl.letGo
  simp only [if_pos s]
  rw [← hl, List.take_left]
section
variable {b : Bk} (hb : BOk b)
include hb
theorem words_big : b.words.length ≤ big := Nat.le_trans (by have := hb.len.2; omega : _ ≤ 20) (by decide)
theorem each_word_eq {x : Str} {F : FD} {f : List It → List It} (hF : ∀ (w : List It) (m : Mem), w.length ≤ big → F [wD w] m = .ok (wD (f w)) m) (hx : (("mirrored_word", F_mirrored_word) :: ("backward_word", F_backward_word) :: [] : List (Str × FD)).lookup x = some F) (m : Mem) :
    F_each_word [bkD b, .fn x] m = .ok (bkD ⟨b.words.map f, f b.start⟩) m := by
  refine clos_same ?_ (bkD_b _ 0)
  have i0 : ∀ mm, oIx (bkD b) (.int 0) mm = some (.tup (b.words.map wD), mm) := fun _ => rfl
  have i1 : ∀ mm, oIx (bkD b) (.int 1) mm = some (wD b.start, mm) := fun _ => rfl
  have hw : ∀ w ∈ b.words, w.length ≤ big := fun w hw => Nat.le_trans (hb.words w hw).len.2 (by decide)
  have h := lc_goM (m := m) (d := .tup (b.words.map wD)) (l := b.words) (f := wD) (g := fun w => wD (f w)) (vs := [2]) (gd := ogN 2) (t := tYesD) (e := e_each_word_0) (sd := [some (bkD b), some (.fn x), none]) rfl
    (fun w hm acc => ⟨[some (bkD b), some (.fn x), some (wD w)], rfl, rfl, fun _ => by
      unfold e_each_word_0
      rw [q_app (i := 1) (y := x) (F := F) rfl hx]
      simp [hF w _ (hw w hm)]⟩) (words_big hb) (fun w _ => wD_b _ _)
  have hs := hF b.start m (Nat.le_trans hb.start.len.2 (by decide))
  have ap : (xApp 1 (("mirrored_word", F_mirrored_word) :: ("backward_word", F_backward_word) :: []) (aCons (xOp oIx (xVar 0) (xC (.int 1))) aNil)) [some (bkD b), some (.fn x), none] m = .ok (wD (f b.start)) m := by
    rw [q_app (i := 1) (y := x) (F := F) rfl hx]
    simp [i1, hs]
  have e : b.words.map (fun w => wD (f w)) = (b.words.map f).map wD := by rw [List.map_map]; rfl
  rw [e] at h
  simp only [q_fn, b_each_word]
  simp [-List.map_map, i0, h, oTuple_lst, ap, big]
  rfl
theorem mirrored_eq (m : Mem) : F_mirrored [bkD b] m = .ok (bkD (mirB b)) m := by
  refine clos_same ?_ (bkD_b _ 0)
  have e := each_word_eq hb (x := "mirrored_word") (f := mirW) (fun w m hl => mirrored_word_eq hl m) rfl m
  simp [q_fn, b_mirrored, need_book_eq hb, e, mirB]
/-- branches anywhere -/
theorem bw_loop {m : Mem} {v : Option D} : ∀ (ws : List (List It)) (x : Option D), (∀ w ∈ ws, It.O ∉ w) → ∃ x', forD (tgN 1) l_backward_0 (ws.map wD) [v, x] m = .nx [v, x'] m
  | [], x, _ => ⟨x, rfl⟩
  | w :: ws, x, h => by
    obtain ⟨x', e⟩ := bw_loop ws (some (wD w)) fun w hw => h w (List.mem_cons_of_mem _ hw)
    refine ⟨x', ?_⟩
    have iw : ∀ mm, oIn c_OUT (wD w) mm = some (.bl (decide (It.O ∈ w)), mm) := in_word w
    rw [decide_eq_false (h w List.mem_cons_self)] at iw
    rw [List.map_cons, forD_cons]
    refine turnT (sd2 := [v, some (wD w)]) (m2 := m) ?_ e
    simp [l_backward_0, iw]
theorem bw_err {m : Mem} {v : Option D} : ∀ (ws : List (List It)) (x : Option D), (∃ w ∈ ws, It.O ∈ w) → ∃ x', forD (tgN 1) l_backward_0 (ws.map wD) [v, x] m = .er ⟨"Branching", []⟩ [v, x'] m
  | [], _, h => by obtain ⟨w, hw, _⟩ := h; cases hw
  | w :: ws, x, h => by
    have iw : ∀ mm, oIn c_OUT (wD w) mm = some (.bl (decide (It.O ∈ w)), mm) := in_word w
    by_cases q : It.O ∈ w
    · refine ⟨some (wD w), ?_⟩
      rw [decide_eq_true q] at iw
      rw [List.map_cons, forD_cons]
      have s : l_backward_0 [v, some (wD w)] m = .er ⟨"Branching", []⟩ [v, some (wD w)] m := by simp [l_backward_0, iw]
      simp only [turnD, q_tgN, List.set_cons_succ, List.set_cons_zero, s]
    · obtain ⟨x', e⟩ := bw_err ws (some (wD w)) (by
        obtain ⟨z, hz, hO⟩ := h
        rcases List.mem_cons.mp hz with rfl | hz
        · exact absurd hO q
        · exact ⟨z, hz, hO⟩)
      refine ⟨x', ?_⟩
      rw [decide_eq_false q] at iw
      rw [List.map_cons, forD_cons]
      refine turnT (sd2 := [v, some (wD w)]) (m2 := m) ?_ e
      simp [l_backward_0, iw]
theorem all_words (m : Mem) : oAdd (.tup (b.words.map wD)) (.tup [wD b.start]) m = some (.tup ((b.words ++ [b.start]).map wD), m) := by
  have h := add_tt (a := b.words.map wD) (b := [wD b.start]) (by
    intro z
    have z2 := congrArg List.length z
    rw [List.length_map] at z2
    have := hb.len.1
    simp only [List.length_nil] at z2
    omega) (by simp) (by simp only [List.length_map, List.length_singleton]; have := hb.len.2; exact Nat.le_trans (by omega : _ ≤ 20) (by decide)) m
  rw [h, List.map_append]
  rfl
theorem backward_eq (hp : ∀ w ∈ b.words ++ [b.start], It.O ∉ w) (m : Mem) : F_backward [bkD b] m = .ok (bkD (bakB b)) m := by
  refine clos_same ?_ (bkD_b _ 0)
  have e := each_word_eq hb (x := "backward_word") (f := bakW) (fun w m hl => backward_word_eq hl m) rfl m
  have i0 : ∀ mm, oIx (bkD b) (.int 0) mm = some (.tup (b.words.map wD), mm) := fun _ => rfl
  have i1 : ∀ mm, oIx (bkD b) (.int 1) mm = some (wD b.start, mm) := fun _ => rfl
  obtain ⟨x', lp⟩ := bw_loop hb (m := m) (v := some (bkD b)) (b.words ++ [b.start]) none hp
  have aw := all_words hb m
  generalize (b.words ++ [b.start]).map wD = Y at aw lp
  simp [q_fn, b_backward, need_book_eq hb, i0, i1, big, aw, lp, e, bakB]
theorem backward_err (hp : ∃ w ∈ b.words ++ [b.start], It.O ∈ w) (m : Mem) : F_backward [bkD b] m = .err ⟨"Branching", []⟩ m := by
  have i0 : ∀ mm, oIx (bkD b) (.int 0) mm = some (.tup (b.words.map wD), mm) := fun _ => rfl
  have i1 : ∀ mm, oIx (bkD b) (.int 1) mm = some (wD b.start, mm) := fun _ => rfl
  obtain ⟨x', lp⟩ := bw_err hb (m := m) (v := some (bkD b)) (b.words ++ [b.start]) none hp
  have aw := all_words hb m
  generalize (b.words ++ [b.start]).map wD = Y at aw lp
  have key : fnD 1 2 b_backward [bkD b] m = .err ⟨"Branching", []⟩ m := by
    simp [q_fn, b_backward, need_book_eq hb, i0, i1, big, aw, lp]
  show letGo m (fnD 1 2 b_backward [bkD b] m) = _
  rw [key]
  have h := letGo_er3 (m := m) (m1 := m) (ex := []) (e := ⟨"Branching", []⟩) (Cells.refl m) rfl
  rwa [List.append_nil] at h
end
end Pl

set_option Elab.async false
set_option linter.all false
set_option maxRecDepth 100000
set_option maxHeartbeats 4000000
namespace Pl
open PySem PySem.Spec L2 Dl Wk
/-! alike with texts; sped -/
def AS : Nat → D → Prop
  | _, .int _ => True
  | _, .bl _ => True
  | _, .non => True
  | _, .str s => PyData.strOk s = true
  | n + 1, .tup l => l.length ≤ 100000 ∧ ∀ d ∈ l, AS n d
  | n + 1, .lst l => l.length ≤ 100000 ∧ ∀ d ∈ l, AS n d
  | _, _ => False
theorem str_self {z : Str} (h : PyData.strOk z = true) : deq (.str z) (.str z) = true := SeqAt.eqv_refl _ (ok_lay 0 (.str z) h).1
theorem alike_reflS : ∀ (n : Nat) (d : D), AS n d → ∀ m, F_law_alike (n + 1) [d, d] m = .ok (.bl true) m := by
  intro n
  induction n with
  | zero =>
    intro d h m
    cases d with
    | int i =>
      refine clos_same ?_ rfl
      simp [q_fn, b_law_alike, D.ty, isTy, oIsi, oIsN, D.isNon, eq_bl, oEq_int]
    | bl i =>
      refine clos_same ?_ rfl
      simp [q_fn, b_law_alike, D.ty, isTy, oIsi, oIsN, D.isNon, eq_bl, oEq_int]
    | non =>
      refine clos_same ?_ rfl
      simp [q_fn, b_law_alike, D.ty, isTy, oIsi, oIsN, D.isNon, eq_bl, oEq_int, eq_non]
    | str z =>
      refine clos_same ?_ rfl
      have es : ∀ mm, oEq (.str z) (.str z) mm = some (.bl true, mm) := fun mm => eqS z z mm h h true (str_self h)
      simp [q_fn, b_law_alike, D.ty, isTy, oIsi, oIsN, D.isNon, eq_bl, es]
    | _ => exact h.elim
  | succ n ih =>
    intro d h m
    have sub : ∀ (l : List D) (mk : List D → D) (hx : ∀ (i : Nat) (h : i < l.length) (m : Mem), oIx (mk l) (.int i) m = some (l[i], m)) (hl : l.length ≤ 100000) (ha : ∀ d ∈ l, AS n d),
        letGo m (lcR rng1 [2] (ogN 2) (t_law_alike_0 (F_law_alike (n + 1))) (e_law_alike_1 (F_law_alike (n + 1))) [some (mk l), some (mk l), none] [.int l.length] m) = .ok (.lst []) m := by
      intro l mk hix hl ha
      have c := lcD_fil (vs := [2]) (gd := ogN 2) (t := t_law_alike_0 (F_law_alike (n + 1))) (e := e_law_alike_1 (F_law_alike (n + 1))) (sd := [some (mk l), some (mk l), none]) (p := fun _ => false) (g := id) (m := m) (n := m.length) rfl (xs := rngD 0 1 l.length) (acc := [])
        (fun x hx m' => by
          unfold rngD at hx
          obtain ⟨i, hi, rfl⟩ := List.mem_map.mp hx
          have hi' : i < l.length := List.mem_range.mp hi
          refine ⟨_, rfl, ?_, fun z => by cases z⟩
          have e1 := hix i hi' m'
          have e2 := ih l[i] (ha _ (List.getElem_mem hi')) m'
          simp [t_law_alike_0, wipeD, e1, e2]) (by rw [rngD_length]; exact Nat.le_trans (by simpa using hl) (by decide))
      have rg := rng1_nat (n := l.length) (Nat.le_trans hl (by decide))
      unfold lcR
      rw [rg]
      show letGo m (lcEnd m.length (lcD _ _ _ _ _ _ _ _)) = _
      rw [c]
      have : (List.map id (List.filter (fun _ => false) (rngD 0 1 l.length))) = [] := by simp
      rw [this, List.nil_append]
      exact lc_go (Cells.refl m) rfl
    cases d with
    | int i =>
      refine clos_same ?_ rfl
      simp [q_fn, b_law_alike, D.ty, isTy, oIsi, oIsN, D.isNon, eq_bl, oEq_int]
    | bl i =>
      refine clos_same ?_ rfl
      simp [q_fn, b_law_alike, D.ty, isTy, oIsi, oIsN, D.isNon, eq_bl, oEq_int]
    | non =>
      refine clos_same ?_ rfl
      simp [q_fn, b_law_alike, D.ty, isTy, oIsi, oIsN, D.isNon, eq_bl, oEq_int, eq_non]
    | tup l =>
      refine clos_same ?_ rfl
      have s := sub l .tup (fun i h m => ixT h m) h.1 h.2
      simp [q_fn, b_law_alike, D.ty, isTy, oIsi, ne_bl, oLen_tup, oNe_int, s, eq_nil, big]
    | lst l =>
      refine clos_same ?_ rfl
      have s := sub l .lst (fun i h m => ixL h m) h.1 h.2
      simp [q_fn, b_law_alike, D.ty, isTy, oIsi, ne_bl, oLen_lst, oNe_int, s, eq_nil, big]
    | str z =>
      refine clos_same ?_ rfl
      have es : ∀ mm, oEq (.str z) (.str z) mm = some (.bl true, mm) := fun mm => eqS z z mm h h true (str_self h)
      simp [q_fn, b_law_alike, D.ty, isTy, oIsi, oIsN, D.isNon, eq_bl, es]
    | _ => exact h.elim
theorem it_as (a : It) (n : Nat) : AS n a.d := by
  cases a with
  | L i => cases n <;> exact True.intro
  | _ => cases n <;> (show PyData.strOk _ = true; decide +kernel)
theorem wD_as {w : List It} (h : w.length ≤ 100000) (n : Nat) : AS (n + 1) (wD w) := ⟨by rw [List.length_map]; exact h, fun d hd => by
  obtain ⟨a, _, rfl⟩ := List.mem_map.mp hd
  exact it_as a n⟩
theorem ws_as {ws : List (List It)} (h : ws.length ≤ 100000) (h2 : ∀ w ∈ ws, w.length ≤ 100000) (n : Nat) : AS (n + 2) (.tup (ws.map wD)) := ⟨by rw [List.length_map]; exact h, fun d hd => by
  obtain ⟨w, hw, rfl⟩ := List.mem_map.mp hd
  exact wD_as (h2 w hw) n⟩
theorem bkD_as {b : Bk} (hb : BOk b) (n : Nat) : AS (n + 3) (bkD b) := ⟨(show 2 ≤ 100000 from by omega), fun d hd => by
  rcases List.mem_cons.mp hd with rfl | hd
  · exact ws_as (Nat.le_trans (by have := hb.len.2; omega : _ ≤ 3) (by decide)) (fun w hw => Nat.le_trans (hb.words w hw).len.2 (by decide)) n
  · rcases List.mem_singleton.mp hd with rfl
    exact wD_as (Nat.le_trans hb.start.len.2 (by decide)) (n + 1)⟩
/-! sped -/
def spW (b : Bk) (k : Nat) : List (List It) := (List.range b.words.length).map fun (i : Nat) => gro b k [.L (i : Int)]
theorem spW_len (b : Bk) (k : Nat) : (spW b k).length = b.words.length := by unfold spW; rw [List.length_map, List.length_range]
theorem spW_lets {b : Bk} (hb : BOk b) {k : Nat} {w : List It} (h : w ∈ spW b k) : Lets b.words.length w := by
  obtain ⟨i, hi, rfl⟩ := List.mem_map.mp h
  have hi' := List.mem_range.mp hi
  exact gro_lets hb k fun j hj => by
    have : j = (i : Int) := by simpa using hj
    omega
theorem spW_next {b : Bk} (k : Nat) : (spW b k).map (grow1 b) = spW b (k + 1) := by
  unfold spW
  rw [List.map_map]
  refine List.map_congr_left fun i _ => ?_
  simp only [Function.comp]
  rw [← gro_succ]
theorem grow1_le {b : Bk} (hb : BOk b) : ∀ w : List It, (grow1 b w).length ≤ 40 * w.length
  | [] => Nat.le_refl _
  | a :: w => by
    have ih := grow1_le hb w
    have e : (grow1 b (a :: w)).length = (sub1 b a).length + (grow1 b w).length := by
      show (sub1 b a ++ grow1 b w).length = _
      rw [List.length_append]
    have hs : (sub1 b a).length ≤ 40 := by
      cases a with
      | L i =>
        show (b.words.getD i.toNat []).length ≤ 40
        by_cases h : i.toNat < b.words.length
        · rw [word_at b h]
          exact (hb.words _ (List.getElem_mem h)).len.2
        · rw [List.getD_eq_getElem?_getD, List.getElem?_eq_none (by omega)]
          exact Nat.zero_le _
      | _ => show 1 ≤ 40; decide
    rw [e, List.length_cons]
    omega
theorem grow1_ge {b : Bk} (hb : BOk b) : ∀ w : List It, Lets b.words.length w → w.length ≤ (grow1 b w).length
  | [], _ => Nat.zero_le _
  | a :: w, hl => by
    have ih := grow1_ge hb w fun i hi => hl i (List.mem_cons_of_mem _ hi)
    have e : (grow1 b (a :: w)).length = (sub1 b a).length + (grow1 b w).length := by
      show (sub1 b a ++ grow1 b w).length = _
      rw [List.length_append]
    have hs : 1 ≤ (sub1 b a).length := by
      cases a with
      | L i =>
        obtain ⟨h0, h1⟩ := hl i List.mem_cons_self
        show 1 ≤ (b.words.getD i.toNat []).length
        have h : i.toNat < b.words.length := by omega
        rw [word_at b h]
        exact (hb.words _ (List.getElem_mem h)).len.1
      | _ => show 1 ≤ 1; decide
    rw [e, List.length_cons]
    omega
theorem gro_ge {b : Bk} (hb : BOk b) {i : Nat} (hi : i < b.words.length) : ∀ (j k : Nat), (gro b k [.L (i : Int)]).length ≤ (gro b (k + j) [.L (i : Int)]).length
  | 0, k => Nat.le_refl _
  | j + 1, k => by
    have h1 := gro_ge hb hi j k
    have h2 : (gro b (k + j) [.L (i : Int)]).length ≤ (gro b (k + j + 1) [.L (i : Int)]).length := by
      rw [gro_succ]
      exact grow1_ge hb _ (gro_lets hb (k + j) fun x hx => by
        have : x = (i : Int) := by simpa using hx
        omega)
    exact Nat.le_trans h1 h2
theorem gro_le {b : Bk} (hb : BOk b) (i : Nat) : ∀ k : Nat, (gro b k [.L (i : Int)]).length ≤ 40 ^ k
  | 0 => Nat.le_refl 1
  | k + 1 => by
    rw [gro_succ, Nat.pow_succ, Nat.mul_comm]
    exact Nat.le_trans (grow1_le hb _) (Nat.mul_le_mul_left 40 (gro_le hb i k))
theorem ne_nilW {l : List D} (h : ∀ d ∈ l, D.ok 59 d = true) (m : Mem) : oNe (.lst l) (.lst []) m = some (.bl (!l.isEmpty), m) := by
  rw [oNe_ok (d := .lst l) (e := .lst []) (show D.oks 59 l = true from oks_of h) (by rfl)]
  cases l with
  | nil => rfl
  | cons d l => rfl
def TM40 : Er := ⟨"TooMany", [("most", .int 40)]⟩
section
variable {b : Bk} (hb : BOk b) {v1 : Option D} {m : Mem}
include hb
theorem sped_step {k : Nat} (hk : ∀ w ∈ spW b k, w.length ≤ 40) {t x4 : Option D} :
    ((∀ w ∈ spW b (k + 1), w.length ≤ 40) ∧ l_sped_3 [some (bkD b), v1, some (.lst ((spW b k).map wD)), t, x4, none] m = .nx [some (bkD b), v1, some (.lst ((spW b (k + 1)).map wD)), t, x4, none] m) ∨
    ((∃ w ∈ spW b (k + 1), 40 < w.length) ∧ ∃ sd, l_sped_3 [some (bkD b), v1, some (.lst ((spW b k).map wD)), t, x4, none] m = .er TM40 sd m) := by
  have hsl := fun k => spW_len b k
  have wb := words_big hb
  have c1 := lc_goM (m := m) (d := .lst ((spW b k).map wD)) (l := spW b k) (f := wD) (g := fun w => wD (grow1 b w)) (vs := [5]) (gd := ogN 5) (t := tYesD) (e := e_sped_2) (sd := [some (bkD b), v1, some (.lst ((spW b k).map wD)), t, x4, none]) rfl
    (fun w hw acc => ⟨[some (bkD b), v1, some (.lst ((spW b k).map wD)), t, x4, some (wD w)], rfl, rfl, fun _ => by
      have g := grown_eqP hb (w := w) (spW_lets hb hw) (Nat.le_trans (grow1_le hb w) (by have := hk w hw; omega)) (m ++ [D.lst acc])
      simp [e_sped_2, g]⟩) (by rw [hsl]; exact wb) (fun w _ => wD_b _ _)
  have e1 : (spW b k).map (fun w => wD (grow1 b w)) = (spW b (k + 1)).map wD := by rw [← spW_next, List.map_map]; rfl
  rw [e1] at c1
  have c2 := lc_goF (m := m) (d := .lst ((spW b (k + 1)).map wD)) (l := spW b (k + 1)) (f := wD) (g := wD) (p := fun w => decide (40 < w.length)) (vs := [5]) (gd := ogN 5) (t := t_sped_0) (e := e_sped_1) (sd := [some (bkD b), v1, some (.lst ((spW b (k + 1)).map wD)), t, x4, none]) rfl
    (fun w hw acc => ⟨[some (bkD b), v1, some (.lst ((spW b (k + 1)).map wD)), t, x4, some (wD w)], rfl, by
      have ol : ∀ mm : Mem, oLen [wD w] mm = some (.int (w.length : Nat), mm) := fun mm => by
        show some (D.int ((w.map It.d).length : Nat), mm) = _
        rw [List.length_map]
      have dc : decide ((40 : Int) < (w.length : Nat)) = decide (40 < w.length) := by
        by_cases h : 40 < w.length
        · rw [decide_eq_true h, decide_eq_true (by omega)]
        · rw [decide_eq_false h, decide_eq_false (by omega)]
      simp [t_sped_0, ol, c_MOST_WORD]
      omega, fun _ => rfl⟩) (by rw [hsl]; exact wb) (fun w _ => wD_b _ _)
  have nn : ∀ mm, oNe (.lst (((spW b (k + 1)).filter fun w => decide (40 < w.length)).map wD)) (.lst []) mm = some (.bl (!(((spW b (k + 1)).filter fun w => decide (40 < w.length)).map wD).isEmpty), mm) := fun mm => ne_nilW (fun d hd => by
    obtain ⟨w, _, rfl⟩ := List.mem_map.mp hd
    exact wD_ok w 58) mm
  have s1 : (sAsg (xLc letGo [5] (xVar 2) (ogN 5) tYesD e_sped_2) (tgN 2)) [some (bkD b), v1, some (.lst ((spW b k).map wD)), t, x4, none] m = .nx [some (bkD b), v1, some (.lst ((spW b (k + 1)).map wD)), t, x4, none] m := by
    simp [c1]
  unfold l_sped_3
  rw [q_seq, s1]
  by_cases h : ∃ w ∈ spW b (k + 1), 40 < w.length
  · right
    refine ⟨h, ?_⟩
    have he : (((spW b (k + 1)).filter fun w => decide (40 < w.length)).map wD).isEmpty = false := by
      obtain ⟨w, hw, hl⟩ := h
      have : wD w ∈ ((spW b (k + 1)).filter fun w => decide (40 < w.length)).map wD := List.mem_map.mpr ⟨w, List.mem_filter.mpr ⟨hw, decide_eq_true hl⟩, rfl⟩
      cases hz : ((spW b (k + 1)).filter fun w => decide (40 < w.length)).map wD with
      | nil => rw [hz] at this; cases this
      | cons a l => rfl
    rw [he] at nn
    generalize ((spW b (k + 1)).filter fun w => decide (40 < w.length)).map wD = Z at c2 nn
    generalize (spW b (k + 1)).map wD = Y at c2
    refine ⟨[some (bkD b), v1, some (.lst Y), t, x4, none], ?_⟩
    simp [c2, nn, big, c_MOST_WORD, TM40]
  · left
    have hall : ∀ w ∈ spW b (k + 1), w.length ≤ 40 := fun w hw => Nat.le_of_not_lt fun hl => h ⟨w, hw, hl⟩
    refine ⟨hall, ?_⟩
    have he : ((spW b (k + 1)).filter fun w => decide (40 < w.length)) = [] := by
      rw [List.filter_eq_nil_iff]
      intro w hw
      have := hall w hw
      simp
      omega
    rw [he] at c2 nn
    have nn' : ∀ mm, oNe (.lst []) (.lst []) mm = some (.bl false, mm) := nn
    simp only [List.map_nil] at c2
    generalize (spW b (k + 1)).map wD = Y at c2
    simp [c2, nn', big]
theorem sped_loop : ∀ (j k : Nat) (l : List D) (t x4 : Option D), l.length = j → (∀ w ∈ spW b k, w.length ≤ 40) →
    ((∀ w ∈ spW b (k + j), w.length ≤ 40) ∧ ∃ t', forD (tgN 3) l_sped_3 l [some (bkD b), v1, some (.lst ((spW b k).map wD)), t, x4, none] m = .nx [some (bkD b), v1, some (.lst ((spW b (k + j)).map wD)), t', x4, none] m) ∨
    ((∃ k', k' ≤ k + j ∧ ∃ w ∈ spW b k', 40 < w.length) ∧ ∃ sd, forD (tgN 3) l_sped_3 l [some (bkD b), v1, some (.lst ((spW b k).map wD)), t, x4, none] m = .er TM40 sd m)
  | 0, k, l, t, x4, hl, hk => by
    have : l = [] := List.eq_nil_of_length_eq_zero hl
    subst this
    exact .inl ⟨hk, t, rfl⟩
  | j + 1, k, l, t, x4, hl, hk => by
    cases l with
    | nil => cases hl
    | cons x l =>
      have hl' : l.length = j := by simpa using hl
      rcases sped_step hb (m := m) (v1 := v1) hk (t := some x) (x4 := x4) with ⟨h1, s1⟩ | ⟨h1, sd, s1⟩
      · have e : k + (j + 1) = k + 1 + j := by omega
        rw [e]
        rcases sped_loop j (k + 1) l (some x) x4 hl' h1 with ⟨h2, t', s2⟩ | ⟨h2, sd, s2⟩
        · left
          refine ⟨h2, t', ?_⟩
          rw [forD_cons]
          exact turnT (show l_sped_3 ([some (bkD b), v1, some (.lst ((spW b k).map wD)), t, x4, none].set 3 (some x)) m = _ from s1) s2
        · right
          refine ⟨h2, sd, ?_⟩
          rw [forD_cons]
          exact turnT (show l_sped_3 ([some (bkD b), v1, some (.lst ((spW b k).map wD)), t, x4, none].set 3 (some x)) m = _ from s1) s2
      · right
        refine ⟨⟨k + 1, by omega, h1⟩, sd, ?_⟩
        rw [forD_cons]
        have s1' : l_sped_3 ([some (bkD b), v1, some (.lst ((spW b k).map wD)), t, x4, none].set 3 (some x)) m = .er TM40 sd m := s1
        simp only [turnD, q_tgN, s1']
theorem sped_eq {many : Nat} (h1 : 1 ≤ many) (h4 : many ≤ 4) :
    ((∀ w ∈ spW b many, w.length ≤ 40) ∧ F_sped [bkD b, .int many] m = .ok (.tup [.tup ((spW b many).map wD), wD b.start]) m) ∨
    ((∃ w ∈ spW b many, 40 < w.length) ∧ F_sped [bkD b, .int many] m = .err TM40 m) := by
  have nn := need_number_eq (many : Int) 1 4 (by omega) (by omega) m
  have wb := words_big hb
  have rgn := rng1_nat wb
  have i0 : ∀ mm, oIx (bkD b) (.int 0) mm = some (.tup (b.words.map wD), mm) := fun _ => rfl
  have i1 : ∀ mm, oIx (bkD b) (.int 1) mm = some (wD b.start, mm) := fun _ => rfl
  have ol : ∀ mm : Mem, oLen [.tup (b.words.map wD)] mm = some (.int (b.words.length : Nat), mm) := fun mm => by rw [oLen_tup, List.length_map]
  have c0 := lc_goM (m := m) (d := .lst ((List.range b.words.length).map fun (i : Nat) => D.int i)) (l := List.range b.words.length) (f := fun (i : Nat) => D.int i) (g := fun (i : Nat) => wD (gro b 0 [.L (i : Int)])) (vs := [4]) (gd := ogN 4) (t := tYesD) (e := e_sped_4) (sd := [some (bkD b), some (.int many), none, none, none, none]) rfl
    (fun i _ acc => ⟨[some (bkD b), some (.int many), none, none, some (.int (i : Nat)), none], rfl, rfl, fun _ => by
      simp [e_sped_4, big]
      rfl⟩) (by rw [List.length_range]; exact wb) (fun w _ => wD_b _ _)
  have e0 : (List.range b.words.length).map (fun (i : Nat) => wD (gro b 0 [.L (i : Int)])) = (spW b 0).map wD := by unfold spW; rw [List.map_map]; rfl
  have er : (List.range b.words.length).map (fun (i : Nat) => D.int i) = rngD 0 1 b.words.length := by
    unfold rngD
    refine List.map_congr_left fun i _ => ?_
    have : (0 : Int) + (i : Int) * 1 = i := by omega
    rw [this]
  rw [e0, er] at c0
  have l0 : letGo m (lcR rng1 [4] (ogN 4) tYesD e_sped_4 [some (bkD b), some (.int many), none, none, none, none] [.int (b.words.length : Nat)] m) = .ok (.lst ((spW b 0).map wD)) m := by
    unfold lcR
    rw [rgn]
    exact c0
  have rgm := rng1_nat (n := many) (Nat.le_trans h4 (by decide))
  have hk0 : ∀ w ∈ spW b 0, w.length ≤ 40 := fun w hw => by
    obtain ⟨i, _, rfl⟩ := List.mem_map.mp hw
    show 1 ≤ 40
    decide
  rcases sped_loop hb (m := m) (v1 := some (.int many)) many 0 (rngD 0 1 many) none none rngD_length hk0 with ⟨h2, t', s2⟩ | ⟨⟨k', hk', w, hw, hlw⟩, sd, s2⟩
  · left
    rw [Nat.zero_add] at h2 s2
    refine ⟨h2, clos_same ?_ ?_⟩
    · simp [q_fn, b_sped, need_book_eq hb, nn, c_MOST_SPED, i0, ol, l0, rgm, s2, oTuple_lst, i1, big]
    · show (D.bels 0 ((spW b many).map wD) && ((wD b.start).bel 0 && true)) = true
      rw [ws_b, wD_b]
      rfl
  · right
    rw [Nat.zero_add] at hk'
    refine ⟨?_, ?_⟩
    · obtain ⟨i, hi, rfl⟩ := List.mem_map.mp hw
      have hi' := List.mem_range.mp hi
      refine ⟨_, List.mem_map.mpr ⟨i, hi, rfl⟩, ?_⟩
      have := gro_ge hb hi' (many - k') k'
      rw [show k' + (many - k') = many by omega] at this
      omega
    · have key : fnD 2 6 b_sped [bkD b, .int many] m = .err TM40 m := by
        simp [q_fn, b_sped, need_book_eq hb, nn, c_MOST_SPED, i0, ol, l0, rgm, s2]
      show letGo m (fnD 2 6 b_sped [bkD b, .int many] m) = _
      rw [key]
      have h := letGo_er3 (m := m) (m1 := m) (ex := []) (e := TM40) (Cells.refl m) rfl
      rwa [List.append_nil] at h
end
end Pl

set_option Elab.async false
set_option linter.all false
set_option maxRecDepth 100000
set_option maxHeartbeats 4000000
namespace Pl
open PySem PySem.Spec L2 Dl Wk
/-! the law, its first half -/
noncomputable def q1 : SF := (sAsg (xLstM (aCons (xVar 0) (aCons (xC (.int 0)) (aCons (xC (.int 11314)) (aCons (xC (.int 0)) aNil))))) (tgN 1))
noncomputable def q2 : SF := (sAsg (xCall F_law_pick (aCons (xVar 1) (aCons (xLst (aCons (xCall F_law_book (aCons (xVar 1) aNil)) (aCons (xCall F_law_kit (aCons (xVar 1) aNil)) (aCons (xOp oIx (xCall F_law_even_book (aCons (xVar 1) aNil)) (xC (.int 0))) aNil)))) aNil))) (tgN 2))
noncomputable def q3 : SF := (sAsg (xDisp [("+", "-"), ("-", "+")]) (tgN 3))
noncomputable def q4 : SF := (sAsg (xCB oTuple (aCons (xLc letGo [22] (xOp oAdd (xOp oIx (xVar 2) (xC (.int 0))) (xTup (aCons (xOp oIx (xVar 2) (xC (.int 1))) aNil))) (ogN 22) tYesD e_law_13) aNil)) (tgN 4))
noncomputable def q5 : SF := (sIf (xNot (xT (xCall (F_law_alike 6) (aCons (xCall F_mirrored (aCons (xVar 2) aNil)) (aCons (xTup (aCons (xSl (xVar 4) pNo (pSome (xUn oNeg (xC (.int 1))))) (aCons (xOp oIx (xVar 4) (xUn oNeg (xC (.int 1)))) aNil))) aNil))))) (sRet (xC (.bl false))) sNext)
noncomputable def q6 : SF := (sPar 5 6 (aCons (xOp oEq (xLc letGo [22] (xOp oAdd (xOp oIx (xVar 2) (xC (.int 0))) (xTup (aCons (xOp oIx (xVar 2) (xC (.int 1))) aNil))) (ogN 22) t_law_10 e_law_11) (xLst aNil)) (aCons (xC .non) aNil)))
noncomputable def q7 : SF := (sTry 7 (("Branching", true) :: ("TooMany", true) :: []) y_law_8 u_law_9)
noncomputable def q8 : SF := (sIf (xNot (xT (xCall (F_law_alike 6) (aCons (xVar 6) (aCons (xIf (xT (xVar 5)) (xTup (aCons (xCB oTuple (aCons (xLc letGo [22] (xSl (xVar 4) pNo (pSome (xUn oNeg (xC (.int 1))))) (ogN 22) tYesD e_law_7) aNil)) (aCons (xUn oRevT (xOp oIx (xVar 4) (xUn oNeg (xC (.int 1))))) aNil))) (xC (.str "branching"))) aNil))))) (sRet (xC (.bl false))) sNext)
noncomputable def q9 : SF := (sAsg (xCall F_law_taken (aCons (xVar 1) (aCons (xOp oAdd (xC (.int 1)) (xCall F_law_age (aCons (xVar 2) (aCons (xC (.int 200)) aNil)))) aNil))) (tgN 8))
noncomputable def q10 : SF := (sAsg (xCall F_law_drawn (aCons (xCall F_law_grown (aCons (xVar 2) (aCons (xVar 8) aNil))) aNil)) (tgT 2 (tgCons (tgN 9) (tgCons (tgN 10) tgNil))))
noncomputable def q11 : SF := (sAsg (xCB oTuple (aCons (xLc letGo [13, 14, 15, 16] (xVar 9) (ogT [13, 14, 15, 16]) tYesD e_law_6) aNil)) (tgN 11))
noncomputable def q12 : SF := (sIf (xNot (xT (xCall (F_law_alike 6) (aCons (xCall F_drawing (aCons (xCall F_mirrored (aCons (xVar 2) aNil)) (aCons (xVar 8) aNil))) (aCons (xVar 11) aNil))))) (sRet (xC (.bl false))) sNext)
noncomputable def q13 : SF := (sAsg (xLstM aNil) (tgN 12))
noncomputable def q14 : SF := (sForI (xRevI (xVar 9)) (tgT 4 (tgCons (tgN 13) (tgCons (tgN 14) (tgCons (tgN 15) (tgCons (tgN 16) tgNil))))) l_law_5)
noncomputable def q15 : SF := (sIf (xAnd (xT (xVar 5)) (xNot (xT (xCall (F_law_alike 6) (aCons (xCall F_drawing (aCons (xVar 6) (aCons (xVar 8) aNil))) (aCons (xCB oTuple (aCons (xVar 12) aNil)) aNil)))))) (sRet (xC (.bl false))) sNext)
noncomputable def q16 : SF := (sAsg (xTup (aCons (xOp oAdd (xC (.int 1)) (xCall F_law_taken (aCons (xVar 1) (aCons (xC (.int 4)) aNil)))) (aCons (xC .non) aNil))) (tgT 2 (tgCons (tgN 19) (tgCons (tgN 20) tgNil))))
noncomputable def q17 : SF := (sAsg (xLcR letGo rng1 [16] (aCons (xCB oLen (aCons (xOp oIx (xVar 2) (xC (.int 0))) aNil)) aNil) (ogN 16) tYesD e_law_4) (tgN 21))
noncomputable def q18 : SF := (sTry 7 (("Branching", true) :: ("TooMany", true) :: []) y_law_1 u_law_3)
noncomputable def q19 : SF := (sRet (xCall (F_law_alike 6) (aCons (xVar 20) (aCons (xTup (aCons (xCB oTuple (aCons (xLc letGo [22] (xVar 21) (ogN 22) tYesD e_law_0) aNil)) (aCons (xOp oIx (xVar 2) (xC (.int 1))) aNil))) aNil))))
theorem law_q : b_law = (sSeq q1 (sSeq q2 (sSeq q3 (sSeq q4 (sSeq q5 (sSeq q6 (sSeq q7 (sSeq q8 (sSeq q9 (sSeq q10 (sSeq q11 (sSeq q12 (sSeq q13 (sSeq q14 (sSeq q15 (sSeq q16 (sSeq q17 (sSeq q18 q19)))))))))))))))))) := rfl

theorem sq1 {f g : SF} {sd sd1 : Sl} {m m1 : Mem} (h : f sd m = .nx sd1 m1) : sSeq f g sd m = g sd1 m1 := by
  rw [q_seq, h]
theorem le0_ : (0 ≤ big) = True := eq_true (by decide)
theorem le1_ : (0 + 1 ≤ big) = True := eq_true (by decide)
theorem le2_ : (0 + 1 + 1 ≤ big) = True := eq_true (by decide)
theorem le3_ : (0 + 1 + 1 + 1 ≤ big) = True := eq_true (by decide)
theorem le4_ : (0 + 1 + 1 + 1 + 1 ≤ big) = True := eq_true (by decide)
def KV : List (Key × D) := [(.inr "+", .str "-"), (.inr "-", .str "+")]
def TD : D := .dK KV
theorem lookKV (a : It) : ∃ k, a.d.key? = some k ∧ (lookK KV k).getD a.d = (mir a).d := by
  cases a with
  | L i => exact ⟨.inl i, rfl, rfl⟩
  | P => exact ⟨.inr "+", rfl, rfl⟩
  | M => exact ⟨.inr "-", rfl, rfl⟩
  | O => exact ⟨.inr "[", rfl, rfl⟩
  | C => exact ⟨.inr "]", rfl, rfl⟩
theorem kd1 {m : Mem} (h : m[1]? = some TD) : (D.loc 1).kd? m = some KV := by
  show (match m[1]? with
    | some (.dK kvs) => some kvs
    | some (.lk (.dK kvs)) => some kvs
    | _ => none) = _
  rw [h]
  rfl
theorem dLook1 {m : Mem} (h : m[1]? = some TD) (a : It) : ∃ r, dLook (.loc 1) a.d m = some r ∧ r.getD a.d = (mir a).d := by
  obtain ⟨k, e1, e2⟩ := lookKV a
  refine ⟨lookK KV k, ?_, e2⟩
  unfold dLook
  simp only [kd1 h, e1]
theorem turn_word {w : List It} (hl : w.length ≤ big) {v0 x2 : Option D} {m : Mem} (hm : m[1]? = some TD) :
    letGo m (lcV [23] (ogN 23) tYesD e_law_12 [v0, some (.loc 0), x2, some (.loc 1), none, none, none, none, none, none, none, none, none, none, none, none, none, none, none, none, none, none, some (wD w), none] (wD w) m) = .ok (.lst ((mirW w).map It.d)) m := by
  have h := lc_goM (m := m) (d := .tup (w.map It.d)) (l := w) (f := It.d) (g := fun a => (mir a).d) (vs := [23]) (gd := ogN 23) (t := tYesD) (e := e_law_12) (sd := [v0, some (.loc 0), x2, some (.loc 1), none, none, none, none, none, none, none, none, none, none, none, none, none, none, none, none, none, none, some (wD w), none]) rfl
    (fun a _ acc => ⟨[v0, some (.loc 0), x2, some (.loc 1), none, none, none, none, none, none, none, none, none, none, none, none, none, none, none, none, none, none, some (wD w), some (a.d)], rfl, rfl, fun _ => by
      have hm' : (m ++ [D.lst acc])[1]? = some TD := by
        rw [List.getElem?_append_left (List.getElem?_eq_some_iff.mp hm).1]; exact hm
      obtain ⟨r, e1, e2⟩ := dLook1 hm' a
      unfold e_law_12
      rw [q_dget2]
      simp only [q_var, List.getElem?_cons_succ, List.getElem?_cons_zero, R.bind_ok, kd1 hm', Option.isSome_some, Bool.true_or, if_true, e1, e2]⟩) hl (fun a _ => (mir a).bel _)
  have e : w.map (fun a => (mir a).d) = (mirW w).map It.d := by unfold mirW; rw [List.map_map]; rfl
  rw [e] at h
  exact h
theorem oth_eq (b : Bk) : (b.words ++ [b.start]).map (fun w => wD (mirW w)) = (mirB b).words.map wD ++ [wD (mirB b).start] := by
  rw [List.map_append]
  show _ = (b.words.map mirW).map wD ++ _
  rw [List.map_map]
  rfl
theorem sl_last (l : List D) (x : D) (m : Mem) : oSl (.tup (l ++ [x])) none (some (-1)) m = some (.tup l, m) := by
  have e : HT.sIx (l ++ [x]).length (l ++ [x]).length (some (-1)) = l.length := by
    show (if (-1 : Int) < 0 then ((-1 : Int) + ((l ++ [x]).length : Int)).toNat else min (-1 : Int).toNat (l ++ [x]).length) = _
    rw [if_pos (by decide), List.length_append, List.length_singleton]
    omega
  show (if HT.sIx (l ++ [x]).length 0 none = 0 ∧ HT.sIx (l ++ [x]).length (l ++ [x]).length (some (-1)) = (l ++ [x]).length then some (D.tup (l ++ [x]), m) else some (D.tup (cutD (l ++ [x]) none (some (-1))), m)) = _
  rw [if_neg (by rw [e, List.length_append, List.length_singleton]; omega)]
  unfold cutD
  rw [e, HT.sIx_none, List.drop_zero, Nat.sub_zero, List.take_left]
theorem ix_last (l : List D) (x : D) (m : Mem) : oIx (.tup (l ++ [x])) (.int (-1)) m = some (x, m) := by
  have e : L2.atI (l ++ [x]) (-1) = some x := by
    unfold L2.atI L2.ixN
    rw [if_neg (by decide), if_pos (by rw [List.length_append, List.length_singleton]; omega)]
    show (l ++ [x])[((-1 : Int) + ((l ++ [x]).length : Int)).toNat]? = _
    have : ((-1 : Int) + ((l ++ [x]).length : Int)).toNat = l.length := by rw [List.length_append, List.length_singleton]; omega
    rw [this, List.getElem?_append_right (Nat.le_refl _), Nat.sub_self]
    rfl
  show (match L2.atI (l ++ [x]) (-1) with
    | some y => some (y, m)
    | none => none) = _
  rw [e]
theorem revT_w (w : List It) (m : Mem) : oRevT (wD w) m = some (wD w.reverse, m) := by
  show some (D.tup (w.map It.d).reverse, m) = _
  unfold wD
  rw [List.map_reverse]
theorem mirW_rev (w : List It) : (mirW w).reverse = bakW w := by
  unfold mirW bakW
  rw [List.map_reverse]
theorem str_as {z : Str} (h : PyData.strOk z = true) : ∀ n, AS n (.str z)
  | 0 => h
  | _ + 1 => h
section
variable {b : Bk} (hb : BOk b) {r : D} {v0 : Option D}
include hb
theorem w_len {w : List It} (hw : w ∈ b.words ++ [b.start]) : w.length ≤ 40 := by
  rcases List.mem_append.mp hw with h | h
  · exact (hb.words w h).len.2
  · rw [List.mem_singleton.mp h]; exact hb.start.len.2
theorem w_big : (b.words ++ [b.start]).length ≤ big := by
  rw [List.length_append, List.length_singleton]
  have := hb.len.2
  exact Nat.le_trans (by omega : _ ≤ 20) (by decide)
theorem st3 : q3 [v0, some (.loc 0), some (bkD b), none, none, none, none, none, none, none, none, none, none, none, none, none, none, none, none, none, none, none, none, none] [r] = .nx [v0, some (.loc 0), some (bkD b), some (.loc 1), none, none, none, none, none, none, none, none, none, none, none, none, none, none, none, none, none, none, none, none] [r, TD] := by
  simp only [q3, q_asg, q_disp, SR.ofR_ok, q_tgN, List.set_cons_succ, List.set_cons_zero]
  rfl
theorem st4 : q4 [v0, some (.loc 0), some (bkD b), some (.loc 1), none, none, none, none, none, none, none, none, none, none, none, none, none, none, none, none, none, none, none, none] [r, TD] = .nx [v0, some (.loc 0), some (bkD b), some (.loc 1), some (.tup ((mirB b).words.map wD ++ [wD (mirB b).start])), none, none, none, none, none, none, none, none, none, none, none, none, none, none, none, none, none, none, none] [r, TD] := by
  have c := lc_goM (m := [r, TD]) (d := .tup ((b.words ++ [b.start]).map wD)) (l := b.words ++ [b.start]) (f := wD) (g := fun w => wD (mirW w)) (vs := [22]) (gd := ogN 22) (t := tYesD) (e := e_law_13) (sd := [v0, some (.loc 0), some (bkD b), some (.loc 1), none, none, none, none, none, none, none, none, none, none, none, none, none, none, none, none, none, none, none, none]) rfl
    (fun w hw acc => ⟨[v0, some (.loc 0), some (bkD b), some (.loc 1), none, none, none, none, none, none, none, none, none, none, none, none, none, none, none, none, none, none, some (wD w), none], rfl, rfl, fun _ => by
      have tw := turn_word (w := w) (Nat.le_trans (w_len hb hw) (by decide)) (v0 := v0) (x2 := some (bkD b)) (m := [r, TD] ++ [.lst acc]) rfl
      unfold e_law_13
      simp only [q_cb, q_cons, q_lc, q_var, q_nil, List.getElem?_cons_succ, List.getElem?_cons_zero, R.bind_ok, tw, oTuple_lst, R.ofO_some]
      rfl⟩) (w_big hb) (fun w _ => wD_b _ _)
  rw [oth_eq] at c
  have i0 : ∀ mm, oIx (bkD b) (.int 0) mm = some (.tup (b.words.map wD), mm) := fun _ => rfl
  have i1 : ∀ mm, oIx (bkD b) (.int 1) mm = some (wD b.start, mm) := fun _ => rfl
  have aw := all_words hb [r, TD]
  simp only [q4, q_asg, q_cb, q_cons, q_nil, q_lc, q_lcR, q_op, q_un, q_tup, q_lst, q_var, q_c, q_call, q_sif, q_not, q_and, q_if, q_T, q_sl, q_no, q_some, q_ret, q_par, q_lstM, q_next, List.getElem?_cons_succ, List.getElem?_cons_zero, R.bind_ok, R.ofO_some, SR.ofR_ok, q_tgN, List.set_cons_succ, List.set_cons_zero, List.length_cons, List.length_nil, le0_, le1_, le2_, le3_, le4_, if_true, Bool.not_true, Bool.false_eq_true, if_false, i0, i1, aw, c, oTuple_lst]
theorem st5 : q5 [v0, some (.loc 0), some (bkD b), some (.loc 1), some (.tup ((mirB b).words.map wD ++ [wD (mirB b).start])), none, none, none, none, none, none, none, none, none, none, none, none, none, none, none, none, none, none, none] [r, TD] = .nx [v0, some (.loc 0), some (bkD b), some (.loc 1), some (.tup ((mirB b).words.map wD ++ [wD (mirB b).start])), none, none, none, none, none, none, none, none, none, none, none, none, none, none, none, none, none, none, none] [r, TD] := by
  have ng : ∀ mm, oNeg (.int 1) mm = some (.int (-1), mm) := fun _ => rfl
  have me := fun mm => mirrored_eq hb mm
  have al : ∀ mm, F_law_alike 6 [bkD (mirB b), .tup [.tup ((mirB b).words.map wD), wD (mirB b).start]] mm = .ok (.bl true) mm := fun mm => alike_reflS 5 (bkD (mirB b)) (bkD_as (bok_mir hb) 2) mm
  simp only [q5, q_asg, q_cb, q_cons, q_nil, q_lc, q_lcR, q_op, q_un, q_tup, q_lst, q_var, q_c, q_call, q_sif, q_not, q_and, q_if, q_T, q_sl, q_no, q_some, q_ret, q_par, q_lstM, q_next, List.getElem?_cons_succ, List.getElem?_cons_zero, R.bind_ok, R.ofO_some, SR.ofR_ok, q_tgN, List.set_cons_succ, List.set_cons_zero, List.length_cons, List.length_nil, le0_, le1_, le2_, le3_, le4_, if_true, Bool.not_true, Bool.false_eq_true, if_false, me, ng, sl_last, ix_last, al]
def bkV (b : Bk) : D := if plB b = true then bkD (bakB b) else .str "branching"
theorem st6 : q6 [v0, some (.loc 0), some (bkD b), some (.loc 1), some (.tup ((mirB b).words.map wD ++ [wD (mirB b).start])), none, none, none, none, none, none, none, none, none, none, none, none, none, none, none, none, none, none, none] [r, TD] = .nx [v0, some (.loc 0), some (bkD b), some (.loc 1), some (.tup ((mirB b).words.map wD ++ [wD (mirB b).start])), some (.bl (plB b)), some (.non), none, none, none, none, none, none, none, none, none, none, none, none, none, none, none, none, none] [r, TD] := by
  obtain ⟨Z, e1, e2⟩ := plain_lc hb (v := 22) (t := t_law_10) (e := e_law_11) (sd := [v0, some (.loc 0), some (bkD b), some (.loc 1), some (.tup ((mirB b).words.map wD ++ [wD (mirB b).start])), none, none, none, none, none, none, none, none, none, none, none, none, none, none, none, none, none, none, none]) (show 22 < 24 from by decide) rfl rfl rfl [r, TD]
  unfold q6
  rw [q_par, q_cons, q_op, e1]
  simp only [q_asg, q_cb, q_cons, q_nil, q_lc, q_lcR, q_op, q_un, q_tup, q_lst, q_var, q_c, q_call, q_sif, q_not, q_and, q_if, q_T, q_sl, q_no, q_some, q_ret, q_par, q_lstM, q_next, List.getElem?_cons_succ, List.getElem?_cons_zero, R.bind_ok, R.ofO_some, SR.ofR_ok, q_tgN, List.set_cons_succ, List.set_cons_zero, List.length_cons, List.length_nil, le0_, le1_, le2_, le3_, le4_, if_true, Bool.not_true, Bool.false_eq_true, if_false, e2]
theorem pl_not (h : plB b = false) : ∃ w ∈ b.words ++ [b.start], It.O ∈ w := by
  cases z : (b.words ++ [b.start]).filter fun w => decide (It.O ∈ w) with
  | nil => unfold plB at h; rw [z] at h; cases h
  | cons w l =>
    have h2 : w ∈ (b.words ++ [b.start]).filter fun w => decide (It.O ∈ w) := by rw [z]; exact List.mem_cons_self
    obtain ⟨h3, h4⟩ := List.mem_filter.mp h2
    exact ⟨w, h3, by simpa using h4⟩
theorem st7 : q7 [v0, some (.loc 0), some (bkD b), some (.loc 1), some (.tup ((mirB b).words.map wD ++ [wD (mirB b).start])), some (.bl (plB b)), some (.non), none, none, none, none, none, none, none, none, none, none, none, none, none, none, none, none, none] [r, TD] = .nx [v0, some (.loc 0), some (bkD b), some (.loc 1), some (.tup ((mirB b).words.map wD ++ [wD (mirB b).start])), some (.bl (plB b)), some (bkV b), none, none, none, none, none, none, none, none, none, none, none, none, none, none, none, none, none] [r, TD] := by
  cases h : plB b with
  | true =>
    have be := backward_eq hb (plB_pl h) [r, TD]
    have ev : bkV b = bkD (bakB b) := by unfold bkV; rw [if_pos h]
    rw [ev]
    refine q_try_nx ?_
    unfold y_law_8
    simp only [q_asg, q_call, q_cons, q_var, q_nil, List.getElem?_cons_succ, List.getElem?_cons_zero, R.bind_ok, be, SR.ofR_ok, q_tgN, List.set_cons_succ, List.set_cons_zero]
  | false =>
    have be := backward_err hb (pl_not hb h) [r, TD]
    have ev : bkV b = .str "branching" := by unfold bkV; rw [if_neg (by rw [h]; exact Bool.false_ne_true)]
    rw [ev]
    refine q_try_er (er := ⟨"Branching", []⟩) (sd1 := [v0, some (.loc 0), some (bkD b), some (.loc 1), some (.tup ((mirB b).words.map wD ++ [wD (mirB b).start])), some (.bl false), some (.non), none, none, none, none, none, none, none, none, none, none, none, none, none, none, none, none, none]) (m1 := [r, TD]) ?_ rfl fun a dx => ?_
    · unfold y_law_8
      simp only [q_asg, q_call, q_cons, q_var, q_nil, List.getElem?_cons_succ, List.getElem?_cons_zero, R.bind_ok, be, q_ofR_er]
    · have h1 := q_isE (a := a) (dx := dx) (er := ⟨"Branching", []⟩) (tb := [("Branching", true), ("TooMany", false)]) (k := true) (fa := xVar 7) (sd := [v0, some (.loc 0), some (bkD b), some (.loc 1), some (.tup ((mirB b).words.map wD ++ [wD (mirB b).start])), some (.bl false), some (.non), some (.exn a dx []), none, none, none, none, none, none, none, none, none, none, none, none, none, none, none, none]) (m := [r, TD]) (m1 := [r, TD]) rfl rfl
      show unsl 7 (sAsg (xIf (xT (xIsE a dx ⟨"Branching", []⟩ [("Branching", true), ("TooMany", false)] (xVar 7))) (xC (.str "branching")) (xC (.str "other"))) (tgN 6) [v0, some (.loc 0), some (bkD b), some (.loc 1), some (.tup ((mirB b).words.map wD ++ [wD (mirB b).start])), some (.bl false), some (.non), some (.exn a dx []), none, none, none, none, none, none, none, none, none, none, none, none, none, none, none, none] [r, TD]) = _
      rw [q_asg, q_if, q_T, h1]
      rfl
theorem pl_nob (h : plB b = true) : (∀ w ∈ b.words, Nob w) ∧ Nob b.start := by
  have hp := plB_pl h
  exact ⟨fun w hw => nob_of (hb.words w hw) (hp w (List.mem_append.mpr (.inl hw))), nob_of hb.start (hp _ (List.mem_append.mpr (.inr (List.mem_singleton.mpr rfl))))⟩
theorem st8 : q8 [v0, some (.loc 0), some (bkD b), some (.loc 1), some (.tup ((mirB b).words.map wD ++ [wD (mirB b).start])), some (.bl (plB b)), some (bkV b), none, none, none, none, none, none, none, none, none, none, none, none, none, none, none, none, none] [r, TD] = .nx [v0, some (.loc 0), some (bkD b), some (.loc 1), some (.tup ((mirB b).words.map wD ++ [wD (mirB b).start])), some (.bl (plB b)), some (bkV b), none, none, none, none, none, none, none, none, none, none, none, none, none, none, none, none, none] [r, TD] := by
  have ng : ∀ mm, oNeg (.int 1) mm = some (.int (-1), mm) := fun _ => rfl
  cases h : plB b with
  | true =>
    have ev : bkV b = bkD (bakB b) := by unfold bkV; rw [if_pos h]
    rw [ev]
    obtain ⟨n1, n2⟩ := pl_nob hb h
    have c := lc_goM (m := [r, TD]) (d := .tup ((mirB b).words.map wD)) (l := (mirB b).words) (f := wD) (g := fun w => wD w.reverse) (vs := [22]) (gd := ogN 22) (t := tYesD) (e := e_law_7) (sd := [v0, some (.loc 0), some (bkD b), some (.loc 1), some (.tup ((mirB b).words.map wD ++ [wD (mirB b).start])), some (.bl true), some (bkD (bakB b)), none, none, none, none, none, none, none, none, none, none, none, none, none, none, none, none, none]) rfl
      (fun w hw acc => ⟨[v0, some (.loc 0), some (bkD b), some (.loc 1), some (.tup ((mirB b).words.map wD ++ [wD (mirB b).start])), some (.bl true), some (bkD (bakB b)), none, none, none, none, none, none, none, none, none, none, none, none, none, none, none, some (wD w), none], rfl, rfl, fun _ => by
        unfold e_law_7
        simp only [q_un, q_var, List.getElem?_cons_succ, List.getElem?_cons_zero, R.bind_ok, revT_w, R.ofO_some]⟩) (words_big (bok_mir hb)) (fun w _ => wD_b _ _)
    have ec : (mirB b).words.map (fun w => wD w.reverse) = (bakB b).words.map wD := by
      show (b.words.map mirW).map _ = (b.words.map bakW).map wD
      rw [List.map_map, List.map_map]
      refine List.map_congr_left fun w _ => ?_
      simp only [Function.comp, mirW_rev]
    rw [ec] at c
    have es : (mirB b).start.reverse = (bakB b).start := mirW_rev b.start
    have al : ∀ mm, F_law_alike 6 [bkD (bakB b), .tup [.tup ((bakB b).words.map wD), wD (bakB b).start]] mm = .ok (.bl true) mm := fun mm => alike_reflS 5 (bkD (bakB b)) (bkD_as (bok_bak hb n1 n2) 2) mm
    simp only [q8, q_asg, q_cb, q_cons, q_nil, q_lc, q_lcR, q_op, q_un, q_tup, q_lst, q_var, q_c, q_call, q_sif, q_not, q_and, q_if, q_T, q_sl, q_no, q_some, q_ret, q_par, q_lstM, q_next, List.getElem?_cons_succ, List.getElem?_cons_zero, R.bind_ok, R.ofO_some, SR.ofR_ok, q_tgN, List.set_cons_succ, List.set_cons_zero, List.length_cons, List.length_nil, le0_, le1_, le2_, le3_, le4_, if_true, Bool.not_true, Bool.false_eq_true, if_false, ng, sl_last, ix_last, c, oTuple_lst, revT_w, es, al]
  | false =>
    have ev : bkV b = .str "branching" := by unfold bkV; rw [if_neg (by rw [h]; exact Bool.false_ne_true)]
    rw [ev]
    have al : ∀ mm, F_law_alike 6 [.str "branching", .str "branching"] mm = .ok (.bl true) mm := fun mm => alike_reflS 5 (.str "branching") (str_as (by decide +kernel) 5) mm
    simp only [q8, q_asg, q_cb, q_cons, q_nil, q_lc, q_lcR, q_op, q_un, q_tup, q_lst, q_var, q_c, q_call, q_sif, q_not, q_and, q_if, q_T, q_sl, q_no, q_some, q_ret, q_par, q_lstM, q_next, List.getElem?_cons_succ, List.getElem?_cons_zero, R.bind_ok, R.ofO_some, SR.ofR_ok, q_tgN, List.set_cons_succ, List.set_cons_zero, List.length_cons, List.length_nil, le0_, le1_, le2_, le3_, le4_, if_true, Bool.not_true, Bool.false_eq_true, if_false, al]
end
end Pl

set_option Elab.async false
set_option linter.all false
set_option maxRecDepth 100000
set_option maxHeartbeats 4000000
namespace Pl
open PySem PySem.Spec L2 Dl Wk
/-! the law: ages and drawings -/
theorem sub1_21 {b : Bk} (hb : BOk b) (a : It) : (sub1 b a).length ≤ 1 + if a.isL then 20 else 0 := by
  cases a with
  | L i =>
    show (b.words.getD i.toNat []).length ≤ 1 + 20
    by_cases h : i.toNat < b.words.length
    · rw [word_at b h]
      exact hb.sh _ (List.getElem_mem h)
    · rw [List.getD_eq_getElem?_getD, List.getElem?_eq_none (by omega)]
      exact Nat.zero_le _
  | _ => exact Nat.le_refl 1
theorem grow1_21 {b : Bk} (hb : BOk b) : ∀ w : List It, (grow1 b w).length ≤ w.length + 20 * lets w
  | [] => Nat.le_refl _
  | a :: w => by
    have ih := grow1_21 hb w
    have h := sub1_21 hb a
    have e : (grow1 b (a :: w)).length = (sub1 b a).length + (grow1 b w).length := by
      show (sub1 b a ++ grow1 b w).length = _
      rw [List.length_append]
    have el : lets (a :: w) = (if a.isL then 1 else 0) + lets w := by
      unfold lets
      cases q : a.isL with
      | true => rw [List.filter_cons_of_pos q]; simp; omega
      | false => rw [List.filter_cons_of_neg (by simp [q])]; simp
    rw [e, el, List.length_cons]
    cases q : a.isL with
    | true => rw [q] at h; simp at h ⊢; omega
    | false => rw [q] at h; simp at h ⊢; omega
theorem grow_4000 {b : Bk} (hb : BOk b) {A : Nat} (h : ∀ k, k ≤ A → lets (growN b k) ≤ 200) : ∀ k, k ≤ A + 1 → (growN b k).length ≤ 40 + 4000 * k
  | 0, _ => hb.start.len.2
  | k + 1, hk => by
    have ih := grow_4000 hb h k (by omega)
    have h1 := grow1_21 hb (growN b k)
    have h2 := h k (by omega)
    show (grow1 b (growN b k)).length ≤ _
    omega
theorem drawn_ageR {b : Bk} (hb : BOk b) {a : Nat} (ha : a ≤ 310) : ∃ g e, run (sig b a) b.start (Sm.zero, []) = some (g, []) ∧ Run (sig b a) b.start (Sm.zero, []) (g, []) ∧ drun (gro b a b.start) Dr.zero = some e ∧ e.p = pn g ∧ g.many = e.sk.length := by
  obtain ⟨g, e1, e2⟩ := whole_run hb ha
  have e3 := run_gro hb a b.start (Sm.zero, []) hb.start.lets
  rw [e1] at e3
  obtain ⟨d, d1, dp, dm, _, _⟩ := near_all (gro_lets hb a hb.start.lets) e3.symm
  exact ⟨g, d, e1, e2, d1, dp, dm⟩
theorem skD_as (q : Pn × Int) (n : Nat) : AS (n + 1) (skD q) := ⟨(show 4 ≤ 100000 from by omega), by
  intro d hd
  simp at hd
  rcases hd with rfl | rfl | rfl | rfl <;> (cases n <;> exact True.intro)⟩
theorem sks_as {l : List (Pn × Int)} (h : l.length ≤ 100000) (n : Nat) : AS (n + 2) (.tup (l.map skD)) := ⟨by rw [List.length_map]; exact h, fun d hd => by
  obtain ⟨q, _, rfl⟩ := List.mem_map.mp hd
  exact skD_as q n⟩
section
variable {b : Bk} {r : D} {v0 : Option D}
theorem st9 {s : List Int} (hb : BOk b) (hr : RwOk s r) : ∃ (a : Nat) (r' : D), q9 [v0, some (.loc 0), some (bkD b), some (.loc 1), some (.tup ((mirB b).words.map wD ++ [wD (mirB b).start])), some (.bl (plB b)), some (bkV b), none, none, none, none, none, none, none, none, none, none, none, none, none, none, none, none, none] [r, TD] = .nx [v0, some (.loc 0), some (bkD b), some (.loc 1), some (.tup ((mirB b).words.map wD ++ [wD (mirB b).start])), some (.bl (plB b)), some (bkV b), none, some (.int (a : Nat)), none, none, none, none, none, none, none, none, none, none, none, none, none, none, none] [r', TD] ∧ RwOk s r' ∧ a ≤ 8 ∧ ∀ k, k ≤ a → (growN b k).length ≤ 60000 := by
  obtain ⟨a0, e0, h8, hl⟩ := age_eq hb (most := 200) (by decide) (by decide) [r, TD]
  obtain ⟨v, r', e1, v1, v2, h1⟩ := taken_eq hr (many := 1 + (a0 : Int)) (by omega) (by omega) [TD]
  obtain ⟨a, rfl⟩ := Int.eq_ofNat_of_zero_le v1
  have g := grow_4000 hb (A := a0) fun k hk => by
    by_cases q : k = 0
    · subst q
      exact Nat.le_trans (lets_le _) (Nat.le_trans hb.start.len.2 (by decide))
    · exact hl k (by omega) hk
  refine ⟨a, r', ?_, h1, by omega, fun k hk => ?_⟩
  · have e0' : F_law_age [bkD b, .int 200] [r, TD] = .ok (.int (a0 : Nat)) [r, TD] := e0
    simp only [q9, q_asg, q_cb, q_cons, q_nil, q_lc, q_lcR, q_op, q_un, q_tup, q_lst, q_var, q_c, q_call, q_sif, q_not, q_and, q_if, q_T, q_sl, q_no, q_some, q_ret, q_par, q_lstM, q_next, List.getElem?_cons_succ, List.getElem?_cons_zero, R.bind_ok, R.ofO_some, SR.ofR_ok, q_tgN, List.set_cons_succ, List.set_cons_zero, List.length_cons, List.length_nil, le0_, le1_, le2_, le3_, le4_, if_true, Bool.not_true, Bool.false_eq_true, if_false, e0', o_addI, e1]
  · have := g k (by omega)
    omega
section
variable {a : Nat} {e : Dr} (hb : BOk b) (ha : a ≤ 8) (hl : ∀ k, k ≤ a → (growN b k).length ≤ 60000) (he : drun (growN b a) Dr.zero = some e)
include hl he
theorem sk_len : e.sk.length ≤ 60000 := by
  have h2 := drun_len (p := ⟨0, 0, 0⟩) (st := []) he
  rw [h2]
  exact Nat.le_trans (List.length_filterMap_le _ _) (hl a (Nat.le_refl _))
include ha
include hb
theorem st10 : q10 [v0, some (.loc 0), some (bkD b), some (.loc 1), some (.tup ((mirB b).words.map wD ++ [wD (mirB b).start])), some (.bl (plB b)), some (bkV b), none, some (.int (a : Nat)), none, none, none, none, none, none, none, none, none, none, none, none, none, none, none] [r, TD] = .nx [v0, some (.loc 0), some (bkD b), some (.loc 1), some (.tup ((mirB b).words.map wD ++ [wD (mirB b).start])), some (.bl (plB b)), some (bkV b), none, some (.int (a : Nat)), some (.lst (e.sk.map skD)), some (e.p.d), none, none, none, none, none, none, none, none, none, none, none, none, none] [r, TD] := by
  have g := grown_eq hb (age := a) (Nat.le_trans ha (by decide)) (fun k hk => Nat.le_trans (hl k hk) (by decide)) [r, TD]
  have dr := drawn_eq he (Nat.lt_of_le_of_lt (hl a (Nat.le_refl _)) (by decide)) [r, TD]
  simp only [q10, q_asg, q_cb, q_cons, q_nil, q_lc, q_lcR, q_op, q_un, q_tup, q_lst, q_var, q_c, q_call, q_sif, q_not, q_and, q_if, q_T, q_sl, q_no, q_some, q_ret, q_par, q_lstM, q_next, List.getElem?_cons_succ, List.getElem?_cons_zero, R.bind_ok, R.ofO_some, SR.ofR_ok, q_tgN, List.set_cons_succ, List.set_cons_zero, List.length_cons, List.length_nil, le0_, le1_, le2_, le3_, le4_, if_true, Bool.not_true, Bool.false_eq_true, if_false, g, dr, q_tgT, D.tup?, q_tgCons, q_tgNil]
theorem st11 : q11 [v0, some (.loc 0), some (bkD b), some (.loc 1), some (.tup ((mirB b).words.map wD ++ [wD (mirB b).start])), some (.bl (plB b)), some (bkV b), none, some (.int (a : Nat)), some (.lst (e.sk.map skD)), some (e.p.d), none, none, none, none, none, none, none, none, none, none, none, none, none] [r, TD] = .nx [v0, some (.loc 0), some (bkD b), some (.loc 1), some (.tup ((mirB b).words.map wD ++ [wD (mirB b).start])), some (.bl (plB b)), some (bkV b), none, some (.int (a : Nat)), some (.lst (e.sk.map skD)), some (e.p.d), some (.tup (e.sk.map fun q => skD (mirP q.1, q.2))), none, none, none, none, none, none, none, none, none, none, none, none] [r, TD] := by
  have md := fun (i : Int) (mm : Mem) => o_mod (m := mm) (i := i) (j := 4) (by decide)
  have c := lc_goM (m := [r, TD]) (d := .lst (e.sk.map skD)) (l := e.sk) (f := skD) (g := fun q => skD (mirP q.1, q.2)) (vs := [13, 14, 15, 16]) (gd := ogT [13, 14, 15, 16]) (t := tYesD) (e := e_law_6) (sd := [v0, some (.loc 0), some (bkD b), some (.loc 1), some (.tup ((mirB b).words.map wD ++ [wD (mirB b).start])), some (.bl (plB b)), some (bkV b), none, some (.int (a : Nat)), some (.lst (e.sk.map skD)), some (e.p.d), none, none, none, none, none, none, none, none, none, none, none, none, none]) rfl
    (fun q hq acc => ⟨[v0, some (.loc 0), some (bkD b), some (.loc 1), some (.tup ((mirB b).words.map wD ++ [wD (mirB b).start])), some (.bl (plB b)), some (bkV b), none, some (.int (a : Nat)), some (.lst (e.sk.map skD)), some (e.p.d), none, none, some (.int q.1.x), some (.int q.1.y), some (.int q.1.h), some (.int q.2), none, none, none, none, none, none, none], rfl, rfl, fun _ => by
      simp only [e_law_6, q_asg, q_cb, q_cons, q_nil, q_lc, q_lcR, q_op, q_un, q_tup, q_lst, q_var, q_c, q_call, q_sif, q_not, q_and, q_if, q_T, q_sl, q_no, q_some, q_ret, q_par, q_lstM, q_next, List.getElem?_cons_succ, List.getElem?_cons_zero, R.bind_ok, R.ofO_some, SR.ofR_ok, q_tgN, List.set_cons_succ, List.set_cons_zero, List.length_cons, List.length_nil, le0_, le1_, le2_, le3_, le4_, if_true, Bool.not_true, Bool.false_eq_true, if_false, o_subI, oInt_i, md]
      rfl⟩) (Nat.le_trans (sk_len hl he) (by decide)) (fun _ _ => rfl)
  simp only [q11, q_asg, q_cb, q_cons, q_nil, q_lc, q_lcR, q_op, q_un, q_tup, q_lst, q_var, q_c, q_call, q_sif, q_not, q_and, q_if, q_T, q_sl, q_no, q_some, q_ret, q_par, q_lstM, q_next, List.getElem?_cons_succ, List.getElem?_cons_zero, R.bind_ok, R.ofO_some, SR.ofR_ok, q_tgN, List.set_cons_succ, List.set_cons_zero, List.length_cons, List.length_nil, le0_, le1_, le2_, le3_, le4_, if_true, Bool.not_true, Bool.false_eq_true, if_false, c, oTuple_lst]
theorem st12 : q12 [v0, some (.loc 0), some (bkD b), some (.loc 1), some (.tup ((mirB b).words.map wD ++ [wD (mirB b).start])), some (.bl (plB b)), some (bkV b), none, some (.int (a : Nat)), some (.lst (e.sk.map skD)), some (e.p.d), some (.tup (e.sk.map fun q => skD (mirP q.1, q.2))), none, none, none, none, none, none, none, none, none, none, none, none] [r, TD] = .nx [v0, some (.loc 0), some (bkD b), some (.loc 1), some (.tup ((mirB b).words.map wD ++ [wD (mirB b).start])), some (.bl (plB b)), some (bkV b), none, some (.int (a : Nat)), some (.lst (e.sk.map skD)), some (e.p.d), some (.tup (e.sk.map fun q => skD (mirP q.1, q.2))), none, none, none, none, none, none, none, none, none, none, none, none] [r, TD] := by
  have me := fun mm => mirrored_eq hb mm
  have h1 : drun (growN (mirB b) a) Dr.zero = some (e.mp mirP) := by
    rw [growN_mir]
    exact mir_drawn he
  have dr := fun mm => drawing_eq (bok_mir hb) (A := a) (fun k hk => by rw [growN_mir, mirW_len]; exact hl k hk) (by omega) h1 mm
  have es : (e.mp mirP).sk.map skD = e.sk.map fun q => skD (mirP q.1, q.2) := by
    show (e.sk.map fun q => (mirP q.1, q.2)).map skD = _
    rw [List.map_map]
    rfl
  have al := fun mm => alike_reflS 5 (.tup ((e.mp mirP).sk.map skD)) (sks_as (by show (e.sk.map fun q => (mirP q.1, q.2)).length ≤ _; rw [List.length_map]; have := sk_len hl he; omega) 3) mm
  rw [es] at al
  simp only [es] at dr
  simp only [q12, q_asg, q_cb, q_cons, q_nil, q_lc, q_lcR, q_op, q_un, q_tup, q_lst, q_var, q_c, q_call, q_sif, q_not, q_and, q_if, q_T, q_sl, q_no, q_some, q_ret, q_par, q_lstM, q_next, List.getElem?_cons_succ, List.getElem?_cons_zero, R.bind_ok, R.ofO_some, SR.ofR_ok, q_tgN, List.set_cons_succ, List.set_cons_zero, List.length_cons, List.length_nil, le0_, le1_, le2_, le3_, le4_, if_true, Bool.not_true, Bool.false_eq_true, if_false, me, dr, al]
theorem st13 : q13 [v0, some (.loc 0), some (bkD b), some (.loc 1), some (.tup ((mirB b).words.map wD ++ [wD (mirB b).start])), some (.bl (plB b)), some (bkV b), none, some (.int (a : Nat)), some (.lst (e.sk.map skD)), some (e.p.d), some (.tup (e.sk.map fun q => skD (mirP q.1, q.2))), none, none, none, none, none, none, none, none, none, none, none, none] [r, TD] = .nx [v0, some (.loc 0), some (bkD b), some (.loc 1), some (.tup ((mirB b).words.map wD ++ [wD (mirB b).start])), some (.bl (plB b)), some (bkV b), none, some (.int (a : Nat)), some (.lst (e.sk.map skD)), some (e.p.d), some (.tup (e.sk.map fun q => skD (mirP q.1, q.2))), some (.loc 2), none, none, none, none, none, none, none, none, none, none, none] [r, TD, .lst []] := by
  simp only [q13, q_asg, q_cb, q_cons, q_nil, q_lc, q_lcR, q_op, q_un, q_tup, q_lst, q_var, q_c, q_call, q_sif, q_not, q_and, q_if, q_T, q_sl, q_no, q_some, q_ret, q_par, q_lstM, q_next, List.getElem?_cons_succ, List.getElem?_cons_zero, R.bind_ok, R.ofO_some, SR.ofR_ok, q_tgN, List.set_cons_succ, List.set_cons_zero, List.length_cons, List.length_nil, le0_, le1_, le2_, le3_, le4_, if_true, Bool.not_true, Bool.false_eq_true, if_false, Nat.zero_le]
  rfl
end
theorem bk_loop {e : Pn} {v2 v3 v4 v5 v6 v8 v9 v11 : Option D} : ∀ (l : List (Pn × Int)) (acc : List D) (y13 y14 y15 y16 y17 y18 : Option D), acc.length + l.length < big →
    ∃ z13 z14 z15 z16 z17 z18, forD (tgT 4 (tgCons (tgN 13) (tgCons (tgN 14) (tgCons (tgN 15) (tgCons (tgN 16) tgNil))))) l_law_5 (l.map skD) [v0, some (.loc 0), v2, v3, v4, v5, v6, none, v8, v9, some (e.d), v11, some (.loc 2), y13, y14, y15, y16, y17, y18, none, none, none, none, none] [r, TD, .lst acc] = .nx [v0, some (.loc 0), v2, v3, v4, v5, v6, none, v8, v9, some (e.d), v11, some (.loc 2), z13, z14, z15, z16, z17, z18, none, none, none, none, none] [r, TD, .lst (acc ++ l.map fun q => skD (bkT e q))]
  | [], acc, y13, y14, y15, y16, y17, y18, _ => ⟨y13, y14, y15, y16, y17, y18, by simp only [List.map_nil, List.append_nil]; rfl⟩
  | q :: l, acc, y13, y14, y15, y16, y17, y18, h => by
    rw [List.length_cons] at h
    obtain ⟨z13, z14, z15, z16, z17, z18, e2⟩ := bk_loop l (acc ++ [skD (bkT e q)]) (some (.int q.1.x)) (some (.int q.1.y)) (some (.int q.1.h)) (some (.int q.2)) (some (.tup [.int (rot q.1.h (1, 0)).1, .int (rot q.1.h (1, 0)).2])) (some (.tup [.int (rot (0 - e.h - 2) ((aft q.1).1 - e.x, (aft q.1).2 - e.y)).1, .int (rot (0 - e.h - 2) ((aft q.1).1 - e.x, (aft q.1).2 - e.y)).2])) (by rw [List.length_append, List.length_singleton]; omega)
    refine ⟨z13, z14, z15, z16, z17, z18, ?_⟩
    have un := fun mm => unit_law q.1.h mm
    have qe := fun mm => quarter_eq (k := 0 - e.h - 2) (IsP.mk ((aft q.1).1 - e.x) ((aft q.1).2 - e.y)) mm
    have ix0 : ∀ mm, oIx e.d (.int 0) mm = some (.int e.x, mm) := fun _ => rfl
    have ix1 : ∀ mm, oIx e.d (.int 1) mm = some (.int e.y, mm) := fun _ => rfl
    have ix2 : ∀ mm, oIx e.d (.int 2) mm = some (.int e.h, mm) := fun _ => rfl
    have md := fun (i : Int) (mm : Mem) => o_mod (m := mm) (i := i) (j := 4) (by decide)
    have ll : (D.loc 2).lst? [r, TD, .lst acc] = some acc := rfl
    have ap : oAppend (.loc 2) [skD (bkT e q)] [r, TD, .lst acc] = some (.non, [r, TD, .lst (acc ++ [skD (bkT e q)])]) := oAppend_last (m := [r, TD]) (l := acc) (y := skD (bkT e q)) (ex := []) (by omega)
    have ax : q.1.x + (rot q.1.h (1, 0)).1 - e.x = (aft q.1).1 - e.x := rfl
    have ay : q.1.y + (rot q.1.h (1, 0)).2 - e.y = (aft q.1).2 - e.y := rfl
    have ad : ∀ mm, oAdd (.tup [.int (rot (0 - e.h - 2) ((aft q.1).1 - e.x, (aft q.1).2 - e.y)).1, .int (rot (0 - e.h - 2) ((aft q.1).1 - e.x, (aft q.1).2 - e.y)).2]) (.tup [.int ((q.1.h - e.h) % 4), .int q.2]) mm = some (skD (bkT e q), mm) := fun _ => rfl
    have s1 : l_law_5 [v0, some (.loc 0), v2, v3, v4, v5, v6, none, v8, v9, some (e.d), v11, some (.loc 2), some (.int q.1.x), some (.int q.1.y), some (.int q.1.h), some (.int q.2), y17, y18, none, none, none, none, none] [r, TD, .lst acc] = .nx [v0, some (.loc 0), v2, v3, v4, v5, v6, none, v8, v9, some (e.d), v11, some (.loc 2), some (.int q.1.x), some (.int q.1.y), some (.int q.1.h), some (.int q.2), some (.tup [.int (rot q.1.h (1, 0)).1, .int (rot q.1.h (1, 0)).2]), some (.tup [.int (rot (0 - e.h - 2) ((aft q.1).1 - e.x, (aft q.1).2 - e.y)).1, .int (rot (0 - e.h - 2) ((aft q.1).1 - e.x, (aft q.1).2 - e.y)).2]), none, none, none, none, none] [r, TD, .lst (acc ++ [skD (bkT e q)])] := by
      unfold l_law_5
      rw [sq1 (show (sAsg (xCall F_law_unit (aCons (xVar 15) aNil)) (tgN 17)) _ _ = .nx [v0, some (.loc 0), v2, v3, v4, v5, v6, none, v8, v9, some (e.d), v11, some (.loc 2), some (.int q.1.x), some (.int q.1.y), some (.int q.1.h), some (.int q.2), some (.tup [.int (rot q.1.h (1, 0)).1, .int (rot q.1.h (1, 0)).2]), y18, none, none, none, none, none] [r, TD, .lst acc] by simp only [q_asg, q_cb, q_cons, q_nil, q_lc, q_lcR, q_op, q_un, q_tup, q_lst, q_var, q_c, q_call, q_sif, q_not, q_and, q_if, q_T, q_sl, q_no, q_some, q_ret, q_par, q_lstM, q_next, List.getElem?_cons_succ, List.getElem?_cons_zero, R.bind_ok, R.ofO_some, SR.ofR_ok, q_tgN, List.set_cons_succ, List.set_cons_zero, List.length_cons, List.length_nil, le0_, le1_, le2_, le3_, le4_, if_true, Bool.not_true, Bool.false_eq_true, if_false, un])]
      rw [sq1 (show _ = SR.nx [v0, some (.loc 0), v2, v3, v4, v5, v6, none, v8, v9, some (e.d), v11, some (.loc 2), some (.int q.1.x), some (.int q.1.y), some (.int q.1.h), some (.int q.2), some (.tup [.int (rot q.1.h (1, 0)).1, .int (rot q.1.h (1, 0)).2]), some (.tup [.int (rot (0 - e.h - 2) ((aft q.1).1 - e.x, (aft q.1).2 - e.y)).1, .int (rot (0 - e.h - 2) ((aft q.1).1 - e.x, (aft q.1).2 - e.y)).2]), none, none, none, none, none] [r, TD, .lst acc] by simp only [q_asg, q_cb, q_cons, q_nil, q_lc, q_lcR, q_op, q_un, q_tup, q_lst, q_var, q_c, q_call, q_sif, q_not, q_and, q_if, q_T, q_sl, q_no, q_some, q_ret, q_par, q_lstM, q_next, List.getElem?_cons_succ, List.getElem?_cons_zero, R.bind_ok, R.ofO_some, SR.ofR_ok, q_tgN, List.set_cons_succ, List.set_cons_zero, List.length_cons, List.length_nil, le0_, le1_, le2_, le3_, le4_, if_true, Bool.not_true, Bool.false_eq_true, if_false, ixP0, ixP1, o_addI, o_subI, ix0, ix1, ix2, ax, ay, qe])]
      simp only [q_expr, q_bm, q_asg, q_cb, q_cons, q_nil, q_lc, q_lcR, q_op, q_un, q_tup, q_lst, q_var, q_c, q_call, q_sif, q_not, q_and, q_if, q_T, q_sl, q_no, q_some, q_ret, q_par, q_lstM, q_next, List.getElem?_cons_succ, List.getElem?_cons_zero, R.bind_ok, R.ofO_some, SR.ofR_ok, q_tgN, List.set_cons_succ, List.set_cons_zero, List.length_cons, List.length_nil, le0_, le1_, le2_, le3_, le4_, if_true, Bool.not_true, Bool.false_eq_true, if_false, ll, o_subI, ix2, oInt_i, md, ad, ap]
    have tg : (tgT 4 (tgCons (tgN 13) (tgCons (tgN 14) (tgCons (tgN 15) (tgCons (tgN 16) tgNil))))) (skD q) [v0, some (.loc 0), v2, v3, v4, v5, v6, none, v8, v9, some (e.d), v11, some (.loc 2), y13, y14, y15, y16, y17, y18, none, none, none, none, none] [r, TD, .lst acc] = some ([v0, some (.loc 0), v2, v3, v4, v5, v6, none, v8, v9, some (e.d), v11, some (.loc 2), some (.int q.1.x), some (.int q.1.y), some (.int q.1.h), some (.int q.2), y17, y18, none, none, none, none, none], [r, TD, .lst acc]) := rfl
    rw [List.map_cons, forD_cons]
    unfold turnD
    rw [tg]
    simp only
    rw [s1]
    simp only
    rw [e2, List.map_cons, List.append_assoc]
    rfl
section
variable {a : Nat} {e : Dr} (hb : BOk b) (ha : a ≤ 8) (hl : ∀ k, k ≤ a → (growN b k).length ≤ 60000) (he : drun (growN b a) Dr.zero = some e)
include hb ha hl he
theorem st14 : ∃ z13 z14 z15 z16 z17 z18, q14 [v0, some (.loc 0), some (bkD b), some (.loc 1), some (.tup ((mirB b).words.map wD ++ [wD (mirB b).start])), some (.bl (plB b)), some (bkV b), none, some (.int (a : Nat)), some (.lst (e.sk.map skD)), some (e.p.d), some (.tup (e.sk.map fun q => skD (mirP q.1, q.2))), some (.loc 2), none, none, none, none, none, none, none, none, none, none, none] [r, TD, .lst []] = .nx [v0, some (.loc 0), some (bkD b), some (.loc 1), some (.tup ((mirB b).words.map wD ++ [wD (mirB b).start])), some (.bl (plB b)), some (bkV b), none, some (.int (a : Nat)), some (.lst (e.sk.map skD)), some (e.p.d), some (.tup (e.sk.map fun q => skD (mirP q.1, q.2))), some (.loc 2), z13, z14, z15, z16, z17, z18, none, none, none, none, none] [r, TD, .lst (e.sk.reverse.map fun q => skD (bkT e.p q))] := by
  obtain ⟨z13, z14, z15, z16, z17, z18, h⟩ := bk_loop (r := r) (v0 := v0) (e := e.p) (v2 := some (bkD b)) (v3 := some (.loc 1)) (v4 := some (.tup ((mirB b).words.map wD ++ [wD (mirB b).start]))) (v5 := some (.bl (plB b))) (v6 := some (bkV b)) (v8 := some (.int (a : Nat))) (v9 := some (.lst (e.sk.map skD))) (v11 := some (.tup (e.sk.map fun q => skD (mirP q.1, q.2)))) e.sk.reverse [] none none none none none none (by rw [List.length_reverse]; have := sk_len hl he; show 0 + e.sk.length < 16777216; omega)
  refine ⟨z13, z14, z15, z16, z17, z18, ?_⟩
  rw [List.map_reverse, List.nil_append] at h
  have fr : (D.lst (e.sk.map skD)).fro? = some (e.sk.map skD, false) := rfl
  simp only [q14, q_forI, q_revI, q_asg, q_cb, q_cons, q_nil, q_lc, q_lcR, q_op, q_un, q_tup, q_lst, q_var, q_c, q_call, q_sif, q_not, q_and, q_if, q_T, q_sl, q_no, q_some, q_ret, q_par, q_lstM, q_next, List.getElem?_cons_succ, List.getElem?_cons_zero, R.bind_ok, R.ofO_some, SR.ofR_ok, q_tgN, List.set_cons_succ, List.set_cons_zero, List.length_cons, List.length_nil, le0_, le1_, le2_, le3_, le4_, if_true, Bool.not_true, Bool.false_eq_true, if_false, fr]
  exact h
theorem st15 (z13 z14 z15 z16 z17 z18 : Option D) : q15 [v0, some (.loc 0), some (bkD b), some (.loc 1), some (.tup ((mirB b).words.map wD ++ [wD (mirB b).start])), some (.bl (plB b)), some (bkV b), none, some (.int (a : Nat)), some (.lst (e.sk.map skD)), some (e.p.d), some (.tup (e.sk.map fun q => skD (mirP q.1, q.2))), some (.loc 2), z13, z14, z15, z16, z17, z18, none, none, none, none, none] [r, TD, .lst (e.sk.reverse.map fun q => skD (bkT e.p q))] = .nx [v0, some (.loc 0), some (bkD b), some (.loc 1), some (.tup ((mirB b).words.map wD ++ [wD (mirB b).start])), some (.bl (plB b)), some (bkV b), none, some (.int (a : Nat)), some (.lst (e.sk.map skD)), some (e.p.d), some (.tup (e.sk.map fun q => skD (mirP q.1, q.2))), some (.loc 2), z13, z14, z15, z16, z17, z18, none, none, none, none, none] [r, TD, .lst (e.sk.reverse.map fun q => skD (bkT e.p q))] := by
  cases h : plB b with
  | false => simp only [q15, q_asg, q_cb, q_cons, q_nil, q_lc, q_lcR, q_op, q_un, q_tup, q_lst, q_var, q_c, q_call, q_sif, q_not, q_and, q_if, q_T, q_sl, q_no, q_some, q_ret, q_par, q_lstM, q_next, List.getElem?_cons_succ, List.getElem?_cons_zero, R.bind_ok, R.ofO_some, SR.ofR_ok, q_tgN, List.set_cons_succ, List.set_cons_zero, List.length_cons, List.length_nil, le0_, le1_, le2_, le3_, le4_, if_true, Bool.not_true, Bool.false_eq_true, if_false]
  | true =>
    have ev : bkV b = bkD (bakB b) := by unfold bkV; rw [if_pos h]
    rw [ev]
    obtain ⟨n1, n2⟩ := pl_nob hb h
    have ng : Nob (growN b a) := by rw [← gro_start]; exact gro_nob n1 a n2
    obtain ⟨d, d1, d2⟩ := bak_drawn ng he
    have h1 : drun (growN (bakB b) a) Dr.zero = some d := by rw [growN_bak]; exact d1
    have dr := fun mm => drawing_eq (bok_bak hb n1 n2) (A := a) (fun k hk => by rw [growN_bak, bakW_len]; exact hl k hk) (by omega) h1 mm
    have es : d.sk.map skD = e.sk.reverse.map fun q => skD (bkT e.p q) := by rw [d2, List.map_map]; rfl
    have al := fun mm => alike_reflS 5 (.tup (d.sk.map skD)) (sks_as (by rw [d2, List.length_map, List.length_reverse]; have := sk_len hl he; omega) 3) mm
    rw [es] at al
    simp only [es] at dr
    have ot : oTuple [.loc 2] [r, TD, .lst (e.sk.reverse.map fun q => skD (bkT e.p q))] = some (.tup (e.sk.reverse.map fun q => skD (bkT e.p q)), [r, TD, .lst (e.sk.reverse.map fun q => skD (bkT e.p q))]) := rfl
    simp only [q15, q_asg, q_cb, q_cons, q_nil, q_lc, q_lcR, q_op, q_un, q_tup, q_lst, q_var, q_c, q_call, q_sif, q_not, q_and, q_if, q_T, q_sl, q_no, q_some, q_ret, q_par, q_lstM, q_next, List.getElem?_cons_succ, List.getElem?_cons_zero, R.bind_ok, R.ofO_some, SR.ofR_ok, q_tgN, List.set_cons_succ, List.set_cons_zero, List.length_cons, List.length_nil, le0_, le1_, le2_, le3_, le4_, if_true, Bool.not_true, Bool.false_eq_true, if_false, dr, ot, al]
end
end
end Pl

set_option Elab.async false
set_option linter.all false
set_option maxRecDepth 100000
set_option maxHeartbeats 4000000
namespace Pl
open PySem PySem.Spec L2 Dl Wk
/-! the law: sped -/
theorem gro_eta (b : Bk) (i : Nat) (k : Nat) : growN ⟨b.words, [.L (i : Int)]⟩ k = gro b k [.L (i : Int)] := by
  rw [← gro_start]
  exact gro_words b.words [.L (i : Int)] b.start k [.L (i : Int)]
theorem len40 (many : Nat) (h : many ≤ 4) : 40 ^ many ≤ big := by
  have : many = 0 ∨ many = 1 ∨ many = 2 ∨ many = 3 ∨ many = 4 := by omega
  rcases this with rfl | rfl | rfl | rfl | rfl <;> decide
section
variable {b : Bk} (hb : BOk b) {m : Mem} {r : D} {v0 : Option D} {a : Nat} {e : Dr} {z13 z14 z15 z16 z17 z18 : Option D}
theorem st16 {s : List Int} (hr : RwOk s r) {mm : Mem} : ∃ (many : Nat) (r' : D), q16 [v0, some (.loc 0), some (bkD b), some (.loc 1), some (.tup ((mirB b).words.map wD ++ [wD (mirB b).start])), some (.bl (plB b)), some (bkV b), none, some (.int (a : Nat)), some (.lst (e.sk.map skD)), some (e.p.d), some (.tup (e.sk.map fun q => skD (mirP q.1, q.2))), some (.loc 2), z13, z14, z15, z16, z17, z18, none, none, none, none, none] (r :: mm) = .nx [v0, some (.loc 0), some (bkD b), some (.loc 1), some (.tup ((mirB b).words.map wD ++ [wD (mirB b).start])), some (.bl (plB b)), some (bkV b), none, some (.int (a : Nat)), some (.lst (e.sk.map skD)), some (e.p.d), some (.tup (e.sk.map fun q => skD (mirP q.1, q.2))), some (.loc 2), z13, z14, z15, z16, z17, z18, some (.int (many : Nat)), some (.non), none, none, none] (r' :: mm) ∧ 1 ≤ many ∧ many ≤ 4 := by
  obtain ⟨v, r', e1, v1, v2, h1⟩ := taken_eq hr (many := 4) (by decide) (by decide) mm
  obtain ⟨n, rfl⟩ := Int.eq_ofNat_of_zero_le v1
  refine ⟨1 + n, r', ?_, by omega, by omega⟩
  have ea : (1 : Int) + (n : Nat) = ((1 + n : Nat) : Int) := by omega
  simp only [q16, q_asg, q_cb, q_cons, q_nil, q_lc, q_lcR, q_op, q_un, q_tup, q_lst, q_var, q_c, q_call, q_sif, q_not, q_and, q_if, q_T, q_sl, q_no, q_some, q_ret, q_par, q_lstM, q_next, List.getElem?_cons_succ, List.getElem?_cons_zero, R.bind_ok, R.ofO_some, SR.ofR_ok, q_tgN, List.set_cons_succ, List.set_cons_zero, List.length_cons, List.length_nil, le0_, le1_, le2_, le3_, le4_, if_true, Bool.not_true, Bool.false_eq_true, if_false, e1, o_addI, ea, q_tgT, D.tup?, q_tgCons, q_tgNil]
variable {many : Nat} (h1 : 1 ≤ many) (h4 : many ≤ 4)
include hb h1 h4
theorem st17 : q17 [v0, some (.loc 0), some (bkD b), some (.loc 1), some (.tup ((mirB b).words.map wD ++ [wD (mirB b).start])), some (.bl (plB b)), some (bkV b), none, some (.int (a : Nat)), some (.lst (e.sk.map skD)), some (e.p.d), some (.tup (e.sk.map fun q => skD (mirP q.1, q.2))), some (.loc 2), z13, z14, z15, z16, z17, z18, some (.int (many : Nat)), some (.non), none, none, none] m = .nx [v0, some (.loc 0), some (bkD b), some (.loc 1), some (.tup ((mirB b).words.map wD ++ [wD (mirB b).start])), some (.bl (plB b)), some (bkV b), none, some (.int (a : Nat)), some (.lst (e.sk.map skD)), some (e.p.d), some (.tup (e.sk.map fun q => skD (mirP q.1, q.2))), some (.loc 2), z13, z14, z15, z16, z17, z18, some (.int (many : Nat)), some (.non), some (.lst ((spW b many).map fun w => D.lst (w.map It.d))), none, none] m := by
  have wb := words_big hb
  have rgn := rng1_nat wb
  have i0 : ∀ mm, oIx (bkD b) (.int 0) mm = some (.tup (b.words.map wD), mm) := fun _ => rfl
  have ol : ∀ mm : Mem, oLen [.tup (b.words.map wD)] mm = some (.int (b.words.length : Nat), mm) := fun mm => by rw [oLen_tup, List.length_map]
  have c0 := lc_goM (m := m) (d := .lst ((List.range b.words.length).map fun (i : Nat) => D.int i)) (l := List.range b.words.length) (f := fun (i : Nat) => D.int i) (g := fun (i : Nat) => D.lst ((gro b many [.L (i : Int)]).map It.d)) (vs := [16]) (gd := ogN 16) (t := tYesD) (e := e_law_4) (sd := [v0, some (.loc 0), some (bkD b), some (.loc 1), some (.tup ((mirB b).words.map wD ++ [wD (mirB b).start])), some (.bl (plB b)), some (bkV b), none, some (.int (a : Nat)), some (.lst (e.sk.map skD)), some (e.p.d), some (.tup (e.sk.map fun q => skD (mirP q.1, q.2))), some (.loc 2), z13, z14, z15, z16, z17, z18, some (.int (many : Nat)), some (.non), none, none, none]) rfl
    (fun i hi acc => ⟨[v0, some (.loc 0), some (bkD b), some (.loc 1), some (.tup ((mirB b).words.map wD ++ [wD (mirB b).start])), some (.bl (plB b)), some (bkV b), none, some (.int (a : Nat)), some (.lst (e.sk.map skD)), some (e.p.d), some (.tup (e.sk.map fun q => skD (mirP q.1, q.2))), some (.loc 2), z13, z14, z15, some (.int (i : Nat)), z17, z18, some (.int (many : Nat)), some (.non), none, none, none], rfl, rfl, fun _ => by
      have hi' : i < b.words.length := List.mem_range.mp hi
      have g := grown_eq (book_of hb (i := (i : Int)) (by omega) (by omega)) (age := many) (Nat.le_trans h4 (by decide)) (fun k hk => by
        rw [gro_eta]
        exact Nat.le_trans (gro_le hb i k) (len40 k (by omega))) (m ++ [.lst acc])
      rw [gro_eta] at g
      have g' : F_law_grown [.tup [.tup (b.words.map wD), .tup [.int (i : Nat)]], .int (many : Nat)] (m ++ [.lst acc]) = .ok (.lst ((gro b many [.L (i : Int)]).map It.d)) (m ++ [.lst acc]) := g
      simp only [e_law_4, q_asg, q_cb, q_cons, q_nil, q_lc, q_lcR, q_op, q_un, q_tup, q_lst, q_var, q_c, q_call, q_sif, q_not, q_and, q_if, q_T, q_sl, q_no, q_some, q_ret, q_par, q_lstM, q_next, List.getElem?_cons_succ, List.getElem?_cons_zero, R.bind_ok, R.ofO_some, SR.ofR_ok, q_tgN, List.set_cons_succ, List.set_cons_zero, List.length_cons, List.length_nil, le0_, le1_, le2_, le3_, le4_, if_true, Bool.not_true, Bool.false_eq_true, if_false, i0, g']⟩) (by rw [List.length_range]; exact wb) (fun i _ => bels_of fun x hx => by
        obtain ⟨y, _, rfl⟩ := List.mem_map.mp hx
        exact y.bel _)
  have e0 : (List.range b.words.length).map (fun (i : Nat) => D.lst ((gro b many [.L (i : Int)]).map It.d)) = (spW b many).map fun w => D.lst (w.map It.d) := by unfold spW; rw [List.map_map]; rfl
  have er : (List.range b.words.length).map (fun (i : Nat) => D.int i) = rngD 0 1 b.words.length := by
    unfold rngD
    refine List.map_congr_left fun i _ => ?_
    have : (0 : Int) + (i : Int) * 1 = i := by omega
    rw [this]
  rw [e0, er] at c0
  have l0 : letGo m (lcR rng1 [16] (ogN 16) tYesD e_law_4 [v0, some (.loc 0), some (bkD b), some (.loc 1), some (.tup ((mirB b).words.map wD ++ [wD (mirB b).start])), some (.bl (plB b)), some (bkV b), none, some (.int (a : Nat)), some (.lst (e.sk.map skD)), some (e.p.d), some (.tup (e.sk.map fun q => skD (mirP q.1, q.2))), some (.loc 2), z13, z14, z15, z16, z17, z18, some (.int (many : Nat)), some (.non), none, none, none] [.int (b.words.length : Nat)] m) = .ok (.lst ((spW b many).map fun w => D.lst (w.map It.d))) m := by
    unfold lcR
    rw [rgn]
    exact c0
  simp only [q17, q_asg, q_cb, q_cons, q_nil, q_lc, q_lcR, q_op, q_un, q_tup, q_lst, q_var, q_c, q_call, q_sif, q_not, q_and, q_if, q_T, q_sl, q_no, q_some, q_ret, q_par, q_lstM, q_next, List.getElem?_cons_succ, List.getElem?_cons_zero, R.bind_ok, R.ofO_some, SR.ofR_ok, q_tgN, List.set_cons_succ, List.set_cons_zero, List.length_cons, List.length_nil, le0_, le1_, le2_, le3_, le4_, if_true, Bool.not_true, Bool.false_eq_true, if_false, i0, ol, l0]
theorem st18 : (sSeq q18 q19) [v0, some (.loc 0), some (bkD b), some (.loc 1), some (.tup ((mirB b).words.map wD ++ [wD (mirB b).start])), some (.bl (plB b)), some (bkV b), none, some (.int (a : Nat)), some (.lst (e.sk.map skD)), some (e.p.d), some (.tup (e.sk.map fun q => skD (mirP q.1, q.2))), some (.loc 2), z13, z14, z15, z16, z17, z18, some (.int (many : Nat)), some (.non), some (.lst ((spW b many).map fun w => D.lst (w.map It.d))), none, none] m = .rt (.bl true) m := by
  have hsl : (spW b many).length ≤ big := by rw [spW_len]; exact words_big hb
  rcases sped_eq hb (m := m) h1 h4 with ⟨hk, e1⟩ | ⟨hk, e1⟩
  · have s18 : q18 [v0, some (.loc 0), some (bkD b), some (.loc 1), some (.tup ((mirB b).words.map wD ++ [wD (mirB b).start])), some (.bl (plB b)), some (bkV b), none, some (.int (a : Nat)), some (.lst (e.sk.map skD)), some (e.p.d), some (.tup (e.sk.map fun q => skD (mirP q.1, q.2))), some (.loc 2), z13, z14, z15, z16, z17, z18, some (.int (many : Nat)), some (.non), some (.lst ((spW b many).map fun w => D.lst (w.map It.d))), none, none] m = .nx [v0, some (.loc 0), some (bkD b), some (.loc 1), some (.tup ((mirB b).words.map wD ++ [wD (mirB b).start])), some (.bl (plB b)), some (bkV b), none, some (.int (a : Nat)), some (.lst (e.sk.map skD)), some (e.p.d), some (.tup (e.sk.map fun q => skD (mirP q.1, q.2))), some (.loc 2), z13, z14, z15, z16, z17, z18, some (.int (many : Nat)), some (.tup [.tup ((spW b many).map wD), wD b.start]), some (.lst ((spW b many).map fun w => D.lst (w.map It.d))), none, none] m := by
      refine q_try_nx ?_
      simp only [y_law_1, q_asg, q_cb, q_cons, q_nil, q_lc, q_lcR, q_op, q_un, q_tup, q_lst, q_var, q_c, q_call, q_sif, q_not, q_and, q_if, q_T, q_sl, q_no, q_some, q_ret, q_par, q_lstM, q_next, List.getElem?_cons_succ, List.getElem?_cons_zero, R.bind_ok, R.ofO_some, SR.ofR_ok, q_tgN, List.set_cons_succ, List.set_cons_zero, List.length_cons, List.length_nil, le0_, le1_, le2_, le3_, le4_, if_true, Bool.not_true, Bool.false_eq_true, if_false, e1]
    rw [sq1 s18]
    have c := lc_goM (m := m) (d := .lst ((spW b many).map fun w => D.lst (w.map It.d))) (l := spW b many) (f := fun w => D.lst (w.map It.d)) (g := wD) (vs := [22]) (gd := ogN 22) (t := tYesD) (e := e_law_0) (sd := [v0, some (.loc 0), some (bkD b), some (.loc 1), some (.tup ((mirB b).words.map wD ++ [wD (mirB b).start])), some (.bl (plB b)), some (bkV b), none, some (.int (a : Nat)), some (.lst (e.sk.map skD)), some (e.p.d), some (.tup (e.sk.map fun q => skD (mirP q.1, q.2))), some (.loc 2), z13, z14, z15, z16, z17, z18, some (.int (many : Nat)), some (.tup [.tup ((spW b many).map wD), wD b.start]), some (.lst ((spW b many).map fun w => D.lst (w.map It.d))), none, none]) rfl
      (fun w hw acc => ⟨[v0, some (.loc 0), some (bkD b), some (.loc 1), some (.tup ((mirB b).words.map wD ++ [wD (mirB b).start])), some (.bl (plB b)), some (bkV b), none, some (.int (a : Nat)), some (.lst (e.sk.map skD)), some (e.p.d), some (.tup (e.sk.map fun q => skD (mirP q.1, q.2))), some (.loc 2), z13, z14, z15, z16, z17, z18, some (.int (many : Nat)), some (.tup [.tup ((spW b many).map wD), wD b.start]), some (.lst ((spW b many).map fun w => D.lst (w.map It.d))), some (.lst (w.map It.d)), none], rfl, rfl, fun _ => by
        simp only [e_law_0, q_asg, q_cb, q_cons, q_nil, q_lc, q_lcR, q_op, q_un, q_tup, q_lst, q_var, q_c, q_call, q_sif, q_not, q_and, q_if, q_T, q_sl, q_no, q_some, q_ret, q_par, q_lstM, q_next, List.getElem?_cons_succ, List.getElem?_cons_zero, R.bind_ok, R.ofO_some, SR.ofR_ok, q_tgN, List.set_cons_succ, List.set_cons_zero, List.length_cons, List.length_nil, le0_, le1_, le2_, le3_, le4_, if_true, Bool.not_true, Bool.false_eq_true, if_false, oTuple_lst]
        rfl⟩) hsl (fun w _ => wD_b _ _)
    have i1 : ∀ mm, oIx (bkD b) (.int 1) mm = some (wD b.start, mm) := fun _ => rfl
    have al : F_law_alike 6 [.tup [.tup ((spW b many).map wD), wD b.start], .tup [.tup ((spW b many).map wD), wD b.start]] m = .ok (.bl true) m := alike_reflS 5 (.tup [.tup ((spW b many).map wD), wD b.start]) ⟨(show 2 ≤ 100000 from by omega), fun d hd => by
      rcases List.mem_cons.mp hd with rfl | hd
      · exact ws_as (by rw [spW_len]; have := hb.len.2; omega) (fun w hw => Nat.le_trans (hk w hw) (by omega)) 2
      · rcases List.mem_singleton.mp hd with rfl
        exact wD_as (Nat.le_trans hb.start.len.2 (by omega)) 3⟩ m
    simp only [q19, q_asg, q_cb, q_cons, q_nil, q_lc, q_lcR, q_op, q_un, q_tup, q_lst, q_var, q_c, q_call, q_sif, q_not, q_and, q_if, q_T, q_sl, q_no, q_some, q_ret, q_par, q_lstM, q_next, List.getElem?_cons_succ, List.getElem?_cons_zero, R.bind_ok, R.ofO_some, SR.ofR_ok, q_tgN, List.set_cons_succ, List.set_cons_zero, List.length_cons, List.length_nil, le0_, le1_, le2_, le3_, le4_, if_true, Bool.not_true, Bool.false_eq_true, if_false, c, oTuple_lst, i1, al]
  · have c : ∀ dx, letGo m (lcVH [22] (ogN 22) tYesD e_law_2 [v0, some (.loc 0), some (bkD b), some (.loc 1), some (.tup ((mirB b).words.map wD ++ [wD (mirB b).start])), some (.bl (plB b)), some (bkV b), dx, some (.int (a : Nat)), some (.lst (e.sk.map skD)), some (e.p.d), some (.tup (e.sk.map fun q => skD (mirP q.1, q.2))), some (.loc 2), z13, z14, z15, z16, z17, z18, some (.int (many : Nat)), some (.non), some (.lst ((spW b many).map fun w => D.lst (w.map It.d))), none, none] (.lst ((spW b many).map fun w => D.lst (w.map It.d))) m) = .ok (.lst ((spW b many).map fun w => D.int (w.length : Nat))) m := fun dx => by
      rw [lcVH_lst]
      exact lc_goM (m := m) (d := .lst ((spW b many).map fun w => D.lst (w.map It.d))) (l := spW b many) (f := fun w => D.lst (w.map It.d)) (g := fun w => D.int (w.length : Nat)) (vs := [22]) (gd := ogN 22) (t := tYesD) (e := e_law_2) (sd := [v0, some (.loc 0), some (bkD b), some (.loc 1), some (.tup ((mirB b).words.map wD ++ [wD (mirB b).start])), some (.bl (plB b)), some (bkV b), dx, some (.int (a : Nat)), some (.lst (e.sk.map skD)), some (e.p.d), some (.tup (e.sk.map fun q => skD (mirP q.1, q.2))), some (.loc 2), z13, z14, z15, z16, z17, z18, some (.int (many : Nat)), some (.non), some (.lst ((spW b many).map fun w => D.lst (w.map It.d))), none, none]) rfl
        (fun w hw acc => ⟨[v0, some (.loc 0), some (bkD b), some (.loc 1), some (.tup ((mirB b).words.map wD ++ [wD (mirB b).start])), some (.bl (plB b)), some (bkV b), dx, some (.int (a : Nat)), some (.lst (e.sk.map skD)), some (e.p.d), some (.tup (e.sk.map fun q => skD (mirP q.1, q.2))), some (.loc 2), z13, z14, z15, z16, z17, z18, some (.int (many : Nat)), some (.non), some (.lst ((spW b many).map fun w => D.lst (w.map It.d))), some (.lst (w.map It.d)), none], rfl, rfl, fun _ => by
          have ol : ∀ mm : Mem, oLen [.lst (w.map It.d)] mm = some (.int (w.length : Nat), mm) := fun mm => by
            show some (D.int ((w.map It.d).length : Nat), mm) = _
            rw [List.length_map]
          simp only [e_law_2, q_asg, q_cb, q_cons, q_nil, q_lc, q_lcR, q_op, q_un, q_tup, q_lst, q_var, q_c, q_call, q_sif, q_not, q_and, q_if, q_T, q_sl, q_no, q_some, q_ret, q_par, q_lstM, q_next, List.getElem?_cons_succ, List.getElem?_cons_zero, R.bind_ok, R.ofO_some, SR.ofR_ok, q_tgN, List.set_cons_succ, List.set_cons_zero, List.length_cons, List.length_nil, le0_, le1_, le2_, le3_, le4_, if_true, Bool.not_true, Bool.false_eq_true, if_false, ol]⟩) hsl (fun w _ => rfl)
    have mx : ∃ M : Int, (∀ mm, oMaxL [.lst ((spW b many).map fun w => D.int (w.length : Nat))] mm = some (.int M, mm)) ∧ 40 < M := by
      obtain ⟨w, hw, hl⟩ := hk
      have hi : ∀ l : List (List It), D.ints? (l.map fun w => D.int (w.length : Nat)) = some (l.map fun w => ((w.length : Nat) : Int)) := by
        intro l
        induction l with
        | nil => rfl
        | cons x l ih =>
          show (D.ints? (l.map fun w => D.int (w.length : Nat))).map (((x.length : Nat) : Int) :: ·) = _
          rw [ih]
          rfl
      generalize spW b many = Z at hw
      cases Z with
      | nil => cases hw
      | cons w0 ws =>
        refine ⟨maxI ((w0.length : Nat) : Int) (ws.map fun w => ((w.length : Nat) : Int)), fun mm => ?_, ?_⟩
        · show (match D.ints? ((w0 :: ws).map fun w => D.int (w.length : Nat)) with
            | some (i :: is) => some (D.int (maxI i is), mm)
            | _ => none) = _
          rw [hi]
          rfl
        · obtain ⟨g1, g2⟩ := maxI_ge (ws.map fun w => ((w.length : Nat) : Int)) ((w0.length : Nat) : Int)
          rcases List.mem_cons.mp hw with rfl | hw
          · omega
          · have := g2 _ (List.mem_map.mpr ⟨w, hw, rfl⟩)
            omega
    obtain ⟨M, mx, hM⟩ := mx
    have eM : decide ((40 : Int) < M) = true := decide_eq_true hM
    have s18 : q18 [v0, some (.loc 0), some (bkD b), some (.loc 1), some (.tup ((mirB b).words.map wD ++ [wD (mirB b).start])), some (.bl (plB b)), some (bkV b), none, some (.int (a : Nat)), some (.lst (e.sk.map skD)), some (e.p.d), some (.tup (e.sk.map fun q => skD (mirP q.1, q.2))), some (.loc 2), z13, z14, z15, z16, z17, z18, some (.int (many : Nat)), some (.non), some (.lst ((spW b many).map fun w => D.lst (w.map It.d))), none, none] m = .rt (.bl true) m := by
      refine q_try_er (er := TM40) (sd1 := [v0, some (.loc 0), some (bkD b), some (.loc 1), some (.tup ((mirB b).words.map wD ++ [wD (mirB b).start])), some (.bl (plB b)), some (bkV b), none, some (.int (a : Nat)), some (.lst (e.sk.map skD)), some (e.p.d), some (.tup (e.sk.map fun q => skD (mirP q.1, q.2))), some (.loc 2), z13, z14, z15, z16, z17, z18, some (.int (many : Nat)), some (.non), some (.lst ((spW b many).map fun w => D.lst (w.map It.d))), none, none]) (m1 := m) ?_ rfl fun ad dx => ?_
      · simp only [y_law_1, q_asg, q_cb, q_cons, q_nil, q_lc, q_lcR, q_op, q_un, q_tup, q_lst, q_var, q_c, q_call, q_sif, q_not, q_and, q_if, q_T, q_sl, q_no, q_some, q_ret, q_par, q_lstM, q_next, List.getElem?_cons_succ, List.getElem?_cons_zero, R.bind_ok, R.ofO_some, SR.ofR_ok, q_tgN, List.set_cons_succ, List.set_cons_zero, List.length_cons, List.length_nil, le0_, le1_, le2_, le3_, le4_, if_true, Bool.not_true, Bool.false_eq_true, if_false, e1, q_ofR_er]
      · have g1 := q_isE (a := ad) (dx := dx) (er := TM40) (tb := [("Branching", false), ("TooMany", true)]) (k := true) (fa := xVar 7) (sd := [v0, some (.loc 0), some (bkD b), some (.loc 1), some (.tup ((mirB b).words.map wD ++ [wD (mirB b).start])), some (.bl (plB b)), some (bkV b), some (.exn ad dx TM40.fs), some (.int (a : Nat)), some (.lst (e.sk.map skD)), some (e.p.d), some (.tup (e.sk.map fun q => skD (mirP q.1, q.2))), some (.loc 2), z13, z14, z15, z16, z17, z18, some (.int (many : Nat)), some (.non), some (.lst ((spW b many).map fun w => D.lst (w.map It.d))), none, none]) (m := m) (m1 := m) rfl rfl
        have g2 := q_xf (a := ad) (dx := dx) (er := TM40) (C := "TooMany") (f := "most") (y := .int 40) (fa := xVar 7) (sd := [v0, some (.loc 0), some (bkD b), some (.loc 1), some (.tup ((mirB b).words.map wD ++ [wD (mirB b).start])), some (.bl (plB b)), some (bkV b), some (.exn ad dx TM40.fs), some (.int (a : Nat)), some (.lst (e.sk.map skD)), some (e.p.d), some (.tup (e.sk.map fun q => skD (mirP q.1, q.2))), some (.loc 2), z13, z14, z15, z16, z17, z18, some (.int (many : Nat)), some (.non), some (.lst ((spW b many).map fun w => D.lst (w.map It.d))), none, none]) (m := m) (m1 := m) rfl rfl rfl
        have e40 : ∀ mm, oEq (.int 40) (.int 40) mm = some (.bl true, mm) := fun mm => oEq_int 40 40 mm
        have cc := c (some (.exn ad dx TM40.fs))
        show unsl 7 (sRet (xAndV (xIsE ad dx TM40 [("Branching", false), ("TooMany", true)] (xVar 7)) (xAndV (xOp oEq (xXf ad dx TM40 "TooMany" "most" (xVar 7)) (xC (.int 40))) (xOp oGt (xCB oMaxL (aCons (xLcH letGo [22] (xVar 21) (ogN 22) tYesD e_law_2) aNil)) (xC (.int 40))))) [v0, some (.loc 0), some (bkD b), some (.loc 1), some (.tup ((mirB b).words.map wD ++ [wD (mirB b).start])), some (.bl (plB b)), some (bkV b), some (.exn ad dx TM40.fs), some (.int (a : Nat)), some (.lst (e.sk.map skD)), some (e.p.d), some (.tup (e.sk.map fun q => skD (mirP q.1, q.2))), some (.loc 2), z13, z14, z15, z16, z17, z18, some (.int (many : Nat)), some (.non), some (.lst ((spW b many).map fun w => D.lst (w.map It.d))), none, none] m) = _
        rw [q_ret, q_andV, g1]
        simp only [R.bind_ok, if_true, q_andV, q_op, g2, q_c, R.ofO_some, e40, q_cb, q_cons, q_nil, q_lcH, q_var, List.getElem?_cons_succ, List.getElem?_cons_zero, cc, mx, o_gt, eM, SR.ofR_ok]
        rfl
    rw [q_seq, s18]
end
end Pl

set_option Elab.async false
set_option linter.all false
set_option maxRecDepth 100000
set_option maxHeartbeats 4000000
namespace Pl
open PySem PySem.Spec L2 Dl Wk
theorem plain (ns : List Int) (_ : ns.length ≤ 63) (_ : ∀ z ∈ ns, Builtin.Int.intBits z ≤ 1048576) : ∃ m, Wk.F_law [.scr (ns.map D.int)] [] = .ok (.bl true) m := by
  have h0 : RwOk ns (rowD ns 0 11314 0) := ⟨0, 11314, 0, rfl, by decide, by decide, by decide⟩
  have s1 : q1 [some (.scr (ns.map D.int)), none, none, none, none, none, none, none, none, none, none, none, none, none, none, none, none, none, none, none, none, none, none, none] [] = .nx [some (.scr (ns.map D.int)), some (.loc 0), none, none, none, none, none, none, none, none, none, none, none, none, none, none, none, none, none, none, none, none, none, none] [rowD ns 0 11314 0] := by
    simp [q1, big, rowD]
  obtain ⟨b, r1, s2, h1, hb⟩ := book_step h0 (v0 := some (.scr (ns.map D.int))) (t := [none, none, none, none, none, none, none, none, none, none, none, none, none, none, none, none, none, none, none, none, none])
  have s3 := st3 hb (r := r1) (v0 := some (.scr (ns.map D.int)))
  have s4 := st4 hb (r := r1) (v0 := some (.scr (ns.map D.int)))
  have s5 := st5 hb (r := r1) (v0 := some (.scr (ns.map D.int)))
  have s6 := st6 hb (r := r1) (v0 := some (.scr (ns.map D.int)))
  have s7 := st7 hb (r := r1) (v0 := some (.scr (ns.map D.int)))
  have s8 := st8 hb (r := r1) (v0 := some (.scr (ns.map D.int)))
  obtain ⟨a, r2, s9, h2, ha, hl⟩ := st9 hb h1 (v0 := some (.scr (ns.map D.int)))
  obtain ⟨g, e, g1, g2, g3, g4, g5⟩ := drawn_ageR hb (a := a) (by omega)
  have he : drun (growN b a) Dr.zero = some e := by rw [← gro_start]; exact g3
  have s10 := st10 (r := r2) (v0 := some (.scr (ns.map D.int))) hb ha hl he
  have s11 := st11 (r := r2) (v0 := some (.scr (ns.map D.int))) hb ha hl he
  have s12 := st12 (r := r2) (v0 := some (.scr (ns.map D.int))) hb ha hl he
  have s13 := st13 (r := r2) (v0 := some (.scr (ns.map D.int))) hb ha hl he
  obtain ⟨z13, z14, z15, z16, z17, z18, s14⟩ := st14 (r := r2) (v0 := some (.scr (ns.map D.int))) hb ha hl he
  have s15 := st15 (r := r2) (v0 := some (.scr (ns.map D.int))) hb ha hl he z13 z14 z15 z16 z17 z18
  obtain ⟨many, r3, s16, m1, m4⟩ := st16 (b := b) (a := a) (e := e) (v0 := some (.scr (ns.map D.int))) (z13 := z13) (z14 := z14) (z15 := z15) (z16 := z16) (z17 := z17) (z18 := z18) h2 (mm := [TD, .lst (e.sk.reverse.map fun q => skD (bkT e.p q))])
  have s17 := st17 hb (m := r3 :: [TD, .lst (e.sk.reverse.map fun q => skD (bkT e.p q))]) (v0 := some (.scr (ns.map D.int))) (a := a) (e := e) (z13 := z13) (z14 := z14) (z15 := z15) (z16 := z16) (z17 := z17) (z18 := z18) m1 m4
  have s18 := st18 hb (m := r3 :: [TD, .lst (e.sk.reverse.map fun q => skD (bkT e.p q))]) (v0 := some (.scr (ns.map D.int))) (a := a) (e := e) (z13 := z13) (z14 := z14) (z15 := z15) (z16 := z16) (z17 := z17) (z18 := z18) m1 m4
  generalize hmm : (r3 :: [TD, .lst (e.sk.reverse.map fun q => skD (bkT e.p q))] : Mem) = mm at s16 s17 s18
  have hb' : b_law [some (.scr (ns.map D.int)), none, none, none, none, none, none, none, none, none, none, none, none, none, none, none, none, none, none, none, none, none, none, none] [] = .rt (.bl true) mm := by
    rw [law_q, sq1 s1, sq1 (show q2 _ _ = _ from s2), sq1 s3, sq1 s4, sq1 s5, sq1 s6, sq1 s7, sq1 s8, sq1 s9, sq1 s10, sq1 s11, sq1 s12, sq1 s13, sq1 s14, sq1 s15, sq1 s16, sq1 s17]
    exact s18
  refine ⟨[], ?_⟩
  have hf : fnD 1 24 b_law [.scr (ns.map D.int)] [] = .ok (.bl true) ([] ++ mm) := by
    have e : fnD 1 24 b_law [.scr (ns.map D.int)] [] = match b_law [some (.scr (ns.map D.int)), none, none, none, none, none, none, none, none, none, none, none, none, none, none, none, none, none, none, none, none, none, none, none] [] with
      | .nx _ m' => .ok .non m'
      | .rt d m' => .ok d m'
      | .er e _ m' => .err e m'
      | _ => .stuck := rfl
    rw [e, hb']
    rfl
  show letGo [] (fnD 1 24 b_law [.scr (ns.map D.int)] []) = _
  rw [hf]
  exact letGo_ex rfl
end Pl

set_option Elab.async false
set_option linter.all false
set_option maxRecDepth 100000
set_option maxHeartbeats 4000000
open PySem PySem.W PySem.Calls PyProof.Rows
theorem PySem.Challenge.cw_strokeonce_k14_whole_variants_holds : PySem.Challenge.rw_strokeonce_k14_whole_variants.Holds := by
  w_on; o_law
  refine HandSHeadRun.head_any (r := OpenLaw.row PySem.Challenge.rw_strokeonce_k14_whole_variants) (q := view (OpenLaw.row PySem.Challenge.rw_strokeonce_k14_whole_variants).prog [55]) (H := Wk.hk) (ob := Wk.ob) (M := 4000) (loose := Wk.loose) (d := HandSHeadRun.topDef (OpenLaw.row PySem.Challenge.rw_strokeonce_k14_whole_variants).prog 55) (kwd := []) Wk.ob_eq
    (by kernel_rfl) (fun s => by kernel_rfl) Wk.run (by kernel_rfl) (by kernel_rfl) (by kernel_rfl) (by rfl) (by first | assumption | decide +kernel) (by decide +kernel) ⟨rfl, rfl, rfl, rfl, rfl, by decide +kernel⟩ ?hw ?hc
  case hw => w_witness2
  case hc =>
    refine Dl.walk_ofD (l := PySem.Challenge.rw_strokeonce_k14_whole_variants) (n := 63) (k := 7) (x := "_law_script") (Fl := Wk.F_law) rfl (by decide) (by kernel_rfl) ⟨rfl, by decide, by decide⟩ ?F Pl.plain
    intro w mg fa h Y G hmg0
    obtain ⟨K, KX, c⟩ := Y
    have hmg : mg ("law" : PySem.Str) = some (.ref fa) := by
      have e : (HandSHeadRun.topDef (OpenLaw.row PySem.Challenge.rw_strokeonce_k14_whole_variants).prog 55).name = ("law" : PySem.Str) := by kernel_rfl
      rw [← e]
      exact hmg0
    obtain ⟨fd, hb, hF⟩ := Wk.facts (P := (PySem.Challenge.rw_strokeonce_k14_whole_variants).prog) (w := w) KX G hmg c (fun d hd => by
      have e : d.file = "/claim/cut.py" := by
        revert d
        decide +kernel
      rw [e]
      exact ⟨by kernel_rfl, by kernel_rfl⟩)
    exact ⟨K, fd, KX, hb, hF⟩
