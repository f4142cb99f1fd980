import PyProof.Rows.All
import Wide.All
import OpenK.AllK
import Wide.FinOn
import HandS.ForMost
import HandS.Zip
import HandS.DictComp
import HandS.Property
import HandS.IsInst
import HandS.TupAny
import HandS.Deep
import HandS.SortInts
import HandS.More
import HandS.RevRange
import HandS.Steps
import HandS.Defaults
import HandS.Head0
import HandS.Head1
import HandS.Head2
import HandS.HeadEnd
import HandS.HeadHook1
import HandS.HeadHook2
import PyProof.DictCompW
import HandS.DictTup
import KE.SortData
import HandS.Sort
import KE.KDictCopyH
import KE.KStar
import PyProof.DictUpdate
import PyProof.TupleOfSeq
import HandS.Style
import KE.GoesEnum
import HandS.Conv
import KE.KDictZip
import KE.KDictList
import PySem.Challenge.RW_formsights_k22_whole_questions_by_other
set_option Elab.async false
set_option linter.all false
set_option maxRecDepth 100000
set_option maxHeartbeats 0
/-! FsA: data without a heap (D), what denotes them (Dt), a region that only grows (Gr), slots (EnvS). -/
namespace FS
open PySem L2

/-! ### tables -/
def kget {κ α : Type} [DecidableEq κ] (l : List (κ × α)) (k : κ) : Option α := (l.find? fun kv => decide (kv.1 = k)).map (·.2)
def kput {κ α : Type} [DecidableEq κ] (l : List (κ × α)) (k : κ) (v : α) : List (κ × α) :=
  if (l.any fun kv => decide (kv.1 = k)) = true then l.map (fun kv => if kv.1 = k then (kv.1, v) else kv) else l ++ [(k, v)]

/-- data -/
inductive D where
  | non | bl (b : Bool) | int (i : Int) | str (x : Str)
  | tup (ds : List D) | ftup (ds : List D) | lst (ds : List D) | dic (kvs : List (Key × D)) | fz (kvs : List (Key × D)) | ins (C : Addr) (fs : List (Str × D)) | box | scr (ns : List Int)

def BoxAt (H : Hp) (a : Addr) : Prop := ∃ i j k : Int, H a = some (.lst [.int i, .int j, .int k])

def Ex (H H' : Hp) : Prop := ∀ a o, H a = some o → H' a = some o
theorem Ex.refl (H : Hp) : Ex H H := fun _ _ h => h
theorem Ex.trans {H H1 H2 : Hp} (a : Ex H H1) (b : Ex H1 H2) : Ex H H2 := fun x o h => b x o (a x o h)
theorem Ex.free {H H' : Hp} (e : Ex H H') {p : Addr} (h : H' p = none) : H p = none := by
  cases q : H p with
  | none => rfl
  | some o =>
    rw [e p o q] at h
    cases h
theorem Ex.new {H : Hp} {p : Addr} {o : HO} (h : H p = none) : Ex H (upd H p o) := fun a u e => by
  rw [upd_ne (ne_of_none e h)]
  exact e
theorem Ex.upd {H H' : Hp} (e : Ex H H') {p : Addr} {o : HO} (h : H p = none) : Ex H (L2.upd H' p o) := fun a u ha => by
  rw [upd_ne (ne_of_none ha h)]
  exact e a u ha
theorem Ex.rd {H H' : Hp} (e : Ex H H') {a : Addr} {u : HO} (h : Rd H a u) : Rd H' a u := by
  rcases h with h | ⟨o, h⟩
  · exact .inl (e a _ h)
  · exact .inr ⟨o, e a _ h⟩
theorem Ex.sql {K : PySem.W.Frag} {H H' : Hp} (e : Ex H H') {a : Addr} {xs : List V} (h : SqL K H a xs) : SqL K H' a xs := by
  rcases h with h | h
  · exact .inl (e.rd h)
  · exact .inr h

mutual
inductive Dt (K : PySem.W.Frag) (B : Addr → Prop) (H : Hp) : V → D → Prop
  | non : Dt K B H .non .non
  | bl (b : Bool) : Dt K B H (.bl b) (.bl b)
  | int (i : Int) : Dt K B H (.int i) (.int i)
  | str (x : Str) : Dt K B H (.str x) (.str x)
  | tup {a : Addr} {xs : List V} {ds : List D} : H a = some (.tup xs) → Dts K B H xs ds → Dt K B H (.ref a) (.tup ds)
  | ftup {a : Addr} {o : Obj} {xs : List V} {ds : List D} : H a = some (.frz o (.tup xs)) → o.dict = none → Dts K B H xs ds → Dt K B H (.ref a) (.ftup ds)
  | lst {a : Addr} {xs : List V} {ds : List D} : H a = some (.lst xs) → Dts K B H xs ds → Dt K B H (.ref a) (.lst ds)
  | dic {a : Addr} {kvs : List (Key × V)} {dks : List (Key × D)} : Rd H a (.dK kvs) → Dks K B H kvs dks → Dt K B H (.ref a) (.dic dks)
  | fz {a : Addr} {o : Obj} {kvs : List (Key × V)} {dks : List (Key × D)} : H a = some (.frz o (.dK kvs)) → Dks K B H kvs dks → Dt K B H (.ref a) (.fz dks)
  | ins {a C dx : Addr} {fs : List (Str × V)} {dfs : List (Str × D)} : H a = some (.ins C dx fs) → Dfs K B H fs dfs → Dt K B H (.ref a) (.ins C dfs)
  | box {a : Addr} : B a → Dt K B H (.ref a) .box
  | scr {a : Addr} {ns : List Int} : SqL K H a (ns.map V.int) → Dt K B H (.ref a) (.scr ns)
inductive Dts (K : PySem.W.Frag) (B : Addr → Prop) (H : Hp) : List V → List D → Prop
  | nil : Dts K B H [] []
  | cons {v : V} {vs : List V} {d : D} {ds : List D} : Dt K B H v d → Dts K B H vs ds → Dts K B H (v :: vs) (d :: ds)
inductive Dks (K : PySem.W.Frag) (B : Addr → Prop) (H : Hp) : List (Key × V) → List (Key × D) → Prop
  | nil : Dks K B H [] []
  | cons {k : Key} {v : V} {vs : List (Key × V)} {d : D} {ds : List (Key × D)} : Dt K B H v d → Dks K B H vs ds → Dks K B H ((k, v) :: vs) ((k, d) :: ds)
inductive Dfs (K : PySem.W.Frag) (B : Addr → Prop) (H : Hp) : List (Str × V) → List (Str × D) → Prop
  | nil : Dfs K B H [] []
  | cons {k : Str} {v : V} {vs : List (Str × V)} {d : D} {ds : List (Str × D)} : Dt K B H v d → Dfs K B H vs ds → Dfs K B H ((k, v) :: vs) ((k, d) :: ds)
end

section
variable {K : PySem.W.Frag} {B : Addr → Prop} {H H' : Hp}
mutual
theorem Dt.mono (e : Ex H H') : ∀ {v : V} {d : D}, Dt K B H v d → Dt K B H' v d
  | _, _, .non => .non
  | _, _, .bl b => .bl b
  | _, _, .int i => .int i
  | _, _, .str x => .str x
  | _, _, .tup h r => .tup (e _ _ h) (Dts.mono e r)
  | _, _, .ftup h n r => .ftup (e _ _ h) n (Dts.mono e r)
  | _, _, .fz h r => .fz (e _ _ h) (Dks.mono e r)
  | _, _, .lst h r => .lst (e _ _ h) (Dts.mono e r)
  | _, _, .dic h r => .dic (e.rd h) (Dks.mono e r)
  | _, _, .ins h r => .ins (e _ _ h) (Dfs.mono e r)
  | _, _, .box h => .box h
  | _, _, .scr h => .scr (e.sql h)
theorem Dts.mono (e : Ex H H') : ∀ {v : List V} {d : List D}, Dts K B H v d → Dts K B H' v d
  | _, _, .nil => .nil
  | _, _, .cons h r => .cons (Dt.mono e h) (Dts.mono e r)
theorem Dks.mono (e : Ex H H') : ∀ {v : List (Key × V)} {d : List (Key × D)}, Dks K B H v d → Dks K B H' v d
  | _, _, .nil => .nil
  | _, _, .cons h r => .cons (Dt.mono e h) (Dks.mono e r)
theorem Dfs.mono (e : Ex H H') : ∀ {v : List (Str × V)} {d : List (Str × D)}, Dfs K B H v d → Dfs K B H' v d
  | _, _, .nil => .nil
  | _, _, .cons h r => .cons (Dt.mono e h) (Dfs.mono e r)
end
theorem Dts.length : ∀ {vs : List V} {ds : List D}, Dts K B H vs ds → vs.length = ds.length
  | _, _, .nil => rfl
  | _, _, .cons _ r => congrArg Nat.succ (Dts.length r)
theorem Dts.get : ∀ {vs : List V} {ds : List D} {i : Nat} {d : D}, Dts K B H vs ds → ds[i]? = some d → ∃ v, vs[i]? = some v ∧ Dt K B H v d
  | _, _, _, _, .nil, h => by simp at h
  | _, _, 0, _, .cons h _, e => by
    simp only [List.getElem?_cons_zero, Option.some.injEq] at e
    subst e
    exact ⟨_, rfl, h⟩
  | _, _, i + 1, _, .cons _ r, e => by
    obtain ⟨v, h1, h2⟩ := Dts.get (i := i) r (by simpa using e)
    exact ⟨v, by simpa using h1, h2⟩
theorem Dts.getv : ∀ {vs : List V} {ds : List D} {i : Nat} {v : V}, Dts K B H vs ds → vs[i]? = some v → ∃ d, ds[i]? = some d ∧ Dt K B H v d
  | _, _, _, _, .nil, h => by simp at h
  | _, _, 0, _, .cons h _, e => by
    simp only [List.getElem?_cons_zero, Option.some.injEq] at e
    subst e
    exact ⟨_, rfl, h⟩
  | _, _, i + 1, _, .cons _ r, e => by
    obtain ⟨v, h1, h2⟩ := Dts.getv (i := i) r (by simpa using e)
    exact ⟨v, by simpa using h1, h2⟩
theorem Dts.app : ∀ {vs ws : List V} {ds es : List D}, Dts K B H vs ds → Dts K B H ws es → Dts K B H (vs ++ ws) (ds ++ es)
  | _, _, _, _, .nil, h => h
  | _, _, _, _, .cons h r, q => .cons h (Dts.app r q)
theorem Dts.one {v : V} {d : D} (h : Dt K B H v d) : Dts K B H [v] [d] := .cons h .nil
theorem Dts.take : ∀ {vs : List V} {ds : List D} (n : Nat), Dts K B H vs ds → Dts K B H (vs.take n) (ds.take n)
  | _, _, 0, _ => .nil
  | _, _, _ + 1, .nil => .nil
  | _, _, n + 1, .cons h r => .cons h (Dts.take n r)
theorem Dts.drop : ∀ {vs : List V} {ds : List D} (n : Nat), Dts K B H vs ds → Dts K B H (vs.drop n) (ds.drop n)
  | _, _, 0, r => r
  | _, _, _ + 1, .nil => .nil
  | _, _, n + 1, .cons _ r => Dts.drop n r
theorem Dts.set : ∀ {vs : List V} {ds : List D} (n : Nat) {v : V} {d : D}, Dts K B H vs ds → Dt K B H v d → Dts K B H (vs.set n v) (ds.set n d)
  | _, _, _, _, _, .nil, _ => .nil
  | _, _, 0, _, _, .cons _ r, q => .cons q r
  | _, _, n + 1, _, _, .cons h r, q => .cons h (Dts.set n r q)
theorem Dts.erase : ∀ {vs : List V} {ds : List D} (n : Nat), Dts K B H vs ds → Dts K B H (vs.eraseIdx n) (ds.eraseIdx n)
  | _, _, _, .nil => .nil
  | _, _, 0, .cons _ r => r
  | _, _, n + 1, .cons h r => .cons h (Dts.erase n r)
theorem Dts.rev {vs : List V} {ds : List D} (h : Dts K B H vs ds) : Dts K B H vs.reverse ds.reverse := by
  induction vs generalizing ds with
  | nil =>
    cases h
    exact .nil
  | cons v vs ih =>
    cases h with
    | cons h r =>
      rw [List.reverse_cons, List.reverse_cons]
      exact (ih r).app (.one h)
theorem Dks.length : ∀ {vs : List (Key × V)} {ds : List (Key × D)}, Dks K B H vs ds → vs.length = ds.length
  | _, _, .nil => rfl
  | _, _, .cons _ r => congrArg Nat.succ (Dks.length r)
theorem Dks.get {k : Key} : ∀ {vs : List (Key × V)} {ds : List (Key × D)}, Dks K B H vs ds → (valV vs k = none ∧ kget ds k = none) ∨ ∃ v d, valV vs k = some v ∧ kget ds k = some d ∧ Dt K B H v d
  | _, _, .nil => .inl ⟨rfl, rfl⟩
  | _, _, @Dks.cons _ _ _ k' v vs d ds h r => by
    by_cases e : k' = k
    · exact .inr ⟨v, d, by simp [valV, e], by simp [kget, e], h⟩
    · rcases Dks.get (k := k) r with ⟨h1, h2⟩ | ⟨v', d', h1, h2, h3⟩
      · refine .inl ⟨?_, ?_⟩
        · rw [valV_neg (p := (k', v)) e]; exact h1
        · simp only [kget, List.find?_cons, e, decide_false]
          exact h2
      · refine .inr ⟨v', d', ?_, ?_, h3⟩
        · rw [valV_neg (p := (k', v)) e]; exact h1
        · simp only [kget, List.find?_cons, e, decide_false]
          exact h2
theorem Dks.app : ∀ {vs ws : List (Key × V)} {ds es : List (Key × D)}, Dks K B H vs ds → Dks K B H ws es → Dks K B H (vs ++ ws) (ds ++ es)
  | _, _, _, _, .nil, h => h
  | _, _, _, _, .cons h r, q => .cons h (Dks.app r q)
theorem Dks.any {k : Key} : ∀ {vs : List (Key × V)} {ds : List (Key × D)}, Dks K B H vs ds → (vs.any fun kv => decide (kv.1 = k)) = ds.any fun kv => decide (kv.1 = k)
  | _, _, .nil => rfl
  | _, _, .cons _ r => by rw [List.any_cons, List.any_cons, Dks.any r]
theorem Dks.repl {k : Key} {v : V} {d : D} (q : Dt K B H v d) : ∀ {vs : List (Key × V)} {ds : List (Key × D)}, Dks K B H vs ds →
    Dks K B H (vs.map fun kv => if kv.1 = k then (kv.1, v) else kv) (ds.map fun kv => if kv.1 = k then (kv.1, d) else kv)
  | _, _, .nil => .nil
  | _, _, @Dks.cons _ _ _ k' v' vs d' ds h r => by
    rw [List.map_cons, List.map_cons]
    by_cases e : k' = k
    · rw [if_pos e, if_pos e]
      exact .cons q (Dks.repl q r)
    · rw [if_neg e, if_neg e]
      exact .cons h (Dks.repl q r)
theorem Dks.put {vs : List (Key × V)} {ds : List (Key × D)} (r : Dks K B H vs ds) (k : Key) {v : V} {d : D} (q : Dt K B H v d) : Dks K B H (putK vs k v) (kput ds k d) := by
  unfold putK kput
  rw [r.any (k := k)]
  split
  · exact r.repl q
  · exact r.app (.cons q .nil)
theorem Dfs.get {k : Str} : ∀ {vs : List (Str × V)} {ds : List (Str × D)} {d : D}, Dfs K B H vs ds → ds.lookup k = some d → ∃ v, vs.lookup k = some v ∧ Dt K B H v d
  | _, _, _, .nil, h => by cases h
  | _, _, d0, @Dfs.cons _ _ _ k' v vs d ds h r, e => by
    cases q : k == k' with
    | true =>
      have e1 : (match k == k' with | true => some d | false => ds.lookup k) = some d0 := e
      rw [q] at e1
      cases e1
      refine ⟨v, ?_, h⟩
      show (match k == k' with | true => some v | false => vs.lookup k) = some v
      rw [q]
    | false =>
      have e1 : (match k == k' with | true => some d | false => ds.lookup k) = some d0 := e
      rw [q] at e1
      obtain ⟨w, h1, h2⟩ := Dfs.get r e1
      refine ⟨w, ?_, h2⟩
      show (match k == k' with | true => some v | false => vs.lookup k) = some w
      rw [q]
      exact h1
theorem Dfs.none {k : Str} : ∀ {vs : List (Str × V)} {ds : List (Str × D)}, Dfs K B H vs ds → ds.lookup k = Option.none → vs.lookup k = Option.none
  | _, _, .nil, h => rfl
  | _, _, @Dfs.cons _ _ _ k' v vs d ds h r, e => by
    cases q : k == k' with
    | true =>
      have e1 : (match k == k' with | true => some d | false => ds.lookup k) = Option.none := e
      rw [q] at e1
      cases e1
    | false =>
      have e1 : (match k == k' with | true => some d | false => ds.lookup k) = Option.none := e
      rw [q] at e1
      show (match k == k' with | true => some v | false => vs.lookup k) = Option.none
      rw [q]
      exact Dfs.none r e1
theorem Dfs.length : ∀ {vs : List (Str × V)} {ds : List (Str × D)}, Dfs K B H vs ds → vs.length = ds.length
  | _, _, .nil => rfl
  | _, _, .cons _ r => congrArg Nat.succ (Dfs.length r)
def fput (f : Str) (d : D) : List (Str × D) → List (Str × D)
  | [] => [(f, d)]
  | (g, e) :: r => if g = f then (g, d) :: r else (g, e) :: fput f d r
theorem Dfs.put {f : Str} {v : V} {d : D} (q : Dt K B H v d) : ∀ {vs : List (Str × V)} {ds : List (Str × D)}, Dfs K B H vs ds → Dfs K B H (putF f v vs) (fput f d ds)
  | _, _, .nil => .cons q .nil
  | _, _, @Dfs.cons _ _ _ k' v' vs d' ds h r => by
    unfold putF fput
    by_cases e : k' = f
    · rw [if_pos e, if_pos e]
      exact .cons q r
    · rw [if_neg e, if_neg e]
      exact .cons h (Dfs.put q r)
end

/-! ### the region G of what is shared; what else stands (own things, boxes) -/
structure Gr (B : Addr → Prop) (G H G' H' : Hp) : Prop where
  b : Ex G H
  g : Ex G G'
  gh : Ex G' H'
  keep : ∀ a o, ¬ B a → H a = some o → H' a = some o
  box : ∀ a, B a → BoxAt H' a
  nob : ∀ a, B a → G' a = none
  own : ∀ a o, H a = some o → G a = none → G' a = none
structure GH (B : Addr → Prop) (G H : Hp) : Prop where
  gh : Ex G H
  box : ∀ a, B a → BoxAt H a
  nob : ∀ a, B a → G a = none
section
variable {B : Addr → Prop} {G H G1 H1 G2 H2 : Hp}
theorem GH.refl (h : GH B G H) : Gr B G H G H := ⟨h.gh, Ex.refl _, h.gh, fun _ _ _ e => e, h.box, h.nob, fun _ _ _ e => e⟩
theorem Gr.gH (h : Gr B G H G1 H1) : GH B G1 H1 := ⟨h.gh, h.box, h.nob⟩
theorem Gr.trans (a : Gr B G H G1 H1) (b : Gr B G1 H1 G2 H2) : Gr B G H G2 H2 := by
  refine ⟨a.b, a.g.trans b.g, b.gh, fun c o nb e => b.keep c o nb (a.keep c o nb e), b.box, b.nob, fun c o e n => ?_⟩
  by_cases hb : B c
  · exact b.nob c hb
  · exact b.own c o (a.keep c o hb e) (a.own c o e n)
/-- a new shared object -/
theorem Gr.new {p : Addr} {o : HO} (h : GH B G H) (hp : H p = none) : Gr B G H (upd G p o) (upd H p o) := by
  have hg : G p = none := h.gh.free hp
  refine ⟨h.gh, Ex.new hg, fun a u e => ?_, fun a u _ e => ?_, fun a hb => ?_, fun a hb => ?_, fun a u e n => ?_⟩
  · by_cases ha : a = p
    · subst ha
      rw [upd_same] at e ⊢
      exact e
    · rw [upd_ne ha] at e ⊢
      exact h.gh a u e
  · rw [upd_ne (ne_of_none e hp)]
    exact e
  · obtain ⟨i, j, k, e⟩ := h.box a hb
    exact ⟨i, j, k, by rw [upd_ne (ne_of_none e hp)]; exact e⟩
  · obtain ⟨i, j, k, e⟩ := h.box a hb
    rw [upd_ne (ne_of_none e hp)]
    exact h.nob a hb
  · rw [upd_ne (ne_of_none e hp)]
    exact n
/-- a new thing that is not shared -/
theorem Gr.newOwn {p : Addr} {o : HO} (h : GH B G H) (hp : H p = none) : Gr B G H G (upd H p o) := by
  have hg : G p = none := h.gh.free hp
  refine ⟨h.gh, Ex.refl _, fun a u e => ?_, fun a u _ e => ?_, fun a hb => ?_, h.nob, fun a u e n => n⟩
  · rw [upd_ne (ne_of_none e hg)]
    exact h.gh a u e
  · rw [upd_ne (ne_of_none e hp)]
    exact e
  · obtain ⟨i, j, k, e⟩ := h.box a hb
    exact ⟨i, j, k, by rw [upd_ne (ne_of_none e hp)]; exact e⟩
/-- a thing of one's own is changed -/
theorem Gr.chg {p : Addr} {o : HO} (h : Gr B G H G1 H1) (hp : H p = none) (hg : G1 p = none) (hb : ¬ B p) : Gr B G H G1 (upd H1 p o) := by
  refine ⟨h.b, h.g, fun a u e => ?_, fun a u nb e => ?_, fun a ha => ?_, h.nob, h.own⟩
  · rw [upd_ne (ne_of_none e hg)]
    exact h.gh a u e
  · rw [upd_ne (ne_of_none e hp)]
    exact h.keep a u nb e
  · obtain ⟨i, j, k, e⟩ := h.box a ha
    exact ⟨i, j, k, by rw [upd_ne (fun q => hb (by rw [← q]; exact ha))]; exact e⟩
/-- a thing of one's own is shared from now on -/
theorem Gr.share {p : Addr} {o : HO} (h : Gr B G H G1 H1) (hp : H p = none) (e1 : H1 p = some o) (hb : ¬ B p) : Gr B G H (upd G1 p o) H1 := by
  have hg : ∀ a u, G a = some u → (upd G1 p o) a = some u := fun a u e => by
    rw [upd_ne (ne_of_none e (h.b.free hp))]
    exact h.g a u e
  exact ⟨h.b, hg, fun a u e => by
    by_cases ha : a = p
    · subst ha
      rw [upd_same] at e
      rw [e1]
      exact e
    · rw [upd_ne ha] at e
      exact h.gh a u e, h.keep, h.box, fun a ha => by rw [upd_ne (fun q => hb (by rw [← q]; exact ha))]; exact h.nob a ha,
    fun a u e n => by rw [upd_ne (ne_of_none e hp)]; exact h.own a u e n⟩
end
end FS

/-! FsZ: zip of a tuple and a list: the iterators' kinds are told apart by a record. -/
namespace FS
open PySem L2
open PySem.Sem (wp)
/-- a kind of iterator: how it stands in a heap, what its things are, what its next step does -/
structure Ik (prog : Program) (w : World) where
  it : Heap → Addr → Addr → Nat → Prop
  sq : Heap → Addr → Array Value → Prop
  keepI : ∀ {h h' : Heap} {b i l : Addr} {k : Nat}, it h i l k → Heap.ExtBut b h h' → i ≠ b → it h' i l k
  keepS : ∀ {h h' : Heap} {b l : Addr} {xs : Array Value}, sq h l xs → Heap.ExtBut b h h' → l ≠ b → sq h' l xs
  same : ∀ {h h' : Heap} {i l : Addr} {k : Nat}, it h i l k → (∀ o, h.get? i = some o → h'.get? i = some o) → it h' i l k
  obj : ∀ {h : Heap} {i l : Addr} {k : Nat}, it h i l k → ∃ o, h.get? i = some o ∧ ∀ v, o.data ≠ .seq v
  item : ∀ {A : Around} {E : Value → Shared → Prop} {s : Shared} {i l : Addr} {k : Nat} {xs : Array Value} {x : Value} {Q : Value → Shared → Prop}, it s.heap i l k → sq s.heap l xs → xs[k]? = some x →
    (∀ h', it h' i l (k + 1) → Heap.SameBut i s.heap h' → Q x { s with heap := h' }) → wpAny (model prog w) A (Builtin.SmallTypes.nextOf (.ref i)) Q E s
  stop : ∀ {A : Around} {E : Value → Shared → Prop} {s : Shared} {i l : Addr} {k : Nat} {xs : Array Value} {Q : Value → Shared → Prop}, A.handled = none → it s.heap i l k → sq s.heap l xs → xs[k]? = none →
    (∀ h' e, Heap.ExtBut i s.heap h' → (∃ o, h'.get? e = some o ∧ o.cls = .type "StopIteration") → E (.ref e) { s with heap := h' }) → wpAny (model prog w) A (Builtin.SmallTypes.nextOf (.ref i)) Q E s
section
variable {prog : Program} {w : World}
def ikT : Ik prog w where
  it h i l k := h.IsTupleIter i l k
  sq h l xs := h.IsTuple l xs
  keepI x y z := x.extBut y z
  keepS x y z := x.extBut y z
  same x y := x.at y
  obj := fun ⟨o, h1, _, h3⟩ => ⟨o, h1, fun v e => by rw [h3] at e; cases e⟩
  item h1 h2 h3 h4 := RZ.nextOf_tuple_item h1 h2 h3 h4
  stop h0 h1 h2 h3 h4 := RZ.nextOf_tuple_end h0 h1 h2 h3 h4
def ikL : Ik prog w where
  it h i l k := h.IsListIter i l k
  sq h l xs := h.IsList l xs
  keepI x y z := x.extBut y z
  keepS x y z := x.extBut y z
  same x y := x.at y
  obj := fun ⟨o, h1, _, h3⟩ => ⟨o, h1, fun v e => by rw [h3] at e; cases e⟩
  item h1 h2 h3 h4 := wpAny_nextOf_list_item h1 h2 h3 h4
  stop h0 h1 h2 h3 h4 := wpAny_nextOf_list_end h0 h1 h2 h3 h4
variable {A : Around} {E : Value → Shared → Prop} {s : Shared}
abbrev KeepZ (h h' : Heap) (z TO i1 i2 : Addr) : Prop := ∀ c o, c ≠ z → c ≠ TO → c ≠ i1 → c ≠ i2 → h.get? c = some o → h'.get? c = some o
theorem zk_item (I J : Ik prog w) {z TI TO i1 i2 l1 l2 : Addr} {k1 k2 : Nat} {xs ys : Array Value} {x y a b : Value} {Q : Value → Shared → Prop} (D : ZipApart z TI TO i1 i2 l1 l2) (hz : IsZip s.heap z TI TO .none)
    (hTI : IsPair s.heap TI (.ref i1) (.ref i2)) (hTO : IsPair s.heap TO a b) (h1 : I.it s.heap i1 l1 k1) (h2 : J.it s.heap i2 l2 k2) (hl1 : I.sq s.heap l1 xs) (hl2 : J.sq s.heap l2 ys) (hx : xs[k1]? = some x) (hy : ys[k2]? = some y)
    (hQ : ∀ h', IsZip h' z TI TO (rawInt s.heap.objs.size) → IsPair h' TO x y → I.it h' i1 l1 (k1 + 1) → J.it h' i2 l2 (k2 + 1) → IsPair h' s.heap.objs.size x y → h'.objs.size = s.heap.objs.size + 1 → KeepZ s.heap h' z TO i1 i2 → Q (.ref s.heap.objs.size) { s with heap := h' }) :
    wpAny (model prog w) A (Builtin.«zip.__next__» ⟨[.ref z], []⟩) (fun fin s' => ∃ v, fin = .done (.ret v) ∧ Q v s') E s := by
  show wpAny _ _ (field (.ref z) 2 >>= _) _ _ _; refine wpAny_bind (wpAny_field hz rfl (x := .bool false) rfl ?_)
  show wpAny _ _ (field (.ref z) 3 >>= _) _ _ _; refine wpAny_bind (wpAny_field hz rfl (x := .ref TI) rfl ?_); refine wpAny_bind (wpAny_seqItems hTI rfl ?_)
  show wpAny _ _ (Builtin.SmallTypes.ownedTupleIsFree (.ref z) >>= _) _ _ _; refine wpAny_bind ?_; unfold Builtin.SmallTypes.ownedTupleIsFree
  refine wpAny_bind (wpAny_field hz rfl (x := .none) rfl (wpAny_pure ?_)); simp only [if_true]; refine wpAny_bind (wpAny_rule ?_)
  refine wpAny_bind (wpAny_field hz rfl (x := .ref TO) rfl ?_); refine wpAny_bind (wpAny_setField_rec hz (by simp) fun g1 z1 s1 => ?_)
  have z1' : IsZip g1 z TI TO .ellipsis := z1
  clear z1
  refine wpAny_bind ?_; simp only [List.zipIdx_cons, List.zipIdx_nil, List.forIn_cons, List.forIn_nil]; refine wpAny_bind (wpAny_bind (wpAny_onRaise ?_))
  show wpAny _ _ (Builtin.SmallTypes.nextOf (.ref i1) >>= _) _ _ _; refine wpAny_bind (I.item (I.keepI h1 s1.extBut D.i1z) (I.keepS hl1 s1.extBut D.l1z) hx fun g2 a2 s2 => wpAny_pure ?_)
  have t2 : IsPair g2 TO a b := s2.extBut _ _ D.TOi1 (s1.extBut _ _ D.TOz hTO)
  refine wpAny_bind (wpAny_seqItems t2 rfl ?_); refine wpAny_bind (wpAny_updateSeq_pair t2 fun g3 t3 s3 => ?_)
  have t3' : IsPair g3 TO x b := t3
  clear t3
  refine wpAny_bind (wpAny_letGo (wpAny_pure ?_)); refine wpAny_bind (wpAny_bind (wpAny_onRaise ?_))
  show wpAny _ _ (Builtin.SmallTypes.nextOf (.ref i2) >>= _) _ _ _
  refine wpAny_bind (J.item (J.keepI (J.keepI (J.keepI h2 s1.extBut D.i2z) s2.extBut D.i12.symm) s3.extBut D.TOi2.symm) (J.keepS (J.keepS (J.keepS hl2 s1.extBut D.l2z) s2.extBut D.l2i1) s3.extBut D.l2TO) hy fun g4 a4 s4 => wpAny_pure ?_)
  have t4 : IsPair g4 TO x b := s4.extBut _ _ D.TOi2 t3'
  refine wpAny_bind (wpAny_seqItems t4 rfl ?_); refine wpAny_bind (wpAny_updateSeq_pair t4 fun g5 t5 s5 => ?_)
  have t5' : IsPair g5 TO x y := t5
  clear t5
  refine wpAny_bind (wpAny_letGo (wpAny_pure (wpAny_pure ?_))); refine wpAny_bind (wpAny_seqItems t5' rfl ?_); refine wpAny_bind (wpAny_newTuple ?_)
  have e5 : g5.objs.size = s.heap.objs.size := by rw [s5.1, s4.1, s3.1, s2.1, s1.1]
  have z5 : IsZip g5 z TI TO .ellipsis := s5.extBut _ _ D.TOz.symm (s4.extBut _ _ D.i2z.symm (s3.extBut _ _ D.TOz.symm (s2.extBut _ _ D.i1z.symm z1')))
  have k5 : KeepZ s.heap g5 z TO i1 i2 := fun c o c1 c2 c3 c4 e => s5.extBut _ _ c2 (s4.extBut _ _ c4 (s3.extBut _ _ c2 (s2.extBut _ _ c3 (s1.extBut _ _ c1 e))))
  have a5 : I.it g5 i1 l1 (k1 + 1) := I.keepI (I.keepI (I.keepI a2 s3.extBut D.TOi1.symm) s4.extBut D.i12) s5.extBut D.TOi1.symm
  have b5 : J.it g5 i2 l2 (k2 + 1) := J.keepI a4 s5.extBut D.TOi2.symm
  have lz : z < g5.objs.size := Heap.lt_size z5
  show wpAny _ _ (Builtin.SmallTypes.ownedTupleHandOut (.ref z) (.ref g5.objs.size) >>= _) _ _ _; refine wpAny_bind ?_; unfold Builtin.SmallTypes.ownedTupleHandOut
  have z6 : IsZip (g5.push { cls := .type "tuple", data := .seq #[x, y] }) z TI TO .ellipsis := Heap.get?_push_of_some _ z5
  refine wpAny_bind (wpAny_setField_rec z6 (by simp) fun g7 z7 s7 => ?_)
  have z7' : IsZip g7 z TI TO (rawInt g5.objs.size) := z7
  clear z7
  refine wpAny_setField_rec z7' (by simp) fun g8 z8 s8 => ?_
  have z8' : IsZip g8 z TI TO (rawInt g5.objs.size) := z8
  have up : ∀ c o, c ≠ z → g5.get? c = some o → g8.get? c = some o := fun c o c1 e => s8.extBut _ _ c1 (s7.extBut _ _ c1 (Heap.get?_push_of_some _ e))
  have n8 : IsPair g8 g5.objs.size x y := s8.extBut _ _ (Nat.ne_of_gt lz) (s7.extBut _ _ (Nat.ne_of_gt lz) (Heap.get?_push_size _ rfl))
  have e8 : g8.objs.size = g5.objs.size + 1 := by rw [s8.1, s7.1, Heap.size_push]
  rw [e5] at z8' n8 e8
  refine wpAny_pure ⟨_, rfl, ?_⟩
  show Q (.ref g5.objs.size) _
  rw [e5]
  exact hQ g8 z8' (up _ _ D.TOz t5') (I.same a5 fun o e => up _ o D.i1z e) (J.same b5 fun o e => up _ o D.i2z e) n8 e8 fun c o c1 c2 c3 c4 e => up c o c1 (k5 c o c1 c2 c3 c4 e)
theorem zk_end (I J : Ik prog w) {z TI TO i1 i2 l1 l2 : Addr} {k1 k2 : Nat} {xs ys : Array Value} {a b : Value} {Q : Fin → Shared → Prop} (hh : A.handled = none) (D : ZipApart z TI TO i1 i2 l1 l2) (hz : IsZip s.heap z TI TO .none)
    (hTI : IsPair s.heap TI (.ref i1) (.ref i2)) (hTO : IsPair s.heap TO a b) (h1 : I.it s.heap i1 l1 k1) (h2 : J.it s.heap i2 l2 k2) (hl1 : I.sq s.heap l1 xs) (hl2 : J.sq s.heap l2 ys) (no : xs[k1]? = none ∨ ys[k2]? = none)
    (hE : ∀ h' e, KeepZ s.heap h' z TO i1 i2 → (∃ o, h'.get? e = some o ∧ o.cls = .type "StopIteration") → E (.ref e) { s with heap := h' }) : wpAny (model prog w) A (Builtin.«zip.__next__» ⟨[.ref z], []⟩) Q E s := by
  show wpAny _ _ (field (.ref z) 2 >>= _) _ _ _; refine wpAny_bind (wpAny_field hz rfl (x := .bool false) rfl ?_)
  show wpAny _ _ (field (.ref z) 3 >>= _) _ _ _; refine wpAny_bind (wpAny_field hz rfl (x := .ref TI) rfl ?_); refine wpAny_bind (wpAny_seqItems hTI rfl ?_)
  show wpAny _ _ (Builtin.SmallTypes.ownedTupleIsFree (.ref z) >>= _) _ _ _; refine wpAny_bind ?_; unfold Builtin.SmallTypes.ownedTupleIsFree
  refine wpAny_bind (wpAny_field hz rfl (x := .none) rfl (wpAny_pure ?_)); simp only [if_true]; refine wpAny_bind (wpAny_rule ?_)
  refine wpAny_bind (wpAny_field hz rfl (x := .ref TO) rfl ?_); refine wpAny_bind (wpAny_setField_rec hz (by simp) fun g1 z1 s1 => ?_)
  have z1' : IsZip g1 z TI TO .ellipsis := z1
  clear z1
  refine wpAny_bind ?_; simp only [List.zipIdx_cons, List.zipIdx_nil, List.forIn_cons, List.forIn_nil]; refine wpAny_bind (wpAny_bind (wpAny_onRaise ?_))
  show wpAny _ _ (Builtin.SmallTypes.nextOf (.ref i1) >>= _) _ _ _
  cases hx : xs[k1]? with
  | none =>
    refine wpAny_bind (I.stop hh (I.keepI h1 s1.extBut D.i1z) (I.keepS hl1 s1.extBut D.l1z) hx fun g2 e s2 he => ?_)
    obtain ⟨oe, ge, ce⟩ := he
    have z2 : IsZip g2 z TI TO .ellipsis := s2 _ _ D.i1z.symm z1'
    have ne : e ≠ z := fun q => by
      subst q
      rw [z2] at ge
      cases ge
      simp at ce
    exact wpAny_setField_rec z2 (by simp) fun g3 _ s3 => hE g3 e (fun c o c1 _ c3 _ q => s3.extBut _ _ c1 (s2 _ _ c3 (s1.extBut _ _ c1 q))) ⟨oe, s3.extBut _ _ ne ge, ce⟩
  | some x =>
    have hy : ys[k2]? = none := no.elim (fun q => by rw [hx] at q; cases q) id
    refine wpAny_bind (I.item (I.keepI h1 s1.extBut D.i1z) (I.keepS hl1 s1.extBut D.l1z) hx fun g2 a2 s2 => wpAny_pure ?_)
    have t2 : IsPair g2 TO a b := s2.extBut _ _ D.TOi1 (s1.extBut _ _ D.TOz hTO)
    refine wpAny_bind (wpAny_seqItems t2 rfl ?_); refine wpAny_bind (wpAny_updateSeq_pair t2 fun g3 t3 s3 => ?_)
    refine wpAny_bind (wpAny_letGo (wpAny_pure ?_)); refine wpAny_bind (wpAny_bind (wpAny_onRaise ?_))
    show wpAny _ _ (Builtin.SmallTypes.nextOf (.ref i2) >>= _) _ _ _
    refine wpAny_bind (J.stop hh (J.keepI (J.keepI (J.keepI h2 s1.extBut D.i2z) s2.extBut D.i12.symm) s3.extBut D.TOi2.symm) (J.keepS (J.keepS (J.keepS hl2 s1.extBut D.l2z) s2.extBut D.l2i1) s3.extBut D.l2TO) hy fun g4 e s4 he => ?_)
    obtain ⟨oe, ge, ce⟩ := he
    have z4 : IsZip g4 z TI TO .ellipsis := s4 _ _ D.i2z.symm (s3.extBut _ _ D.TOz.symm (s2.extBut _ _ D.i1z.symm z1'))
    have ne : e ≠ z := fun q => by
      subst q
      rw [z4] at ge
      cases ge
      simp at ce
    exact wpAny_setField_rec z4 (by simp) fun g5 _ s5 => hE g5 e (fun c o c1 c2 c3 c4 q => s5.extBut _ _ c1 (s4 _ _ c4 (s3.extBut _ _ c2 (s2.extBut _ _ c3 (s1.extBut _ _ c1 q))))) ⟨oe, s5.extBut _ _ ne ge, ce⟩
theorem zk_next (I J : Ik prog w) {z TI TO i1 i2 l1 l2 : Addr} {k1 k2 : Nat} {xs ys : Array Value} {x y a b : Value} {Q : Option Value → Shared → Prop} (D : ZipApart z TI TO i1 i2 l1 l2) (hz : IsZip s.heap z TI TO .none)
    (hTI : IsPair s.heap TI (.ref i1) (.ref i2)) (hTO : IsPair s.heap TO a b) (h1 : I.it s.heap i1 l1 k1) (h2 : J.it s.heap i2 l2 k2) (hl1 : I.sq s.heap l1 xs) (hl2 : J.sq s.heap l2 ys) (hx : xs[k1]? = some x) (hy : ys[k2]? = some y)
    (hQ : ∀ h', IsZip h' z TI TO (rawInt s.heap.objs.size) → IsPair h' TO x y → I.it h' i1 l1 (k1 + 1) → J.it h' i2 l2 (k2 + 1) → IsPair h' s.heap.objs.size x y → h'.objs.size = s.heap.objs.size + 1 → KeepZ s.heap h' z TO i1 i2 → Q (some (.ref s.heap.objs.size)) { s with heap := h' }) :
    wpAny (model prog w) A (pyNext (.ref z)) Q E s := by
  have ty : s.TypeIs (.ref z) "zip" := ⟨_, hz, rfl⟩
  unfold pyNext
  exact wpAny_bind (wpAny_attempt (wpAny_callSpecial?_slot (name := Str.ofString "__next__") ty F.slot_zip_next (wpAny_call_entry F.slot_zip_next ty F.entry_zip_next (zk_item I J D hz hTI hTO h1 h2 hl1 hl2 hx hy fun h' a1 a2 a3 a4 a5 a6 a7 => wpAny_pure (hQ h' a1 a2 a3 a4 a5 a6 a7)) (F.args_zip_next_1 _))))
theorem zk_last (I J : Ik prog w) {z TI TO i1 i2 l1 l2 : Addr} {k1 k2 : Nat} {xs ys : Array Value} {a b : Value} {Q : Option Value → Shared → Prop} (hh : A.handled = none) (D : ZipApart z TI TO i1 i2 l1 l2) (hz : IsZip s.heap z TI TO .none)
    (hTI : IsPair s.heap TI (.ref i1) (.ref i2)) (hTO : IsPair s.heap TO a b) (h1 : I.it s.heap i1 l1 k1) (h2 : J.it s.heap i2 l2 k2) (hl1 : I.sq s.heap l1 xs) (hl2 : J.sq s.heap l2 ys) (no : xs[k1]? = none ∨ ys[k2]? = none)
    (hQ : ∀ h', KeepZ s.heap h' z TO i1 i2 → Q none { s with heap := h' }) : wpAny (model prog w) A (pyNext (.ref z)) Q E s := by
  have ty : s.TypeIs (.ref z) "zip" := ⟨_, hz, rfl⟩
  unfold pyNext
  refine wpAny_bind (wpAny_attempt (wpAny_callSpecial?_slot (name := Str.ofString "__next__") ty F.slot_zip_next (wpAny_call_entry F.slot_zip_next ty F.entry_zip_next (zk_end I J hh D hz hTI hTO h1 h2 hl1 hl2 no fun h' e hk ⟨o, ho, hc⟩ => ?_) (F.args_zip_next_1 _))))
  exact wpAny_bind (wpAny_isInstance (T := "StopIteration") (b := true) ⟨o, ho, hc⟩ isSubtype_stop (wpAny_pure (hQ _ hk)))
/-! ### zip(a tuple, a list) made -/
abbrev zm1 (h : Heap) (a : Addr) : Heap := h.push ⟨.type "tuple_iterator", none, .fields #[.ref a, .int 0 0], #[]⟩
abbrev zm2 (h : Heap) (a b : Addr) : Heap := (zm1 h a).push ⟨.type "list_iterator", none, .fields #[.ref b, .int 0 0], #[]⟩
abbrev zm3 (h : Heap) (a b : Addr) : Heap := (zm2 h a b).push ⟨.type "tuple", none, .seq #[.ref h.objs.size, .ref (zm1 h a).objs.size], #[]⟩
abbrev zm4 (h : Heap) (a b : Addr) : Heap := (zm3 h a b).push ⟨.type "tuple", none, .seq #[.none, .none], #[]⟩
abbrev zm5 (h : Heap) (a b : Addr) : Heap := (zm4 h a b).push ⟨.type "zip", none, .fields #[.none, .bool false, .bool false, .ref (zm2 h a b).objs.size, .ref (zm3 h a b).objs.size], #[]⟩
theorem meets_zipM (l1 l2 : Addr) (xs ys : Array Value) : Meets (Builtin.«zip.__new__» ⟨[.type "zip", .ref l1, .ref l2], []⟩) (fun _ R s => s.heap.IsTuple l1 xs ∧ s.heap.IsList l2 ys ∧ R (.ok (.ret (.ref (zm4 s.heap l1 l2).objs.size))) { s with heap := zm5 s.heap l1 l2 }) :=
  .of_wp fun prog w A R s h => by
    obtain ⟨hp, g, d, tk, os⟩ := s; obtain ⟨hl1, hl2, h⟩ := h
    have sz := sub_zip
    have u1 : Heap.IsTuple (Shared.heap ⟨hp, g, d, tk, os⟩) l1 xs := hl1
    have u2 : Heap.IsList (Shared.heap ⟨zm1 hp l1, g, d, tk, os⟩) l2 ys := Heap.IsList.push hl2 _
    wp_walk using wpAny_pyIter_tuple u1, wpAny_pyIter_list u2
    exact ⟨_, rfl, h⟩
theorem call_zipM {l1 l2 : Addr} {xs ys : Array Value} {Q : Value → Shared → Prop} (hl1 : s.heap.IsTuple l1 xs) (hl2 : s.heap.IsList l2 ys)
    (h : ∀ h', IsZip h' (s.heap.objs.size + 4) (s.heap.objs.size + 2) (s.heap.objs.size + 3) .none → IsPair h' (s.heap.objs.size + 2) (.ref s.heap.objs.size) (.ref (s.heap.objs.size + 1)) → IsPair h' (s.heap.objs.size + 3) .none .none →
      h'.IsTupleIter s.heap.objs.size l1 0 → h'.IsListIter (s.heap.objs.size + 1) l2 0 → (∀ c o, s.heap.get? c = some o → h'.get? c = some o) → Q (.ref (s.heap.objs.size + 4)) { s with heap := h' }) :
    wpAny (model prog w) A (call (.type "zip") [.ref l1, .ref l2]) Q E s := by
  refine callType_new F.called_zip (by decide) (F.typeCall_zip_2 _ _) (F.newCall_zip_2 _ _) (fun obj => F.args_object_init_3 obj _ _) F.entry_zip_new (meets_zipM l1 l2 xs ys) ⟨hl1, hl2, ?_⟩
  have n1 : (zm1 s.heap l1).objs.size = s.heap.objs.size + 1 := Heap.size_push ..
  have n2 : (zm2 s.heap l1 l2).objs.size = s.heap.objs.size + 2 := by rw [Heap.size_push, n1]
  have n3 : (zm3 s.heap l1 l2).objs.size = s.heap.objs.size + 3 := by rw [Heap.size_push, n2]
  have n4 : (zm4 s.heap l1 l2).objs.size = s.heap.objs.size + 4 := by rw [Heap.size_push, n3]
  have q5 : (zm5 s.heap l1 l2).get? (zm4 s.heap l1 l2).objs.size = some _ := Heap.get?_push_size _ rfl
  have q4 : (zm5 s.heap l1 l2).get? (zm3 s.heap l1 l2).objs.size = some _ := Heap.get?_push_of_some _ (Heap.get?_push_size _ rfl)
  have q3 : (zm5 s.heap l1 l2).get? (zm2 s.heap l1 l2).objs.size = some _ := Heap.get?_push_of_some _ (Heap.get?_push_of_some _ (Heap.get?_push_size _ rfl))
  have q2 : (zm5 s.heap l1 l2).get? (zm1 s.heap l1).objs.size = some _ := Heap.get?_push_of_some _ (Heap.get?_push_of_some _ (Heap.get?_push_of_some _ (Heap.get?_push_size _ rfl)))
  have q1 : (zm5 s.heap l1 l2).get? s.heap.objs.size = some _ := Heap.get?_push_of_some _ (Heap.get?_push_of_some _ (Heap.get?_push_of_some _ (Heap.get?_push_of_some _ (Heap.get?_push_size _ rfl))))
  show _ ∧ _
  rw [n2, n3, n4] at q5
  rw [n1, n2] at q3
  rw [n3] at q4
  rw [n1] at q2
  rw [n4]
  exact ⟨⟨_, q5, rfl⟩, h _ q5 q3 q4 ⟨_, q1, rfl, rfl⟩ ⟨_, q2, rfl, rfl⟩ fun c o x => Heap.get?_push_of_some _ (Heap.get?_push_of_some _ (Heap.get?_push_of_some _ (Heap.get?_push_of_some _ (Heap.get?_push_of_some _ x))))⟩
end
/-! ### the loop -/
/-- the tuple at a and the list at b as they stand at each turn -/
def ItzM (K : PySem.W.Frag) (a b : Addr) : It :=
  ⟨fun i H => ∃ (xs ys : List V) (x y : V), SqT K H a xs ∧ SqL K H b ys ∧ xs[i]? = some x ∧ ys[i]? = some y,
    fun i H v H' => ∃ T x y, v = .ref T ∧ H T = none ∧ H' = upd H T (.tup [x, y]) ∧ (∀ xs, SqT K H a xs → xs[i]? = some x) ∧ ∀ ys, SqL K H b ys → ys[i]? = some y,
    fun i H => ∃ xs ys : List V, SqT K H a xs ∧ SqL K H b ys ∧ (xs.length ≤ i ∨ ys.length ≤ i)⟩
theorem mem5 {c z TI TO i1 i2 : Addr} (h : c ∈ [z, TI, TO, i1, i2]) : c = z ∨ c = TI ∨ c = TO ∨ c = i1 ∨ c = i2 := by simpa using h
theorem turn_zipM {P : Program} {w : World} {K : PySem.W.Frag} {elts : List Expr} {kk : Nat} {tpos : Pos} {a b z TI TO i1 i2 : Addr} (D : ZipApart z TI TO i1 i2 a b) :
    Turn P w K (.Tuple elts kk tpos) (ItzM K a b) [z, TI, TO, i1, i2] z (fun i h => IsZip h z TI TO .none ∧ IsPair h TI (.ref i1) (.ref i2) ∧ (∃ x y, IsPair h TO x y) ∧ h.IsTupleIter i1 a i ∧ h.IsListIter i2 b i) where
  mem := by simp
  obj := fun i h ⟨q1, q2, ⟨x, y, q3⟩, ⟨o1, e1, _, d1⟩, ⟨o2, e2, _, d2⟩⟩ c hc => by
    rcases mem5 hc with q | q | q | q | q <;> subst q
    · exact ⟨_, q1, fun v q => nomatch q⟩
    · exact ⟨_, q2, fun v q => nomatch q⟩
    · exact ⟨_, q3, fun v q => nomatch q⟩
    · exact ⟨o1, e1, fun v q => by rw [d1] at q; cases q⟩
    · exact ⟨o2, e2, fun v q => by rw [d2] at q; cases q⟩
  keep := fun i h h' ⟨q1, q2, ⟨x, y, q3⟩, h1, h2⟩ k => ⟨k z (by simp) _ q1, k TI (by simp) _ q2, ⟨x, y, k TO (by simp) _ q3⟩, h1.at fun o q => k i1 (by simp) o q, h2.at fun o q => k i2 (by simp) o q⟩
  item := by
    rintro X rfl rfl rfl hc i pins s σ H E I hf ⟨q1, q2, ⟨x0, y0, q3⟩, h1, h2⟩ ⟨xs, ys, x, y, sx, sy, hx, hy⟩
    obtain ⟨its, rv, p, _⟩ := I.tuple sx
    obtain ⟨its2, rv2, p2, _⟩ := I.list sy
    obtain ⟨u, hu, ru⟩ := rv.get hx
    obtain ⟨u2, hu2, ru2⟩ := rv2.get hy
    have zl : z < s.heap.objs.size := Heap.lt_size q1
    refine zk_next ikT ikL D q1 q2 q3 h1 h2 p p2.isList (x := u) (y := u2) (by simpa using hu) (by simpa using hu2) fun h' z' TO' a1 a2 hT hsz hk => ?_
    refine ⟨_, rfl, wpAny_letOwnedTupleGo_zip (s := { s with heap := h' }) z' fun g zg sb => ?_⟩
    have gT : g.get? s.heap.objs.size = some { cls := .type "tuple", data := .seq #[u, u2] } := (sb.2 _ (Nat.ne_of_gt zl)).trans hT
    have fr : ObjOk X.prog X.w (upd H s.heap.objs.size (.tup [x, y])) g s.heap.objs.size (.tup [x, y]) := ⟨by show 2 ≤ sizeLine; decide, [u, u2], .cons ru (.cons ru2 .nil), ⟨_, gT, rfl, _, rfl⟩⟩
    have I1 : Inv X pins σ (upd H s.heap.objs.size (.tup [x, y])) { s with heap := g } := I.turnedNew (t' := s.toks) (ch := [z, TI, TO, i1, i2]) (fun c o hb q =>
      (sb.2 c (fun e => hb (by simp [e]))).trans (hk c o (fun e => hb (by simp [e])) (fun e => hb (by simp [e])) (fun e => hb (by simp [e])) (fun e => hb (by simp [e])) q)) hf (Nat.le_refl _) fr
    refine ⟨.ref s.heap.objs.size, _, I1, rfl, ⟨_, x, y, rfl, I.hok.fresh (Nat.le_refl _), rfl, fun l hl => by rw [I.tuple_inj hl sx]; exact hx, fun l hl => by rw [I.list_inj hl sy]; exact hy⟩, ⟨zg, ?_, ⟨u, u2, ?_⟩, ?_, ?_⟩, fun c hcm => ?_⟩
    · exact (sb.2 _ D.TIz).trans (hk _ _ D.TIz D.TITO D.TIi1 D.TIi2 q2)
    · exact (sb.2 _ D.TOz).trans TO'
    · exact a1.at fun o q => (sb.2 _ D.i1z).trans q
    · exact a2.at fun o q => (sb.2 _ D.i2z).trans q
    · have lt : c < s.heap.objs.size := by
        rcases mem5 hcm with q | q | q | q | q <;> subst q
        · exact zl
        · exact Heap.lt_size q2
        · exact Heap.lt_size q3
        · exact Heap.lt_size h1.choose_spec.1
        · exact Heap.lt_size h2.choose_spec.1
      rw [upd_ne (Nat.ne_of_lt lt)]
      exact (hf c hcm).1
  done := by
    rintro X rfl rfl rfl hc i pins s σ H E I hf ⟨q1, q2, ⟨x0, y0, q3⟩, h1, h2⟩ ⟨xs, ys, sx, sy, no⟩
    obtain ⟨its, rv, p, _⟩ := I.tuple sx
    obtain ⟨its2, rv2, p2, _⟩ := I.list sy
    have m1 := rv.length
    have m2 := rv2.length
    have stop : its.toArray[i]? = none ∨ its2.toArray[i]? = none := no.imp (fun q => by simp; omega) fun q => by simp; omega
    exact zk_last ikT ikL (I.ok.hd hc) D q1 q2 q3 h1 h2 p p2.isList stop fun h' hk => ⟨rfl, I.turnedL (t' := s.toks) (ch := [z, TI, TO, i1, i2]) (fun c o hb q =>
      hk c o (fun e => hb (by simp [e])) (fun e => hb (by simp [e])) (fun e => hb (by simp [e])) (fun e => hb (by simp [e])) q) hf⟩
  self := fun A i s Q E st h => wpAny_pyIter_zip st.1 h
/-- zip of two tuples, or of a tuple and a list -/
def iZipM (K : PySem.W.Frag) (ta : TA) : TI := fun σ H R => ta σ H fun vs H1 => ∃ a b xs ys, vs = [.ref a, .ref b] ∧ ((SqT K H1 a xs ∧ SqL K H1 b ys ∧ R (ItzM K a b) H1) ∨ (SqT K H1 a xs ∧ SqT K H1 b ys ∧ R (RZ.ItzT K a b) H1))
theorem pi_zipM {X : Cx} {e e2 : Expr} {ta : TA} {p pos tpos : Pos} {elts : List Expr} {kk : Nat} (hg : Gl X "zip") (hm : X.mg "zip" = none) (ha : PA X [e, e2] ta)
    (hs : starEach [e, e2] X.env = (false, eval e X.env) :: starEach [e2] X.env := by rfl) (hpl : (backTo pos (starEach [e2] X.env)).any (·.1) = false := by rfl) : PI X (.Tuple elts kk tpos) (.Call (.Name "zip" p) [e, e2] [] pos) (iZipM X.K ta) := by
  refine ⟨fun pins s σ H R I h => PyProof.Rows.Call_ (ld_blt I hg hm PyProof.Rows.boot_zip (PyProof.Rows.callWith_type1 (thn (ha.run pos pins s σ H _ I h) fun us s1 ⟨vs, H1, I1, r1, a, b, xs, ys, ex, q1⟩ => ?_) hs hpl))⟩
  subst ex
  cases r1 with
  | cons r rr =>
    cases rr with
    | cons r' rr =>
      cases rr
      cases r
      cases r'
      have fp : ∀ c, c ∈ [s1.heap.objs.size + 4, s1.heap.objs.size + 2, s1.heap.objs.size + 3, s1.heap.objs.size, s1.heap.objs.size + 1] → FpOk X pins H1 c := fun c hcm => by
        have le : s1.heap.objs.size ≤ c := by rcases mem5 hcm with q | q | q | q | q <;> (rw [q]; first | exact Nat.le_add_right _ _ | exact Nat.le_refl _)
        exact I1.fpOk le (I1.hok.fresh le)
      rcases q1 with ⟨sx, sy, q⟩ | ⟨sx, sy, q⟩
      · obtain ⟨its, rv, p1, _⟩ := I1.tuple sx
        obtain ⟨its2, rv2, p2, _⟩ := I1.list sy
        refine call_zipM (show s1.heap.IsTuple a its.toArray from p1) p2.isList fun h' z1 z2 z3 j1 j2 hk => wpAny_pyIter_zip z1 ?_
        have lt1 : a < s1.heap.objs.size := Heap.lt_size (id p1).choose_spec.1
        exact ⟨_, _, _, _, H1, rfl, I1.kept (t' := s1.toks) hk, turn_zipM (PySem.W.ktu_apart s1.heap.objs.size a b lt1 p2.lt), ⟨z1, z2, ⟨_, _, z3⟩, j1, j2⟩, fp, q⟩
      · obtain ⟨its, rv, p1, _⟩ := I1.tuple sx
        obtain ⟨its2, rv2, p2, _⟩ := I1.tuple sy
        refine RZ.call_zipT (show s1.heap.IsTuple a its.toArray from p1) (show s1.heap.IsTuple b its2.toArray from p2) fun h' z1 z2 z3 j1 j2 _ hk => wpAny_pyIter_zip z1 ?_
        have lt1 : a < s1.heap.objs.size := Heap.lt_size (id p1).choose_spec.1
        have lt2 : b < s1.heap.objs.size := Heap.lt_size (id p2).choose_spec.1
        exact ⟨_, _, _, _, H1, rfl, I1.kept (t' := s1.toks) hk, RZ.turn_zipT (PySem.W.ktu_apart s1.heap.objs.size a b lt1 lt2), ⟨z1, z2, ⟨_, _, z3⟩, j1, j2⟩, fp, q⟩
end FS

/-! FsB: slots over data (EnvS), what an expression, a test, an argument list, a statement wants (Wp, WpT, WpA, WpS). -/
namespace FS
open PySem L2

/-- a thing of the def's own, not yet shared -/
inductive OD where
  | lst (ds : List D) | dic (kvs : List (Key × D)) | acc (R : Addr → Hp → HO → Prop) | ins (x C : Addr) (fs : List (Str × D))
/-- what a slot holds -/
inductive Sl where
  | no | d (d : D) | own (o : OD)
abbrev Ro := List Sl

/-- what an own thing is in the heap; H0: the heap at the def's entry -/
def OwnAt (K : PySem.W.Frag) (B : Addr → Prop) (H0 G H : Hp) (l : Addr) : OD → Prop
  | .lst ds => H0 l = none ∧ ∃ vs, H l = some (.lst vs) ∧ Dts K B G vs ds
  | .dic kvs => H0 l = none ∧ ∃ vs, H l = some (.dK vs) ∧ Dks K B G vs kvs
  | .acc R => H0 l = none ∧ ∃ u, H l = some u ∧ (∀ y, u ≠ .own y) ∧ R l G u ∧ ∀ G G' : Hp, Ex G G' → R l G u → R l G' u
  | .ins x C fs => l = x ∧ H0 l = none ∧ ∃ dx vs, H l = some (.ins C dx vs) ∧ H dx = some (.own l) ∧ G dx = none ∧ H0 dx = none ∧ ¬ B dx ∧ Dfs K B G vs fs
structure EnvS (K : PySem.W.Frag) (B : Addr → Prop) (H0 G H : Hp) (σ : St) (ρ : Ro) : Prop where
  gh : GH B G H
  len : σ.length = ρ.length
  at_ : ∀ (i : Nat) (d : D), ρ[i]? = some (.d d) → ∃ v, σ[i]? = some (some v) ∧ Dt K B G v d
  ow : ∀ (i : Nat) (o : OD), ρ[i]? = some (.own o) → ∃ l, σ[i]? = some (some (.ref l)) ∧ G l = none ∧ ¬ B l ∧ OwnAt K B H0 G H l o
  apart : ∀ (i j : Nat) (l : Addr) (o o' : OD), i ≠ j → ρ[i]? = some (.own o) → ρ[j]? = some (.own o') → σ[i]? = some (some (.ref l)) → σ[j]? = some (some (.ref l)) → False

section
variable {K : PySem.W.Frag} {B : Addr → Prop} {H0 G H G' H' : Hp} {σ : St} {ρ : Ro}
theorem OwnAt.there {l : Addr} {o : OD} (h : OwnAt K B H0 G H l o) : ∃ u, H l = some u := by
  cases o with
  | lst ds => obtain ⟨_, vs, e, _⟩ := h; exact ⟨_, e⟩
  | dic ds => obtain ⟨_, vs, e, _⟩ := h; exact ⟨_, e⟩
  | acc R => obtain ⟨_, u, e, _⟩ := h; exact ⟨u, e⟩
  | ins x C fs => obtain ⟨_, _, dx, vs, e, _⟩ := h; exact ⟨_, e⟩
theorem OwnAt.new {l : Addr} {o : OD} (h : OwnAt K B H0 G H l o) : H0 l = none := by
  cases o with
  | lst ds => exact h.1
  | dic ds => exact h.1
  | acc R => exact h.1
  | ins x C fs => exact h.2.1
theorem OwnAt.step {l : Addr} {o : OD} (hb : ¬ B l) (g : Gr B G H G' H') (h : OwnAt K B H0 G H l o) : OwnAt K B H0 G' H' l o := by
  cases o with
  | lst ds => obtain ⟨n, vs, e, r⟩ := h; exact ⟨n, vs, g.keep _ _ hb e, r.mono g.g⟩
  | dic ds => obtain ⟨n, vs, e, r⟩ := h; exact ⟨n, vs, g.keep _ _ hb e, r.mono g.g⟩
  | acc R =>
    obtain ⟨n, u, e, no, r, mo⟩ := h
    exact ⟨n, u, g.keep _ _ hb e, no, mo _ _ g.g r, mo⟩
  | ins x C fs =>
    obtain ⟨e0, n, dx, vs, e, d, gd, nd, bd, r⟩ := h
    exact ⟨e0, n, dx, vs, g.keep _ _ hb e, g.keep _ _ bd d, g.own _ _ d gd, nd, bd, r.mono g.g⟩
theorem EnvS.step (E : EnvS K B H0 G H σ ρ) (g : Gr B G H G' H') : EnvS K B H0 G' H' σ ρ := by
  refine ⟨g.gH, E.len, fun i d h => ?_, fun i o h => ?_, E.apart⟩
  · obtain ⟨v, e, r⟩ := E.at_ i d h
    exact ⟨v, e, r.mono g.g⟩
  · obtain ⟨l, e, gl, nb, r⟩ := E.ow i o h
    obtain ⟨u, hu⟩ := r.there
    exact ⟨l, e, g.own _ _ hu gl, nb, r.step nb g⟩
theorem EnvS.forget (E : EnvS K B H0 G H σ ρ) (i : Nat) (x : Option V) : EnvS K B H0 G H (σ.set i x) (ρ.set i .no) := by
  refine ⟨E.gh, by rw [List.length_set, List.length_set]; exact E.len, fun j d h => ?_, fun j o h => ?_, fun j k l o o' ne h1 h2 e1 e2 => ?_⟩
  · by_cases hj : i = j
    · subst hj
      rw [List.getElem?_set] at h
      simp at h
    · rw [List.getElem?_set_ne hj] at h ⊢
      exact E.at_ j d h
  · by_cases hj : i = j
    · subst hj
      rw [List.getElem?_set] at h
      simp at h
    · rw [List.getElem?_set_ne hj] at h ⊢
      exact E.ow j o h
  · have nj : i ≠ j := fun q => by
      subst q
      rw [List.getElem?_set] at h1
      simp at h1
    have nk : i ≠ k := fun q => by
      subst q
      rw [List.getElem?_set] at h2
      simp at h2
    rw [List.getElem?_set_ne nj] at h1 e1
    rw [List.getElem?_set_ne nk] at h2 e2
    exact E.apart j k l o o' ne h1 h2 e1 e2
theorem EnvS.setD (E : EnvS K B H0 G H σ ρ) (i : Nat) {v : V} {d : D} (r : Dt K B G v d) : EnvS K B H0 G H (σ.set i (some v)) (ρ.set i (.d d)) := by
  refine ⟨E.gh, by rw [List.length_set, List.length_set]; exact E.len, fun j d' h => ?_, fun j o h => ?_, fun j k l o o' ne h1 h2 e1 e2 => ?_⟩
  · by_cases hj : i = j
    · subst hj
      have hl : i < ρ.length := by
        have := (List.getElem?_eq_some_iff.mp h).1
        rwa [List.length_set] at this
      rw [List.getElem?_set_self hl] at h
      cases h
      exact ⟨v, by rw [List.getElem?_set_self (by rw [E.len]; exact hl)], r⟩
    · rw [List.getElem?_set_ne hj] at h ⊢
      exact E.at_ j d' h
  · by_cases hj : i = j
    · subst hj
      rw [List.getElem?_set] at h
      simp at h
    · rw [List.getElem?_set_ne hj] at h ⊢
      exact E.ow j o h
  · have nj : i ≠ j := fun q => by
      subst q
      rw [List.getElem?_set] at h1
      simp at h1
    have nk : i ≠ k := fun q => by
      subst q
      rw [List.getElem?_set] at h2
      simp at h2
    rw [List.getElem?_set_ne nj] at h1 e1
    rw [List.getElem?_set_ne nk] at h2 e2
    exact E.apart j k l o o' ne h1 h2 e1 e2
/-- a slot gets a thing of one's own -/
theorem EnvS.setOwn (E : EnvS K B H0 G H σ ρ) (i : Nat) {l : Addr} {o : OD} (gl : G l = none) (nb : ¬ B l) (r : OwnAt K B H0 G H l o) (ap : ∀ (j : Nat) (o' : OD), j ≠ i → ρ[j]? = some (.own o') → σ[j]? = some (some (.ref l)) → False) :
    EnvS K B H0 G H (σ.set i (some (.ref l))) (ρ.set i (.own o)) := by
  refine ⟨E.gh, by rw [List.length_set, List.length_set]; exact E.len, fun j d' h => ?_, fun j o' h => ?_, fun j k l' o1 o2 ne h1 h2 e1 e2 => ?_⟩
  · by_cases hj : i = j
    · subst hj
      rw [List.getElem?_set] at h
      simp at h
    · rw [List.getElem?_set_ne hj] at h ⊢
      exact E.at_ j d' h
  · by_cases hj : i = j
    · subst hj
      have hl : i < ρ.length := by
        have := (List.getElem?_eq_some_iff.mp h).1
        rwa [List.length_set] at this
      rw [List.getElem?_set_self hl] at h
      cases h
      exact ⟨l, by rw [List.getElem?_set_self (by rw [E.len]; exact hl)], gl, nb, r⟩
    · rw [List.getElem?_set_ne hj] at h ⊢
      exact E.ow j o' h
  · by_cases hj : i = j
    · subst hj
      rw [List.getElem?_set_ne ne] at h2 e2
      have hl : i < σ.length := by
        have := (List.getElem?_eq_some_iff.mp e1).1
        rwa [List.length_set] at this
      rw [List.getElem?_set_self hl] at e1
      cases e1
      exact ap k o2 (Ne.symm ne) h2 e2
    · rw [List.getElem?_set_ne hj] at h1 e1
      by_cases hk : i = k
      · subst hk
        have hl : i < σ.length := by
          have := (List.getElem?_eq_some_iff.mp e2).1
          rwa [List.length_set] at this
        rw [List.getElem?_set_self hl] at e2
        cases e2
        exact ap j o1 ne h1 e1
      · rw [List.getElem?_set_ne hk] at h2 e2
        exact E.apart j k l' o1 o2 ne h1 h2 e1 e2
/-- the own thing as data -/
def OD.sh : OD → D
  | .lst ds => .lst ds
  | .dic kvs => .dic kvs
  | .acc R => .non
  | .ins x C fs => .ins C fs
def OD.ok : OD → Prop
  | .acc _ => False
  | _ => True
/-- sharing an own list, dict -/
theorem EnvS.share (E : EnvS K B H0 G H σ ρ) {i : Nat} {o : OD} (hi : ρ[i]? = some (.own o)) (ho : (∃ ds, o = .lst ds) ∨ ∃ ks, o = .dic ks) : ∃ l u, H l = some u ∧ G l = none ∧ ¬ B l ∧ H0 l = none ∧ EnvS K B H0 (upd G l u) H σ (ρ.set i (.d o.sh)) := by
  obtain ⟨l, e, gl, nb, r⟩ := E.ow i o hi
  obtain ⟨u, hu⟩ := r.there
  have ex : Ex G (upd G l u) := Ex.new gl
  have hiρ : i < ρ.length := (List.getElem?_eq_some_iff.mp hi).1
  have gh' : GH B (upd G l u) H := ⟨fun a w q => by
    by_cases ha : a = l
    · subst ha
      rw [upd_same] at q
      rw [hu]
      exact q
    · rw [upd_ne ha] at q
      exact E.gh.gh a w q, E.gh.box, fun a ha => by rw [upd_ne (fun q => nb (by rw [← q]; exact ha))]; exact E.gh.nob a ha⟩
  have dt : Dt K B (upd G l u) (.ref l) o.sh := by
    rcases ho with ⟨ds, rfl⟩ | ⟨ks, rfl⟩
    · obtain ⟨_, vs, e1, r1⟩ := r
      rw [hu] at e1
      cases e1
      exact .lst upd_same (r1.mono ex)
    · obtain ⟨_, vs, e1, r1⟩ := r
      rw [hu] at e1
      cases e1
      exact .dic (.inl upd_same) (r1.mono ex)
  refine ⟨l, u, hu, gl, nb, r.new, gh', by rw [List.length_set]; exact E.len, fun j d h => ?_, fun j o' h => ?_, fun j k l' o1 o2 ne h1 h2 e1 e2 => ?_⟩
  · by_cases hj : i = j
    · subst hj
      rw [List.getElem?_set_self hiρ] at h
      cases h
      exact ⟨_, e, dt⟩
    · rw [List.getElem?_set_ne hj] at h
      obtain ⟨v, e1, r1⟩ := E.at_ j d h
      exact ⟨v, e1, r1.mono ex⟩
  · by_cases hj : i = j
    · subst hj
      rw [List.getElem?_set_self hiρ] at h
      cases h
    · rw [List.getElem?_set_ne hj] at h
      obtain ⟨l2, e1, g2, nb2, r1⟩ := E.ow j o' h
      have ne : l2 ≠ l := fun q => by
        subst q
        exact E.apart i j l2 o o' hj hi h e e1
      refine ⟨l2, e1, by rw [upd_ne ne]; exact g2, nb2, ?_⟩
      cases o' with
      | lst ds => obtain ⟨n, vs, q1, q2⟩ := r1; exact ⟨n, vs, q1, q2.mono ex⟩
      | dic ds => obtain ⟨n, vs, q1, q2⟩ := r1; exact ⟨n, vs, q1, q2.mono ex⟩
      | acc R => obtain ⟨n, u, q1, no, q2, mo⟩ := r1; exact ⟨n, u, q1, no, mo _ _ ex q2, mo⟩
      | ins x C fs =>
        obtain ⟨q0, n, dx, vs, q1, q2, q3, q4, q5, q6⟩ := r1
        refine ⟨q0, n, dx, vs, q1, q2, ?_, q4, q5, q6.mono ex⟩
        have ned : dx ≠ l := fun q => by
          subst q
          rcases ho with ⟨ds, rfl⟩ | ⟨ks, rfl⟩
          · obtain ⟨_, vs', e3, _⟩ := r
            rw [q2] at e3
            cases e3
          · obtain ⟨_, vs', e3, _⟩ := r
            rw [q2] at e3
            cases e3
        rw [upd_ne ned]
        exact q3
  · have nj : i ≠ j := fun q => by
      subst q
      rw [List.getElem?_set_self hiρ] at h1
      cases h1
    have nk : i ≠ k := fun q => by
      subst q
      rw [List.getElem?_set_self hiρ] at h2
      cases h2
    rw [List.getElem?_set_ne nj] at h1
    rw [List.getElem?_set_ne nk] at h2
    exact E.apart j k l' o1 o2 ne h1 h2 e1 e2
end

/-! ### what is wanted -/
def Wp (K : PySem.W.Frag) (B : Addr → Prop) (te : TE) (ρ : Ro) (S : D → Prop) : Prop :=
  ∀ H0 G H σ, EnvS K B H0 G H σ ρ → ∀ Q : VK, (∀ v d G' H', Gr B G H G' H' → Dt K B G' v d → S d → Q v H') → te σ H Q
def WpT (K : PySem.W.Frag) (B : Addr → Prop) (tt : TT) (ρ : Ro) (S : Bool → Prop) : Prop :=
  ∀ H0 G H σ, EnvS K B H0 G H σ ρ → ∀ Q : Bool → Hp → Prop, (∀ b G' H', Gr B G H G' H' → S b → Q b H') → tt σ H Q
def WpA (K : PySem.W.Frag) (B : Addr → Prop) (ta : TA) (ρ : Ro) (S : List D → Prop) : Prop :=
  ∀ H0 G H σ, EnvS K B H0 G H σ ρ → ∀ Q : List V → Hp → Prop, (∀ vs ds G' H', Gr B G H G' H' → Dts K B G' vs ds → S ds → Q vs H') → ta σ H Q
/-- behind a statement -/
structure Po where
  nx : Ro → Prop
  rt : D → Prop
  bk : Ro → Prop := fun _ => False
  ct : Ro → Prop := fun _ => False
/-- the ends of a reading do what P says; G0, H0: the def's entry; F: a floor that the region stays above -/
structure EndsOk (K : PySem.W.Frag) (B : Addr → Prop) (F G0 H0 : Hp) (Dn : Ends) (P : Po) : Prop where
  nx : ∀ ρ G H σ, EnvS K B H0 G H σ ρ → Gr B G0 H0 G H → Ex F G → P.nx ρ → Dn.nx σ H
  rt : ∀ v d G H, Gr B G0 H0 G H → Dt K B G v d → P.rt d → Dn.rt v H
  bk : ∀ ρ G H σ, EnvS K B H0 G H σ ρ → Gr B G0 H0 G H → Ex F G → P.bk ρ → Dn.bk σ H
  ct : ∀ ρ G H σ, EnvS K B H0 G H σ ρ → Gr B G0 H0 G H → Ex F G → P.ct ρ → Dn.ct σ H
def WpS (K : PySem.W.Frag) (B : Addr → Prop) (ts : TS) (ρ : Ro) (P : Po) : Prop :=
  ∀ F G0 H0 G H σ Dn, EnvS K B H0 G H σ ρ → Gr B G0 H0 G H → Ex F G → EndsOk K B F G0 H0 Dn P → ts Dn σ H

section
variable {K : PySem.W.Frag} {B : Addr → Prop} {ρ : Ro} {te ta tb : TE} {S S' : D → Prop}
theorem Wp.imp (h : Wp K B te ρ S) (q : ∀ d, S d → S' d) : Wp K B te ρ S' := fun H0 G H σ E Q k => h H0 G H σ E Q fun v d G' H' g r s => k v d G' H' g r (q d s)
theorem WpT.imp {tt : TT} {S S' : Bool → Prop} (h : WpT K B tt ρ S) (q : ∀ d, S d → S' d) : WpT K B tt ρ S' := fun H0 G H σ E Q k => h H0 G H σ E Q fun v G' H' g s => k v G' H' g (q v s)
theorem WpA.imp {tt : TA} {S S' : List D → Prop} (h : WpA K B tt ρ S) (q : ∀ d, S d → S' d) : WpA K B tt ρ S' := fun H0 G H σ E Q k => h H0 G H σ E Q fun v d G' H' g r s => k v d G' H' g r (q d s)
theorem EndsOk.imp {F G0 H0 : Hp} {Dn : Ends} {P P' : Po} (e : EndsOk K B F G0 H0 Dn P') (n : ∀ ρ, P.nx ρ → P'.nx ρ) (r : ∀ d, P.rt d → P'.rt d) (b : ∀ ρ, P.bk ρ → P'.bk ρ) (c : ∀ ρ, P.ct ρ → P'.ct ρ) : EndsOk K B F G0 H0 Dn P :=
  ⟨fun ρ G H σ E g f p => e.nx ρ G H σ E g f (n ρ p), fun v d G H g dt p => e.rt v d G H g dt (r d p), fun ρ G H σ E g f p => e.bk ρ G H σ E g f (b ρ p), fun ρ G H σ E g f p => e.ct ρ G H σ E g f (c ρ p)⟩
/-- a higher floor -/
theorem EndsOk.up {F F' G0 H0 : Hp} {Dn : Ends} {P : Po} (e : EndsOk K B F G0 H0 Dn P) (x : Ex F F') : EndsOk K B F' G0 H0 Dn P :=
  ⟨fun ρ G H σ E g f p => e.nx ρ G H σ E g (x.trans f) p, e.rt, fun ρ G H σ E g f p => e.bk ρ G H σ E g (x.trans f) p, fun ρ G H σ E g f p => e.ct ρ G H σ E g (x.trans f) p⟩
theorem WpS.imp {ts : TS} {P P' : Po} (h : WpS K B ts ρ P) (n : ∀ ρ, P.nx ρ → P'.nx ρ) (r : ∀ d, P.rt d → P'.rt d) (b : ∀ ρ, P.bk ρ → P'.bk ρ) (c : ∀ ρ, P.ct ρ → P'.ct ρ) : WpS K B ts ρ P' :=
  fun F G0 H0 G H σ Dn E g f e => h F G0 H0 G H σ Dn E g f (e.imp n r b c)
/-- one step, then another -/
theorem Wp.bind {β : Type} (ha : Wp K B ta ρ S) {H0 G H : Hp} {σ : St} (E : EnvS K B H0 G H σ ρ) {Q : VK} (k : ∀ v d G' H', Gr B G H G' H' → EnvS K B H0 G' H' σ ρ → Dt K B G' v d → S d → Q v H') : ta σ H Q :=
  ha H0 G H σ E Q fun v d G' H' g r s => k v d G' H' g (E.step g) r s

/-! ### expressions -/
theorem wp_var {i : Nat} {d : D} (h : ρ[i]? = some (.d d)) (s : S d) : Wp K B (tVar i) ρ S := fun H0 G H σ E Q k => by
  obtain ⟨v, e, r⟩ := E.at_ i d h
  exact ⟨v, e, k v d G H E.gh.refl r s⟩
theorem wp_int {n : Int} (s : S (.int n)) : Wp K B (tC (.int n)) ρ S := fun H0 G H σ E Q k => k _ _ G H E.gh.refl (.int n) s
theorem wp_str {n : Str} (s : S (.str n)) : Wp K B (tC (.str n)) ρ S := fun H0 G H σ E Q k => k _ _ G H E.gh.refl (.str n) s
theorem wp_bl {n : Bool} (s : S (.bl n)) : Wp K B (tC (.bl n)) ρ S := fun H0 G H σ E Q k => k _ _ G H E.gh.refl (.bl n) s
theorem wp_non (s : S .non) : Wp K B (tC .non) ρ S := fun H0 G H σ E Q k => k _ _ G H E.gh.refl .non s
/-- the operators on values -/
theorem wp_op {r : R2} (h : Wp K B ta ρ fun a => Wp K B tb ρ fun b => ∀ G H x y (Q : VK), GH B G H → Dt K B G x a → Dt K B G y b → (∀ v d G' H', Gr B G H G' H' → Dt K B G' v d → S d → Q v H') → r x y H Q) : Wp K B (tOp r ta tb) ρ S :=
  fun H0 G H σ E Q k => h H0 G H σ E _ fun x a G1 H1 g1 r1 h1 => h1 H0 G1 H1 σ (E.step g1) _ fun y b G2 H2 g2 r2 h2 =>
    h2 G2 H2 x y Q g2.gH (r1.mono g2.g) r2 fun v d G3 H3 g3 r3 s => k v d G3 H3 ((g1.trans g2).trans g3) r3 s
theorem wp_opI {f : Int → Int → V} {fd : Int → Int → D} (hf : ∀ i j, Dt K B (fun _ => none) (f i j) (fd i j)) (h : Wp K B ta ρ fun a => Wp K B tb ρ fun b => ∃ i j, a = .int i ∧ b = .int j ∧ S (fd i j)) : Wp K B (tOp (rI0 f) ta tb) ρ S :=
  wp_op (h.imp fun a ha => ha.imp fun b ⟨i, j, ea, eb, s⟩ G H x y Q gh rx ry k => by
    subst ea eb
    cases rx
    cases ry
    exact ⟨i, j, rfl, rfl, k _ _ G H gh.refl ((hf i j).mono fun _ _ q => by cases q) s⟩)
theorem wp_opC {C : Int → Int → Prop} {f : Int → Int → V} {fd : Int → Int → D} (hf : ∀ i j, Dt K B (fun _ => none) (f i j) (fd i j)) (h : Wp K B ta ρ fun a => Wp K B tb ρ fun b => ∃ i j, a = .int i ∧ b = .int j ∧ C i j ∧ S (fd i j)) : Wp K B (tOp (rI C f) ta tb) ρ S :=
  wp_op (h.imp fun a ha => ha.imp fun b ⟨i, j, ea, eb, c, s⟩ G H x y Q gh rx ry k => by
    subst ea eb
    cases rx
    cases ry
    exact ⟨i, j, rfl, rfl, c, k _ _ G H gh.refl ((hf i j).mono fun _ _ q => by cases q) s⟩)
theorem wp_add (h : Wp K B ta ρ fun a => Wp K B tb ρ fun b => ∃ i j, a = .int i ∧ b = .int j ∧ S (.int (i + j))) : Wp K B (tOp (rI0 fun i j => .int (i + j)) ta tb) ρ S := wp_opI (fd := fun i j => .int (i + j)) (fun _ _ => .int _) h
theorem wp_sub (h : Wp K B ta ρ fun a => Wp K B tb ρ fun b => ∃ i j, a = .int i ∧ b = .int j ∧ S (.int (i - j))) : Wp K B (tOp (rI0 fun i j => .int (i - j)) ta tb) ρ S := wp_opI (fd := fun i j => .int (i - j)) (fun _ _ => .int _) h
theorem wp_mul (h : Wp K B ta ρ fun a => Wp K B tb ρ fun b => ∃ i j, a = .int i ∧ b = .int j ∧ CMul i j ∧ S (.int (i * j))) : Wp K B (tOp (rI CMul fun i j => .int (i * j)) ta tb) ρ S := wp_opC (fd := fun i j => .int (i * j)) (fun _ _ => .int _) h
theorem wp_mod (h : Wp K B ta ρ fun a => Wp K B tb ρ fun b => ∃ i j, a = .int i ∧ b = .int j ∧ 0 < j ∧ S (.int (i % j))) : Wp K B (tOp (rI (fun _ j => 0 < j) fun i j => .int (i % j)) ta tb) ρ S := wp_opC (C := fun _ j => 0 < j) (fd := fun i j => .int (i % j)) (fun _ _ => .int _) h
theorem wp_fdiv (h : Wp K B ta ρ fun a => Wp K B tb ρ fun b => ∃ i j, a = .int i ∧ b = .int j ∧ CDiv i j ∧ S (.int (i / j))) : Wp K B (tOp (rI CDiv fun i j => .int (i / j)) ta tb) ρ S := wp_opC (fd := fun i j => .int (i / j)) (fun _ _ => .int _) h
theorem wp_lt (h : Wp K B ta ρ fun a => Wp K B tb ρ fun b => ∃ i j, a = .int i ∧ b = .int j ∧ S (.bl (decide (i < j)))) : Wp K B (tOp (rI0 fun i j => .bl (decide (i < j))) ta tb) ρ S := wp_opI (fd := fun i j => .bl (decide (i < j))) (fun _ _ => .bl _) h
theorem wp_le (h : Wp K B ta ρ fun a => Wp K B tb ρ fun b => ∃ i j, a = .int i ∧ b = .int j ∧ S (.bl (decide (i ≤ j)))) : Wp K B (tOp (rI0 fun i j => .bl (decide (i ≤ j))) ta tb) ρ S := wp_opI (fd := fun i j => .bl (decide (i ≤ j))) (fun _ _ => .bl _) h
theorem wp_gt (h : Wp K B ta ρ fun a => Wp K B tb ρ fun b => ∃ i j, a = .int i ∧ b = .int j ∧ S (.bl (decide (j < i)))) : Wp K B (tOp (rI0 fun i j => .bl (decide (j < i))) ta tb) ρ S := wp_opI (fd := fun i j => .bl (decide (j < i))) (fun _ _ => .bl _) h
theorem wp_ge (h : Wp K B ta ρ fun a => Wp K B tb ρ fun b => ∃ i j, a = .int i ∧ b = .int j ∧ S (.bl (decide (j ≤ i)))) : Wp K B (tOp (rI0 fun i j => .bl (decide (j ≤ i))) ta tb) ρ S := wp_opI (fd := fun i j => .bl (decide (j ≤ i))) (fun _ _ => .bl _) h
/-- flat data as a value -/
def D.v : D → Option V
  | .non => some .non
  | .bl b => some (.bl b)
  | .int i => some (.int i)
  | .str x => some (.str x)
  | _ => none
theorem Dt.flat {G : Hp} {v w : V} {d : D} (h : Dt K B G v d) (e : d.v = some w) : v = w := by
  cases h <;> first | (cases e; rfl) | cases e
theorem wp_eq (h : Wp K B ta ρ fun a => Wp K B tb ρ fun b => ∃ x y, a.v = some x ∧ b.v = some y ∧ scal x y = true ∧ S (.bl (decide (x = y)))) : Wp K B (tOp rEq ta tb) ρ S :=
  wp_op (h.imp fun a ha => ha.imp fun b ⟨p, q, ea, eb, sc, s⟩ G H x y Q gh rx ry k => by
    rw [rx.flat ea, ry.flat eb]
    exact ⟨sc, k _ _ G H gh.refl (.bl _) s⟩)
theorem wp_ne (h : Wp K B ta ρ fun a => Wp K B tb ρ fun b => ∃ x y, a.v = some x ∧ b.v = some y ∧ scal x y = true ∧ S (.bl (!decide (x = y)))) : Wp K B (tOp rNe ta tb) ρ S :=
  wp_op (h.imp fun a ha => ha.imp fun b ⟨p, q, ea, eb, sc, s⟩ G H x y Q gh rx ry k => by
    rw [rx.flat ea, ry.flat eb]
    exact ⟨sc, k _ _ G H gh.refl (.bl _) s⟩)
/-- tests -/
theorem wt_B {te : TE} {S : Bool → Prop} (h : Wp K B te ρ fun d => ∃ b, d = .bl b ∧ S b) : WpT K B (tB te) ρ S := fun H0 G H σ E Q k => h H0 G H σ E _ fun v d G' H' g r ⟨b, e, s⟩ => by
  subst e
  cases r
  exact ⟨b, rfl, k b G' H' g s⟩
theorem wt_test {te : TE} {S : Bool → Prop} (h : Wp K B te ρ fun d => ∃ b, d = .bl b ∧ S b) : WpT K B (tTest te) ρ S := wt_B h
theorem wt_and {t u : TT} {S : Bool → Prop} (h : WpT K B t ρ fun b => if b = true then WpT K B u ρ S else S false) : WpT K B (tAnd t u) ρ S := fun H0 G H σ E Q k => h H0 G H σ E _ fun b G1 H1 g1 s => by
  cases b with
  | true =>
    show u σ H1 Q
    exact (show WpT K B u ρ S from s) H0 G1 H1 σ (E.step g1) Q fun c G2 H2 g2 s2 => k c G2 H2 (g1.trans g2) s2
  | false =>
    show Q false H1
    exact k false G1 H1 g1 s
theorem wt_or {t u : TT} {S : Bool → Prop} (h : WpT K B t ρ fun b => if b = true then S true else WpT K B u ρ S) : WpT K B (tOr t u) ρ S := fun H0 G H σ E Q k => h H0 G H σ E _ fun b G1 H1 g1 s => by
  cases b with
  | false =>
    show u σ H1 Q
    exact (show WpT K B u ρ S from s) H0 G1 H1 σ (E.step g1) Q fun c G2 H2 g2 s2 => k c G2 H2 (g1.trans g2) s2
  | true =>
    show Q true H1
    exact k true G1 H1 g1 s
theorem wt_not {t : TT} {S : Bool → Prop} (h : WpT K B t ρ fun b => S (!b)) : WpT K B (tNot t) ρ S := fun H0 G H σ E Q k => h H0 G H σ E _ fun b G1 H1 g1 s => k _ G1 H1 g1 s
theorem wp_andV (h : Wp K B ta ρ fun a => ∃ c, a = .bl c ∧ if c = true then Wp K B tb ρ S else S (.bl false)) : Wp K B (tAndV ta tb) ρ S := fun H0 G H σ E Q k => h H0 G H σ E _ fun v a G1 H1 g1 r1 ⟨c, e, s⟩ => by
  subst e
  cases r1
  refine ⟨c, rfl, ?_⟩
  cases c with
  | true =>
    show tb σ H1 Q
    exact (show Wp K B tb ρ S from s) H0 G1 H1 σ (E.step g1) Q fun v d G2 H2 g2 r2 s2 => k v d G2 H2 (g1.trans g2) r2 s2
  | false =>
    show Q (.bl false) H1
    exact k _ _ G1 H1 g1 (.bl false) s
theorem wp_orV (h : Wp K B ta ρ fun a => ∃ c, a = .bl c ∧ if c = true then S (.bl true) else Wp K B tb ρ S) : Wp K B (tOrV ta tb) ρ S := fun H0 G H σ E Q k => h H0 G H σ E _ fun v a G1 H1 g1 r1 ⟨c, e, s⟩ => by
  subst e
  cases r1
  refine ⟨c, rfl, ?_⟩
  cases c with
  | false =>
    show tb σ H1 Q
    exact (show Wp K B tb ρ S from s) H0 G1 H1 σ (E.step g1) Q fun v d G2 H2 g2 r2 s2 => k v d G2 H2 (g1.trans g2) r2 s2
  | true =>
    show Q (.bl true) H1
    exact k _ _ G1 H1 g1 (.bl true) s
theorem wp_notV (h : Wp K B ta ρ fun a => ∃ c, a = .bl c ∧ S (.bl (!c))) : Wp K B (tNotV ta) ρ S := fun H0 G H σ E Q k => h H0 G H σ E _ fun v a G1 H1 g1 r1 ⟨c, e, s⟩ => by
  subst e
  cases r1
  exact ⟨c, rfl, k _ _ G1 H1 g1 (.bl _) s⟩
theorem wp_if {t : TT} (h : WpT K B t ρ fun b => if b = true then Wp K B ta ρ S else Wp K B tb ρ S) : Wp K B (tIf t ta tb) ρ S := fun H0 G H σ E Q k => h H0 G H σ E _ fun b G1 H1 g1 s => by
  cases b with
  | true =>
    show ta σ H1 Q
    exact (show Wp K B ta ρ S from s) H0 G1 H1 σ (E.step g1) Q fun v d G2 H2 g2 r2 s2 => k v d G2 H2 (g1.trans g2) r2 s2
  | false =>
    show tb σ H1 Q
    exact (show Wp K B tb ρ S from s) H0 G1 H1 σ (E.step g1) Q fun v d G2 H2 g2 r2 s2 => k v d G2 H2 (g1.trans g2) r2 s2
/-- arguments -/
theorem wa_nil {S : List D → Prop} (s : S []) : WpA K B tNil ρ S := fun H0 G H σ E Q k => k [] [] G H E.gh.refl .nil s
theorem wa_cons {tr : TA} {S : List D → Prop} (h : Wp K B ta ρ fun a => WpA K B tr ρ fun ds => S (a :: ds)) : WpA K B (tCons ta tr) ρ S := fun H0 G H σ E Q k =>
  h H0 G H σ E _ fun v a G1 H1 g1 r1 h1 => h1 H0 G1 H1 σ (E.step g1) _ fun vs ds G2 H2 g2 r2 s => k _ _ G2 H2 (g1.trans g2) (.cons (r1.mono g2.g) r2) s
theorem wp_tup {t : TA} (h : WpA K B t ρ fun ds => ds.length ≤ sizeLine ∧ S (.tup ds)) : Wp K B (tTup t) ρ S := fun H0 G H σ E Q k =>
  h H0 G H σ E _ fun vs ds G1 H1 g1 r1 ⟨z, s⟩ => ⟨by rw [r1.length]; exact z, fun p hp => k _ _ _ _ (g1.trans (Gr.new g1.gH hp)) (.tup upd_same (r1.mono (Ex.new (g1.gh.free hp)))) s⟩
theorem wp_lst {t : TA} (h : WpA K B t ρ fun ds => ds.length ≤ sizeLine ∧ S (.lst ds)) : Wp K B (tLst t) ρ S := fun H0 G H σ E Q k =>
  h H0 G H σ E _ fun vs ds G1 H1 g1 r1 ⟨z, s⟩ => ⟨by rw [r1.length]; exact z, fun p hp => k _ _ _ _ (g1.trans (Gr.new g1.gH hp)) (.lst upd_same (r1.mono (Ex.new (g1.gh.free hp)))) s⟩
/-- an own list or dict is looked at; what comes is flat -/
theorem gr_peek {G H G' H' : Hp} {l : Addr} {u : HO} (gh : GH B G H) (g : Gr B (upd G l u) H G' H') (hg : G l = none) : Gr B G H G H' :=
  ⟨gh.gh, Ex.refl _, fun a o e => g.gh a o (g.g a o (by rw [upd_ne (ne_of_none e hg)]; exact e)), g.keep, g.box, gh.nob, fun _ _ _ n => n⟩
theorem wp_peek {i : Nat} {o : OD} (hi : ρ[i]? = some (.own o)) (ho : (∃ ds, o = .lst ds) ∨ ∃ ks, o = .dic ks) (h : Wp K B te (ρ.set i (.d o.sh)) fun d => d.v.isSome = true ∧ S d) : Wp K B te ρ S := fun H0 G H σ E Q k => by
  obtain ⟨l, u, hu, gl, nb, n0, E'⟩ := E.share hi ho
  refine h H0 _ H σ E' Q fun v d G' H' g r ⟨fl, s⟩ => k v d G H' (gr_peek E.gh g gl) ?_ s
  obtain ⟨w, hw⟩ := Option.isSome_iff_exists.mp fl
  rw [r.flat hw]
  cases d <;> cases hw
  · exact .non
  · exact .bl _
  · exact .int _
  · exact .str _
theorem wt_peek {tt : TT} {S : Bool → Prop} {i : Nat} {o : OD} (hi : ρ[i]? = some (.own o)) (ho : (∃ ds, o = .lst ds) ∨ ∃ ks, o = .dic ks) (h : WpT K B tt (ρ.set i (.d o.sh)) S) : WpT K B tt ρ S := fun H0 G H σ E Q k => by
  obtain ⟨l, u, hu, gl, nb, n0, E'⟩ := E.share hi ho
  exact h H0 _ H σ E' Q fun b G' H' g s => k b G H' (gr_peek E.gh g gl) s
end

/-! ### statements -/
section
variable {K : PySem.W.Frag} {B : Addr → Prop} {ρ : Ro} {te ta tb : TE} {P : Po} {t u : TS}
theorem ws_seq (h : WpS K B t ρ { P with nx := fun ρ' => WpS K B u ρ' P }) : WpS K B (tSeq t u) ρ P := fun F G0 H0 G H σ Dn E g f e =>
  h F G0 H0 G H σ _ E g f ⟨fun ρ' G' H' σ' E' g' f' p => p F G0 H0 G' H' σ' Dn E' g' f' e, e.rt, e.bk, e.ct⟩
theorem ws_next (h : P.nx ρ) : WpS K B tNext ρ P := fun F G0 H0 G H σ Dn E g f e => e.nx ρ G H σ E g f h
theorem ws_brk (h : P.bk ρ) : WpS K B tBreak ρ P := fun F G0 H0 G H σ Dn E g f e => e.bk ρ G H σ E g f h
theorem ws_cont (h : P.ct ρ) : WpS K B tCont ρ P := fun F G0 H0 G H σ Dn E g f e => e.ct ρ G H σ E g f h
theorem ws_asg {i : Nat} (h : Wp K B te ρ fun d => P.nx (ρ.set i (.d d))) : WpS K B (tAsg te (gName i)) ρ P := fun F G0 H0 G H σ Dn E g f e =>
  h H0 G H σ E _ fun v d G' H' g' r p => e.nx _ G' H' _ ((E.step g').setD i r) (g.trans g') (f.trans g'.g) p
theorem ws_drop (h : Wp K B te ρ fun _ => P.nx ρ) : WpS K B (tDrop te) ρ P := fun F G0 H0 G H σ Dn E g f e =>
  h H0 G H σ E _ fun v d G' H' g' r p => e.nx _ G' H' _ (E.step g') (g.trans g') (f.trans g'.g) p
theorem ws_ret (h : Wp K B te ρ P.rt) : WpS K B (tRet te) ρ P := fun F G0 H0 G H σ Dn E g f e =>
  h H0 G H σ E _ fun v d G' H' g' r p => e.rt v d G' H' (g.trans g') r p
theorem ws_if {c : TT} (h : WpT K B c ρ fun b => if b = true then WpS K B t ρ P else WpS K B u ρ P) : WpS K B (tIfS c t u) ρ P := fun F G0 H0 G H σ Dn E g f e =>
  h H0 G H σ E _ fun b G' H' g' s => by
    cases b with
    | true =>
      show t Dn σ H'
      exact (show WpS K B t ρ P from s) F G0 H0 G' H' σ Dn (E.step g') (g.trans g') (f.trans g'.g) e
    | false =>
      show u Dn σ H'
      exact (show WpS K B u ρ P from s) F G0 H0 G' H' σ Dn (E.step g') (g.trans g') (f.trans g'.g) e
/-- an own list, dict is shared from now on -/
theorem ws_share {i : Nat} {o : OD} (hi : ρ[i]? = some (.own o)) (ho : (∃ ds, o = .lst ds) ∨ ∃ ks, o = .dic ks) (h : WpS K B t (ρ.set i (.d o.sh)) P) : WpS K B t ρ P := fun F G0 H0 G H σ Dn E g f e => by
  obtain ⟨l, w, hu, gl, nb, n0, E'⟩ := E.share hi ho
  exact h F G0 H0 _ H σ Dn E' (g.share n0 hu nb) (f.trans (Ex.new gl)) e
end
end FS

/-! FsC: what is walked (WpI), targets (WpG), for, while, comprehensions, calls of defs, fields, own lists and dicts. -/
namespace FS
open PySem L2

section
variable {K : PySem.W.Frag} {B : Addr → Prop} {ρ : Ro}

/-! ### targets: vs holds the slots that may change -/
def WpG (K : PySem.W.Frag) (B : Addr → Prop) (vs : List Nat) (g : TG) (ρ : Ro) (d : D) (S : Ro → Prop) : Prop :=
  ∀ H0 G H σ v, EnvS K B H0 G H σ ρ → Dt K B G v d → ∀ Q : L2.St → Hp → Prop, (∀ ρ' σ', EnvS K B H0 G H σ' ρ' → σ'.length = σ.length → (∀ i, i ∉ vs → σ'[i]? = σ[i]?) → S ρ' → Q σ' H) → g v σ H Q
def WpGs (K : PySem.W.Frag) (B : Addr → Prop) (vs : List Nat) (g : TGs) (ρ : Ro) (ds : List D) (S : Ro → Prop) : Prop :=
  ∀ H0 G H σ ws, EnvS K B H0 G H σ ρ → Dts K B G ws ds → ∀ Q : L2.St → Hp → Prop, (∀ ρ' σ', EnvS K B H0 G H σ' ρ' → σ'.length = σ.length → (∀ i, i ∉ vs → σ'[i]? = σ[i]?) → S ρ' → Q σ' H) → g ws σ H Q
theorem wg_name {vs : List Nat} {i : Nat} {d : D} {S : Ro → Prop} (h : i ∈ vs) (s : S (ρ.set i (.d d))) : WpG K B vs (gName i) ρ d S := fun H0 G H σ v E r Q k =>
  k _ _ (E.setD i r) (List.length_set ..) (fun j hj => List.getElem?_set_ne (fun e => hj (by rw [← e]; exact h))) s
theorem wg_nil {vs : List Nat} {S : Ro → Prop} (s : S ρ) : WpGs K B vs gNil ρ [] S := fun H0 G H σ ws E r Q k => by
  cases r
  exact ⟨rfl, k ρ σ E rfl (fun _ _ => rfl) s⟩
theorem wg_cons {vs : List Nat} {g : TG} {gs : TGs} {d : D} {ds : List D} {S : Ro → Prop} (h : WpG K B vs g ρ d fun ρ' => WpGs K B vs gs ρ' ds S) : WpGs K B vs (gCons g gs) ρ (d :: ds) S := fun H0 G H σ ws E r Q k => by
  cases r with
  | @cons v ws' _ _ r1 r2 =>
    refine ⟨v, ws', rfl, h H0 G H σ v E r1 _ fun ρ' σ' E' l' f' s' => ?_⟩
    exact s' H0 G H σ' ws' E' r2 Q fun ρ2 σ2 E2 l2 f2 s2 => k ρ2 σ2 E2 (l2.trans l') (fun i hi => (f2 i hi).trans (f' i hi)) s2
theorem wg_tup {vs : List Nat} {n : Nat} {gs : TGs} {ds : List D} {S : Ro → Prop} (hn : ds.length = n) (h : WpGs K B vs gs ρ ds S) : WpG K B vs (gTup K n gs) ρ (.tup ds) S := fun H0 G H σ v E r Q k => by
  cases r with
  | @tup a xs _ e r =>
    exact ⟨a, xs, rfl, .inl (.inl (E.gh.gh _ _ e)), by rw [r.length]; exact hn, h H0 G H σ xs E r Q k⟩
theorem WpG.imp {vs : List Nat} {g : TG} {d : D} {S S' : Ro → Prop} (h : WpG K B vs g ρ d S) (q : ∀ ρ', S ρ' → S' ρ') : WpG K B vs g ρ d S' := fun H0 G H σ v E r Q k =>
  h H0 G H σ v E r Q fun ρ' σ' E' l f s => k ρ' σ' E' l f (q _ s)
/-- a target in an assignment: whatever slots -/
theorem ws_asgG {vs : List Nat} {te : TE} {g : TG} {P : Po} (h : Wp K B te ρ fun d => WpG K B vs g ρ d P.nx) : WpS K B (tAsg te g) ρ P := fun F G0 H0 G H σ Dn E gg f e =>
  h H0 G H σ E _ fun v d G' H' g' r p => p H0 G' H' σ v (E.step g') r _ fun ρ' σ' E' _ _ s => e.nx _ G' H' _ E' (gg.trans g') (f.trans g'.g) s

/-! ### what is walked -/
structure JOk (K : PySem.W.Frag) (B : Addr → Prop) (J : It) (G : Hp) (ds : List D) : Prop where
  go : ∀ (i : Nat) (G' H' : Hp), Ex G G' → GH B G' H' → i < ds.length → J.go i H'
  yld : ∀ (i : Nat) (d : D) (G' H' : Hp) (x : V) (H'' : Hp), Ex G G' → GH B G' H' → ds[i]? = some d → J.yld i H' x H'' → ∃ G'', Gr B G' H' G'' H'' ∧ Dt K B G'' x d
  stop : ∀ (G' H' : Hp), Ex G G' → GH B G' H' → J.stop ds.length H'
def WpI (K : PySem.W.Frag) (B : Addr → Prop) (wi : TI) (ρ : Ro) (S : List D → Prop) : Prop :=
  ∀ H0 G H σ, EnvS K B H0 G H σ ρ → ∀ R : It → Hp → Prop, (∀ J ds G' H', Gr B G H G' H' → JOk K B J G' ds → S ds → R J H') → wi σ H R
theorem jok_list {G : Hp} {a : Addr} {xs : List V} {ds : List D} (e : G a = some (.lst xs)) (r : Dts K B G xs ds) : JOk K B (Itl K a) G ds := by
  refine ⟨fun i G' H' x g hi => ?_, fun i d G' H' x H'' ex g hd ⟨eH, hx⟩ => ?_, fun G' H' x g => ⟨xs, .inl (.inl (g.gh _ _ (x _ _ e))), by rw [r.length]; exact Nat.le_refl _⟩⟩
  · obtain ⟨d, hd⟩ : ∃ d, ds[i]? = some d := ⟨ds[i], List.getElem?_eq_getElem hi⟩
    obtain ⟨v, hv, _⟩ := r.get hd
    exact ⟨xs, v, .inl (.inl (g.gh _ _ (x _ _ e))), hv⟩
  · subst eH
    obtain ⟨v, hv, q⟩ := r.get hd
    have e2 := hx xs (.inl (.inl (g.gh _ _ (ex _ _ e))))
    rw [hv] at e2
    cases e2
    exact ⟨G', g.refl, q.mono ex⟩
theorem jok_tup {G : Hp} {a : Addr} {xs : List V} {ds : List D} (e : G a = some (.tup xs)) (r : Dts K B G xs ds) : JOk K B (Itt K a) G ds := by
  refine ⟨fun i G' H' x g hi => ?_, fun i d G' H' x H'' ex g hd ⟨eH, hx⟩ => ?_, fun G' H' x g => ⟨xs, .inl (.inl (g.gh _ _ (x _ _ e))), by rw [r.length]; exact Nat.le_refl _⟩⟩
  · obtain ⟨d, hd⟩ : ∃ d, ds[i]? = some d := ⟨ds[i], List.getElem?_eq_getElem hi⟩
    obtain ⟨v, hv, _⟩ := r.get hd
    exact ⟨xs, v, .inl (.inl (g.gh _ _ (x _ _ e))), hv⟩
  · subst eH
    obtain ⟨v, hv, q⟩ := r.get hd
    have e2 := hx xs (.inl (.inl (g.gh _ _ (ex _ _ e))))
    rw [hv] at e2
    cases e2
    exact ⟨G', g.refl, q.mono ex⟩
theorem wi_list {te : TE} {S : List D → Prop} (h : Wp K B te ρ fun d => ∃ ds, d = .lst ds ∧ S ds) : WpI K B (iList K te) ρ S := fun H0 G H σ E R k => h H0 G H σ E _ fun v d G' H' g r ⟨ds, ed, s⟩ => by
  subst ed
  cases r with
  | @lst a xs _ e r => exact ⟨a, rfl, ⟨xs, .inl (.inl (g.gh _ _ e))⟩, k _ ds G' H' g (jok_list e r) s⟩
theorem wi_tup {te : TE} {S : List D → Prop} (h : Wp K B te ρ fun d => ∃ ds, d = .tup ds ∧ S ds) : WpI K B (iTup K te) ρ S := fun H0 G H σ E R k => h H0 G H σ E _ fun v d G' H' g r ⟨ds, ed, s⟩ => by
  subst ed
  cases r with
  | @tup a xs _ e r => exact ⟨a, rfl, ⟨xs, .inl (.inl (g.gh _ _ e))⟩, k _ ds G' H' g (jok_tup e r) s⟩
def dRange (n : Nat) : List D := (List.range n).map fun (i : Nat) => D.int (i : Int)
theorem dRange_len (n : Nat) : (dRange n).length = n := by unfold dRange; rw [List.length_map, List.length_range]
theorem dRange_get {n i : Nat} {d : D} (h : (dRange n)[i]? = some d) : i < n ∧ d = .int (i : Int) := by
  have hl : i < (dRange n).length := (List.getElem?_eq_some_iff.mp h).1
  rw [dRange_len] at hl
  unfold dRange at h
  rw [List.getElem?_map, List.getElem?_range hl] at h
  cases h
  exact ⟨hl, rfl⟩
theorem wi_rng1 {ta : TA} {S : List D → Prop} (h : WpA K B ta ρ fun ds => ∃ j : Int, ds = [.int j] ∧ 0 ≤ j ∧ j < 2 ^ 62 ∧ S (dRange j.toNat)) : WpI K B (iRng1 ta) ρ S := fun H0 G H σ E R k => h H0 G H σ E _ fun vs ds G' H' g r ⟨j, ed, j0, j1, s⟩ => by
  subst ed
  cases r with
  | cons r1 r2 =>
    cases r2
    cases r1
    refine ⟨j, rfl, by omega, j1, k _ (dRange j.toNat) G' H' g ⟨fun i G2 H2 x gg hi => ?_, fun i d G2 H2 x H3 ex gg hd ⟨eH, hx⟩ => ?_, fun G2 H2 x gg => ?_⟩ s⟩
    · rw [dRange_len] at hi
      exact hi
    · obtain ⟨hi, ed⟩ := dRange_get hd
      subst eH ed hx
      refine ⟨G2, gg.refl, ?_⟩
      rw [Int.zero_add]
      exact .int _
    · rw [dRange_len]
      exact Nat.le_refl _

/-! ### for -/
theorem ws_for {vs : List Nat} {wi : TI} {g : TG} {tb : TS} {P : Po} (h : WpI K B wi ρ fun ds => ∃ I : Nat → Ro → Prop, I 0 ρ ∧
      (∀ i d ρ', ds[i]? = some d → I i ρ' → WpG K B vs g ρ' d fun ρ2 => WpS K B tb ρ2 { P with nx := I (i + 1), ct := I (i + 1), bk := P.nx }) ∧ ∀ ρ', I ds.length ρ' → P.nx ρ') : WpS K B (tFor wi g tb) ρ P :=
  fun F G0 H0 G H σ Dn E gg f e => h H0 G H σ E _ fun J ds G1 H1 g1 j ⟨I, i0, turn, fin⟩ => by
    have f1 : Ex F G1 := f.trans g1.g
    refine ⟨fun i m σ' H' => m = ds.length - i ∧ i ≤ ds.length ∧ ∃ G' ρ', EnvS K B H0 G' H' σ' ρ' ∧ Gr B G0 H0 G' H' ∧ Ex G1 G' ∧ I i ρ', ⟨ds.length, by simp, Nat.zero_le _, G1, ρ, E.step g1, gg.trans g1, Ex.refl _, i0⟩, ?_⟩
    rintro i m σ2 H2 ⟨rfl, hi, G2, ρ2, E2, gg2, ex2, hI⟩
    by_cases hlt : i < ds.length
    · obtain ⟨d, hd⟩ : ∃ d, ds[i]? = some d := ⟨ds[i], List.getElem?_eq_getElem hlt⟩
      refine .inr ⟨j.go i G2 H2 ex2 E2.gh hlt, fun σ' H' => ∃ G' ρ', EnvS K B H0 G' H' σ' ρ' ∧ Gr B G0 H0 G' H' ∧ Ex G1 G' ∧ I (i + 1) ρ', fun σ' H' p => ⟨ds.length - (i + 1), by omega, rfl, hlt, p⟩, fun x H3 y => ?_⟩
      obtain ⟨G3, g3, r3⟩ := j.yld i d G2 H2 x H3 ex2 E2.gh hd y
      refine turn i d ρ2 hd hI H0 G3 H3 σ2 x (E2.step g3) r3 _ fun ρ4 σ4 E4 _ _ w => ?_
      exact w G1 G0 H0 G3 H3 σ4 _ E4 (gg2.trans g3) (ex2.trans g3.g) ⟨fun ρ' G' H' σ' E' g' f' p => ⟨G', ρ', E', g', f', p⟩, e.rt,
        fun ρ' G' H' σ' E' g' f' p => e.nx ρ' G' H' σ' E' g' (f1.trans f') p, fun ρ' G' H' σ' E' g' f' p => ⟨G', ρ', E', g', f', p⟩⟩
    · have ei : i = ds.length := by omega
      subst ei
      exact .inl ⟨j.stop G2 H2 ex2 E2.gh, e.nx ρ2 G2 H2 σ2 E2 gg2 (f1.trans ex2) (fin ρ2 hI)⟩
/-- while, by an invariant and a number that falls -/
theorem ws_while {c : TT} {tb : TS} {P : Po} (I : Nat → Ro → Prop) (m : Nat) (i0 : I m ρ)
    (h : ∀ m ρ', I m ρ' → WpT K B c ρ' fun b => if b = true then WpS K B tb ρ' { P with nx := fun ρ2 => ∃ m', m' < m ∧ I m' ρ2, ct := fun ρ2 => ∃ m', m' < m ∧ I m' ρ2, bk := P.nx } else P.nx ρ') : WpS K B (tWhile c tb) ρ P :=
  fun F G0 H0 G H σ Dn E gg f e => by
    refine ⟨fun m σ' H' => ∃ G' ρ', EnvS K B H0 G' H' σ' ρ' ∧ Gr B G0 H0 G' H' ∧ Ex F G' ∧ I m ρ', ⟨m, G, ρ, E, gg, f, i0⟩, ?_⟩
    rintro n σ2 H2 ⟨G2, ρ2, E2, gg2, f2, hI⟩
    refine h n ρ2 hI H0 G2 H2 σ2 E2 _ fun b G3 H3 g3 s => ?_
    cases b with
    | false =>
      rw [if_neg Bool.false_ne_true]
      exact e.nx ρ2 G3 H3 σ2 (E2.step g3) (gg2.trans g3) (f2.trans g3.g) s
    | true =>
      rw [if_pos rfl]
      refine ⟨fun σ' H' => ∃ m', m' < n ∧ ∃ G' ρ', EnvS K B H0 G' H' σ' ρ' ∧ Gr B G0 H0 G' H' ∧ Ex F G' ∧ I m' ρ', fun σ' H' p => p, ?_⟩
      exact (show WpS K B tb ρ2 _ from s) F G0 H0 G3 H3 σ2 _ (E2.step g3) (gg2.trans g3) (f2.trans g3.g) ⟨fun ρ' G' H' σ' E' g' f' ⟨m', hm, p⟩ => ⟨m', hm, G', ρ', E', g', f', p⟩, e.rt,
        fun ρ' G' H' σ' E' g' f' p => e.nx ρ' G' H' σ' E' g' f' p, fun ρ' G' H' σ' E' g' f' ⟨m', hm, p⟩ => ⟨m', hm, G', ρ', E', g', f', p⟩⟩

/-! ### comprehensions -/
def wipeR (ρ : Ro) : List Nat → Ro
  | [] => ρ
  | v :: vs => (wipeR ρ vs).set v .no
theorem wipe_env {H0 G H : Hp} {σ : L2.St} (E : EnvS K B H0 G H σ ρ) : ∀ vs : List Nat, EnvS K B H0 G H (wipe σ vs) (wipeR ρ vs)
  | [] => E
  | v :: vs => (wipe_env E vs).forget v none
theorem wipe_get {σ : L2.St} : ∀ {vs : List Nat} {i : Nat}, i ∈ vs → i < σ.length → (wipe σ vs)[i]? = some none
  | v :: vs, i, h, hl => by
    unfold wipe
    by_cases e : v = i
    · subst e
      rw [List.getElem?_set_self (by rw [wipe_length]; exact hl)]
    · rw [List.getElem?_set_ne e]
      rcases List.mem_cons.mp h with z | z
      · exact absurd z.symm e
      · exact wipe_get z hl
theorem wipe_eq {σ σ' : L2.St} {vs : List Nat} (hl : σ'.length = σ.length) (hf : ∀ i, i ∉ vs → σ'[i]? = σ[i]?) : wipe σ' vs = wipe σ vs := by
  apply List.ext_getElem?
  intro i
  by_cases h : i ∈ vs
  · by_cases hi : i < σ.length
    · rw [wipe_get h hi, wipe_get h (by rw [hl]; exact hi)]
    · rw [List.getElem?_eq_none (by rw [wipe_length]; omega), List.getElem?_eq_none (by rw [wipe_length]; omega)]
  · rw [wipe_out h, wipe_out h]
    exact hf i h
theorem wipe_wipe {σ : L2.St} {vs : List Nat} : wipe (wipe σ vs) vs = wipe σ vs := wipe_eq (wipe_length ..) fun i hi => wipe_out hi
theorem not_box {G H : Hp} {p : Addr} (g : GH B G H) (hp : H p = none) : ¬ B p := fun hb => by
  obtain ⟨i, j, k, e⟩ := g.box p hb
  rw [hp] at e
  cases e
theorem wp_lc {wi : TI} {g : TG} {tt : TT} {te : TE} {vs : List Nat} {S : D → Prop} (h : WpI K B wi ρ fun ds => ds.length ≤ sizeLine ∧ ∃ I : Nat → List D → Prop, I 0 [] ∧
      (∀ i d acc, ds[i]? = some d → I i acc → WpG K B vs g (wipeR ρ vs) d fun ρ2 => WpT K B tt ρ2 fun b => if b = true then Wp K B te ρ2 fun y => I (i + 1) (acc ++ [y]) else I (i + 1) acc) ∧
      ∀ acc, I ds.length acc → S (.lst acc)) : Wp K B (tLc wi g tt te vs) ρ S :=
  fun H0 G H σ E Q k => h H0 G H σ E _ fun J ds G1 H1 g1 j ⟨hz, I, i0, turn, fin⟩ => by
    intro Dl hD
    have E1 := E.step g1
    have nb : ¬ B Dl := not_box g1.gH hD
    refine ⟨fun i m H' => m = ds.length - i ∧ i ≤ ds.length ∧ ∃ G' acc accD, Gr B G1 H1 G' H' ∧ G' Dl = none ∧ H' Dl = some (.lst acc) ∧ Dts K B G' acc accD ∧ accD.length ≤ i ∧ I i accD,
      ⟨ds.length, by simp, Nat.zero_le _, G1, [], [], Gr.newOwn g1.gH hD, g1.gh.free hD, upd_same, .nil, Nat.zero_le _, i0⟩, ?_⟩
    rintro i m H2 ⟨rfl, hi, G2, acc, accD, g2, gD, eD, r2, hl, hI⟩
    by_cases hlt : i < ds.length
    · obtain ⟨d, hd⟩ : ∃ d, ds[i]? = some d := ⟨ds[i], List.getElem?_eq_getElem hlt⟩
      refine .inr ⟨j.go i G2 H2 g2.g g2.gH hlt, fun H' => ∃ G' acc accD, Gr B G1 H1 G' H' ∧ G' Dl = none ∧ H' Dl = some (.lst acc) ∧ Dts K B G' acc accD ∧ accD.length ≤ i + 1 ∧ I (i + 1) accD, fun H' p => ⟨ds.length - (i + 1), by omega, rfl, hlt, p⟩, fun x H3 y => ?_⟩
      obtain ⟨G3, g3, r3⟩ := j.yld i d G2 H2 x H3 g2.g g2.gH hd y
      have E3 := wipe_env ((E1.step g2).step g3) vs
      refine turn i d accD hd hI H0 G3 H3 (wipe σ vs) x E3 r3 _ fun ρ4 σ4 E4 l4 f4 w => ⟨(wipe_eq l4 f4).trans wipe_wipe, ?_⟩
      refine w H0 G3 H3 σ4 E4 _ fun b G5 H5 g5 s => ?_
      have g35 := g3.trans g5
      cases b with
      | false =>
        rw [if_neg Bool.false_ne_true]
        exact ⟨G5, acc, accD, g2.trans g35, g35.own _ _ eD gD, g35.keep _ _ nb eD, r2.mono g35.g, Nat.le_succ_of_le hl, s⟩
      | true =>
        rw [if_pos rfl]
        refine (show Wp K B te ρ4 _ from s) H0 G5 H5 σ4 (E4.step g5) _ fun v y' G6 H6 g6 r6 p => ?_
        have g36 := g35.trans g6
        have eD6 := g36.keep _ _ nb eD
        refine ⟨acc, eD6, ?_, G6, acc ++ [v], accD ++ [y'], (g2.trans g36).chg hD (g36.own _ _ eD gD) nb, g36.own _ _ eD gD, upd_same, (r2.mono g36.g).app (.one r6), ?_, p⟩
        · rw [r2.length]
          omega
        · rw [List.length_append, List.length_singleton]
          omega
    · have ei : i = ds.length := by omega
      subst ei
      refine .inl ⟨j.stop G2 H2 g2.g g2.gH, k (.ref Dl) (.lst accD) (upd G2 Dl (.lst acc)) H2 (g1.trans (g2.share hD eD nb)) (.lst upd_same (r2.mono (Ex.new gD))) (fin accD hI)⟩
theorem wt_yes {S : Bool → Prop} (s : S true) : WpT K B tYes ρ S := fun H0 G H σ E Q k => k true G H E.gh.refl s
/-- every item gives one -/
theorem wp_lcMap {wi : TI} {g : TG} {te : TE} {vs : List Nat} {S : D → Prop} (h : WpI K B wi ρ fun ds => ds.length ≤ sizeLine ∧ ∃ f : D → D,
      (∀ d ∈ ds, WpG K B vs g (wipeR ρ vs) d fun ρ2 => Wp K B te ρ2 fun y => y = f d) ∧ S (.lst (ds.map f))) : Wp K B (tLc wi g tYes te vs) ρ S :=
  wp_lc fun H0 G H σ E R k => h H0 G H σ E R fun J ds G' H' g' j ⟨hz, f, turn, fin⟩ => k J ds G' H' g' j ⟨hz, fun i acc => acc = (ds.take i).map f, rfl, fun i d acc hd hI =>
    (turn d (List.mem_of_getElem? hd)).imp fun ρ2 w => wt_yes (w.imp fun y e => by
      subst hI e
      rw [List.take_add_one, hd, List.map_append]
      rfl), fun acc hI => by
    subst hI
    rw [List.take_length]
    exact fin⟩
/-- those that pass -/
theorem wp_lcIf {wi : TI} {g : TG} {tt : TT} {te : TE} {vs : List Nat} {S : D → Prop} (h : WpI K B wi ρ fun ds => ds.length ≤ sizeLine ∧ ∃ (p : D → Bool) (f : D → D),
      (∀ d ∈ ds, WpG K B vs g (wipeR ρ vs) d fun ρ2 => WpT K B tt ρ2 fun b => b = p d ∧ (b = true → Wp K B te ρ2 fun y => y = f d)) ∧ S (.lst ((ds.filter p).map f))) : Wp K B (tLc wi g tt te vs) ρ S :=
  wp_lc fun H0 G H σ E R k => h H0 G H σ E R fun J ds G' H' g' j ⟨hz, p, f, turn, fin⟩ => k J ds G' H' g' j ⟨hz, fun i acc => acc = ((ds.take i).filter p).map f, rfl, fun i d acc hd hI =>
    (turn d (List.mem_of_getElem? hd)).imp fun ρ2 w => w.imp fun b ⟨e, q⟩ => by
      subst hI e
      have et : ds.take (i + 1) = ds.take i ++ [d] := by rw [List.take_add_one, hd]; rfl
      cases hp : p d with
      | true =>
        rw [if_pos rfl]
        refine (q hp).imp fun y ey => ?_
        subst ey
        show List.map f (List.filter p (ds.take i)) ++ [f d] = List.map f (List.filter p (ds.take (i + 1)))
        rw [et, List.filter_append, List.map_append, List.filter_cons, if_pos hp] <;> rfl
      | false =>
        rw [if_neg Bool.false_ne_true]
        show List.map f (List.filter p (ds.take i)) = List.map f (List.filter p (ds.take (i + 1)))
        rw [et, List.filter_append, List.map_append, List.filter_cons, if_neg (by rw [hp]; exact Bool.false_ne_true)]
        simp, fun acc hI => by
    subst hI
    rw [List.take_length]
    exact fin⟩
/-- each item gives something of a kind -/
theorem wp_lcAll {wi : TI} {g : TG} {te : TE} {vs : List Nat} {S : D → Prop} (h : WpI K B wi ρ fun ds => ds.length ≤ sizeLine ∧ ∃ R : D → D → Prop,
      (∀ d ∈ ds, WpG K B vs g (wipeR ρ vs) d fun ρ2 => Wp K B te ρ2 fun y => R d y) ∧ ∀ ys, Paired R ds ys → S (.lst ys)) : Wp K B (tLc wi g tYes te vs) ρ S :=
  wp_lc fun H0 G H σ E R' k => h H0 G H σ E R' fun J ds G' H' g' j ⟨hz, R, turn, fin⟩ => k J ds G' H' g' j ⟨hz, fun i acc => Paired R (ds.take i) acc, .nil, fun i d acc hd hI =>
    (turn d (List.mem_of_getElem? hd)).imp fun ρ2 w => wt_yes (w.imp fun y e => by
      have et : ds.take (i + 1) = ds.take i ++ [d] := by rw [List.take_add_one, hd]; rfl
      show Paired R (ds.take (i + 1)) (acc ++ [y])
      rw [et]
      exact Paired.snoc hI e), fun acc hI => by
    have hI' : Paired R (ds.take ds.length) acc := hI
    rw [List.take_length] at hI'
    exact fin acc hI'⟩
end
end FS

/-! FsD: calls of defs, of methods, of classes; fields; own lists and dicts; subscripts; dicts; data compared. -/
namespace FS
open PySem L2

section
variable {K : PySem.W.Frag} {B : Addr → Prop} {ρ : Ro} {te ta tb : TE} {S : D → Prop} {P : Po}

/-! ### calls of defs -/
/-- what a def does: from its arguments, the wish of its answer -/
abbrev Spc := List D → (D → Prop) → Prop
def Fn (K : PySem.W.Frag) (F : Spc) : Sp := fun vs H Q _ => ∃ (B : Addr → Prop) (G : Hp) (ds : List D) (S : D → Prop), GH B G H ∧ Dts K B G vs ds ∧ F ds S ∧ ∀ v d G' H', Gr B G H G' H' → Dt K B G' v d → S d → Q v H'
theorem wp_call {F : Spc} {dvs : List V} {dds : List D} {E : XK} {t : TA} (hd : Dts K B (fun _ => none) dvs dds) (h : WpA K B t ρ fun ds => F (ds ++ dds) S) : Wp K B (tCall (Fn K F) dvs E t) ρ S := fun H0 G H σ En Q k =>
  h H0 G H σ En _ fun vs ds G1 H1 g1 r1 f => ⟨B, G1, ds ++ dds, S, g1.gH, r1.app (hd.mono fun _ _ q => by cases q), f, fun v d G2 H2 g2 r2 s => k v d G2 H2 (g1.trans g2) r2 s⟩
theorem wp_call0 {F : Spc} {E : XK} {t : TA} (h : WpA K B t ρ fun ds => F ds S) : Wp K B (tCall (Fn K F) [] E t) ρ S := wp_call (dds := []) .nil (h.imp fun ds f => by rw [List.append_nil]; exact f)
theorem wp_meth {F : Spc} {C : Addr} {m : Str} {dvs : List V} {dds : List D} {E : XK} {t : TA} (hd : Dts K B (fun _ => none) dvs dds)
    (h : Wp K B ta ρ fun a => ∃ fs, a = .ins C fs ∧ fs.lookup m = none ∧ WpA K B t ρ fun ds => F (.ins C fs :: (ds ++ dds)) S) : Wp K B (tMeth C m (Fn K F) dvs E ta t) ρ S := fun H0 G H σ En Q k =>
  h H0 G H σ En _ fun x a G1 H1 g1 r1 ⟨fs, ea, hl, w⟩ => by
    subst ea
    cases r1 with
    | @ins p _ dx fvs _ e rf =>
      refine ⟨p, dx, fvs, rfl, g1.gh _ _ e, rf.none hl, w H0 G1 H1 σ (En.step g1) _ fun vs ds G2 H2 g2 r2 f => ?_⟩
      exact ⟨B, G2, _, S, g2.gH, .cons (Dt.mono g2.g (.ins e rf)) (r2.app (hd.mono fun _ _ q => by cases q)), f, fun v d G3 H3 g3 r3 s => k v d G3 H3 ((g1.trans g2).trans g3) r3 s⟩
theorem wp_prop {F : Spc} {C : Addr} {E : XK} (h : Wp K B ta ρ fun a => ∃ fs, a = .ins C fs ∧ F [.ins C fs] S) : Wp K B (tProp C (Fn K F) [] E ta) ρ S := fun H0 G H σ En Q k =>
  h H0 G H σ En _ fun x a G1 H1 g1 r1 ⟨fs, ea, f⟩ => by
    subst ea
    cases r1 with
    | @ins p _ dx fvs _ e rf =>
      exact ⟨p, dx, fvs, rfl, g1.gh _ _ e, B, G1, _, S, g1.gH, .cons (.ins e rf) .nil, f, fun v d G3 H3 g3 r3 s => k v d G3 H3 (g1.trans g3) r3 s⟩
theorem start_env {H0 G H : Hp} {N : List Str} {vs : List V} {ds : List D} (gh : GH B G H) (r : Dts K B G vs ds) : EnvS K B H0 G H (start N vs) (ds.map Sl.d ++ List.replicate (N.length - ds.length) Sl.no) := by
  have hl := r.length
  refine ⟨gh, ?_, fun i d h => ?_, fun i o h => ?_, fun i j l o o' _ h => ?_⟩
  · unfold L2.start
    rw [List.length_append, List.length_append, List.length_map, List.length_map, List.length_replicate, List.length_replicate, hl]
  · by_cases hi : i < ds.length
    · rw [List.getElem?_append_left (by rw [List.length_map]; exact hi), List.getElem?_map] at h
      obtain ⟨d', hd⟩ : ∃ d', ds[i]? = some d' := ⟨ds[i], List.getElem?_eq_getElem hi⟩
      rw [hd] at h
      cases h
      obtain ⟨v, hv, q⟩ := r.get hd
      refine ⟨v, ?_, q⟩
      unfold L2.start
      rw [List.getElem?_append_left (by rw [List.length_map, hl]; exact hi), List.getElem?_map, hv] <;> rfl
    · rw [List.getElem?_append_right (by rw [List.length_map]; omega), List.getElem?_replicate] at h
      split at h <;> cases h
  · by_cases hi : i < ds.length
    · rw [List.getElem?_append_left (by rw [List.length_map]; exact hi), List.getElem?_map] at h
      obtain ⟨d', hd⟩ : ∃ d', ds[i]? = some d' := ⟨ds[i], List.getElem?_eq_getElem hi⟩
      rw [hd] at h
      cases h
    · rw [List.getElem?_append_right (by rw [List.length_map]; omega), List.getElem?_replicate] at h
      split at h <;> cases h
  · by_cases hi : i < ds.length
    · rw [List.getElem?_append_left (by rw [List.length_map]; exact hi), List.getElem?_map] at h
      obtain ⟨d', hd⟩ : ∃ d', ds[i]? = some d' := ⟨ds[i], List.getElem?_eq_getElem hi⟩
      rw [hd] at h
      cases h
    · rw [List.getElem?_append_right (by rw [List.length_map]; omega), List.getElem?_replicate] at h
      split at h <;> cases h
/-- a def's body keeps its promise -/
theorem fn_body {F : Spc} {t : TS} {N : List Str} {vs : List V} {H : Hp} {Q : VK} {E : XK} (h : ∀ B ds S, F ds S → WpS K B t (ds.map Sl.d ++ List.replicate (N.length - ds.length) Sl.no) { nx := fun _ => S .non, rt := S }) (q : Fn K F vs H Q E) :
    t { nx := fun _ H' => Q .non H', rt := Q } (start N vs) H := by
  obtain ⟨B, G, ds, S, gh, r, f, k⟩ := q
  exact h B ds S f G G H G H _ _ (start_env gh r) gh.refl (Ex.refl _) ⟨fun ρ G' H' σ' E' g' _ s => k .non .non G' H' g' .non s, fun v d G' H' g' r' s => k v d G' H' g' r' s, fun _ _ _ _ _ _ _ z => z.elim, fun _ _ _ _ _ _ _ z => z.elim⟩
theorem fn_len {F : Spc} {n : Nat} (h : ∀ ds S, F ds S → ds.length = n) : ∀ vs H Q E, Fn K F vs H Q E → vs.length = n := fun vs H Q E ⟨B, G, ds, S, gh, r, f, k⟩ => by rw [r.length]; exact h ds S f

/-! ### fields, classes -/
theorem wp_fld {f : Str} (h : Wp K B ta ρ fun a => ∃ C fs d, a = .ins C fs ∧ Cls K C ∧ NoAttr K C f ∧ fs.lookup f = some d ∧ S d) : Wp K B (tFld K ta f) ρ S := fun H0 G H σ En Q k =>
  h H0 G H σ En _ fun x a G1 H1 g1 r1 ⟨C, fs, d, ea, c, n, l, s⟩ => by
    subst ea
    cases r1 with
    | @ins p _ dx fvs _ e rf =>
      obtain ⟨v, hv, q⟩ := rf.get l
      exact ⟨p, C, dx, fvs, v, rfl, g1.gh _ _ e, c, n, hv, k v d G1 H1 g1 q s⟩
/-- __init__: the new instance, its arguments; what its fields come to be -/
def Fi (K : PySem.W.Frag) (C : Addr) (F : List D → (List (Str × D) → Prop) → Prop) : Sp := fun vs H Q _ => ∃ (B : Addr → Prop) (G H0 : Hp) (x : Addr) (ws : List V) (ds : List D) (S : List (Str × D) → Prop), vs = .ref x :: ws ∧ Gr B G H0 G H ∧ ¬ B x ∧ G x = none ∧ OwnAt K B H0 G H x (.ins x C []) ∧
  Dts K B G ws ds ∧ F ds S ∧ ∀ fs G' H', Gr B G H0 G' H' → G' x = none → OwnAt K B H0 G' H' x (.ins x C fs) → S fs → Q .non H'
theorem wp_make {F : List D → (List (Str × D) → Prop) → Prop} {C : Addr} {E : XK} {t : TA} (h : WpA K B t ρ fun ds => F ds fun fs => S (.ins C fs)) : Wp K B (tMake C (Fi K C F) [] E t) ρ S := fun H0 G H σ En Q k =>
  h H0 G H σ En _ fun vs ds G1 H1 g1 r1 f x dx hx hdx ne => by
    have gh1 := g1.gH
    have hgx : G1 x = none := gh1.gh.free hx
    have hgd : G1 dx = none := gh1.gh.free hdx
    have nbx : ¬ B x := not_box gh1 hx
    have nbd : ¬ B dx := not_box gh1 hdx
    have s1 := Gr.newOwn (o := .own x) gh1 hdx
    have hx2 : (upd H1 dx (.own x)) x = none := by rw [upd_ne (Ne.symm ne)]; exact hx
    have s2 := s1.trans (Gr.newOwn (o := .ins C dx []) s1.gH hx2)
    refine ⟨B, G1, H1, x, vs, ds, _, by rw [List.append_nil], s2, nbx, hgx, ⟨rfl, hx, dx, [], upd_same, by rw [upd_ne ne]; exact upd_same, hgd, hdx, nbd, .nil⟩, r1, f, fun fs G2 H2 g2 hg2 ow s => ⟨rfl, ?_⟩⟩
    obtain ⟨_, _, dx', ws, e1, e2, e3, e4, e5, e6⟩ := ow
    have ex : Ex G2 (upd (upd G2 dx' (.own x)) x (.ins C dx' ws)) := fun a u e => by
      rw [upd_ne (ne_of_none e hg2), upd_ne (ne_of_none e e3)]
      exact e
    have s3 := (g2.share e4 e2 e5).share hx e1 nbx
    exact k (.ref x) _ _ H2 (g1.trans s3) (.ins upd_same (e6.mono ex)) s
theorem fi_len {C : Addr} {F : List D → (List (Str × D) → Prop) → Prop} {n : Nat} (h : ∀ ds S, F ds S → ds.length = n) : ∀ vs H Q E, Fi K C F vs H Q E → vs.length = n + 1 := fun vs H Q E ⟨B, G, H0, x, ws, ds, S, ev, _, _, _, _, r, f, _⟩ => by
  rw [ev, List.length_cons, r.length, h ds S f]
theorem fi_body {C : Addr} {F : List D → (List (Str × D) → Prop) → Prop} {t : TS} {N : List Str} {vs : List V} {H : Hp} {Q : VK} {E : XK}
    (h : ∀ B ds S x, F ds S → WpS K B t (Sl.own (.ins x C []) :: (ds.map Sl.d ++ List.replicate (N.length - (ds.length + 1)) Sl.no)) { nx := fun ρ' => ∃ fs, ρ'[0]? = some (.own (.ins x C fs)) ∧ S fs, rt := fun _ => False }) (q : Fi K C F vs H Q E) :
    t { nx := fun _ H' => Q .non H', rt := Q } (start N vs) H := by
  obtain ⟨B, G, H0, x, ws, ds, S, ev, g, nb, gx, ow, r, f, k⟩ := q
  subst ev
  have E0 : EnvS K B H0 G H (start N (.ref x :: ws)) (Sl.own (.ins x C []) :: (ds.map Sl.d ++ List.replicate (N.length - (ds.length + 1)) Sl.no)) := by
    have E1 : EnvS K B H0 G H (start (N.drop 1) ws) (ds.map Sl.d ++ List.replicate ((N.drop 1).length - ds.length) Sl.no) := start_env g.gH r
    have es : start N (.ref x :: ws) = some (.ref x) :: start (N.drop 1) ws := by
      unfold L2.start
      rw [List.map_cons, List.cons_append, List.length_cons, List.length_drop, show N.length - (ws.length + 1) = N.length - 1 - ws.length by omega]
    have er : List.replicate (N.length - (ds.length + 1)) Sl.no = List.replicate ((N.drop 1).length - ds.length) Sl.no := by
      rw [List.length_drop, show N.length - (ds.length + 1) = N.length - 1 - ds.length by omega]
    rw [es, er]
    refine ⟨E1.gh, by rw [List.length_cons, List.length_cons, E1.len], fun i d h => ?_, fun i o h => ?_, fun i j l o o' ne h1 h2 e1 e2 => ?_⟩
    · cases i with
      | zero => cases h
      | succ i => exact E1.at_ i d h
    · cases i with
      | zero =>
        cases h
        exact ⟨x, rfl, gx, nb, ow⟩
      | succ i => exact E1.ow i o h
    · cases i with
      | zero =>
        cases j with
        | zero => exact ne rfl
        | succ j =>
          obtain ⟨l', e3, _⟩ := E1.ow j o' h2
          -- no own slot among the arguments
          have h2' : (ds.map Sl.d ++ List.replicate ((N.drop 1).length - ds.length) Sl.no)[j]? = some (.own o') := h2
          by_cases hj : j < ds.length
          · rw [List.getElem?_append_left (by rw [List.length_map]; exact hj), List.getElem?_map] at h2'
            rw [List.getElem?_eq_getElem hj] at h2'
            cases h2'
          · rw [List.getElem?_append_right (by rw [List.length_map]; omega), List.getElem?_replicate] at h2'
            split at h2' <;> cases h2'
      | succ i =>
        have h1' : (ds.map Sl.d ++ List.replicate ((N.drop 1).length - ds.length) Sl.no)[i]? = some (.own o) := h1
        by_cases hi : i < ds.length
        · rw [List.getElem?_append_left (by rw [List.length_map]; exact hi), List.getElem?_map] at h1'
          rw [List.getElem?_eq_getElem hi] at h1'
          cases h1'
        · rw [List.getElem?_append_right (by rw [List.length_map]; omega), List.getElem?_replicate] at h1'
          split at h1' <;> cases h1'
  refine h B ds S x f G G H0 G H _ _ E0 g (Ex.refl _) ⟨fun ρ G' H' σ' E' g' _ ⟨fs, h0, s⟩ => ?_, fun v d G' H' g' r' s => s.elim, fun _ _ _ _ _ _ _ z => z.elim, fun _ _ _ _ _ _ _ z => z.elim⟩
  obtain ⟨l, e, gl, nbl, o⟩ := E'.ow 0 _ h0
  obtain ⟨rfl, rest⟩ := id o
  exact k fs G' H' g' gl o s
theorem ws_fld {i : Nat} {x C : Addr} {fs : List (Str × D)} {f : Str} {tv : TE} (hi : ρ[i]? = some (.own (.ins x C fs))) (c : Cls K C) (n : NoAttr K C f) (hl : fs.length < 1000) (h : Wp K B tv ρ fun d => P.nx (ρ.set i (.own (.ins x C (fput f d fs))))) :
    WpS K B (sFld K (tVar i) tv f) ρ P := fun F G0 H0 G H σ Dn E g ff e =>
  h H0 G H σ E _ fun v d G1 H1 g1 r1 p => by
    have E1 := E.step g1
    obtain ⟨l, e1, gl, nb, o⟩ := E1.ow i _ hi
    obtain ⟨rfl, n0, dx, vs, q1, q2, q3, q4, q5, q6⟩ := o
    have nd : dx ≠ l := ne_of q2 q1 (by intro z; cases z)
    refine ⟨.ref l, e1, l, C, dx, vs, rfl, q1, c, n, by rw [q6.length]; exact hl, ?_⟩
    have g2 := (g.trans g1).chg (o := .ins C dx (putF f v vs)) n0 gl nb
    have ro : OwnAt K B H0 G1 (upd H1 l (.ins C dx (putF f v vs))) l (.ins l C (fput f d fs)) := ⟨rfl, n0, dx, _, upd_same, by rw [upd_ne nd]; exact q2, q3, q4, q5, q6.put r1⟩
    have hiσ : i < σ.length := (List.getElem?_eq_some_iff.mp e1).1
    have es : σ.set i (some (.ref l)) = σ := by
      apply List.ext_getElem?
      intro j
      by_cases hj : i = j
      · subst hj
        rw [List.getElem?_set_self hiσ, e1]
      · rw [List.getElem?_set_ne hj]
    have E2 : EnvS K B H0 G1 (upd H1 l (.ins C dx (putF f v vs))) (σ.set i (some (.ref l))) (ρ.set i (.own (.ins l C (fput f d fs)))) := by
      have Ef : EnvS K B H0 G1 (upd H1 l (.ins C dx (putF f v vs))) (σ.set i none) (ρ.set i .no) := by
        have Eg := E1.forget i none
        refine ⟨g2.gH, Eg.len, Eg.at_, fun j o' hj => ?_, Eg.apart⟩
        obtain ⟨l2, w1, w2, w3, w4⟩ := Eg.ow j o' hj
        have nl : l2 ≠ l := fun q => by
          subst q
          have nij : i ≠ j := fun q => by
            subst q
            rw [List.getElem?_set] at hj
            simp at hj
          rw [List.getElem?_set_ne nij] at hj w1
          exact E1.apart i j l2 _ o' nij hi hj e1 w1
        refine ⟨l2, w1, w2, w3, ?_⟩
        cases o' with
        | lst ds => obtain ⟨a1, vs', a2, a3⟩ := w4; exact ⟨a1, vs', by rw [upd_ne nl]; exact a2, a3⟩
        | dic ds => obtain ⟨a1, vs', a2, a3⟩ := w4; exact ⟨a1, vs', by rw [upd_ne nl]; exact a2, a3⟩
        | acc R => obtain ⟨a1, vs', a2, a3⟩ := w4; exact ⟨a1, vs', by rw [upd_ne nl]; exact a2, a3⟩
        | ins y C' fs' =>
          obtain ⟨a0, a1, dy, vs', a2, a3, a4⟩ := w4
          exact ⟨a0, a1, dy, vs', by rw [upd_ne nl]; exact a2, by rw [upd_ne (ne_of a3 q1 (by intro z; cases z))]; exact a3, a4⟩
      have Es := Ef.setOwn i gl nb ro fun j o' ne h1 h2 => by
        rw [List.getElem?_set_ne (Ne.symm ne)] at h1 h2
        exact E1.apart i j l _ o' (Ne.symm ne) hi h1 e1 h2
      rw [List.set_set, List.set_set] at Es
      exact Es
    rw [es] at E2
    exact e.nx _ _ _ σ E2 g2 (ff.trans g1.g) p
end
end FS

/-! FsE: own lists and dicts; subscripts; dicts; data compared; built-ins. -/
namespace FS
open PySem L2

section
variable {K : PySem.W.Frag} {B : Addr → Prop} {ρ : Ro} {te ta tb tx : TE} {S : D → Prop} {P : Po}

/-! ### things of one's own -/
theorem set_self {σ : L2.St} {i : Nat} {x : Option V} (h : σ[i]? = some x) : σ.set i x = σ := by
  apply List.ext_getElem?
  intro j
  by_cases hj : i = j
  · subst hj
    rw [List.getElem?_set_self (List.getElem?_eq_some_iff.mp h).1, h]
  · rw [List.getElem?_set_ne hj]
theorem EnvS.chg {H0 G H : Hp} {σ : L2.St} (E : EnvS K B H0 G H σ ρ) {i : Nat} {l : Addr} {o o' : OD} {u0 u : HO} (hi : ρ[i]? = some (.own o)) (hσ : σ[i]? = some (some (.ref l))) (gl : G l = none) (nb : ¬ B l) (hu : H l = some u0) (no : ∀ y, u0 ≠ .own y)
    (r : OwnAt K B H0 G (upd H l u) l o') : EnvS K B H0 G (upd H l u) σ (ρ.set i (.own o')) := by
  have gh2 : GH B G (upd H l u) := ⟨fun a w e => by rw [upd_ne (ne_of_none e gl)]; exact E.gh.gh a w e, fun a ha => by
    obtain ⟨x, y, z, e⟩ := E.gh.box a ha
    exact ⟨x, y, z, by rw [upd_ne (fun q => nb (by rw [← q]; exact ha))]; exact e⟩, E.gh.nob⟩
  have Ef : EnvS K B H0 G (upd H l u) (σ.set i none) (ρ.set i .no) := by
    have Eg := E.forget i none
    refine ⟨gh2, Eg.len, Eg.at_, fun j o2 hj => ?_, Eg.apart⟩
    obtain ⟨l2, w1, w2, w3, w4⟩ := Eg.ow j o2 hj
    have nl : l2 ≠ l := fun q => by
      subst q
      have nij : i ≠ j := fun q => by
        subst q
        rw [List.getElem?_set] at hj
        simp at hj
      rw [List.getElem?_set_ne nij] at hj w1
      exact E.apart i j l2 _ o2 nij hi hj hσ w1
    refine ⟨l2, w1, w2, w3, ?_⟩
    cases o2 with
    | lst ds => obtain ⟨a1, vs', a2, a3⟩ := w4; exact ⟨a1, vs', by rw [upd_ne nl]; exact a2, a3⟩
    | dic ds => obtain ⟨a1, vs', a2, a3⟩ := w4; exact ⟨a1, vs', by rw [upd_ne nl]; exact a2, a3⟩
    | acc R => obtain ⟨a1, vs', a2, a3⟩ := w4; exact ⟨a1, vs', by rw [upd_ne nl]; exact a2, a3⟩
    | ins y C' fs' =>
      obtain ⟨a0, a1, dy, vs', a2, a3, a4⟩ := w4
      exact ⟨a0, a1, dy, vs', by rw [upd_ne nl]; exact a2, by rw [upd_ne (ne_of a3 hu (Ne.symm (no _)))]; exact a3, a4⟩
  have Es := Ef.setOwn i gl nb r fun j o2 ne h1 h2 => by
    rw [List.getElem?_set_ne (Ne.symm ne)] at h1 h2
    exact E.apart i j l _ o2 (Ne.symm ne) hi h1 hσ h2
  rw [List.set_set, List.set_set, set_self hσ] at Es
  exact Es
/-- a new thing of one's own -/
def WpN (K : PySem.W.Frag) (B : Addr → Prop) (te : TE) (ρ : Ro) (S : OD → Prop) : Prop :=
  ∀ H0 G H σ, EnvS K B H0 G H σ ρ → ∀ Q : VK, (∀ l o G' H', Gr B G H G' H' → G' l = none → ¬ B l → H l = none → OwnAt K B H G' H' l o → S o → Q (.ref l) H') → te σ H Q
theorem OwnAt.base {H0 H1 G H : Hp} {l : Addr} {o : OD} (h : OwnAt K B H1 G H l o) (e : ∀ a, H1 a = none → ¬ B a → H0 a = none) (nb : ¬ B l) : OwnAt K B H0 G H l o := by
  cases o with
  | lst ds => exact ⟨e _ h.1 nb, h.2⟩
  | dic ds => exact ⟨e _ h.1 nb, h.2⟩
  | acc R => exact ⟨e _ h.1 nb, h.2⟩
  | ins x C fs =>
    obtain ⟨a0, a1, dx, vs, a2, a3, a4, a5, a6, a7⟩ := h
    exact ⟨a0, e _ a1 nb, dx, vs, a2, a3, a4, e _ a5 a6, a6, a7⟩
theorem Gr.back {G H G' H' : Hp} (g : Gr B G H G' H') : ∀ a, H' a = none → ¬ B a → H a = none := fun a h nb => by
  cases q : H a with
  | none => rfl
  | some o =>
    rw [g.keep a o nb q] at h
    cases h
theorem ws_asgN {i : Nat} (h : WpN K B te ρ fun o => P.nx (ρ.set i (.own o))) : WpS K B (tAsg te (gName i)) ρ P := fun F G0 H0 G H σ Dn E g f e =>
  h H0 G H σ E _ fun l o G' H' g' gl nb hl ow p => by
    refine e.nx _ G' H' _ ((E.step g').setOwn i gl nb (ow.base g.back nb) fun j o' ne h1 h2 => ?_) (g.trans g') (f.trans g'.g) p
    obtain ⟨l2, w1, w2, w3, w4⟩ := E.ow j o' h1
    rw [h2] at w1
    cases w1
    obtain ⟨u, hu⟩ := w4.there
    rw [hl] at hu
    cases hu
theorem wn_lst {t : TA} {S : OD → Prop} (h : WpA K B t ρ fun ds => ds.length ≤ sizeLine ∧ S (.lst ds)) : WpN K B (tLst t) ρ S := fun H0 G H σ E Q k =>
  h H0 G H σ E _ fun vs ds G1 H1 g1 r1 ⟨z, s⟩ => ⟨by rw [r1.length]; exact z, fun p hp => by
    have nb := not_box g1.gH hp
    exact k p (.lst ds) G1 _ (g1.trans (Gr.newOwn g1.gH hp)) (g1.gh.free hp) nb (g1.back p hp nb) ⟨g1.back p hp nb, vs, upd_same, r1⟩ s⟩
theorem wn_nil {S : OD → Prop} (s : S (.lst [])) : WpN K B (tLst tNil) ρ S := wn_lst (wa_nil ⟨Nat.zero_le _, s⟩)
theorem wn_dK {S : OD → Prop} (s : S (.dic [])) : WpN K B tDNewK ρ S := fun H0 G H σ E Q k p hp => k p (.dic []) G _ (Gr.newOwn E.gh hp) (E.gh.gh.free hp) (not_box E.gh hp) hp ⟨hp, [], upd_same, .nil⟩ s
/-- a comprehension's list as one's own -/
theorem ws_append {i : Nat} {ds : List D} (hi : ρ[i]? = some (.own (.lst ds))) (hz : ds.length < sizeLine) (h : Wp K B te ρ fun d => P.nx (ρ.set i (.own (.lst (ds ++ [d]))))) : WpS K B (tDrop (tBM K "list" rAppend (tVar i) (tCons te tNil))) ρ P := fun F G0 H0 G H σ Dn E g f e => by
  obtain ⟨l, e1, gl, nb, n0, vs, q1, q2⟩ := E.ow i _ hi
  refine ⟨.ref l, e1, .inl ⟨rfl, vs, .inl (.inl q1)⟩, h H0 G H σ E _ fun v d G1 H1 g1 r1 p => ?_⟩
  have E1 := E.step g1
  have q3 := g1.keep _ _ nb q1
  have gl1 := g1.own _ _ q1 gl
  refine ⟨l, vs, v, rfl, rfl, q3, by rw [q2.length]; exact hz, ?_⟩
  exact e.nx _ _ _ σ (E1.chg (o' := .lst (ds ++ [d])) hi e1 gl1 nb q3 (fun y z => by cases z) ⟨n0, _, upd_same, (q2.mono g1.g).app (.one r1)⟩) ((g.trans g1).chg n0 gl1 nb) (f.trans g1.g) p
/-- xs[j] = e of an own list -/
theorem ixN_nat {n j : Nat} (hj : j < n) : ixN n (j : Int) = some j := by
  unfold ixN
  rw [if_pos (by omega), if_pos (by omega)]
  simp
theorem ws_setL {i j : Nat} {ds : List D} {ti : TE} (hi : ρ[i]? = some (.own (.lst ds))) (hj : j < ds.length) (h : Wp K B te ρ fun d => Wp K B ti ρ fun n => n = .int (j : Int) ∧ P.nx (ρ.set i (.own (.lst (ds.set j d))))) :
    WpS K B (tAsg te (gSub (tVar i) ti rSetL)) ρ P := fun F G0 H0 G H σ Dn E g f e => h H0 G H σ E _ fun v d G1 H1 g1 r1 h1 => by
  have E1 := E.step g1
  obtain ⟨l, e1, gl, nb, n0, vs, q1, q2⟩ := E1.ow i _ hi
  refine ⟨.ref l, e1, h1 H0 G1 H1 σ E1 _ fun v2 d2 G2 H2 g2 r2 ⟨en, p⟩ => ?_⟩
  subst en
  cases r2
  have E2 := E1.step g2
  have q3 := g2.keep _ _ nb q1
  have gl2 := g2.own _ _ q1 gl
  refine ⟨l, vs, (j : Int), j, rfl, rfl, q3, ixN_nat (by rw [q2.length]; exact hj), ?_⟩
  exact e.nx _ _ _ σ (E2.chg (o' := .lst (ds.set j d)) hi e1 gl2 nb q3 (fun y z => by cases z) ⟨n0, _, upd_same, (q2.mono g2.g).set j (r1.mono g2.g)⟩) (((g.trans g1).trans g2).chg n0 gl2 nb) ((f.trans g1.g).trans g2.g) p
/-- d[k] = e of an own dict -/
def D.key : D → Option Key
  | .int i => some (.inl i)
  | .str x => some (.inr x)
  | _ => none
theorem Dt.keyV {G : Hp} {v : V} {d : D} {k : Key} (h : Dt K B G v d) (e : d.key = some k) : v = kV k := by
  cases h <;> first | (cases e; rfl) | cases e
theorem ws_put {i : Nat} {kvs : List (Key × D)} {ty tv : TE} (hi : ρ[i]? = some (.own (.dic kvs))) (hz : kvs.length < sizeLine) (h : Wp K B tv ρ fun d => Wp K B ty ρ fun y => ∃ k, y.key = some k ∧ P.nx (ρ.set i (.own (.dic (kput kvs k d))))) :
    WpS K B (sDPut (tVar i) ty tv) ρ P := fun F G0 H0 G H σ Dn E g f e => h H0 G H σ E _ fun v d G1 H1 g1 r1 h1 => by
  have E1 := E.step g1
  obtain ⟨l, e1, gl, nb, n0, vs, q1, q2⟩ := E1.ow i _ hi
  refine ⟨.ref l, e1, h1 H0 G1 H1 σ E1 _ fun v2 d2 G2 H2 g2 r2 ⟨k, ek, p⟩ => ?_⟩
  have E2 := E1.step g2
  have q3 := g2.keep _ _ nb q1
  have gl2 := g2.own _ _ q1 gl
  rw [r2.keyV ek]
  refine ⟨l, _, rfl, DPut.k q3 (by rw [q2.length]; exact hz), ?_⟩
  exact e.nx _ _ _ σ (E2.chg (o' := .dic (kput kvs k d)) hi e1 gl2 nb q3 (fun y z => by cases z) ⟨n0, _, upd_same, (q2.mono g2.g).put k (r1.mono g2.g)⟩) (((g.trans g1).trans g2).chg n0 gl2 nb) ((f.trans g1.g).trans g2.g) p

/-! ### subscripts -/
theorem ixN_len {n i j : Nat} : True := trivial
theorem dts_at {G : Hp} {vs : List V} {ds : List D} {i : Int} {d : D} (r : Dts K B G vs ds) (h : atI ds i = some d) : ∃ v, atI vs i = some v ∧ Dt K B G v d := by
  unfold atI at h ⊢
  rw [r.length]
  cases q : ixN ds.length i with
  | none =>
    rw [q] at h
    cases h
  | some j =>
    rw [q] at h
    exact r.get h
theorem wp_ixL (h : Wp K B ta ρ fun a => Wp K B tb ρ fun b => ∃ ds i d, a = .lst ds ∧ b = .int i ∧ atI ds i = some d ∧ S d) : Wp K B (tOp (rIxL K) ta tb) ρ S :=
  wp_op (h.imp fun a ha => ha.imp fun b ⟨ds, i, d, ea, eb, hd, s⟩ G H x y Q gh rx ry k => by
    subst ea eb
    cases ry
    cases rx with
    | @lst p xs _ e r =>
      obtain ⟨v, hv, q⟩ := dts_at r hd
      exact ⟨p, xs, i, v, rfl, rfl, .inl (.inl (gh.gh _ _ e)), hv, k v d G H gh.refl q s⟩)
theorem wp_ixT (h : Wp K B ta ρ fun a => Wp K B tb ρ fun b => ∃ ds i d, a = .tup ds ∧ b = .int i ∧ atI ds i = some d ∧ S d) : Wp K B (tOp (rIxT K) ta tb) ρ S :=
  wp_op (h.imp fun a ha => ha.imp fun b ⟨ds, i, d, ea, eb, hd, s⟩ G H x y Q gh rx ry k => by
    subst ea eb
    cases ry
    cases rx with
    | @tup p xs _ e r =>
      obtain ⟨v, hv, q⟩ := dts_at r hd
      exact ⟨p, xs, i, v, rfl, rfl, .inl (.inl (gh.gh _ _ e)), hv, k v d G H gh.refl q s⟩)
theorem wp_ix (h : Wp K B ta ρ fun a => Wp K B tb ρ fun b => ∃ ds i d, (a = .lst ds ∨ a = .tup ds) ∧ b = .int i ∧ atI ds i = some d ∧ S d) : Wp K B (tOp (rIx K) ta tb) ρ S :=
  wp_op (h.imp fun a ha => ha.imp fun b ⟨ds, i, d, ea, eb, hd, s⟩ G H x y Q gh rx ry k => by
    subst eb
    cases ry
    rcases ea with ea | ea
    · subst ea
      cases rx with
      | @lst p xs _ e r =>
        obtain ⟨v, hv, q⟩ := dts_at r hd
        exact .inl ⟨p, xs, i, v, rfl, rfl, .inl (.inl (gh.gh _ _ e)), hv, k v d G H gh.refl q s⟩
    · subst ea
      cases rx with
      | @tup p xs _ e r =>
        obtain ⟨v, hv, q⟩ := dts_at r hd
        exact .inr (.inl ⟨p, xs, i, v, rfl, rfl, .inl (.inl (gh.gh _ _ e)), hv, k v d G H gh.refl q s⟩))
/-- of the script -/
theorem wp_ixScr (h : Wp K B ta ρ fun a => Wp K B tb ρ fun b => ∃ ns i n, a = .scr ns ∧ b = .int i ∧ atI ns i = some n ∧ S (.int n)) : Wp K B (tOp (rIxL K) ta tb) ρ S :=
  wp_op (h.imp fun a ha => ha.imp fun b ⟨ns, i, n, ea, eb, hd, s⟩ G H x y Q gh rx ry k => by
    subst ea eb
    cases ry
    cases rx with
    | @scr p _ e =>
      refine ⟨p, _, i, .int n, rfl, rfl, gh.gh.sql e, ?_, k _ _ G H gh.refl (.int n) s⟩
      unfold atI at hd ⊢
      rw [List.length_map]
      cases q : ixN ns.length i with
      | none =>
        rw [q] at hd
        cases hd
      | some j =>
        rw [q] at hd
        show (ns.map V.int)[j]? = _
        rw [List.getElem?_map, show ns[j]? = some n from hd] <;> rfl)
/-- of a box: some int -/
theorem wp_ixBox {i : Nat} (hi : i < 3) (h : Wp K B ta ρ fun a => Wp K B tb ρ fun b => a = .box ∧ b = .int (i : Int) ∧ ∀ n : Int, S (.int n)) : Wp K B (tOp (rIxL K) ta tb) ρ S :=
  wp_op (h.imp fun a ha => ha.imp fun b ⟨ea, eb, s⟩ G H x y Q gh rx ry k => by
    subst ea eb
    cases ry
    cases rx with
    | @box p hb =>
      obtain ⟨n0, n1, n2, e⟩ := gh.box p hb
      obtain ⟨n, hn⟩ : ∃ n, ([.int n0, .int n1, .int n2] : List V)[i]? = some (.int n) := by
        match i, hi with
        | 0, _ => exact ⟨n0, rfl⟩
        | 1, _ => exact ⟨n1, rfl⟩
        | 2, _ => exact ⟨n2, rfl⟩
      exact ⟨p, _, (i : Int), .int n, rfl, rfl, .inl (.inl e), atI_nat hn, k _ _ G H gh.refl (.int n) (s n)⟩)
/-- a box's place is stored -/
theorem ws_setBox {i j : Nat} {ti : TE} (hi : ρ[i]? = some (.d .box)) (hj : j < 3) (h : Wp K B te ρ fun d => Wp K B ti ρ fun n => n = .int (j : Int) ∧ (∃ m, d = .int m) ∧ P.nx ρ) : WpS K B (tAsg te (gSub (tVar i) ti rSetL)) ρ P := fun F G0 H0 G H σ Dn E g f e =>
  h H0 G H σ E _ fun v d G1 H1 g1 r1 h1 => by
  have E1 := E.step g1
  obtain ⟨v0, e1, r0⟩ := E1.at_ i _ hi
  cases r0 with
  | @box l hb =>
    refine ⟨.ref l, e1, h1 H0 G1 H1 σ E1 _ fun v2 d2 G2 H2 g2 r2 ⟨en, ⟨m, em⟩, p⟩ => ?_⟩
    subst en em
    cases r1
    cases r2
    obtain ⟨n0, n1, n2, q⟩ := g2.box l hb
    refine ⟨l, _, (j : Int), j, rfl, rfl, q, ixN_nat (by exact hj), ?_⟩
    have gg : Gr B G2 H2 G2 (upd H2 l (.lst (([.int n0, .int n1, .int n2] : List V).set j (.int m)))) := by
      refine ⟨g2.gh, Ex.refl _, fun a u ea => ?_, fun a u nb ea => ?_, fun a ha => ?_, g2.nob, fun a u ea n => n⟩
      · rw [upd_ne (ne_of_none ea (g2.nob l hb))]
        exact g2.gh a u ea
      · rw [upd_ne (fun z => nb (by rw [z]; exact hb))]
        exact ea
      · by_cases hal : a = l
        · subst hal
          match j, hj with
          | 0, _ => exact ⟨m, n1, n2, upd_same⟩
          | 1, _ => exact ⟨n0, m, n2, upd_same⟩
          | 2, _ => exact ⟨n0, n1, m, upd_same⟩
        · obtain ⟨x, y, z, ea⟩ := g2.box a ha
          exact ⟨x, y, z, by rw [upd_ne hal]; exact ea⟩
    exact e.nx ρ _ _ σ ((E1.step g2).step gg) (((g.trans g1).trans g2).trans gg) ((f.trans g1.g).trans g2.g) p

/-! ### dicts -/
theorem wp_dget {td ty : TE} (h : Wp K B td ρ fun a => Wp K B ty ρ fun b => ∃ kvs k d, a = .dic kvs ∧ b.key = some k ∧ kget kvs k = some d ∧ S d) : Wp K B (tDGet td ty) ρ S := fun H0 G H σ E Q k =>
  h H0 G H σ E _ fun x a G1 H1 g1 r1 h1 => h1 H0 G1 H1 σ (E.step g1) _ fun y b G2 H2 g2 r2 ⟨kvs, ky, d, ea, eb, hd, s⟩ => by
    subst ea
    rw [r2.keyV eb]
    cases r1.mono g2.g with
    | @dic p vs _ e r =>
      rcases r.get (k := ky) with ⟨_, z⟩ | ⟨v, d', h3, h4, h5⟩
      · rw [hd] at z
        cases z
      · rw [hd] at h4
        cases h4
        exact ⟨p, v, rfl, .inl ⟨vs, ky, g2.gh.rd e, rfl, h3.symm⟩, k v d G2 H2 (g1.trans g2) h5 s⟩
theorem wp_din {td ty : TE} (h : Wp K B ty ρ fun b => Wp K B td ρ fun a => ∃ kvs k, a = .dic kvs ∧ b.key = some k ∧ S (.bl (kget kvs k).isSome)) : Wp K B (tDIn ty td) ρ S := fun H0 G H σ E Q k =>
  h H0 G H σ E _ fun y b G1 H1 g1 r1 h1 => h1 H0 G1 H1 σ (E.step g1) _ fun x a G2 H2 g2 r2 ⟨kvs, ky, ea, eb, s⟩ => by
    subst ea
    rw [(r1.mono g2.g).keyV eb]
    cases r2 with
    | @dic p vs _ e r =>
      refine ⟨p, valV vs ky, rfl, .inl ⟨vs, ky, g2.gh.rd e, rfl, rfl⟩, ?_⟩
      rcases r.get (k := ky) with ⟨h3, h4⟩ | ⟨v, d', h3, h4, h5⟩
      · rw [h3]
        rw [h4] at s
        exact k _ _ G2 H2 (g1.trans g2) (.bl _) s
      · rw [h3]
        rw [h4] at s
        exact k _ _ G2 H2 (g1.trans g2) (.bl _) s
theorem wp_dnotin {td ty : TE} (h : Wp K B ty ρ fun b => Wp K B td ρ fun a => ∃ kvs k, a = .dic kvs ∧ b.key = some k ∧ S (.bl (!(kget kvs k).isSome))) : Wp K B (tDNotIn ty td) ρ S := fun H0 G H σ E Q k =>
  h H0 G H σ E _ fun y b G1 H1 g1 r1 h1 => h1 H0 G1 H1 σ (E.step g1) _ fun x a G2 H2 g2 r2 ⟨kvs, ky, ea, eb, s⟩ => by
    subst ea
    rw [(r1.mono g2.g).keyV eb]
    cases r2 with
    | @dic p vs _ e r =>
      refine ⟨p, valV vs ky, rfl, .inl ⟨vs, ky, g2.gh.rd e, rfl, rfl⟩, ?_⟩
      rcases r.get (k := ky) with ⟨h3, h4⟩ | ⟨v, d', h3, h4, h5⟩
      · rw [h3]
        rw [h4] at s
        exact k _ _ G2 H2 (g1.trans g2) (.bl _) s
      · rw [h3]
        rw [h4] at s
        exact k _ _ G2 H2 (g1.trans g2) (.bl _) s
/-- d.get(k, x) -/
theorem wp_dget2 {td ty tx : TE} (h : Wp K B td ρ fun a => (∃ kvs, a = .dic kvs) ∧ Wp K B ty ρ fun b => Wp K B tx ρ fun c => ∃ kvs k, a = .dic kvs ∧ b.key = some k ∧ S ((kget kvs k).getD c)) : Wp K B (tDGet2 td ty tx) ρ S := fun H0 G H σ E Q k =>
  h H0 G H σ E _ fun x a G1 H1 g1 r1 ⟨⟨kvs, ea⟩, h1⟩ => by
    subst ea
    cases r1 with
    | @dic p vs _ e r =>
      refine ⟨p, rfl, .inl ⟨vs, g1.gh.rd e⟩, h1 H0 G1 H1 σ (E.step g1) _ fun y b G2 H2 g2 r2 h2 => h2 H0 G2 H2 σ ((E.step g1).step g2) _ fun z c G3 H3 g3 r3 ⟨kvs', ky, ea, eb, s⟩ => ?_⟩
      cases ea
      rw [(r2.mono g3.g).keyV eb]
      refine ⟨valV vs ky, .inl ⟨vs, ky, (g2.g.trans (g3.g.trans g3.gh)).rd e, rfl, rfl⟩, ?_⟩
      rcases r.get (k := ky) with ⟨h3, h4⟩ | ⟨v, d', h3, h4, h5⟩
      · rw [h3]
        rw [h4] at s
        exact k _ _ G3 H3 ((g1.trans g2).trans g3) r3 s
      · rw [h3]
        rw [h4] at s
        exact k _ _ G3 H3 ((g1.trans g2).trans g3) (h5.mono (g2.g.trans g3.g)) s

/-! ### data compared -/
mutual
def D.py : D → PyData
  | .non => .none
  | .bl b => .bool b
  | .int i => .int i
  | .str x => .str x
  | .tup ds => .tuple (pys ds)
  | .lst ds => .list (pys ds)
  | _ => .none
def pys : List D → List PyData
  | [] => []
  | d :: ds => d.py :: pys ds
end
theorem pys_map : ∀ ds : List D, pys ds = ds.map D.py
  | [] => rfl
  | d :: ds => congrArg (d.py :: ·) (pys_map ds)
/-- data without bools, n deep -/
inductive Pur : Nat → D → Prop
  | non (n : Nat) : Pur n .non
  | int (n : Nat) (i : Int) : Pur n (.int i)
  | str (n : Nat) (x : Str) : PyData.strOk x = true → Pur n (.str x)
  | tup (n : Nat) (ds : List D) : (∀ d ∈ ds, Pur n d) → Pur (n + 1) (.tup ds)
  | lst (n : Nat) (ds : List D) : (∀ d ∈ ds, Pur n d) → Pur (n + 1) (.lst ds)
theorem pur_lay : ∀ (n : Nat) (d : D), Pur n d → d.py.canLay0 = true ∧ d.py.depth ≤ n
  | n, _, .non _ => ⟨rfl, Nat.zero_le _⟩
  | n, _, .int _ i => ⟨rfl, Nat.zero_le _⟩
  | n, _, .str _ x h => ⟨by unfold D.py; simpa only [PyData.canLay0] using h, Nat.zero_le _⟩
  | _, _, .tup n ds h => by
    have all : ∀ ds : List D, (∀ d ∈ ds, Pur n d) → PyData.canLayAll0 (pys ds) = true ∧ PyData.depthAll (pys ds) ≤ n := by
      intro ds
      induction ds with
      | nil => exact fun _ => ⟨rfl, Nat.zero_le _⟩
      | cons d ds ih =>
        intro h
        obtain ⟨a, b⟩ := pur_lay n d (h d (List.mem_cons_self ..))
        obtain ⟨a', b'⟩ := ih fun e he => h e (List.mem_cons_of_mem _ he)
        refine ⟨?_, ?_⟩
        · unfold pys
          simp only [PyData.canLayAll0, a, a', Bool.and_self]
        · unfold pys
          simp only [PyData.depthAll]
          omega
    obtain ⟨a, b⟩ := all ds h
    exact ⟨by unfold D.py; simpa only [PyData.canLay0] using a, by unfold D.py; simp only [PyData.depth]; omega⟩
  | _, _, .lst n ds h => by
    have all : ∀ ds : List D, (∀ d ∈ ds, Pur n d) → PyData.canLayAll0 (pys ds) = true ∧ PyData.depthAll (pys ds) ≤ n := by
      intro ds
      induction ds with
      | nil => exact fun _ => ⟨rfl, Nat.zero_le _⟩
      | cons d ds ih =>
        intro h
        obtain ⟨a, b⟩ := pur_lay n d (h d (List.mem_cons_self ..))
        obtain ⟨a', b'⟩ := ih fun e he => h e (List.mem_cons_of_mem _ he)
        refine ⟨?_, ?_⟩
        · unfold pys
          simp only [PyData.canLayAll0, a, a', Bool.and_self]
        · unfold pys
          simp only [PyData.depthAll]
          omega
    obtain ⟨a, b⟩ := all ds h
    exact ⟨by unfold D.py; simpa only [PyData.canLay0] using a, by unfold D.py; simp only [PyData.depth]; omega⟩
theorem Pur.shaped {n : Nat} {d : D} (h : Pur n d) (hn : n ≤ 64) : SeqAt.shaped d.py = true := by
  obtain ⟨a, b⟩ := pur_lay n d h
  unfold SeqAt.shaped
  rw [a, Bool.true_and]
  exact decide_eq_true (Nat.le_trans b hn)
end
end FS

/-! FsF: data compared, built-in functions, slices, zip, enumerate. -/
namespace FS
open PySem L2

theorem eqvAll_iff {n : Nat} {ds : List D} (ih : ∀ d ∈ ds, ∀ e, Pur n e → (PyData.eqv d.py e.py = true ↔ d = e)) : ∀ {es : List D}, (∀ e ∈ es, Pur n e) → (PyData.eqvAll (pys ds) (pys es) = true ↔ ds = es) := by
  induction ds with
  | nil =>
    intro es h
    cases es with
    | nil => simp [pys, PyData.eqvAll]
    | cons e es => simp [pys, PyData.eqvAll]
  | cons d ds ihd =>
    intro es h
    cases es with
    | nil => simp [pys, PyData.eqvAll]
    | cons e es =>
      have h1 := ih d (List.mem_cons_self ..) e (h e (List.mem_cons_self ..))
      have h2 := ihd (fun d' hd' => ih d' (List.mem_cons_of_mem _ hd')) (es := es) fun e' he' => h e' (List.mem_cons_of_mem _ he')
      unfold pys
      simp only [PyData.eqvAll, Bool.and_eq_true, h1, h2, List.cons.injEq]
theorem pur_eqv : ∀ (n : Nat) (d e : D), Pur n d → Pur n e → (PyData.eqv d.py e.py = true ↔ d = e) := by
  intro n
  induction n with
  | zero =>
    intro d e hd he
    cases hd <;> cases he <;> simp [D.py, PyData.eqv]
  | succ n ih =>
    intro d e hd he
    cases hd with
    | non => cases he <;> simp [D.py, PyData.eqv]
    | int => cases he <;> simp [D.py, PyData.eqv]
    | str => cases he <;> simp [D.py, PyData.eqv]
    | tup _ ds hds =>
      cases he with
      | tup _ es hes =>
        have h := eqvAll_iff (n := n) (ds := ds) (fun d hd e he => ih d e (hds d hd) he) hes
        unfold D.py
        simp only [PyData.eqv, h, D.tup.injEq]
      | _ => simp [D.py, PyData.eqv]
    | lst _ ds hds =>
      cases he with
      | lst _ es hes =>
        have h := eqvAll_iff (n := n) (ds := ds) (fun d hd e he => ih d e (hds d hd) he) hes
        unfold D.py
        simp only [PyData.eqv, h, D.lst.injEq]
      | _ => simp [D.py, PyData.eqv]
section
variable {K : PySem.W.Frag} {B : Addr → Prop} {ρ : Ro} {te ta tb tx : TE} {S : D → Prop} {P : Po}
mutual
theorem Dt.dp {G H : Hp} (x : Ex G H) : ∀ {v : V} {d : D}, Dt K B G v d → (∃ n, Pur n d) → Dp K H v d.py
  | _, _, .non, _ => .non
  | _, _, .bl b, _ => .bl b
  | _, _, .int i, _ => .int i
  | _, _, .str z, _ => .str z
  | _, _, .tup e r, p => .tup (.inl (.inl (x _ _ e))) (Dts.dp x r fun d hd => by
      obtain ⟨n, p⟩ := p
      cases p with
      | tup n _ h => exact ⟨n, h d hd⟩)
  | _, _, .lst e r, p => .lst (.inl (.inl (x _ _ e))) (Dts.dp x r fun d hd => by
      obtain ⟨n, p⟩ := p
      cases p with
      | lst n _ h => exact ⟨n, h d hd⟩)
  | _, _, .ftup _ _ _, p => by obtain ⟨n, p⟩ := p; cases p
  | _, _, .fz _ _, p => by obtain ⟨n, p⟩ := p; cases p
  | _, _, .dic e r, p => by obtain ⟨n, p⟩ := p; cases p
  | _, _, .ins e r, p => by obtain ⟨n, p⟩ := p; cases p
  | _, _, .box h, p => by obtain ⟨n, p⟩ := p; cases p
  | _, _, .scr h, p => by obtain ⟨n, p⟩ := p; cases p
theorem Dts.dp {G H : Hp} (x : Ex G H) : ∀ {vs : List V} {ds : List D}, Dts K B G vs ds → (∀ d ∈ ds, ∃ n, Pur n d) → DpAll K H vs (pys ds)
  | _, _, .nil, _ => .nil
  | _, _, .cons h r, p => .cons (Dt.dp x h (p _ (List.mem_cons_self ..))) (Dts.dp x r fun d hd => p d (List.mem_cons_of_mem _ hd))
end
/-- == and != of data -/
theorem wp_eqD (h : Wp K B ta ρ fun a => Wp K B tb ρ fun b => ∃ n, n ≤ 64 ∧ Pur n a ∧ Pur n b ∧ ∀ r : Bool, (r = true ↔ a = b) → S (.bl r)) : Wp K B (tOp (rEqD K) ta tb) ρ S :=
  wp_op (h.imp fun a ha => ha.imp fun b ⟨n, hn, pa, pb, s⟩ G H x y Q gh rx ry k =>
    ⟨a.py, b.py, rx.dp gh.gh ⟨n, pa⟩, ry.dp gh.gh ⟨n, pb⟩, pa.shaped hn, pb.shaped hn, k _ _ G H gh.refl (.bl _) (s _ (pur_eqv n a b pa pb))⟩)
theorem wp_neD (h : Wp K B ta ρ fun a => Wp K B tb ρ fun b => ∃ n, n ≤ 64 ∧ Pur n a ∧ Pur n b ∧ ∀ r : Bool, (r = true ↔ a = b) → S (.bl (!r))) : Wp K B (tOp (rNeD K) ta tb) ρ S :=
  wp_op (h.imp fun a ha => ha.imp fun b ⟨n, hn, pa, pb, s⟩ G H x y Q gh rx ry k =>
    ⟨a.py, b.py, rx.dp gh.gh ⟨n, pa⟩, ry.dp gh.gh ⟨n, pb⟩, pa.shaped hn, pb.shaped hn, k _ _ G H gh.refl (.bl _) (s _ (pur_eqv n a b pa pb))⟩)
theorem any_iff {n : Nat} {a : D} {ds : List D} (pa : Pur n a) (pd : ∀ d ∈ ds, Pur n d) : ((pys ds).any fun z => PyData.eqv z a.py) = true ↔ a ∈ ds := by
  rw [pys_map, List.any_map, List.any_eq_true]
  constructor
  · rintro ⟨d, hd, e⟩
    rw [(pur_eqv n d a (pd d hd) pa).mp e] at hd
    exact hd
  · intro h
    exact ⟨a, h, (pur_eqv n a a pa pa).mpr rfl⟩
theorem wp_inD (h : Wp K B ta ρ fun a => Wp K B tb ρ fun b => ∃ n ds, n ≤ 63 ∧ b = .lst ds ∧ Pur n a ∧ (∀ d ∈ ds, Pur n d) ∧ ∀ r : Bool, (r = true ↔ a ∈ ds) → S (.bl r)) : Wp K B (tOp (rInD K) ta tb) ρ S :=
  wp_op (h.imp fun a ha => ha.imp fun b ⟨n, ds, hn, eb, pa, pd, s⟩ G H x y Q gh rx ry k => by
    subst eb
    have pl : Pur (n + 1) (.lst ds) := .lst n ds pd
    exact ⟨a.py, pys ds, rx.dp gh.gh ⟨n, pa⟩, ry.dp gh.gh ⟨_, pl⟩, pa.shaped (by omega), pl.shaped (by omega), k _ _ G H gh.refl (.bl _) (s _ (any_iff pa pd))⟩)
theorem wp_notInD (h : Wp K B ta ρ fun a => Wp K B tb ρ fun b => ∃ n ds, n ≤ 63 ∧ b = .lst ds ∧ Pur n a ∧ (∀ d ∈ ds, Pur n d) ∧ ∀ r : Bool, (r = true ↔ a ∈ ds) → S (.bl (!r))) : Wp K B (tOp (rNotInD K) ta tb) ρ S :=
  wp_op (h.imp fun a ha => ha.imp fun b ⟨n, ds, hn, eb, pa, pd, s⟩ G H x y Q gh rx ry k => by
    subst eb
    have pl : Pur (n + 1) (.lst ds) := .lst n ds pd
    exact ⟨a.py, pys ds, rx.dp gh.gh ⟨n, pa⟩, ry.dp gh.gh ⟨_, pl⟩, pa.shaped (by omega), pl.shaped (by omega), k _ _ G H gh.refl (.bl _) (s _ (any_iff pa pd))⟩)
/-- flat things in a list or tuple -/
def nbl : D → Bool
  | .bl _ => false
  | _ => true
theorem eqV_flat {v w : V} {d e : D} (hd : d.v = some v) (he : e.v = some w) (nb : nbl d = true) (nb' : nbl e = true) : eqV v w = true ↔ d = e := by
  cases d <;> cases hd <;> cases e <;> cases he <;> first | (cases nb; done) | (cases nb'; done) | simp [eqV]
theorem flats_v {G : Hp} : ∀ {vs : List V} {ds : List D}, Dts K B G vs ds → (∀ d ∈ ds, d.v.isSome = true) → ds.map D.v = vs.map some ∧ vs.all flatV = true
  | _, _, .nil, _ => ⟨rfl, rfl⟩
  | _, _, @Dts.cons _ _ _ v vs d ds h r, p => by
    obtain ⟨a, b⟩ := flats_v r fun e he => p e (List.mem_cons_of_mem _ he)
    obtain ⟨w, hw⟩ := Option.isSome_iff_exists.mp (p d (List.mem_cons_self ..))
    have e := h.flat hw
    subst e
    refine ⟨by rw [List.map_cons, List.map_cons, hw, a], ?_⟩
    rw [List.all_cons, b, Bool.and_true]
    cases d <;> cases hw <;> rfl
theorem inV_iff {v : V} {d : D} (hv : d.v = some v) (nb : nbl d = true) : ∀ {vs : List V} {ds : List D}, ds.map D.v = vs.map some → (∀ e ∈ ds, nbl e = true) → (inV v vs = true ↔ d ∈ ds)
  | [], [], _, _ => by simp [inV]
  | w :: vs, [], h, _ => by cases h
  | [], e :: ds, h, _ => by cases h
  | w :: vs, e :: ds, h, p => by
    rw [List.map_cons, List.map_cons] at h
    injection h with h1 h2
    have ih := inV_iff hv nb h2 fun e' he' => p e' (List.mem_cons_of_mem _ he')
    have h3 := eqV_flat h1 hv (p e (List.mem_cons_self ..)) nb
    unfold inV at ih ⊢
    rw [List.any_cons, Bool.or_eq_true, ih, h3, List.mem_cons]
    constructor
    · rintro (q | q)
      · exact .inl q.symm
      · exact .inr q
    · rintro (q | q)
      · exact .inl q.symm
      · exact .inr q
theorem wp_in {neg : Bool} (h : Wp K B ta ρ fun a => Wp K B tb ρ fun b => ∃ ds, (b = .lst ds ∨ b = .tup ds) ∧ a.v.isSome = true ∧ nbl a = true ∧ (∀ d ∈ ds, d.v.isSome = true ∧ nbl d = true) ∧ ∀ r : Bool, (r = true ↔ a ∈ ds) → S (.bl (if neg then !r else r))) : Wp K B (tOp (rIn K neg) ta tb) ρ S :=
  wp_op (h.imp fun a ha => ha.imp fun b ⟨ds, eb, fa, na, fd, s⟩ G H x y Q gh rx ry k => by
    obtain ⟨w, hw⟩ := Option.isSome_iff_exists.mp fa
    have ex := rx.flat hw
    subst ex
    have fl : flatV x = true := by cases a <;> cases hw <;> rfl
    rcases eb with eb | eb
    · subst eb
      cases ry with
      | @lst p xs _ e r =>
        obtain ⟨h1, h2⟩ := flats_v r fun d hd => (fd d hd).1
        exact ⟨p, xs, rfl, .inl (.inl (.inl (gh.gh _ _ e))), fl, h2, k _ _ G H gh.refl (.bl _) (s _ (inV_iff hw na h1 fun d hd => (fd d hd).2))⟩
    · subst eb
      cases ry with
      | @tup p xs _ e r =>
        obtain ⟨h1, h2⟩ := flats_v r fun d hd => (fd d hd).1
        exact ⟨p, xs, rfl, .inr (.inl (.inl (gh.gh _ _ e))), fl, h2, k _ _ G H gh.refl (.bl _) (s _ (inV_iff hw na h1 fun d hd => (fd d hd).2))⟩)
/-- == and != of flat things, none of them a bool -/
theorem wp_eqF (h : Wp K B ta ρ fun a => Wp K B tb ρ fun b => a.v.isSome = true ∧ b.v.isSome = true ∧ nbl a = true ∧ nbl b = true ∧ ∀ r : Bool, (r = true ↔ a = b) → S (.bl r)) : Wp K B (tOp rEq ta tb) ρ S :=
  wp_op (h.imp fun a ha => ha.imp fun b ⟨fa, fb, na, nb, s⟩ G H x y Q gh rx ry k => by
    obtain ⟨v, hv⟩ := Option.isSome_iff_exists.mp fa
    obtain ⟨w, hw⟩ := Option.isSome_iff_exists.mp fb
    rw [rx.flat hv, ry.flat hw]
    refine ⟨?_, k _ _ G H gh.refl (.bl _) (s _ ?_)⟩
    · cases a <;> cases hv <;> cases b <;> cases hw <;> first | rfl | exact absurd na Bool.false_ne_true | exact absurd nb Bool.false_ne_true
    · cases a <;> cases hv <;> cases b <;> cases hw <;> simp)
theorem wp_neF (h : Wp K B ta ρ fun a => Wp K B tb ρ fun b => a.v.isSome = true ∧ b.v.isSome = true ∧ nbl a = true ∧ nbl b = true ∧ ∀ r : Bool, (r = true ↔ a = b) → S (.bl (!r))) : Wp K B (tOp rNe ta tb) ρ S :=
  wp_op (h.imp fun a ha => ha.imp fun b ⟨fa, fb, na, nb, s⟩ G H x y Q gh rx ry k => by
    obtain ⟨v, hv⟩ := Option.isSome_iff_exists.mp fa
    obtain ⟨w, hw⟩ := Option.isSome_iff_exists.mp fb
    rw [rx.flat hv, ry.flat hw]
    refine ⟨?_, k _ _ G H gh.refl (.bl _) (s _ ?_)⟩
    · cases a <;> cases hv <;> cases b <;> cases hw <;> first | rfl | exact absurd na Bool.false_ne_true | exact absurd nb Bool.false_ne_true
    · cases a <;> cases hv <;> cases b <;> cases hw <;> simp)
/-- is None -/
theorem wp_isN (h : Wp K B ta ρ fun a => ∀ r : Bool, (r = true ↔ a = .non) → S (.bl r)) : Wp K B (tIsN ta) ρ S := fun H0 G H σ E Q k =>
  h H0 G H σ E _ fun v d G1 H1 g1 r1 s => k _ _ G1 H1 g1 (.bl _) (s _ (by cases r1 <;> simp))
theorem wp_notN (h : Wp K B ta ρ fun a => ∀ r : Bool, (r = true ↔ a = .non) → S (.bl (!r))) : Wp K B (tNotN ta) ρ S := fun H0 G H σ E Q k =>
  h H0 G H σ E _ fun v d G1 H1 g1 r1 s => k _ _ G1 H1 g1 (.bl _) (s _ (by cases r1 <;> simp))

/-! ### built-in functions -/
theorem wp_cb {r : List V → Hp → VK → Prop} {t : TA} (h : WpA K B t ρ fun ds => ∀ G H vs (Q : VK), GH B G H → Dts K B G vs ds → (∀ v d G' H', Gr B G H G' H' → Dt K B G' v d → S d → Q v H') → r vs H Q) : Wp K B (tCB r t) ρ S :=
  fun H0 G H σ E Q k => h H0 G H σ E _ fun vs ds G1 H1 g1 r1 f => f G1 H1 vs Q g1.gH r1 fun v d G2 H2 g2 r2 s => k v d G2 H2 (g1.trans g2) r2 s
def rLenS (K : PySem.W.Frag) : List V → Hp → VK → Prop := fun xs H Q => ∃ p ys, xs = [.ref p] ∧ (SqL K H p ys ∨ SqT K H p ys) ∧ Q (.int ys.length) H
theorem cr_len {X : Cx} : CallR X (.builtin "len") (rLenS X.K) := call_len_seq
theorem wp_len {t : TA} (h : WpA K B t ρ fun ds => ∃ xs, (ds = [.lst xs] ∨ ds = [.tup xs]) ∧ S (.int (xs.length : Nat))) : Wp K B (tCB (rLenS K) t) ρ S :=
  wp_cb (h.imp fun ds ⟨xs, e, s⟩ G H vs Q gh r k => by
    rcases e with e | e
    · subst e
      cases r with
      | cons r1 r2 =>
        cases r2
        cases r1 with
        | @lst p ys _ e r =>
          refine ⟨p, ys, rfl, .inl (.inl (.inl (gh.gh _ _ e))), ?_⟩
          rw [r.length]
          exact k _ _ G H gh.refl (.int _) s
    · subst e
      cases r with
      | cons r1 r2 =>
        cases r2
        cases r1 with
        | @tup p ys _ e r =>
          refine ⟨p, ys, rfl, .inr (.inl (.inl (gh.gh _ _ e))), ?_⟩
          rw [r.length]
          exact k _ _ G H gh.refl (.int _) s)
theorem wp_lenScr {t : TA} (h : WpA K B t ρ fun ds => ∃ ns, ds = [.scr ns] ∧ S (.int (ns.length : Nat))) : Wp K B (tCB (rLenS K) t) ρ S :=
  wp_cb (h.imp fun ds ⟨ns, e, s⟩ G H vs Q gh r k => by
    subst e
    cases r with
    | cons r1 r2 =>
      cases r2
      cases r1 with
      | @scr p _ e =>
        refine ⟨p, _, rfl, .inl (gh.gh.sql e), ?_⟩
        rw [List.length_map]
        exact k _ _ G H gh.refl (.int _) s)
theorem dts_bls {G : Hp} : ∀ {vs : List V} {bs : List Bool}, Dts K B G vs (bs.map D.bl) → vs = bs.map V.bl
  | _, [], .nil => rfl
  | _, b :: bs, .cons h r => by
    cases h
    rw [dts_bls r] <;> rfl
theorem dts_ints {G : Hp} : ∀ {vs : List V} {bs : List Int}, Dts K B G vs (bs.map D.int) → vs = bs.map V.int
  | _, [], .nil => rfl
  | _, b :: bs, .cons h r => by
    cases h
    rw [dts_ints r] <;> rfl
theorem dts_strs {G : Hp} : ∀ {vs : List V} {bs : List Str}, Dts K B G vs (bs.map D.str) → vs = bs.map V.str
  | _, [], .nil => rfl
  | _, b :: bs, .cons h r => by
    cases h
    rw [dts_strs r] <;> rfl
theorem ints_dts {G : Hp} : ∀ bs : List Int, Dts K B G (bs.map V.int) (bs.map D.int)
  | [] => .nil
  | b :: bs => .cons (.int b) (ints_dts bs)
theorem wp_all {t : TA} (h : WpA K B t ρ fun ds => ∃ bs : List Bool, ds = [.lst (bs.map D.bl)] ∧ S (.bl (bs.all id))) : Wp K B (tCB (rAll K) t) ρ S :=
  wp_cb (h.imp fun ds ⟨bs, e, s⟩ G H vs Q gh r k => by
    subst e
    cases r with
    | cons r1 r2 =>
      cases r2
      cases r1 with
      | @lst p ys _ e r =>
        rw [dts_bls r] at e
        exact ⟨p, bs, rfl, .inl (.inl (gh.gh _ _ e)), k _ _ G H gh.refl (.bl _) s⟩)
def rTupS (K : PySem.W.Frag) : List V → Hp → VK → Prop := fun xs H Q => ∃ p ys, xs = [.ref p] ∧ ((SqL K H p ys ∧ ∀ l, H l = none → Q (.ref l) (upd H l (.tup ys))) ∨ (SqT K H p ys ∧ Q (.ref p) H))
theorem cr_tup {X : Cx} : CallR X (.type "tuple") (rTupS X.K) := call_tuple_of
theorem wp_tupOf {t : TA} (h : WpA K B t ρ fun ds => ∃ xs, (ds = [.lst xs] ∨ ds = [.tup xs]) ∧ S (.tup xs)) : Wp K B (tCB (rTupS K) t) ρ S :=
  wp_cb (h.imp fun ds ⟨xs, e, s⟩ G H vs Q gh r k => by
    rcases e with e | e
    · subst e
      cases r with
      | cons r1 r2 =>
        cases r2
        cases r1 with
        | @lst p ys _ e r =>
          exact ⟨p, ys, rfl, .inl ⟨.inl (.inl (gh.gh _ _ e)), fun l hl => k _ _ _ _ (Gr.new gh hl) (.tup upd_same (r.mono (Ex.new (gh.gh.free hl)))) s⟩⟩
    · subst e
      cases r with
      | cons r1 r2 =>
        cases r2
        cases r1 with
        | @tup p ys _ e r => exact ⟨p, ys, rfl, .inr ⟨.inl (.inl (gh.gh _ _ e)), k _ _ G H gh.refl (.tup e r) s⟩⟩)
def rListS (K : PySem.W.Frag) : List V → Hp → VK → Prop := fun xs H Q => ∃ p ys, xs = [.ref p] ∧ (SqL K H p ys ∨ SqT K H p ys) ∧ ∀ l, H l = none → Q (.ref l) (upd H l (.lst ys))
theorem cr_list {X : Cx} : CallR X (.type "list") (rListS X.K) := call_list_of
theorem wp_listOf {t : TA} (h : WpA K B t ρ fun ds => ∃ xs, (ds = [.lst xs] ∨ ds = [.tup xs]) ∧ S (.lst xs)) : Wp K B (tCB (rListS K) t) ρ S :=
  wp_cb (h.imp fun ds ⟨xs, e, s⟩ G H vs Q gh r k => by
    rcases e with e | e
    · subst e
      cases r with
      | cons r1 r2 =>
        cases r2
        cases r1 with
        | @lst p ys _ e r =>
          exact ⟨p, ys, rfl, .inl (.inl (.inl (gh.gh _ _ e))), fun l hl => k _ _ _ _ (Gr.new gh hl) (.lst upd_same (r.mono (Ex.new (gh.gh.free hl)))) s⟩
    · subst e
      cases r with
      | cons r1 r2 =>
        cases r2
        cases r1 with
        | @tup p ys _ e r => exact ⟨p, ys, rfl, .inr (.inl (.inl (gh.gh _ _ e))), fun l hl => k _ _ _ _ (Gr.new gh hl) (.lst upd_same (r.mono (Ex.new (gh.gh.free hl)))) s⟩)
theorem wn_cb {r : List V → Hp → VK → Prop} {t : TA} {S : OD → Prop} (h : WpA K B t ρ fun ds => ∀ G H vs (Q : VK), GH B G H → Dts K B G vs ds → (∀ l o u, H l = none → (∀ H0, H0 l = none → OwnAt K B H0 G (upd H l u) l o) → S o → Q (.ref l) (upd H l u)) → r vs H Q) : WpN K B (tCB r t) ρ S :=
  fun H0 G H σ E Q k => h H0 G H σ E _ fun vs ds G1 H1 g1 r1 f => f G1 H1 vs Q g1.gH r1 fun l o u hl ow s => by
    have nb := not_box g1.gH hl
    have hl0 := g1.back l hl nb
    exact k l o G1 _ (g1.trans (Gr.newOwn g1.gH hl)) (g1.gh.free hl) nb hl0 (ow _ hl0) s
theorem wn_listOf {t : TA} {S : OD → Prop} (h : WpA K B t ρ fun ds => ∃ xs, (ds = [.lst xs] ∨ ds = [.tup xs]) ∧ S (.lst xs)) : WpN K B (tCB (rListS K) t) ρ S :=
  wn_cb (h.imp fun ds ⟨xs, e, s⟩ G H vs Q gh r k => by
    rcases e with e | e
    · subst e
      cases r with
      | cons r1 r2 =>
        cases r2
        cases r1 with
        | @lst p ys _ e r => exact ⟨p, ys, rfl, .inl (.inl (.inl (gh.gh _ _ e))), fun l hl => k l (.lst xs) _ hl (fun H0 h0 => ⟨h0, ys, upd_same, r⟩) s⟩
    · subst e
      cases r with
      | cons r1 r2 =>
        cases r2
        cases r1 with
        | @tup p ys _ e r => exact ⟨p, ys, rfl, .inr (.inl (.inl (gh.gh _ _ e))), fun l hl => k l (.lst xs) _ hl (fun H0 h0 => ⟨h0, ys, upd_same, r⟩) s⟩)
def rDictD : List V → Hp → VK → Prop := fun xs H Q => ∃ (a : Addr) (kvs : List (Key × V)), xs = [.ref a] ∧ Rd H a (.dK kvs) ∧ ∀ p, H p = none → Q (.ref p) (upd H p (.dK kvs))
theorem cr_dictD {X : Cx} : CallR X (.type "dict") rDictD := call_dictD
theorem wn_dictOf {t : TA} {S : OD → Prop} (h : WpA K B t ρ fun ds => ∃ xs, ds = [.dic xs] ∧ S (.dic xs)) : WpN K B (tCB rDictD t) ρ S :=
  wn_cb (h.imp fun ds ⟨xs, e, s⟩ G H vs Q gh r k => by
    subst e
    cases r with
    | cons r1 r2 =>
      cases r2
      cases r1 with
      | @dic p ys _ e r => exact ⟨p, ys, rfl, gh.gh.rd e, fun l hl => k l (.dic xs) _ hl (fun H0 h0 => ⟨h0, ys, upd_same, r⟩) s⟩)
def rListDk : List V → Hp → VK → Prop := fun xs H Q => ∃ (a : Addr) (kvs : List (Key × V)), xs = [.ref a] ∧ Rd H a (.dK kvs) ∧ ∀ p, H p = none → Q (.ref p) (upd H p (.lst (kvs.map fun kv => kV kv.1)))
theorem cr_listDk {X : Cx} (hc : X.calm = true) : CallR X (.type "list") rListDk := call_listD hc
def kD : Key → D
  | .inl i => .int i
  | .inr x => .str x
theorem kD_dt {G : Hp} : ∀ k : Key, Dt K B G (kV k) (kD k)
  | .inl i => .int i
  | .inr x => .str x
theorem dks_keys {G : Hp} : ∀ {vs : List (Key × V)} {ds : List (Key × D)}, Dks K B G vs ds → Dts K B G (vs.map fun kv => kV kv.1) (ds.map fun kv => kD kv.1)
  | _, _, .nil => .nil
  | _, _, .cons h r => .cons (kD_dt _) (dks_keys r)
/-- list(d): its keys -/
theorem wp_listDk {t : TA} (h : WpA K B t ρ fun ds => ∃ xs, ds = [.dic xs] ∧ S (.lst (xs.map fun kv => kD kv.1))) : Wp K B (tCB rListDk t) ρ S :=
  wp_cb (h.imp fun ds ⟨xs, e, s⟩ G H vs Q gh r k => by
    subst e
    cases r with
    | cons r1 r2 =>
      cases r2
      cases r1 with
      | @dic p ys _ e r => exact ⟨p, ys, rfl, gh.gh.rd e, fun l hl => k _ _ _ _ (Gr.new gh hl) (.lst upd_same (dks_keys (r.mono (Ex.new (gh.gh.free hl))))) s⟩)
def rInt1 : List V → Hp → VK → Prop := fun xs H Q => (∃ i, xs = [.int i] ∧ Q (.int i) H) ∨ ∃ k, xs = [.bl k] ∧ Q (.int (if k then 1 else 0)) H
theorem cr_int1 {X : Cx} : CallR X (.type "int") rInt1 := call_int1
theorem wp_int1 {t : TA} (h : WpA K B t ρ fun ds => ∃ i, ds = [.int i] ∧ S (.int i)) : Wp K B (tCB rInt1 t) ρ S :=
  wp_cb (h.imp fun ds ⟨xs, e, s⟩ G H vs Q gh r k => by
    subst e
    cases r with
    | cons r1 r2 =>
      cases r2
      cases r1
      exact .inl ⟨xs, rfl, k _ _ G H gh.refl (.int _) s⟩)
theorem wp_intB {t : TA} (h : WpA K B t ρ fun ds => ∃ b : Bool, ds = [.bl b] ∧ S (.int (if b then 1 else 0))) : Wp K B (tCB rInt1 t) ρ S :=
  wp_cb (h.imp fun ds ⟨xs, e, s⟩ G H vs Q gh r k => by
    subst e
    cases r with
    | cons r1 r2 =>
      cases r2
      cases r1
      exact .inr ⟨xs, rfl, k _ _ G H gh.refl (.int _) s⟩)
def rAbs : List V → Hp → VK → Prop := fun xs H Q => ∃ i, xs = [.int i] ∧ Q (.int (if i < 0 then -i else i)) H
theorem cr_abs {X : Cx} : CallR X (.builtin "abs") rAbs := call_abs
theorem wp_abs {t : TA} (h : WpA K B t ρ fun ds => ∃ i, ds = [.int i] ∧ S (.int (if i < 0 then -i else i))) : Wp K B (tCB rAbs t) ρ S :=
  wp_cb (h.imp fun ds ⟨xs, e, s⟩ G H vs Q gh r k => by
    subst e
    cases r with
    | cons r1 r2 =>
      cases r2
      cases r1
      exact ⟨xs, rfl, k _ _ G H gh.refl (.int _) s⟩)
def rMax2 : List V → Hp → VK → Prop := fun xs H Q => ∃ i j, xs = [.int i, .int j] ∧ Q (.int (if j > i then j else i)) H
def rMin2 : List V → Hp → VK → Prop := fun xs H Q => ∃ i j, xs = [.int i, .int j] ∧ Q (.int (if j < i then j else i)) H
theorem cr_max2 {X : Cx} (hc : X.calm = true) : CallR X (.builtin "max") rMax2 := call_max2 hc
theorem cr_min2 {X : Cx} (hc : X.calm = true) : CallR X (.builtin "min") rMin2 := call_min2 hc
theorem wp_max2 {t : TA} (h : WpA K B t ρ fun ds => ∃ i j, ds = [.int i, .int j] ∧ S (.int (if j > i then j else i))) : Wp K B (tCB rMax2 t) ρ S :=
  wp_cb (h.imp fun ds ⟨i, j, e, s⟩ G H vs Q gh r k => by
    subst e
    cases r with
    | cons r1 r2 =>
      cases r2 with
      | cons r2 r3 =>
        cases r3
        cases r1
        cases r2
        exact ⟨i, j, rfl, k _ _ G H gh.refl (.int _) s⟩)
theorem wp_min2 {t : TA} (h : WpA K B t ρ fun ds => ∃ i j, ds = [.int i, .int j] ∧ S (.int (if j < i then j else i))) : Wp K B (tCB rMin2 t) ρ S :=
  wp_cb (h.imp fun ds ⟨i, j, e, s⟩ G H vs Q gh r k => by
    subst e
    cases r with
    | cons r1 r2 =>
      cases r2 with
      | cons r2 r3 =>
        cases r3
        cases r1
        cases r2
        exact ⟨i, j, rfl, k _ _ G H gh.refl (.int _) s⟩)
theorem wp_maxL {t : TA} (h : WpA K B t ρ fun ds => ∃ ns : List Int, ds = [.lst (ns.map D.int)] ∧ 0 < ns.length ∧ ∀ m, m ∈ ns → (∀ y, y ∈ ns → y ≤ m) → S (.int m)) : Wp K B (tCB (rMax K) t) ρ S :=
  wp_cb (h.imp fun ds ⟨ns, e, z, s⟩ G H vs Q gh r k => by
    subst e
    cases r with
    | cons r1 r2 =>
      cases r2
      cases r1 with
      | @lst p ys _ e r =>
        rw [dts_ints r] at e
        exact ⟨p, ns, rfl, .inl (.inl (gh.gh _ _ e)), z, fun m hm hl => k _ _ G H gh.refl (.int _) (s m hm hl)⟩)

/-! ### slices, sums of lists, of tuples -/
def WpO (K : PySem.W.Frag) (B : Addr → Prop) (to : TO) (ρ : Ro) (S : Option Int → Prop) : Prop :=
  ∀ H0 G H σ, EnvS K B H0 G H σ ρ → ∀ Q : Option Int → Hp → Prop, (∀ o G' H', Gr B G H G' H' → S o → Q o H') → to σ H Q
theorem wo_none {S : Option Int → Prop} (s : S none) : WpO K B tNoPart ρ S := fun H0 G H σ E Q k => k none G H E.gh.refl s
theorem wo_some {S : Option Int → Prop} (h : Wp K B ta ρ fun a => ∃ i, a = .int i ∧ S (some i)) : WpO K B (tPart ta) ρ S := fun H0 G H σ E Q k => h H0 G H σ E _ fun v a G1 H1 g1 r1 ⟨i, ea, s⟩ => by
  subst ea
  cases r1
  exact ⟨i, rfl, k _ G1 H1 g1 s⟩
def cutD (xs : List D) (lo hi : Option Int) : List D := (xs.drop (HT.sIx xs.length 0 lo)).take (HT.sIx xs.length xs.length hi - HT.sIx xs.length 0 lo)
theorem Dts.cut {G : Hp} {vs : List V} {ds : List D} (r : Dts K B G vs ds) (lo hi : Option Int) : Dts K B G (cutV vs lo hi) (cutD ds lo hi) := by
  unfold cutV cutD
  rw [r.length]
  exact (r.drop _).take _
theorem wp_slL {lo hi : TO} (h : Wp K B ta ρ fun a => WpO K B lo ρ fun l => WpO K B hi ρ fun u => ∃ ds, a = .lst ds ∧ S (.lst (cutD ds l u))) : Wp K B (tSl (rSlL K) ta lo hi) ρ S := fun H0 G H σ E Q k =>
  h H0 G H σ E _ fun v a G1 H1 g1 r1 h1 => h1 H0 G1 H1 σ (E.step g1) _ fun l G2 H2 g2 h2 => h2 H0 G2 H2 σ ((E.step g1).step g2) _ fun u G3 H3 g3 ⟨ds, ea, s⟩ => by
    subst ea
    have g23 := g2.trans g3
    cases r1 with
    | @lst p xs _ e r =>
      exact ⟨p, xs, rfl, .inl (.inl (g3.gh _ _ (g23.g _ _ e))), fun q hq => k _ _ _ _ ((g1.trans g23).trans (Gr.new g3.gH hq)) (.lst upd_same ((r.mono (g23.g.trans (Ex.new (g3.gh.free hq)))).cut l u)) s⟩
theorem cutD_whole {ds : List D} {l u : Option Int} (h : HT.sIx ds.length 0 l = 0 ∧ HT.sIx ds.length ds.length u = ds.length) : cutD ds l u = ds := by
  unfold cutD
  rw [h.1, h.2, List.drop_zero, Nat.sub_zero, List.take_length]
theorem wp_slT {lo hi : TO} (h : Wp K B ta ρ fun a => WpO K B lo ρ fun l => WpO K B hi ρ fun u => ∃ ds, a = .tup ds ∧ S (.tup (cutD ds l u))) : Wp K B (tSl (rSlA K) ta lo hi) ρ S := fun H0 G H σ E Q k =>
  h H0 G H σ E _ fun v a G1 H1 g1 r1 h1 => h1 H0 G1 H1 σ (E.step g1) _ fun l G2 H2 g2 h2 => h2 H0 G2 H2 σ ((E.step g1).step g2) _ fun u G3 H3 g3 ⟨ds, ea, s⟩ => by
    subst ea
    have g23 := g2.trans g3
    cases r1 with
    | @tup p xs _ e r =>
      refine ⟨p, xs, rfl, .inl (.inl (g3.gh _ _ (g23.g _ _ e))), fun hw => ?_, fun hw q hq => k _ _ _ _ ((g1.trans g23).trans (Gr.new g3.gH hq)) (.tup upd_same ((r.mono (g23.g.trans (Ex.new (g3.gh.free hq)))).cut l u)) s⟩
      rw [r.length] at hw
      rw [cutD_whole hw] at s
      exact k _ _ _ _ (g1.trans g23) (.tup (g23.g _ _ e) (r.mono g23.g)) s
theorem cutD_from {ds : List D} {k : Nat} : cutD ds (some (k : Int)) none = ds.drop k := by
  unfold cutD
  rw [HT.sIx_nat, HT.sIx_none]
  by_cases h : k ≤ ds.length
  · rw [Nat.min_eq_left h, List.take_of_length_le (by rw [List.length_drop]; exact Nat.le_refl _)]
  · rw [Nat.min_eq_right (by omega), List.drop_eq_nil_of_le (show ds.length ≤ k by omega), List.drop_length, List.take_nil]
theorem cutD_to {ds : List D} {k : Nat} : cutD ds none (some (k : Int)) = ds.take k := by
  unfold cutD
  rw [HT.sIx_nat, HT.sIx_none, List.drop_zero, Nat.sub_zero]
  by_cases h : k ≤ ds.length
  · rw [Nat.min_eq_left h]
  · rw [Nat.min_eq_right (by omega), List.take_of_length_le (show ds.length ≤ k by omega), List.take_length]
theorem wp_cat (h : Wp K B ta ρ fun a => Wp K B tb ρ fun b => ∃ xs ys, a = .lst xs ∧ b = .lst ys ∧ xs.length + ys.length ≤ sizeLine ∧ S (.lst (xs ++ ys))) : Wp K B (tOp rCat ta tb) ρ S :=
  wp_op (h.imp fun a ha => ha.imp fun b ⟨xs, ys, ea, eb, z, s⟩ G H x y Q gh rx ry k => by
    subst ea eb
    cases rx with
    | @lst p vs _ e r =>
      cases ry with
      | @lst q ws _ e' r' =>
        exact ⟨p, q, vs, ws, rfl, rfl, gh.gh _ _ e, gh.gh _ _ e', by rw [r.length, r'.length]; exact z, fun l hl => k _ _ _ _ (Gr.new gh hl) (.lst upd_same ((r.app r').mono (Ex.new (gh.gh.free hl)))) s⟩)
theorem wp_catT (h : Wp K B ta ρ fun a => Wp K B tb ρ fun b => ∃ xs ys, a = .tup xs ∧ b = .tup ys ∧ xs.length + ys.length ≤ sizeLine ∧ S (.tup (xs ++ ys))) : Wp K B (tOp (rCatA K) ta tb) ρ S :=
  wp_op (h.imp fun a ha => ha.imp fun b ⟨xs, ys, ea, eb, z, s⟩ G H x y Q gh rx ry k => by
    subst ea eb
    cases rx with
    | @tup p vs _ e r =>
      cases ry with
      | @tup q ws _ e' r' =>
        have l1 := r.length
        have l2 := r'.length
        refine ⟨p, q, vs, ws, rfl, rfl, .inl (.inl (gh.gh _ _ e)), .inl (.inl (gh.gh _ _ e')), by rw [l1, l2]; exact z, fun hn => ?_, fun _ hn => ?_, fun _ _ l hl => k _ _ _ _ (Gr.new gh hl) (.tup upd_same ((r.app r').mono (Ex.new (gh.gh.free hl)))) s⟩
        · subst hn
          cases r
          exact k _ _ G H gh.refl (.tup e' r') s
        · subst hn
          cases r'
          rw [List.append_nil] at s
          exact k _ _ G H gh.refl (.tup e r) s)
def rAddS : R2 := fun x y H Q => ∃ i j, x = .str i ∧ y = .str j ∧ i.length + j.length ≤ sizeLine ∧ Q (.str (i ++ j)) H
theorem op_addS {X : Cx} : OpR X (binaryOp .Add) rAddS := op_add_str
theorem wp_addS (h : Wp K B ta ρ fun a => Wp K B tb ρ fun b => ∃ x y, a = .str x ∧ b = .str y ∧ x.length + y.length ≤ sizeLine ∧ S (.str (x ++ y))) : Wp K B (tOp rAddS ta tb) ρ S :=
  wp_op (h.imp fun a ha => ha.imp fun b ⟨xs, ys, ea, eb, z, s⟩ G H x y Q gh rx ry k => by
    subst ea eb
    cases rx
    cases ry
    exact ⟨xs, ys, rfl, rfl, z, k _ _ G H gh.refl (.str _) s⟩)
/-- a <= b <= c -/
theorem wp_chain {r r' : R2} {tc : TE} (h : Wp K B ta ρ fun a => Wp K B tb ρ fun b => ∀ G H x y (Q : VK), GH B G H → Dt K B G x a → Dt K B G y b → (∀ c : Bool, (if c = true then Wp K B tc ρ fun e => ∀ G H x y (Q : VK), GH B G H → Dt K B G x b → Dt K B G y e → (∀ v d G' H', Gr B G H G' H' → Dt K B G' v d → S d → Q v H') → r' x y H Q else S (.bl false)) → Q (.bl c) H) → r x y H Q) :
    Wp K B (tChain r r' ta tb tc) ρ S := fun H0 G H σ E Q k =>
  h H0 G H σ E _ fun x a G1 H1 g1 r1 h1 => h1 H0 G1 H1 σ (E.step g1) _ fun y b G2 H2 g2 r2 h2 => h2 G2 H2 x y _ g2.gH (r1.mono g2.g) r2 fun c hc => ⟨c, rfl, by
    cases c with
    | false =>
      rw [if_neg Bool.false_ne_true] at hc ⊢
      exact k _ _ G2 H2 (g1.trans g2) (.bl _) hc
    | true =>
      rw [if_pos rfl] at hc ⊢
      exact hc H0 G2 H2 σ ((E.step g1).step g2) _ fun z e G3 H3 g3 r3 h3 => h3 G3 H3 y z Q g3.gH (r2.mono g3.g) r3 fun v d G4 H4 g4 r4 s => k v d G4 H4 (((g1.trans g2).trans g3).trans g4) r4 s⟩
end
end FS

/-! FsG: zip, enumerate, texts walked; isinstance; dict comprehensions; two comprehension clauses; pairs assigned. -/
namespace FS
open PySem L2
section
variable {K : PySem.W.Frag} {B : Addr → Prop} {ρ : Ro} {te ta tb tx : TE} {S : D → Prop} {P : Po}

/-! ### sources -/
def zipD (xs ys : List D) : List D := (xs.zip ys).map fun p => .tup [p.1, p.2]
theorem zipD_get {xs ys : List D} {i : Nat} {d : D} (h : (zipD xs ys)[i]? = some d) : ∃ x y, xs[i]? = some x ∧ ys[i]? = some y ∧ d = .tup [x, y] := by
  unfold zipD at h
  rw [List.getElem?_map] at h
  cases q : (xs.zip ys)[i]? with
  | none =>
    rw [q] at h
    cases h
  | some p =>
    rw [q] at h
    obtain ⟨h1, h2⟩ := List.getElem?_zip_eq_some.mp q
    cases h
    exact ⟨p.1, p.2, h1, h2, rfl⟩
theorem zipD_len {xs ys : List D} : (zipD xs ys).length = min xs.length ys.length := by
  unfold zipD
  rw [List.length_map, List.length_zip]
theorem wi_zip {t : TA} {S : List D → Prop} (h : WpA K B t ρ fun ds => ∃ xs ys, (ds = [.lst xs, .lst ys] ∨ ds = [.tup xs, .tup ys]) ∧ S (zipD xs ys)) : WpI K B (RZ.iZipA K t) ρ S := fun H0 G H σ E R k => h H0 G H σ E _ fun vs ds G1 H1 g1 r1 ⟨xs, ys, e, s⟩ => by
  rcases e with e | e
  · subst e
    cases r1 with
    | cons r1 r2 =>
      cases r2 with
      | cons r2 r3 =>
        cases r3
        cases r1 with
        | @lst a vs1 _ e1 q1 =>
          cases r2 with
          | @lst b vs2 _ e2 q2 =>
            have at1 : ∀ G' H', Ex G1 G' → GH B G' H' → SqL K H' a vs1 := fun G' H' x g => .inl (.inl (g.gh _ _ (x _ _ e1)))
            have at2 : ∀ G' H', Ex G1 G' → GH B G' H' → SqL K H' b vs2 := fun G' H' x g => .inl (.inl (g.gh _ _ (x _ _ e2)))
            refine ⟨a, b, vs1, vs2, rfl, .inl ⟨at1 _ _ (Ex.refl _) g1.gH, at2 _ _ (Ex.refl _) g1.gH, k _ (zipD xs ys) G1 H1 g1 ⟨fun i G' H' x g hi => ?_, fun i d G' H' v H'' x g hd y => ?_, fun G' H' x g => ?_⟩ s⟩⟩
            · obtain ⟨d, hd⟩ : ∃ d, (zipD xs ys)[i]? = some d := ⟨_, List.getElem?_eq_getElem hi⟩
              obtain ⟨p, q, h1, h2, _⟩ := zipD_get hd
              obtain ⟨v1, h3, _⟩ := q1.get h1
              obtain ⟨v2, h4, _⟩ := q2.get h2
              exact ⟨vs1, vs2, v1, v2, at1 _ _ x g, at2 _ _ x g, h3, h4⟩
            · obtain ⟨T, v1, v2, rfl, hT, rfl, f1, f2⟩ := y
              obtain ⟨p, q, h1, h2, rfl⟩ := zipD_get hd
              obtain ⟨w1, h3, d1⟩ := q1.get h1
              obtain ⟨w2, h4, d2⟩ := q2.get h2
              have z1 := f1 _ (at1 _ _ x g)
              have z2 := f2 _ (at2 _ _ x g)
              rw [h3] at z1
              rw [h4] at z2
              cases z1
              cases z2
              have xn := x.trans (Ex.new (o := .tup [v1, v2]) (g.gh.free hT))
              exact ⟨_, Gr.new g hT, .tup upd_same (.cons (d1.mono xn) (.cons (d2.mono xn) .nil))⟩
            · refine ⟨vs1, vs2, at1 _ _ x g, at2 _ _ x g, ?_⟩
              rw [zipD_len, q1.length, q2.length]
              omega
  · subst e
    cases r1 with
    | cons r1 r2 =>
      cases r2 with
      | cons r2 r3 =>
        cases r3
        cases r1 with
        | @tup a vs1 _ e1 q1 =>
          cases r2 with
          | @tup b vs2 _ e2 q2 =>
            have at1 : ∀ G' H', Ex G1 G' → GH B G' H' → SqT K H' a vs1 := fun G' H' x g => .inl (.inl (g.gh _ _ (x _ _ e1)))
            have at2 : ∀ G' H', Ex G1 G' → GH B G' H' → SqT K H' b vs2 := fun G' H' x g => .inl (.inl (g.gh _ _ (x _ _ e2)))
            refine ⟨a, b, vs1, vs2, rfl, .inr ⟨at1 _ _ (Ex.refl _) g1.gH, at2 _ _ (Ex.refl _) g1.gH, k _ (zipD xs ys) G1 H1 g1 ⟨fun i G' H' x g hi => ?_, fun i d G' H' v H'' x g hd y => ?_, fun G' H' x g => ?_⟩ s⟩⟩
            · obtain ⟨d, hd⟩ : ∃ d, (zipD xs ys)[i]? = some d := ⟨_, List.getElem?_eq_getElem hi⟩
              obtain ⟨p, q, h1, h2, _⟩ := zipD_get hd
              obtain ⟨v1, h3, _⟩ := q1.get h1
              obtain ⟨v2, h4, _⟩ := q2.get h2
              exact ⟨vs1, vs2, v1, v2, at1 _ _ x g, at2 _ _ x g, h3, h4⟩
            · obtain ⟨T, v1, v2, rfl, hT, rfl, f1, f2⟩ := y
              obtain ⟨p, q, h1, h2, rfl⟩ := zipD_get hd
              obtain ⟨w1, h3, d1⟩ := q1.get h1
              obtain ⟨w2, h4, d2⟩ := q2.get h2
              have z1 := f1 _ (at1 _ _ x g)
              have z2 := f2 _ (at2 _ _ x g)
              rw [h3] at z1
              rw [h4] at z2
              cases z1
              cases z2
              have xn := x.trans (Ex.new (o := .tup [v1, v2]) (g.gh.free hT))
              exact ⟨_, Gr.new g hT, .tup upd_same (.cons (d1.mono xn) (.cons (d2.mono xn) .nil))⟩
            · refine ⟨vs1, vs2, at1 _ _ x g, at2 _ _ x g, ?_⟩
              rw [zipD_len, q1.length, q2.length]
              omega
def enumD (xs : List D) : List D := xs.mapIdx fun i x => .tup [.int (i : Nat), x]
theorem enumD_get {xs : List D} {i : Nat} {d : D} (h : (enumD xs)[i]? = some d) : ∃ x, xs[i]? = some x ∧ d = .tup [.int (i : Nat), x] := by
  unfold enumD at h
  rw [List.getElem?_mapIdx] at h
  cases q : xs[i]? with
  | none =>
    rw [q] at h
    cases h
  | some x =>
    rw [q] at h
    cases h
    exact ⟨x, rfl, rfl⟩
theorem enumD_len {xs : List D} : (enumD xs).length = xs.length := by
  unfold enumD
  rw [List.length_mapIdx]
theorem wi_enum {t : TA} {S : List D → Prop} (h : WpA K B t ρ fun ds => ∃ xs, ds = [.lst xs] ∧ S (enumD xs)) : WpI K B (iEnum K t) ρ S := fun H0 G H σ E R k => h H0 G H σ E _ fun vs ds G1 H1 g1 r1 ⟨xs, e, s⟩ => by
  subst e
  cases r1 with
  | cons r1 r2 =>
    cases r2
    cases r1 with
    | @lst a vs1 _ e1 q1 =>
      have at1 : ∀ G' H', Ex G1 G' → GH B G' H' → SqL K H' a vs1 := fun G' H' x g => .inl (.inl (g.gh _ _ (x _ _ e1)))
      refine ⟨a, vs1, rfl, at1 _ _ (Ex.refl _) g1.gH, k _ (enumD xs) G1 H1 g1 ⟨fun i G' H' x g hi => ?_, fun i d G' H' v H'' x g hd y => ?_, fun G' H' x g => ?_⟩ s⟩
      · obtain ⟨d, hd⟩ : ∃ d, (enumD xs)[i]? = some d := ⟨_, List.getElem?_eq_getElem hi⟩
        obtain ⟨p, h1, _⟩ := enumD_get hd
        obtain ⟨v1, h3, _⟩ := q1.get h1
        exact ⟨vs1, v1, at1 _ _ x g, h3⟩
      · obtain ⟨T, v1, rfl, hT, rfl, f1⟩ := y
        obtain ⟨p, h1, rfl⟩ := enumD_get hd
        obtain ⟨w1, h3, d1⟩ := q1.get h1
        have z1 := f1 _ (at1 _ _ x g)
        rw [h3] at z1
        cases z1
        have xn := x.trans (Ex.new (o := .tup [.int (i : Nat), v1]) (g.gh.free hT))
        exact ⟨_, Gr.new g hT, .tup upd_same (.cons (.int _) (.cons (d1.mono xn) .nil))⟩
      · refine ⟨vs1, at1 _ _ x g, ?_⟩
        rw [enumD_len, q1.length]
        exact Nat.le_refl _
def charsD (z : Str) : List D := z.cps.toList.map fun c => .str ⟨#[c]⟩
theorem wi_str {S : List D → Prop} (h : Wp K B ta ρ fun d => ∃ z, d = .str z ∧ S (charsD z)) : WpI K B (iStr ta) ρ S := fun H0 G H σ E R k => h H0 G H σ E _ fun v d G1 H1 g1 r1 ⟨z, e, s⟩ => by
  subst e
  cases r1
  refine ⟨z, rfl, k _ (charsD z) G1 H1 g1 ⟨fun i G' H' x g hi => ?_, fun i d G' H' v H'' x g hd y => ?_, fun G' H' x g => ?_⟩ s⟩
  · unfold charsD at hi
    rw [List.length_map, Array.length_toList] at hi
    exact hi
  · obtain ⟨rfl, c, hc, rfl⟩ := y
    unfold charsD at hd
    rw [List.getElem?_map, Array.getElem?_toList, hc] at hd
    cases hd
    exact ⟨G', g.refl, .str _⟩
  · unfold charsD
    show z.cps.size ≤ _
    rw [List.length_map, Array.length_toList]
    exact Nat.le_refl _
/-- a list or a tuple -/
def iOr (w1 w2 : TI) : TI := fun σ H R => w1 σ H R ∨ w2 σ H R
theorem pi_or {X : Cx} {tg e : Expr} {w1 w2 : TI} (h1 : PI X tg e w1) (h2 : PI X tg e w2) : PI X tg e (iOr w1 w2) := ⟨fun pins s σ H R I h => by
  rcases h with h | h
  · exact h1.run pins s σ H R I h
  · exact h2.run pins s σ H R I h⟩
abbrev iSeq (K : PySem.W.Frag) (t : TE) : TI := iOr (iList K t) (iTup K t)
theorem pi_seq {X : Cx} {tg e : Expr} {t : TE} (h : PE X e t) : PI X tg e (iSeq X.K t) := pi_or (pi_list h) (pi_tup h)
theorem wi_seqV {i : Nat} {d : D} {ds : List D} {S : List D → Prop} (hi : ρ[i]? = some (.d d)) (hd : d = .lst ds ∨ d = .tup ds) (s : S ds) : WpI K B (iSeq K (tVar i)) ρ S := fun H0 G H σ E R k => by
  rcases hd with hd | hd
  · subst hd
    exact .inl (wi_list (wp_var hi ⟨ds, rfl, s⟩) H0 G H σ E R k)
  · subst hd
    exact .inr (wi_tup (wp_var hi ⟨ds, rfl, s⟩) H0 G H σ E R k)

/-! ### isinstance, in of texts -/
def D.ty : D → Option String
  | .non => some "NoneType"
  | .bl _ => some "bool"
  | .int _ => some "int"
  | .str _ => some "str"
  | .lst _ => some "list"
  | .tup _ => some "tuple"
  | .dic _ => some "dict"
  | _ => none
theorem Dt.tyx {G H : Hp} (x : Ex G H) {v : V} {d : D} {T : String} (h : Dt K B G v d) (e : d.ty = some T) : TyX K H v (.type T) := by
  cases h with
  | non => cases e; exact .base .non
  | bl b => cases e; exact .base (.bl b)
  | int i => cases e; exact .base (.int i)
  | str z => cases e; exact .base (.str z)
  | tup h r => cases e; exact .base (.tup (x _ _ h))
  | lst h r => cases e; exact .base (.lst (x _ _ h))
  | dic h r =>
    cases e
    rcases x.rd h with h | ⟨o, h⟩
    · exact .base (.dK h)
    · exact .fDict h
  | ftup h n r => cases e
  | fz h r => cases e
  | ins h r => cases e
  | box h => cases e
  | scr h => cases e
theorem wp_isi {n : String} (h : Wp K B ta ρ fun a => ∃ T b, a.ty = some T ∧ kitB T n = some b ∧ S (.bl b)) : Wp K B (tCB (rIsi K) (tCons ta (tCons (tC (.ty n)) tNil))) ρ S := fun H0 G H σ E Q k =>
  h H0 G H σ E _ fun v a G1 H1 g1 r1 ⟨T, b, eT, eb, s⟩ => ⟨v, .ty n, .type T, .type n, b, rfl, .ty n, r1.tyx g1.gh eT, kit_ty eb, k _ _ G1 H1 g1 (.bl b) s⟩
theorem wp_isiT {n m : String} (h : Wp K B ta ρ fun a => ∃ T b c, a.ty = some T ∧ kitB T n = some b ∧ kitB T m = some c ∧ S (.bl (b || c))) : Wp K B (tCB (rIsiT K) (tCons ta (tCons (tTup (tCons (tC (.ty n)) (tCons (tC (.ty m)) tNil))) tNil))) ρ S := fun H0 G H σ E Q k =>
  h H0 G H σ E _ fun v a G1 H1 g1 r1 ⟨T, b, c, eT, eb, ec, s⟩ => ⟨by show 2 ≤ sizeLine; rw [sizeLine_eq]; omega, fun p hp => by
    have g2 := g1.trans (Gr.newOwn (o := .tup [.ty n, .ty m]) g1.gH hp)
    refine ⟨v, p, [.ty n, .ty m], .type T, [.type n, .type m], b || c, rfl, upd_same, .cons (.ty n) (.cons (.ty m) .nil), r1.tyx g2.gh eT, ?_, k _ _ _ _ g2 (.bl _) s⟩
    refine kitAny_cons (kit_ty eb) (fun hb => ?_) (fun hb => by rw [hb]; rfl)
    subst hb
    refine kitAny_cons (kit_ty ec) (fun hc => ?_) (fun hc => by rw [hc]; rfl)
    subst hc
    exact kitAny_nil⟩
theorem wp_inS (h : Wp K B ta ρ fun a => Wp K B tb ρ fun b => ∃ (c : Nat) (z : Str), a = .str ⟨#[c]⟩ ∧ b = .str z ∧ S (.bl (decide (c ∈ z.cps.toList)))) : Wp K B (tOp rInS ta tb) ρ S :=
  wp_op (h.imp fun a ha => ha.imp fun b ⟨c, z, ea, eb, s⟩ G H x y Q gh rx ry k => by
    subst ea eb
    cases rx
    cases ry
    exact ⟨c, z, rfl, rfl, k _ _ G H gh.refl (.bl _) s⟩)
/-- in a tuple of texts of the module -/
theorem wp_inK {nw : Addr} {zs : List Str} (hk : ∀ H, SqT K H nw (zs.map V.str)) (h : Wp K B ta ρ fun a => ∃ x, a = .str x ∧ ∀ r : Bool, (r = true ↔ x ∈ zs) → S (.bl r)) : Wp K B (tOp (rIn K false) ta (tC (.ref nw))) ρ S := fun H0 G H σ E Q k =>
  h H0 G H σ E _ fun v a G1 H1 g1 r1 ⟨x, ea, s⟩ => by
    subst ea
    cases r1
    refine ⟨nw, _, rfl, .inr (hk H1), rfl, ?_, k _ _ G1 H1 g1 (.bl _) (s _ ?_)⟩
    · rw [List.all_map]
      exact List.all_eq_true.mpr fun z hz => rfl
    · unfold inV
      rw [if_neg Bool.false_ne_true, List.any_map, List.any_eq_true]
      constructor
      · rintro ⟨z, hz, e⟩
        have e2 : z = x := by simpa [eqV] using e
        rw [← e2]
        exact hz
      · intro hx
        exact ⟨x, hx, by simp [eqV]⟩

/-! ### dict comprehensions -/
theorem kput_len {κ α : Type} [DecidableEq κ] (l : List (κ × α)) (k : κ) (v : α) : (kput l k v).length ≤ l.length + 1 := by
  unfold kput
  split
  · rw [List.length_map]; omega
  · rw [List.length_append, List.length_singleton]; exact Nat.le_refl _
theorem wp_dc {wi : TI} {g : TG} {tt : TT} {tk tv : TE} {vs : List Nat} {S : D → Prop} (h : WpI K B wi ρ fun ds => ds.length ≤ sizeLine ∧ ∃ I : Nat → List (Key × D) → Prop, I 0 [] ∧
      (∀ i d acc, ds[i]? = some d → I i acc → WpG K B vs g (wipeR ρ vs) d fun ρ2 => WpT K B tt ρ2 fun b => if b = true then Wp K B tk ρ2 fun y => Wp K B tv ρ2 fun z => ∃ k, y.key = some k ∧ I (i + 1) (kput acc k z) else I (i + 1) acc) ∧
      ∀ acc, I ds.length acc → S (.dic acc)) : Wp K B (tDc wi g tt tk tv vs) ρ S :=
  fun H0 G H σ E Q k => h H0 G H σ E _ fun J ds G1 H1 g1 j ⟨hz, I, i0, turn, fin⟩ => by
    intro Dl hD
    have E1 := E.step g1
    have nb : ¬ B Dl := not_box g1.gH hD
    refine ⟨fun i m H' => m = ds.length - i ∧ i ≤ ds.length ∧ ∃ G' acc accD, Gr B G1 H1 G' H' ∧ G' Dl = none ∧ H' Dl = some (.dK acc) ∧ Dks K B G' acc accD ∧ accD.length ≤ i ∧ I i accD,
      ⟨ds.length, by simp, Nat.zero_le _, G1, [], [], Gr.newOwn g1.gH hD, g1.gh.free hD, upd_same, .nil, Nat.zero_le _, i0⟩, ?_⟩
    rintro i m H2 ⟨rfl, hi, G2, acc, accD, g2, gD, eD, r2, hl, hI⟩
    by_cases hlt : i < ds.length
    · obtain ⟨d, hd⟩ : ∃ d, ds[i]? = some d := ⟨ds[i], List.getElem?_eq_getElem hlt⟩
      refine .inr ⟨j.go i G2 H2 g2.g g2.gH hlt, fun H' => ∃ G' acc accD, Gr B G1 H1 G' H' ∧ G' Dl = none ∧ H' Dl = some (.dK acc) ∧ Dks K B G' acc accD ∧ accD.length ≤ i + 1 ∧ I (i + 1) accD, fun H' p => ⟨ds.length - (i + 1), by omega, rfl, hlt, p⟩, fun x H3 y => ?_⟩
      obtain ⟨G3, g3, r3⟩ := j.yld i d G2 H2 x H3 g2.g g2.gH hd y
      have E3 := wipe_env ((E1.step g2).step g3) vs
      refine turn i d accD hd hI H0 G3 H3 (wipe σ vs) x E3 r3 _ fun ρ4 σ4 E4 l4 f4 w => ⟨(wipe_eq l4 f4).trans wipe_wipe, ?_⟩
      refine w H0 G3 H3 σ4 E4 _ fun b G5 H5 g5 s => ?_
      have g35 := g3.trans g5
      cases b with
      | false =>
        rw [if_neg Bool.false_ne_true]
        exact ⟨G5, acc, accD, g2.trans g35, g35.own _ _ eD gD, g35.keep _ _ nb eD, r2.mono g35.g, Nat.le_succ_of_le hl, s⟩
      | true =>
        rw [if_pos rfl]
        refine (show Wp K B tk ρ4 _ from s) H0 G5 H5 σ4 (E4.step g5) _ fun v y' G6 H6 g6 r6 p => ?_
        refine p H0 G6 H6 σ4 ((E4.step g5).step g6) _ fun v2 z' G7 H7 g7 r7 ⟨ky, ek, hI'⟩ => ?_
        have g37 := (g35.trans g6).trans g7
        have eD7 := g37.keep _ _ nb eD
        refine ⟨acc, ky, (r6.mono g7.g).keyV ek, eD7, ?_, G7, putK acc ky v2, kput accD ky z', (g2.trans g37).chg hD (g37.own _ _ eD gD) nb, g37.own _ _ eD gD, upd_same, (r2.mono g37.g).put ky r7, ?_, hI'⟩
        · rw [r2.length]
          omega
        · have := kput_len accD ky z'
          omega
    · have ei : i = ds.length := by omega
      subst ei
      refine .inl ⟨j.stop G2 H2 g2.g g2.gH, k (.ref Dl) (.dic accD) (upd G2 Dl (.dK acc)) H2 (g1.trans (g2.share hD eD nb)) (.dic (.inl upd_same) (r2.mono (Ex.new gD))) (fin accD hI)⟩
/-- {f(d): g(d) for d in ..} -/
def tabD (ps : List (Key × D)) : List (Key × D) := ps.foldl (fun acc p => kput acc p.1 p.2) []
theorem tabD_snoc (ps : List (Key × D)) (p : Key × D) : tabD (ps ++ [p]) = kput (tabD ps) p.1 p.2 := by
  unfold tabD
  rw [List.foldl_append] <;> rfl
theorem wp_dcMap {wi : TI} {g : TG} {tk tv : TE} {vs : List Nat} {S : D → Prop} (h : WpI K B wi ρ fun ds => ds.length ≤ sizeLine ∧ ∃ f : D → Key × D,
      (∀ d ∈ ds, WpG K B vs g (wipeR ρ vs) d fun ρ2 => Wp K B tk ρ2 fun y => Wp K B tv ρ2 fun z => y.key = some (f d).1 ∧ z = (f d).2) ∧ S (.dic (tabD (ds.map f)))) : Wp K B (tDc wi g tYes tk tv vs) ρ S :=
  wp_dc fun H0 G H σ E R k => h H0 G H σ E R fun J ds G' H' g' j ⟨hz, f, turn, fin⟩ => k J ds G' H' g' j ⟨hz, fun i acc => acc = tabD ((ds.take i).map f), rfl, fun i d acc hd hI =>
    (turn d (List.mem_of_getElem? hd)).imp fun ρ2 w => wt_yes (w.imp fun y w2 => w2.imp fun z ⟨ek, ez⟩ => ⟨(f d).1, ek, by
      show kput acc (f d).1 z = tabD ((ds.take (i + 1)).map f)
      rw [List.take_add_one, hd, List.map_append, show (Option.toList (some d)).map f = [f d] from rfl, tabD_snoc, show acc = tabD ((ds.take i).map f) from hI, ez]⟩), fun acc hI => by
    have hI' : acc = tabD ((ds.take ds.length).map f) := hI
    rw [List.take_length] at hI'
    rw [hI']
    exact fin⟩

/-! ### two clauses -/
def noOwn (ρ : Ro) : Bool := ρ.all fun s => match s with
  | .own _ => false
  | _ => true
theorem noOwn_ok {ρ : Ro} (h : noOwn ρ = true) {i : Nat} {o : OD} : ρ[i]? ≠ some (.own o) := fun e => by
  have h2 := List.all_eq_true.mp h _ (List.mem_of_getElem? e)
  cases h2
theorem wp_lc2 {wi wi1 : TI} {g g1 : TG} {tt tt1 : TT} {te : TE} {vs vs1 : List Nat} {S : D → Prop} (h : WpI K B wi ρ fun ds => ∃ I : Nat → List D → Prop, I 0 [] ∧
      (∀ i d acc, ds[i]? = some d → I i acc → WpG K B vs g (wipeR ρ vs) d fun ρ2 => noOwn ρ2 = true ∧ WpT K B tt ρ2 fun b => if b = true then
        (WpI K B wi1 ρ2 fun es => ∃ I1 : Nat → List D → Prop, I1 0 acc ∧
          (∀ i1 e acc1, es[i1]? = some e → I1 i1 acc1 → acc1.length < sizeLine ∧ WpG K B vs1 g1 (wipeR ρ2 vs1) e fun ρ3 => WpT K B tt1 ρ3 fun b1 => if b1 = true then Wp K B te ρ3 fun y => I1 (i1 + 1) (acc1 ++ [y]) else I1 (i1 + 1) acc1) ∧
          ∀ acc1, I1 es.length acc1 → I (i + 1) acc1)
        else I (i + 1) acc) ∧
      ∀ acc, I ds.length acc → S (.lst acc)) : Wp K B (tLc2 wi g tt wi1 g1 tt1 te vs vs1) ρ S :=
  fun H0 G H σ E Q k => h H0 G H σ E _ fun J ds G1 H1 gg1 j ⟨I, i0, turn, fin⟩ => by
    intro Dl hD
    have E1 := E.step gg1
    have nb : ¬ B Dl := not_box gg1.gH hD
    refine ⟨fun i m H' => m = ds.length - i ∧ i ≤ ds.length ∧ ∃ G' acc accD, Gr B G1 H1 G' H' ∧ G' Dl = none ∧ H' Dl = some (.lst acc) ∧ Dts K B G' acc accD ∧ I i accD,
      ⟨ds.length, by simp, Nat.zero_le _, G1, [], [], Gr.newOwn gg1.gH hD, gg1.gh.free hD, upd_same, .nil, i0⟩, ?_⟩
    rintro i m H2 ⟨rfl, hi, G2, acc, accD, g2, gD, eD, r2, hI⟩
    by_cases hlt : i < ds.length
    · obtain ⟨d, hd⟩ : ∃ d, ds[i]? = some d := ⟨ds[i], List.getElem?_eq_getElem hlt⟩
      refine .inr ⟨j.go i G2 H2 g2.g g2.gH hlt, fun H' => ∃ G' acc accD, Gr B G1 H1 G' H' ∧ G' Dl = none ∧ H' Dl = some (.lst acc) ∧ Dts K B G' acc accD ∧ I (i + 1) accD, fun H' p => ⟨ds.length - (i + 1), by omega, rfl, hlt, p⟩, fun x H3 y => ?_⟩
      obtain ⟨G3, g3, r3⟩ := j.yld i d G2 H2 x H3 g2.g g2.gH hd y
      have E3 := wipe_env ((E1.step g2).step g3) vs
      refine turn i d accD hd hI H0 G3 H3 (wipe σ vs) x E3 r3 _ fun ρ4 σ4 E4 l4 f4 ⟨no4, w⟩ => ⟨(wipe_eq l4 f4).trans wipe_wipe, ?_⟩
      refine w H0 G3 H3 σ4 E4 _ fun b G5 H5 g5 s => ?_
      have g35 := g3.trans g5
      cases b with
      | false =>
        rw [if_neg Bool.false_ne_true]
        exact ⟨G5, acc, accD, g2.trans g35, g35.own _ _ eD gD, g35.keep _ _ nb eD, r2.mono g35.g, s⟩
      | true =>
        rw [if_pos rfl]
        refine (show WpI K B wi1 ρ4 _ from s) H0 G5 H5 σ4 (E4.step g5) _ fun J1 es G6 H6 g6 j1 ⟨I1, i10, turn1, fin1⟩ => ?_
        have g36 := g35.trans g6
        have eD6 := g36.keep _ _ nb eD
        have gD6 := g36.own _ _ eD gD
        have E6 := (E4.step g5).step g6
        have gg6 := g2.trans g36
        refine ⟨fun i1 m1 H' => m1 = es.length - i1 ∧ i1 ≤ es.length ∧ ∃ G' acc accD, Gr B G1 H1 G' H' ∧ Ex G6 G' ∧ G' Dl = none ∧ H' Dl = some (.lst acc) ∧ Dts K B G' acc accD ∧ EnvS K B H0 G' H' σ4 ρ4 ∧ I1 i1 accD,
          ⟨es.length, by simp, Nat.zero_le _, G6, acc, accD, gg6, Ex.refl _, gD6, eD6, r2.mono g36.g, E6, i10⟩, ?_⟩
        rintro i1 m1 H7 ⟨rfl, hi1, G7, acc7, accD7, g7, x7, gD7, eD7, r7, E7, hI1⟩
        by_cases hlt1 : i1 < es.length
        · obtain ⟨e, he⟩ : ∃ e, es[i1]? = some e := ⟨es[i1], List.getElem?_eq_getElem hlt1⟩
          obtain ⟨hz1, w1⟩ := turn1 i1 e accD7 he hI1
          refine .inr ⟨j1.go i1 G7 H7 x7 g7.gH hlt1, fun H' => ∃ G' acc accD, Gr B G1 H1 G' H' ∧ Ex G6 G' ∧ G' Dl = none ∧ H' Dl = some (.lst acc) ∧ Dts K B G' acc accD ∧ EnvS K B H0 G' H' σ4 ρ4 ∧ I1 (i1 + 1) accD, fun H' p => ⟨es.length - (i1 + 1), by omega, rfl, hlt1, p⟩, fun x H8 y => ?_⟩
          obtain ⟨G8, g8, r8⟩ := j1.yld i1 e G7 H7 x H8 x7 g7.gH he y
          have E8 := E7.step g8
          refine w1 H0 G8 H8 (wipe σ4 vs1) x (wipe_env E8 vs1) r8 _ fun ρ9 σ9 E9 l9 f9 w2 => ⟨(wipe_eq l9 f9).trans wipe_wipe, ?_⟩
          refine w2 H0 G8 H8 σ9 E9 _ fun b1 G10 H10 g10 s1 => ?_
          have g810 := g8.trans g10
          cases b1 with
          | false =>
            rw [if_neg Bool.false_ne_true]
            exact ⟨G10, acc7, accD7, g7.trans g810, x7.trans g810.g, g810.own _ _ eD7 gD7, g810.keep _ _ nb eD7, r7.mono g810.g, E7.step g810, s1⟩
          | true =>
            rw [if_pos rfl]
            refine (show Wp K B te ρ9 _ from s1) H0 G10 H10 σ9 (E9.step g10) _ fun v y' G11 H11 g11 r11 p => ?_
            have g811 := g810.trans g11
            have eD11 := g811.keep _ _ nb eD7
            have gD11 := g811.own _ _ eD7 gD7
            have E11 := E7.step g811
            have gch : Gr B G1 H1 G11 (upd H11 Dl (.lst (acc7 ++ [v]))) := (g7.trans g811).chg hD gD11 nb
            refine ⟨acc7, eD11, by rw [r7.length]; exact hz1, G11, acc7 ++ [v], accD7 ++ [y'], gch, x7.trans g811.g, gD11, upd_same, (r7.mono g811.g).app (.one r11), ?_, p⟩
            -- the slots do not see the new list
            exact ⟨gch.gH, E11.len, E11.at_, fun i o h => absurd h (noOwn_ok no4), E11.apart⟩
        · have ei : i1 = es.length := by omega
          subst ei
          exact .inl ⟨j1.stop G7 H7 x7 g7.gH, G7, acc7, accD7, g7, gD7, eD7, r7, fin1 accD7 hI1⟩
    · have ei : i = ds.length := by omega
      subst ei
      refine .inl ⟨j.stop G2 H2 g2.g g2.gH, k (.ref Dl) (.lst accD) (upd G2 Dl (.lst acc)) H2 (gg1.trans (g2.share hD eD nb)) (.lst upd_same (r2.mono (Ex.new gD))) (fin accD hI)⟩
end
end FS

/-! FsT: the text by places, what the top leaves (Txt), defs by their names (Df), methods (Dm), classes (Dc), properties (Dp). -/
namespace FS
open PySem L2
def topS (i : Nat) : Stmt := PySem.Challenge.pw_formsights_k22_whole_questions_by_other.main.body.getD i (.Pass ⟨0, 0, 0, 0⟩)

/-! ### defs by their names -/
def DefAt (K : PySem.W.Frag) (mg : Str → Option Value) (x : Str) (st : Stmt) (dvs : List V) : Prop := ∃ f fd, FunD K x x (defArgs st) (defBody st) (defScope st) dvs [] f fd ∧ mg x = some (.ref f)
def MethAt (K : PySem.W.Frag) (C : Addr) (m qual : Str) (st : Stmt) (dvs : List V) : Prop := ∃ f fd, FunD K m qual (defArgs st) (defBody st) (defScope st) dvs [] f fd ∧ Meth K C m f
def InitAt (K : PySem.W.Frag) (C : Addr) (qual : Str) (st : Stmt) (dvs : List V) : Prop := ∃ f fd, FunD K "__init__" qual (defArgs st) (defBody st) (defScope st) dvs [] f fd ∧ Mk K C f
def PropAt (K : PySem.W.Frag) (C : Addr) (m qual : Str) (st : Stmt) : Prop := ∃ p f fd, FunD K m qual (defArgs st) (defBody st) (defScope st) [] [] f fd ∧ PropOf K C m p f
/-- how n written values bind, where the def has no defaults; where it has, all are written -/
def Bnd0 (x qual : Str) (st : Stmt) (ps : List Str) : Prop := ∀ (kV doc pm : Value) (an : Option Addr) (cdv ct : Value) (us : List Value), us.length = ps.length → bindArgs (PySem.W.fnOf x qual (defArgs st) (defBody st) (defScope st) .none kV doc pm an cdv ct) ⟨us, []⟩ = pure (ps.zip us)
def BndD (x qual : Str) (st : Stmt) (ps : List Str) (n m j : Nat) : Prop := ∀ (T : Addr) (kV doc pm : Value) (an : Option Addr) (cdv ct : Value) (us its : List Value), us.length = n → its.length = m →
  ∃ k, bindArgs (PySem.W.fnOf x qual (defArgs st) (defBody st) (defScope st) (.ref T) kV doc pm an cdv ct) ⟨us, []⟩ = seqItems? (.ref T) >>= k ∧ k (some its.toArray) = pure (ps.zip (us ++ its.drop j))
section
variable (P : Program) (w : World) (K : PySem.W.Frag) (mg : Str → Option Value) (base : Heap)
structure Df (j : Nat) (x : Str) (ps : List Str) (dvs : List V) (F : Spc) : Prop where
  ex : ∃ (f : Addr) (fd : FuncData) (ds : List Value), FnOk P w K mg base CX0 j f fd ps (Fn K F) ∧ mg x = some (.ref f) ∧ PySem.W.keepIn K (.ref f) = true ∧ Binds K fd ps ds ∧ Vals dvs ds
structure Dm (j : Nat) (C : Addr) (m : Str) (ps : List Str) (F : Spc) : Prop where
  ex : ∃ (f : Addr) (fd : FuncData), FnOk P w K mg base CX0 j f fd ps (Fn K F) ∧ Cls K C ∧ Meth K C m f ∧ Binds K fd ps []
structure Dc (j : Nat) (x : Str) (C : Addr) (ps : List Str) (F : List D → (List (Str × D) → Prop) → Prop) : Prop where
  ex : ∃ (f : Addr) (fd : FuncData), FnOk P w K mg base CX0 j f fd ps (Fi K C F) ∧ mg x = some (.ref C) ∧ Mk K C f ∧ Binds K fd ps []
structure Dpr (j : Nat) (C : Addr) (m : Str) (ps : List Str) (F : Spc) : Prop where
  ex : ∃ (p f : Addr) (fd : FuncData), FnOk P w K mg base CX0 j f fd ps (Fn K F) ∧ Cls K C ∧ PropOf K C m p f ∧ Binds K fd ps []
end
section
variable {P : Program} {w : World} {K : PySem.W.Frag} {mg : Str → Option Value} {base : Heap}
theorem binds_all {x qual : Str} {st : Stmt} {ps : List Str} {f : Addr} {fd : FuncData} (F : FunD K x qual (defArgs st) (defBody st) (defScope st) [] [] f fd) (hb : Bnd0 x qual st ps) : Binds K fd ps [] := F.bindsN hb
theorem binds_dfl {x qual : Str} {st : Stmt} {ps : List Str} {dvs : List V} {f : Addr} {fd : FuncData} (F : FunD K x qual (defArgs st) (defBody st) (defScope st) dvs [] f fd) (hd : dvs ≠ []) {n j : Nat} (hn : n + (dvs.length - j) = ps.length) (hb : BndD x qual st ps n dvs.length j) : ∃ ds, Vals (dvs.drop j) ds ∧ Binds K fd ps ds := F.binds1 n j hd hn hb
/-- the body's context -/
abbrev cx (P : Program) (w : World) (K : PySem.W.Frag) (mg : Str → Option Value) (base : Heap) (N : List Str) (qual : Str) (st : Stmt) (f : Addr) (cdv : Value) (A : Around) (outer : List Env) (s : Shared) (H : Hp) (E : XK) : Cx :=
  (cxOf CX0 P w K mg base N qual (defScope st) f cdv A outer s H E).nox
/-- a def's derivation with its reading -/
def Body (P : Program) (w : World) (K : PySem.W.Frag) (mg : Str → Option Value) (base : Heap) (k : Nat) (N : List Str) (qual : Str) (st : Stmt) (R : TS → Prop) : Prop :=
  ∀ (f : Addr) (cdv : Value) (A : Around) (outer : List Env) (s : Shared) (H : Hp) (E : XK), Room k (A.deeper (PyProof.Rows.envOfC qual (defScope st) s.heap.objs.size f cdv)) → ∃ t, PSs (cx P w K mg base N qual st f cdv A outer s H E) (defBody st) t ∧ R t
/-- what the reading is to do -/
def Rds (K : PySem.W.Frag) (N : List Str) (F : Spc) (t : TS) : Prop := ∀ B ds S, F ds S → WpS K B t (ds.map Sl.d ++ List.replicate (N.length - ds.length) Sl.no) { nx := fun _ => S .non, rt := S }
theorem fnok {x qual : Str} {st : Stmt} {N ps : List Str} {k : Nat} {dvs : List V} {F : Spc} {f : Addr} {fd : FuncData} (A : FunD K x qual (defArgs st) (defBody st) (defScope st) dvs [] f fd) (S : FnScope N ps (defScope st)) (hl : ∀ ds S, F ds S → ds.length = ps.length)
    (h : Body P w K mg base k N qual st (Rds K N F)) : FnOk P w K mg base CX0 (k + 1) f fd ps (Fn K F) := by
  refine A.ok S (fn_len hl) fun cdv A outer s H vs Q E hr q => ?_
  obtain ⟨t, hp, hw⟩ := h f cdv A outer s H E hr
  exact ⟨t, hp.nox, fn_body hw q⟩
theorem df_mk {x : Str} {st : Stmt} {N ps : List Str} {k : Nat} {F : Spc} (A : DefAt K mg x st []) (S : FnScope N ps (defScope st)) (hb : Bnd0 x x st ps) (hl : ∀ ds S, F ds S → ds.length = ps.length)
    (h : Body P w K mg base k N x st (Rds K N F)) : Df P w K mg base (k + 1) x ps [] F := by
  obtain ⟨f, fd, FD, hm⟩ := A
  exact ⟨f, fd, [], fnok FD S hl h, hm, FD.kp, binds_all FD hb, .nil⟩
/-- with defaults dvs, the last of which (from the j-th on) fill up -/
theorem df_mkD {x : Str} {st : Stmt} {N ps : List Str} {k : Nat} {F : Spc} {dvs : List V} {n j : Nat} (A : DefAt K mg x st dvs) (hd : dvs ≠ []) (S : FnScope N ps (defScope st)) (hn : n + (dvs.length - j) = ps.length) (hb : BndD x x st ps n dvs.length j) (hl : ∀ ds S, F ds S → ds.length = ps.length)
    (h : Body P w K mg base k N x st (Rds K N F)) : Df P w K mg base (k + 1) x ps (dvs.drop j) F := by
  obtain ⟨f, fd, FD, hm⟩ := A
  obtain ⟨ds, h1, h2⟩ := binds_dfl FD hd hn hb
  exact ⟨f, fd, ds, fnok FD S hl h, hm, FD.kp, h2, h1⟩
theorem dm_mk {C : Addr} {m qual : Str} {st : Stmt} {N ps : List Str} {k : Nat} {F : Spc} (A : MethAt K C m qual st []) (c : Cls K C) (S : FnScope N ps (defScope st)) (hb : Bnd0 m qual st ps) (hl : ∀ ds S, F ds S → ds.length = ps.length)
    (h : Body P w K mg base k N qual st (Rds K N F)) : Dm P w K mg base (k + 1) C m ps F := by
  obtain ⟨f, fd, FD, hm⟩ := A
  exact ⟨f, fd, fnok FD S hl h, c, hm, binds_all FD hb⟩
theorem dm_mkD {C : Addr} {m qual : Str} {st : Stmt} {N ps : List Str} {k : Nat} {F : Spc} {dvs : List V} (A : MethAt K C m qual st dvs) (hd : dvs ≠ []) (c : Cls K C) (S : FnScope N ps (defScope st)) (hb : BndD m qual st ps ps.length dvs.length dvs.length) (hl : ∀ ds S, F ds S → ds.length = ps.length)
    (h : Body P w K mg base k N qual st (Rds K N F)) : Dm P w K mg base (k + 1) C m ps F := by
  obtain ⟨f, fd, FD, hm⟩ := A
  obtain ⟨ds, h1, h2⟩ := binds_dfl FD hd (n := ps.length) (j := dvs.length) (by omega) hb
  rw [List.drop_length] at h1
  cases h1
  exact ⟨f, fd, fnok FD S hl h, c, hm, h2⟩
theorem dp_mk {C : Addr} {m qual : Str} {st : Stmt} {N ps : List Str} {k : Nat} {F : Spc} (A : PropAt K C m qual st) (c : Cls K C) (S : FnScope N ps (defScope st)) (hb : Bnd0 m qual st ps) (hl : ∀ ds S, F ds S → ds.length = ps.length)
    (h : Body P w K mg base k N qual st (Rds K N F)) : Dpr P w K mg base (k + 1) C m ps F := by
  obtain ⟨p, f, fd, FD, hm⟩ := A
  exact ⟨p, f, fd, fnok FD S hl h, c, hm, binds_all FD hb⟩
/-- what an __init__'s reading is to do -/
def ReadsI (K : PySem.W.Frag) (C : Addr) (N : List Str) (F : List D → (List (Str × D) → Prop) → Prop) (t : TS) : Prop :=
  ∀ B ds S x, F ds S → WpS K B t (Sl.own (.ins x C []) :: (ds.map Sl.d ++ List.replicate (N.length - (ds.length + 1)) Sl.no)) { nx := fun ρ' => ∃ fs, ρ'[0]? = some (.own (.ins x C fs)) ∧ S fs, rt := fun _ => False }
theorem dc_mkD {x : Str} {C : Addr} {qual : Str} {st : Stmt} {N ps : List Str} {k n : Nat} {F : List D → (List (Str × D) → Prop) → Prop} {dvs : List V} (A : InitAt K C qual st dvs) (hm : mg x = some (.ref C)) (hd : dvs ≠ []) (S : FnScope N ps (defScope st)) (hb : BndD "__init__" qual st ps ps.length dvs.length dvs.length)
    (hn : n + 1 = ps.length) (hl : ∀ ds S, F ds S → ds.length = n) (h : Body P w K mg base k N qual st (ReadsI K C N F)) : Dc P w K mg base (k + 1) x C ps F := by
  obtain ⟨f, fd, FD, hk⟩ := A
  obtain ⟨ds, h1, h2⟩ := binds_dfl FD hd (n := ps.length) (j := dvs.length) (by omega) hb
  rw [List.drop_length] at h1
  cases h1
  refine ⟨f, fd, FD.ok S (fun vs H Q E q => by rw [fi_len hl vs H Q E q]; exact hn) fun cdv A outer s H vs Q E hr q => ?_, hm, hk, h2⟩
  obtain ⟨t, hp, hw⟩ := h f cdv A outer s H E hr
  exact ⟨t, hp.nox, fi_body (fun B ds S x => hw B ds S x) q⟩
end
section
variable {X : Cx} {j k : Nat} {x m : Str} {C : Addr} {ps : List Str} {dvs : List V} {F : Spc} {e o : Expr} {es : List Expr} {t : TA} {ta : TE} {p pos apos : Pos}
theorem pe_df {K : PySem.W.Frag} (d : Df X.prog X.w K X.mg X.base j x ps dvs F) (hr : Room k X.A) (hj : j ≤ k) (hg : Gl X x) (ha : PA X (e :: es) t) (hdb : (x == ("__debug__" : Str)) = false := by decide)
    (he : starEach (e :: es) X.env = (false, eval e X.env) :: starEach es X.env := by rfl) (hpl : (backTo pos (starEach es X.env)).any (·.1) = false := by rfl) (hK : X.K = K := by rfl) : PE X (.Call (.Name x p) (e :: es) [] pos) (tCall (Fn K F) dvs E0 t) := by
  subst hK
  obtain ⟨f, fd, ds, G, hm, kp, b, hv⟩ := d.ex
  exact pe_call G (hr.mono hj) hg hm kp b hv pass0 ha hdb he hpl
theorem pe_mth {pl : Sem Bool} {K : PySem.W.Frag} (ho : PE X o ta) (d : Dm X.prog X.w K X.mg X.base j C m ps F) (hr : Room k X.A) (hj : j ≤ k) (ha : PA X (e :: es) t)
    (hst : starEach (e :: es) X.env = (false, eval e X.env) :: starEach es X.env := by rfl) (hpl : (backTo pos (starEach es X.env)).any (·.1) = false := by rfl)
    (ht : eval (.Call (.Attribute o m apos) (e :: es) [] pos) X.env = (do
      let ov ← eval o X.env
      standAt apos.atName
      let (f, first) ← holding [ov] (getMethod ov m pl)
      callWith pos f first (backTo pos (starEach (e :: es) X.env)) (backToKw pos (keywordEach [] X.env))) := by rfl) (hK : X.K = K := by rfl) :
    PE X (.Call (.Attribute o m apos) (e :: es) [] pos) (tMeth C m (Fn K F) [] E0 ta t) := by
  subst hK
  obtain ⟨f, fd, G, c, hm, b⟩ := d.ex
  exact pe_meth (pl := pl) ho c hm G (hr.mono hj) b .nil pass0 ha hst hpl ht
theorem pe_mth0 {pl : Sem Bool} {K : PySem.W.Frag} (ho : PE X o ta) (d : Dm X.prog X.w K X.mg X.base j C m ps F) (hr : Room k X.A) (hj : j ≤ k)
    (ht : eval (.Call (.Attribute o m apos) [] [] pos) X.env = (do
      let ov ← eval o X.env
      standAt apos.atName
      let (f, first) ← holding [ov] (getMethod ov m pl)
      callWith pos f first (backTo pos (starEach [] X.env)) (backToKw pos (keywordEach [] X.env))) := by rfl) (hK : X.K = K := by rfl) :
    PE X (.Call (.Attribute o m apos) [] [] pos) (tMeth C m (Fn K F) [] E0 ta tNil) := by
  subst hK
  obtain ⟨f, fd, G, c, hm, b⟩ := d.ex
  exact pe_meth0 (pl := pl) ho c hm G (hr.mono hj) b .nil pass0 ht
theorem pe_mk {Fi' : List D → (List (Str × D) → Prop) → Prop} {K : PySem.W.Frag} (d : Dc X.prog X.w K X.mg X.base j x C ps Fi') (hr : Room k X.A) (hj : j + 1 ≤ k) (hg : Gl X x) (ha : PA X (e :: es) t) (hdb : (x == ("__debug__" : Str)) = false := by decide)
    (he : starEach (e :: es) X.env = (false, eval e X.env) :: starEach es X.env := by rfl) (hpl : (backTo pos (starEach es X.env)).any (·.1) = false := by rfl) (hK : X.K = K := by rfl) : PE X (.Call (.Name x p) (e :: es) [] pos) (tMake C (Fi K C Fi') [] E0 t) := by
  subst hK
  obtain ⟨f, fd, G, hm, M, b⟩ := d.ex
  exact pe_make M G (hr.mono hj) hg hm b .nil pass0 ha hdb he hpl
theorem pe_prp {K : PySem.W.Frag} (ho : PE X o ta) (d : Dpr X.prog X.w K X.mg X.base j C m ps F) (hr : Room k X.A) (hj : j + 1 ≤ k) (hab : attributeBase o m X.env (eval o X.env) = eval o X.env := by rfl) (hK : X.K = K := by rfl) : PE X (.Attribute o m pos) (tProp C (Fn K F) [] E0 ta) := by
  subst hK
  obtain ⟨q, f, fd, G, c, hp, b⟩ := d.ex
  exact pe_prop ho c hp G (hr.mono hj) b .nil pass0 hab
theorem rm_u {k n : Nat} {A : Around} (r : Room k A) (h : n ≤ 200 := by decide) : A.units + n < cLine := by have := r.un; omega
theorem kCR {K : PySem.W.Frag} {f : Value} {r : PySem.W.Frag → List V → Hp → VK → Prop} (h : CallR X f (r X.K)) (hK : X.K = K := by rfl) : CallR X f (r K) := by subst hK; exact h
theorem kOp {K : PySem.W.Frag} {f : Value → Value → Sem Value} {r : PySem.W.Frag → R2} (h : OpR X f (r X.K)) (hK : X.K = K := by rfl) : OpR X f (r K) := by subst hK; exact h
theorem kMt {K : PySem.W.Frag} {id : String} {r : PySem.W.Frag → V → List V → Hp → VK → Prop} (h : MtM X id (r X.K)) (hK : X.K = K := by rfl) : MtM X id (r K) := by subst hK; exact h
theorem kBM {K : PySem.W.Frag} {T : String} {r : V → List V → Hp → VK → Prop} {t : TE} {u : TA} (h : PE X e (tBM X.K T r t u)) (hK : X.K = K := by rfl) : PE X e (tBM K T r t u) := by subst hK; exact h
theorem kIx {K : PySem.W.Frag} {r : PySem.W.Frag → R2} (h : IxR X (r X.K)) (hK : X.K = K := by rfl) : IxR X (r K) := by subst hK; exact h
theorem kSl {K : PySem.W.Frag} {r : PySem.W.Frag → V → Option Int → Option Int → Hp → VK → Prop} (h : SlR X (r X.K)) (hK : X.K = K := by rfl) : SlR X (r K) := by subst hK; exact h
theorem kPI {K : PySem.W.Frag} {α : Type} {tg : Expr} {w : PySem.W.Frag → α → TI} {a : α} (h : PI X tg e (w X.K a)) (hK : X.K = K := by rfl) : PI X tg e (w K a) := by subst hK; exact h
theorem kPE {K : PySem.W.Frag} {α β : Type} {w : PySem.W.Frag → α → β → TE} {a : α} {b : β} (h : PE X e (w X.K a b)) (hK : X.K = K := by rfl) : PE X e (w K a b) := by subst hK; exact h
theorem kPG {K : PySem.W.Frag} {α β : Type} {w : PySem.W.Frag → α → β → TG} {a : α} {b : β} (h : PG X e (w X.K a b)) (hK : X.K = K := by rfl) : PG X e (w K a b) := by subst hK; exact h
theorem pe_ty {n : String} (hm : X.mg x = none) (hg : Gl X x := by rfl) (hv : bootBuiltins x = some (.type n) := by decide +kernel) (hn : x ≠ "__name__" := by decide) (hd : (x == ("__debug__" : Str)) = false := by decide) : PE X (.Name x pos) (tC (.ty n)) := pe_bltn hg hm hv rfl hn hd
end

/-! ### what the top leaves -/
structure Txt (K : PySem.W.Frag) (mg : Str → Option Value) (cH cS cQ : Addr) : Prop where
  a_is_integer : DefAt K mg "is_integer" (topS 12) []
  a_is_number : DefAt K mg "is_number" (topS 13) []
  a_is_sequence : DefAt K mg "is_sequence" (topS 14) []
  a_is_word : DefAt K mg "is_word" (topS 15) []
  a_once : DefAt K mg "once" (topS 17) []
  a_is_table : DefAt K mg "is_table" (topS 20) []
  a_are_tables : DefAt K mg "are_tables" (topS 21) []
  a_are_columns : DefAt K mg "are_columns" (topS 22) []
  a_is_rule : DefAt K mg "is_rule" (topS 23) []
  a_is_row : DefAt K mg "is_row" (topS 24) []
  i_House : ∃ a, InitAt K cH "House.__init__" (inClass (topS 31) 0) [.ref a]
  t_names : MethAt K cH "names" "House.names" (inClass (topS 31) 2) []
  a_breaks : DefAt K mg "breaks" (topS 32) []
  a_need_rows : DefAt K mg "need_rows" (topS 33) []
  a_is_term : DefAt K mg "is_term" (topS 36) []
  a_is_atom : DefAt K mg "is_atom" (topS 37) []
  a_words_in : DefAt K mg "words_in" (topS 38) []
  a_names_in : DefAt K mg "names_in" (topS 39) []
  a_is_member : DefAt K mg "is_member" (topS 40) []
  a_are_members : DefAt K mg "are_members" (topS 41) []
  a_each_once : DefAt K mg "each_once" (topS 42) []
  a_extended : DefAt K mg "extended" (topS 43) []
  a_matches : DefAt K mg "matches" (topS 44) [.non]
  a_unlike_terms : DefAt K mg "unlike_terms" (topS 50) []
  a_glued : DefAt K mg "glued" (topS 51) []
  a_frozen : DefAt K mg "frozen" (topS 52) [.int 0]
  a_parting : DefAt K mg "parting" (topS 53) []
  a_is_within : DefAt K mg "is_within" (topS 54) []
  a_alike : DefAt K mg "alike" (topS 55) []
  a_law_box : DefAt K mg "_law_box" (topS 57) []
  a_law_take : DefAt K mg "_law_take" (topS 58) []
  a_law_pick : DefAt K mg "_law_pick" (topS 59) []
  a_law_mixed : DefAt K mg "_law_mixed" (topS 60) []
  a_law_house : DefAt K mg "_law_house" (topS 61) []
  a_law_keeps : DefAt K mg "_law_keeps" (topS 62) []
  a_law_rows : DefAt K mg "_law_rows" (topS 63) []
  a_law_names : DefAt K mg "_law_names" (topS 64) []
  a_law_member : DefAt K mg "_law_member" (topS 65) []
  a_law_question : DefAt K mg "_law_question" (topS 66) []
  a_law_near : DefAt K mg "_law_near" (topS 67) []
  a_law_house_of : DefAt K mg "_law_house_of" (topS 68) []
  a_law_asked : DefAt K mg "_law_asked" (topS 69) []
  a_law_with_names : DefAt K mg "_law_with_names" (topS 70) []
  a_law_by_words : DefAt K mg "_law_by_words" (topS 71) []
  a_law_words_right : DefAt K mg "_law_words_right" (topS 72) []
  a_law_moved_right : DefAt K mg "_law_moved_right" (topS 73) []
  a_law : DefAt K mg "law" (topS 74) []
  f_isinstance : mg "isinstance" = none
  f_int : mg "int" = none
  f_bool : mg "bool" = none
  f_str : mg "str" = none
  f_list : mg "list" = none
  f_tuple : mg "tuple" = none
  f_dict : mg "dict" = none
  f_all : mg "all" = none
  f_len : mg "len" = none
  f_zip : mg "zip" = none
  f_sorted : mg "sorted" = none
  f_enumerate : mg "enumerate" = none
  f_max : mg "max" = none
  f_min : mg "min" = none
  f_abs : mg "abs" = none
  f_range : mg "range" = none
  c_LETTERS : ∃ t, mg "LETTERS" = some (.str "abcdefghijklmnopqrstuvwxyz" t)
  c_MOST_WIDTH : ∃ t, mg "MOST_WIDTH" = some (.int 9 t)
  c_NO_WORDS : ∃ a, mg "NO_WORDS" = some (.ref a) ∧ ∀ H, SqT K H a ((["if", "say"] : List Str).map V.str)
  i_Store : ∃ a, InitAt K cS "Store.__init__" (inClass (topS 34) 0) [.ref a]
  i_Question : InitAt K cQ "Question.__init__" (inClass (topS 45) 0) [.int 0]
  p_numbers : PropAt K cQ "numbers" "Question.numbers" (inClass (topS 45) 3)
  t_answers : ∃ a, MethAt K cQ "answers" "Question.answers" (inClass (topS 45) 5) [.ref a]
  g_House : mg "House" = some (.ref cH)
  g_Store : mg "Store" = some (.ref cS)
  g_Question : mg "Question" = some (.ref cQ)
  k_House : Cls K cH
  k_Store : Cls K cS
  k_Question : Cls K cQ
  n_tables : NoAttr K cH "tables"
  n_rules : NoAttr K cH "rules"
  n_house : NoAttr K cS "house"
  n_rows : NoAttr K cS "rows"
  n_figures : NoAttr K cS "figures"
  n_members : NoAttr K cQ "members"
  n_told : NoAttr K cQ "told"
end FS

/-! FsX1: the head: what the top leaves, by one run; facts by names; one property. -/
namespace FS
open PySem PySem.Spec PyProof.Rows L2
/-! ### a property's getter -/
/-- the property's object, its getter -/
def pAd (K : PySem.W.Frag) (x m : Str) : Addr := He.ma K (He.ga K x) m
def gAd (K : PySem.W.Frag) (x m : Str) : Addr := match PySem.W.recIn K (pAd K x m) "property" with
  | some (.ref g :: _) => g
  | _ => 0
/-- the function at an address, as the text has it -/
def fnAt (K : PySem.W.Frag) (f : Addr) : He.FnW := match K.lookup f with
  | some ⟨_, _, .func u, _⟩ => some (u.name, u.qualname, u.params, u.body, u.scope, u.globals, u.closure, u.builtins)
  | _ => none
def fnAtB (K : PySem.W.Frag) (f : Addr) (d : He.DefD) : Bool := PySem.W.keepIn K (.ref f) && (match K.lookup f with
  | some ⟨_, _, .func u, _⟩ => PySem.W.codeIn K u.code d.qual && (He.dflB K u.defaults (d.dvs K) && He.kwdB K u.kwdefaults (d.kws K))
  | _ => false)
theorem fnAt_ok {K : PySem.W.Frag} {f : Addr} {d : He.DefD} (e : fnAt K f = d.val) (c : fnAtB K f d = true) : ∃ u, FunD K d.name d.qual d.params d.body d.scope (d.dvs K) (d.kws K) f u := by
  obtain ⟨kp, c2⟩ := He.ba c
  unfold fnAt at e
  cases q : K.lookup f with
  | none =>
    rw [q] at e
    cases e
  | some o =>
    obtain ⟨w1, w2, w3, w4⟩ := o
    rw [q] at e c2
    cases w3 with
    | func u =>
      obtain ⟨u1, u2, u3, u4, u5, u6, u7, u8, u9, u10, u11, u12, u13, u14, u15⟩ := u
      have e3 := Option.some.inj (show (some (u1, u2, u3, u4, u5, u6, u7, u15) : He.FnW) = some (d.name, d.qual, d.params, .stmts d.body, d.scope, mainGlobals, [], builtinsNs) from e)
      simp only [Prod.mk.injEq] at e3
      obtain ⟨rfl, rfl, rfl, rfl, rfl, rfl, rfl, rfl⟩ := e3
      obtain ⟨k1, k2⟩ := He.ba (show (PySem.W.codeIn K u13 d.qual && (He.dflB K u8 (d.dvs K) && He.kwdB K u9 (d.kws K))) = true from c2)
      obtain ⟨k3, k4⟩ := He.ba k2
      exact ⟨_, ⟨w1, w2, u8, u9, u10, u11, u12, u13, u14, w4, rfl, q, k1, He.dflB_ok k3, He.kwdB_ok k4⟩, kp⟩
    | _ => cases e
def propB (K : PySem.W.Frag) (x m : Str) : Bool := He.eqO (PySem.W.findIn K (.ref (He.ga K x)) m) (some (some (.ref (pAd K x m)))) && (He.eqO (PySem.W.specialIn K (.ref (pAd K x m)) "__get__") (some (some (.builtin "property.__get__"))) &&
  (decide (PySem.W.takesIn K (.ref (pAd K x m)) = some true) && (match PySem.W.recIn K (pAd K x m) "property" with
    | some (.ref _ :: _) => true
    | _ => false)))
theorem propB_ok {K : PySem.W.Frag} {x m : Str} (h : propB K x m = true) : PropOf K (He.ga K x) m (pAd K x m) (gAd K x m) := by
  obtain ⟨h1, h2⟩ := He.ba h
  obtain ⟨h3, h4⟩ := He.ba h2
  obtain ⟨h5, h6⟩ := He.ba h4
  refine ⟨He.eqO_ok h1, He.eqO_ok h3, of_decide_eq_true h5, ?_⟩
  unfold gAd
  cases q : PySem.W.recIn K (pAd K x m) "property" with
  | none => rw [q] at h6; cases h6
  | some l =>
    cases l with
    | nil => rw [q] at h6; cases h6
    | cons v r =>
      cases v with
      | ref g => exact ⟨r, rfl⟩
      | _ => rw [q] at h6; cases h6
/-! ### the facts -/
def dDef (x : Str) (i : Nat) (dfl : List He.Dv) : He.DefD := ⟨(x, none), x, x, defArgs (topS i), defBody (topS i), defScope (topS i), dfl, []⟩
def dIn (C m qual : Str) (st : Stmt) (dfl : List He.Dv) : He.DefD := ⟨(C, some m), m, qual, defArgs st, defBody st, defScope st, dfl, []⟩
def fnL : List He.DefD := [
  dDef "is_integer" 12 [],
  dDef "is_number" 13 [],
  dDef "is_sequence" 14 [],
  dDef "is_word" 15 [],
  dDef "once" 17 [],
  dDef "is_table" 20 [],
  dDef "are_tables" 21 [],
  dDef "are_columns" 22 [],
  dDef "is_rule" 23 [],
  dDef "is_row" 24 [],
  dDef "breaks" 32 [],
  dDef "need_rows" 33 [],
  dDef "is_term" 36 [],
  dDef "is_atom" 37 [],
  dDef "words_in" 38 [],
  dDef "names_in" 39 [],
  dDef "is_member" 40 [],
  dDef "are_members" 41 [],
  dDef "each_once" 42 [],
  dDef "extended" 43 [],
  dDef "matches" 44 [.non],
  dDef "unlike_terms" 50 [],
  dDef "glued" 51 [],
  dDef "frozen" 52 [.int 0],
  dDef "parting" 53 [],
  dDef "is_within" 54 [],
  dDef "alike" 55 [],
  dDef "_law_box" 57 [],
  dDef "_law_take" 58 [],
  dDef "_law_pick" 59 []]
def fnL2 : List He.DefD := [
  dDef "_law_mixed" 60 [],
  dDef "_law_house" 61 [],
  dDef "_law_keeps" 62 [],
  dDef "_law_rows" 63 [],
  dDef "_law_names" 64 [],
  dDef "_law_member" 65 [],
  dDef "_law_question" 66 [],
  dDef "_law_near" 67 [],
  dDef "_law_house_of" 68 [],
  dDef "_law_asked" 69 [],
  dDef "_law_with_names" 70 [],
  dDef "_law_by_words" 71 [],
  dDef "_law_words_right" 72 [],
  dDef "_law_moved_right" 73 [],
  dDef "law" 74 [],
  dIn "House" "__init__" "House.__init__" (inClass (topS 31) 0) [.adr (He.dflAt ("House", some "__init__") 0)],
  dIn "House" "names" "House.names" (inClass (topS 31) 2) [],
  dIn "Store" "__init__" "Store.__init__" (inClass (topS 34) 0) [.adr (He.dflAt ("Store", some "__init__") 0)],
  dIn "Question" "__init__" "Question.__init__" (inClass (topS 45) 0) [.int 0],
  dIn "Question" "answers" "Question.answers" (inClass (topS 45) 5) [.adr (He.dflAt ("Question", some "answers") 0)]]
def fn : List He.DefD := fnL ++ fnL2
def faL : List He.Fa := [
  .glo "is_integer",
  .glo "is_number",
  .glo "is_sequence",
  .glo "is_word",
  .glo "once",
  .glo "is_table",
  .glo "are_tables",
  .glo "are_columns",
  .glo "is_rule",
  .glo "is_row",
  .glo "breaks",
  .glo "need_rows",
  .glo "is_term",
  .glo "is_atom",
  .glo "words_in",
  .glo "names_in",
  .glo "is_member",
  .glo "are_members",
  .glo "each_once",
  .glo "extended",
  .glo "matches",
  .glo "unlike_terms",
  .glo "glued",
  .glo "frozen",
  .glo "parting",
  .glo "is_within",
  .glo "alike",
  .glo "_law_box",
  .glo "_law_take",
  .glo "_law_pick",
  .glo "_law_mixed",
  .glo "_law_house",
  .glo "_law_keeps",
  .glo "_law_rows",
  .glo "_law_names"]
def faL2 : List He.Fa := [
  .glo "_law_member",
  .glo "_law_question",
  .glo "_law_near",
  .glo "_law_house_of",
  .glo "_law_asked",
  .glo "_law_with_names",
  .glo "_law_by_words",
  .glo "_law_words_right",
  .glo "_law_moved_right",
  .glo "law",
  .glo "House",
  .glo "Store",
  .glo "Question",
  .glo "NO_WORDS"]
def faL3 : List He.Fa := [
  .free "isinstance",
  .free "int",
  .free "bool",
  .free "str",
  .free "list",
  .free "tuple",
  .free "dict",
  .free "all",
  .free "len",
  .free "zip",
  .free "sorted",
  .free "enumerate",
  .free "max",
  .free "min",
  .free "abs",
  .free "range",
  .str "LETTERS" "abcdefghijklmnopqrstuvwxyz",
  .int "MOST_WIDTH" 9,
  .cls "House",
  .cls "Store",
  .cls "Question",
  .noat "House" "tables",
  .noat "House" "rules",
  .noat "Store" "house",
  .noat "Store" "rows",
  .noat "Store" "figures",
  .noat "Question" "members",
  .noat "Question" "told",
  .meth "House" "names",
  .meth "Question" "answers",
  .mkr "House",
  .mkr "Store",
  .mkr "Question"]
def fa : List He.Fa := faL ++ faL2 ++ faL3
def dNum : He.DefD := dIn "Question" "numbers" "Question.numbers" (inClass (topS 45) 3) []
def exB (K : PySem.W.Frag) : Bool := He.tupB K "NO_WORDS" [.str "if", .str "say"] && (propB K "Question" "numbers" && fnAtB K (gAd K "Question" "numbers") dNum)
/-! ### the part of the heap that is looked at -/
def refsQ (o : Obj) : List Addr := match o.data with
  | .func u => He.refV u.code ++ He.refV u.defaults
  | .cls u => u.ns :: u.mro.flatMap He.refV
  | .dict es _ => es.toList.flatMap fun e => He.refV e.val
  | .fields vs => (match o.cls with
    | .type n => (match n == "property" with
      | true => vs.toList.flatMap He.refV
      | false => [])
    | _ => [])
  | _ => []
def nextQ (g : Addr → Option Obj) (as : List Addr) : List Addr := as.flatMap fun a => match g a with
  | some o => refsQ o
  | none => []
def levQ (g : Addr → Option Obj) : Nat → List Addr → List Addr
  | 0, as => as
  | n + 1, as => as ++ levQ g n (nextQ g as)
/-! ### the Hook -/
abbrev AlF : Type := He.AlD × Bool × He.FnW
def obsF (K : PySem.W.Frag) : AlF := (He.obsD fa fn K, exB K, fnAt K (gAd K "Question" "numbers"))
def valF : AlF := (He.valD fn, true, dNum.val)
def obsFG (g : Addr → Option Obj) : AlF := obsF (He.frG g (levQ g 5 [mainGlobals]))
structure SaysF (K : PySem.W.Frag) : Prop where
  d : He.SaysD fa fn K
  ex : exB K = true
  num : fnAt K (gAd K "Question" "numbers") = dNum.val
def hookF : PySem.W.Hook where
  α := AlF
  obs := fun s => obsFG s.heap.get?
  val := fun _ => valF
  says := fun _ h => ∃ K : PySem.W.Frag, K.In h ∧ SaysF K
  of := fun _ _ e => ⟨_, He.frG_in, congrArg (fun z : AlF => z.1) e, congrArg (fun z : AlF => z.2.1) e, congrArg (fun z : AlF => z.2.2) e⟩
  keeps := fun _ _ _ ⟨K, hK, c⟩ k => ⟨K, PySem.W.Frag.In.keeps hK k, c⟩
abbrev RF : PySem.W.OpenRow := PySem.W.OpenLaw.row PySem.Challenge.rw_formsights_k22_whole_questions_by_other
def obF (s : PySem.W.SharedT) : AlF := obsFG (HandSHeadRun.getT s)
theorem obF_eq (s : PySem.W.SharedT) : obF s = hookF.obs s.abs := by
  have e : HandSHeadRun.getT s = s.abs.heap.get? := funext (HandSHeadRun.getT_eq s)
  unfold obF
  rw [e]
  rfl
def lo0 : List PySem.Str := ["_wall", "FormError", "InvalidHouse", "InvalidStore", "InvalidQuestion", "InvalidText", "LETTERS", "DIGITS", "NO_WORDS", "MOST_DIGITS", "is_integer", "is_number"]
def lo1 : List PySem.Str := ["is_sequence", "is_word", "number_in", "once", "MOST_WIDTH", "is_table", "are_tables", "are_columns", "is_rule", "is_row", "numbers_in", "table_in"]
def lo2 : List PySem.Str := ["rule_in", "row_in", "rule_text", "row_text", "House", "breaks", "need_rows", "Store", "is_term", "is_atom", "words_in", "names_in"]
def lo3 : List PySem.Str := ["is_member", "are_members", "each_once", "extended", "matches", "Question", "told_in", "terms_in", "atom_in", "member_in", "unlike_terms", "glued"]
def lo4 : List PySem.Str := ["frozen", "parting", "is_within", "alike", "_law_box", "_law_take", "_law_pick", "_law_mixed", "_law_house", "_law_keeps", "_law_rows", "_law_names"]
def lo5 : List PySem.Str := ["_law_member", "_law_question", "_law_near", "_law_house_of", "_law_asked", "_law_with_names", "_law_by_words", "_law_words_right", "_law_moved_right"]
def loF : List PySem.Str := lo0 ++ lo1 ++ lo2 ++ lo3 ++ lo4 ++ lo5
abbrev qF : Program := PySem.W.view RF.prog [74]
theorem runF (w : World) : HandSHeadRun.RunEq RF qF hookF obF 20000 loF w := by
  intro os
  kernel_rfl
end FS

/-! FsH: comprehensions that the layer lacks: a dict by two clauses, any kind of dict. -/
namespace FS
open PySem L2 PySem.Spec PyProof.Rows

/-- one turn of a clause: R is done with each item that passes the tests -/
def clauseForm (e : Expr) (d : Nat) (tg : Expr) (ifs : List Expr) (p : Pos) (R : Sem PySem.Fin → Sem PySem.Fin) (it acc : Value) (env : Env) : Sem PySem.Fin := do
  standAt p
  match ← pyNext it with
  | none => pure (.done .next)
  | some v =>
    letOwnedTupleGo tg it v
    assign tg env v
    let mut ok := true
    for c in ifs do
      if ok then ok ← isTrue c env (eval c env)
    if ok then R (again (.compLoop e d it acc env)) else again (.compLoop e d it acc env)

/-- what τ knows, σ knows -/
structure Sub (τ σ : L2.St) : Prop where
  len : τ.length = σ.length
  kn : ∀ (j : Nat) (v : V), τ[j]? = some (some v) → σ[j]? = some (some v)
theorem Sub.refl (σ : L2.St) : Sub σ σ := ⟨rfl, fun _ _ h => h⟩
theorem Sub.trans {a b c : L2.St} (x : Sub a b) (y : Sub b c) : Sub a c := ⟨x.len.trans y.len, fun j v h => y.kn j v (x.kn j v h)⟩
theorem Sub.wipe (σ : L2.St) (vs : List Nat) : Sub (wipe σ vs) σ := ⟨wipe_length _ _, fun _ _ h => (wipe_some h).1⟩

/-- R ends well: whatever comes behind it runs from a state of that kind -/
def Does (Y : Cx) (R : Sem PySem.Fin → Sem PySem.Fin) (G : Shared → Prop) (s : Shared) : Prop := ∀ (k : Sem PySem.Fin) (Q : PySem.Fin → Shared → Prop) (E : Value → Shared → Prop), (∀ s', G s' → wpAny (model Y.prog Y.w) Y.A k Q E s') → wpAny (model Y.prog Y.w) Y.A (R k) Q E s
theorem Does.imp {Y : Cx} {R : Sem PySem.Fin → Sem PySem.Fin} {G G' : Shared → Prop} {s : Shared} (h : Does Y R G s) (q : ∀ s', G s' → G' s') : Does Y R G' s := fun k Q E r => h k Q E fun s' g => r s' (q s' g)
section
variable {Y : Cx} {e tg : Expr} {d : Nat} {ifs : List Expr} {p : Pos} {R : Sem PySem.Fin → Sem PySem.Fin} {acc : Value} {it : Addr} {J : It} {fp : List Addr} {tn : Nat → Heap → Prop} {g : TG} {tt : TT} {pins : List (Addr × Obj)} {τ : L2.St}
/-- the loop of one clause, in a block's context Y -/
theorem clause_walk (hxe : Y.xe = fun _ _ => False) (hc : Y.calm = true) (hun : Y.A.under (.compLoop e d (.ref it) acc Y.env) = Y.A) (form : (model Y.prog Y.w).den (.compLoop e d (.ref it) acc Y.env) = (clauseForm e d tg ifs p R (.ref it) acc Y.env).onRaise (fun x => do noteFrame x Y.env; theTreesLotGoes x))
    (T : Turn Y.prog Y.w Y.K tg J fp it tn) (pg : PG Y tg g) (pt : PTs Y ifs tt)
    (fok : ∀ (H : Hp) (s : Shared), Inv Y pins τ H s → (∀ b ∈ fp, H b = none) → ∀ b ∈ fp, FpOk Y pins H b)
    {Rs : (Hp → Prop) → L2.St → Hp → Prop}
    (hR : ∀ (pins' : List (Addr × Obj)) (s : Shared) (σ : L2.St) (H : Hp) (Nx : Hp → Prop), (∃ pl, pins' = pins ++ pl) → Inv Y pins' σ H s → Sub τ σ → Rs Nx σ H → Does Y R (fun s' => ∃ σ' H', Inv Y pins' σ' H' s' ∧ Sub τ σ' ∧ Nx H') s)
    (W : Nat → Nat → Hp → Prop) (Fn' : Hp → Prop)
    (turn : ∀ i m H, W i m H → (J.stop i H ∧ Fn' H) ∨ (J.go i H ∧ ∃ Nx : Hp → Prop, (∀ H', Nx H' → ∃ m', m' < m ∧ W (i + 1) m' H') ∧ ∀ x H', J.yld i H x H' → g x τ H' fun σ2 H2 => Sub τ σ2 ∧ tt σ2 H2 fun b H3 => if b = true then Rs Nx σ2 H3 else Nx H3))
    {m : Nat} {H : Hp} {s : Shared} (w0 : W 0 m H) (I : Inv Y pins τ H s) (st : tn 0 s.heap) (nf : ∀ b ∈ fp, H b = none) :
    codeAny (model Y.prog Y.w) Y.A (.compLoop e d (.ref it) acc Y.env) (fun r s' => r = .ok .next ∧ ∃ H', Inv Y pins τ H' s' ∧ Fn' H') s := by
  let St0 : Nat → Shared → Prop := fun n s' => ∃ i H', Inv Y pins τ H' s' ∧ tn i s'.heap ∧ (∀ b ∈ fp, H' b = none) ∧ W i n H'
  refine codeAny_loop (by rfl) St0 ?_ m ⟨0, H, I, st, nf, w0⟩
  rintro n sa ⟨i, Ha, Ia, sta, na, wa⟩
  rw [hun, form]
  refine wpAny_noted ?_
  unfold clauseForm
  refine wpAny_bind (wpAny_standAt (wpAny_bind ?_))
  have fk := fok Ha sa Ia na
  rcases turn i n Ha wa with ⟨hstop, hfin⟩ | ⟨hgo, Nx, nxt, step⟩
  · refine thnF (T.done Y rfl rfl rfl hc i pins sa τ Ha _ Ia fk sta hstop) ?_
    rintro r sb ⟨rfl, Ib⟩
    exact wpAny_pure ⟨rfl, Ha, Ib, hfin⟩
  · refine thnF (T.item Y rfl rfl rfl hc i pins sa τ Ha _ Ia fk sta hgo) ?_
    rintro r sb ⟨u, rfl, hlet⟩
    refine wpAny_bind (thnF hlet ?_)
    rintro _ sc ⟨x, Hc, Ic, rx, yl, stc, nc⟩
    -- the iterator's own objects are pinned while the turn runs
    have Ip := Ic.pinned (fok Hc sc Ic nc) (T.obj _ _ stc)
    have back : ∀ {s' : Shared} {H' : Hp} {σ' : L2.St}, Inv Y (pins ++ pinsAt fp sc.heap) σ' H' s' → Sub τ σ' → Nx H' → ∃ k, k < n ∧ St0 k s' := by
      intro s' H' σ' I' sb' nx
      obtain ⟨k, hk, wk⟩ := nxt H' nx
      have stay : ∀ b ∈ fp, ∀ o, sc.heap.get? b = some o → s'.heap.get? b = some o ∧ H' b = none := fun b hb o eo => by
        have z := I'.pin (b, o) (List.mem_append_right _ (List.mem_append_right _ (mem_pinsAt hb eo)))
        exact ⟨z.1, z.2.1⟩
      refine ⟨k, hk, i + 1, H', I'.unpinned.weak sb'.len sb'.kn, T.keep _ _ _ stc fun b hb o eo => (stay b hb o eo).1, fun b hb => ?_, wk⟩
      obtain ⟨o, eo, _⟩ := T.obj _ _ stc b hb
      exact (stay b hb o eo).2
    have pgr := pg.run _ sc τ Hc x u _ Ip rx (step x Hc yl)
    rw [hxe] at pgr
    refine wpAny_bind (thnF pgr ?_)
    rintro _ sd ⟨σd, Hd, Id, sbd, qd⟩
    have ptr := pt.run _ sd σd Hd _ Id qd
    rw [hxe] at ptr
    refine wpAny_bind (thnF ptr ?_)
    rintro ok se ⟨He, Ie, qe⟩
    cases ok with
    | false =>
      simp only [Bool.false_eq_true, if_false] at qe ⊢
      exact wpAny_pure ⟨rfl, back Ie sbd qe⟩
    | true =>
      simp only [if_true] at qe ⊢
      refine hR _ se σd He Nx ⟨_, rfl⟩ Ie sbd qe _ _ _ ?_
      rintro sf ⟨σf, Hf, If, sbf, nx⟩
      exact wpAny_pure ⟨rfl, back If sbf nx⟩
end

/-! ### a dict by a comprehension; o0: what the new dict is known as; Rs: what is asked behind the tests of the first clause -/
def tDX (o0 : Addr → HO) (wi : TI) (g : TG) (tt : TT) (Rs : Addr → (Hp → Prop) → L2.St → Hp → Prop) (vs : List Nat) : TE := fun σ H Q => wi σ H fun J H1 => ∀ D, H1 D = none → ∃ W : Nat → Nat → Hp → Prop, (∃ m, W 0 m (upd H1 D (o0 D))) ∧
  ∀ i m H, W i m H → (J.stop i H ∧ Q (.ref D) H) ∨ (J.go i H ∧ ∃ Nx : Hp → Prop, (∀ H', Nx H' → ∃ m', m' < m ∧ W (i + 1) m' H') ∧ ∀ x H', J.yld i H x H' → g x (wipe σ vs) H' fun σ2 H2 => Sub (wipe σ vs) σ2 ∧ tt σ2 H2 fun b H3 => if b = true then Rs D Nx σ2 H3 else Nx H3)
section
variable {X : Cx} {kx vx tg iter : Expr} {ifs : List Expr} {rest : List Comprehension} {scope : Scope} {own : List (Str × Nat)} {pos : Pos} {wi : TI} {g : TG} {tt : TT} {o0 : Addr → HO} {Rs : Addr → (Hp → Prop) → L2.St → Hp → Prop} {RR : Addr → Env → Sem PySem.Fin → Sem PySem.Fin}
/-- a block's context -/
abbrev Blk (X : Cx) (scope : Scope) (s : Shared) (H : Hp) (C : Addr) (cl : List (Str × Addr)) (fp : List Addr) : Cx := X.blk s H scope (compEnvC scope cl C X.env) fp
theorem pe_dX (hc : X.calm = true) (hN : X.N.Nodup) (hi : PI X tg iter wi) (ok : BlkOk X.N X.env.scope scope own)
    (hnew : ∀ (H : Hp) (h : Heap), sysModules < h.objs.size → ObjOk X.prog X.w H (h.push { cls := .type "dict", data := .dict #[] }) h.objs.size (o0 h.objs.size))
    (hg : ∀ (s : Shared) (H : Hp) (C : Addr) (cl : List (Str × Addr)) (fp : List Addr), PG (Blk X scope s H C cl fp) tg g)
    (ht : ∀ (s : Shared) (H : Hp) (C : Addr) (cl : List (Str × Addr)) (fp : List Addr), PTs (Blk X scope s H C cl fp) ifs tt)
    (hform : ∀ (env : Env) (it : Value) (D : Addr), (model X.prog X.w).den (.compLoop (.DictComp kx vx (⟨tg, iter, ifs, 0⟩ :: rest) scope pos) 0 it (.ref D) env) =
      (clauseForm (.DictComp kx vx (⟨tg, iter, ifs, 0⟩ :: rest) scope pos) 0 tg ifs iter.pos (RR D env) it (.ref D) env).onRaise (fun x => do noteFrame x env; theTreesLotGoes x))
    (hR : ∀ (s0 : Shared) (H0 : Hp) (C : Addr) (cl : List (Str × Addr)) (fp : List Addr) (D : Addr) (pins' : List (Addr × Obj)) (s : Shared) (σ σ2 : L2.St) (H : Hp) (Nx : Hp → Prop), Inv (Blk X scope s0 H0 C cl fp) pins' σ2 H s → Sub (wipe σ (own.map (·.2))) σ2 → Rs D Nx σ2 H →
      Does X (RR D (Blk X scope s0 H0 C cl fp).env) (fun s' => ∃ σ' H', Inv (Blk X scope s0 H0 C cl fp) pins' σ' H' s' ∧ Sub (wipe σ (own.map (·.2))) σ' ∧ Nx H') s)
    (hs : ∀ x, foldedSetIterable iter X.env x = pure x := by intro _; rfl) :
    PE X (.DictComp kx vx (⟨tg, iter, ifs, 0⟩ :: rest) scope pos) (tDX o0 wi g tt Rs (own.map (·.2))) := by
  refine ⟨fun pins s σ H Q I h => ?_⟩
  rw [arm_eval_DictComp]
  have hclo : closureFor scope X.env = pure (cloFrom X.env.cells scope.names []) := closure_ok fun y hy e => (ok.free y hy e).elim (fun k => I.ok.has _ (.inl k)) fun k => I.ok.has _ (.inr k)
  refine wpAny_comprehension_free (use := none) rfl hs hclo ok.kind (fun y hy e => (ok.uniq y hy).trans (congrArg some e)) ?_
  refine thn (hi.run pins s σ H _ I h) fun v0 sa ha => thn ha ?_
  rintro _ sb ⟨it, fp, tn, J, Hb, rfl, Ib, T, stb, fob, q⟩
  -- the new dict at D
  refine wpAny_newObj_type (newEnv_comp ?_)
  have Dn : Hb sb.heap.objs.size = none := Ib.hok.fresh (Nat.le_refl _)
  obtain ⟨W, ⟨m0, w0⟩, turn⟩ := q _ Dn
  have keepP : ∀ b o, sb.heap.get? b = some o → (sb.heap.push { cls := .type "dict", data := .dict #[] }).get? b = some o := fun b o e => Heap.get?_push_of_some _ e
  have Ic : Inv X pins σ (upd Hb sb.heap.objs.size (o0 sb.heap.objs.size)) { sb with heap := sb.heap.push { cls := .type "dict", data := .dict #[] } } := Ib.laid (t' := sb.toks) keepP (Nat.le_refl _) (hnew _ _ Ib.big)
  generalize hsc : ({ sb with heap := sb.heap.push { cls := .type "dict", data := .dict #[] } } : Shared) = sc at Ic
  have hch : sc.heap = sb.heap.push { cls := .type "dict", data := .dict #[] } := by rw [← hsc]
  generalize hDD : sb.heap.objs.size = D at Dn turn w0 Ic
  have foc : ∀ b ∈ fp, FpOk X pins (upd Hb D (o0 D)) b ∧ b < sc.heap.objs.size := fun b hb => by
    obtain ⟨o, eo, _⟩ := T.obj _ _ stb b hb
    have lt := Heap.lt_size eo
    obtain ⟨z0, z⟩ := fob b hb
    refine ⟨⟨?_, z⟩, by rw [hch, Heap.size_push]; exact Nat.lt_succ_of_lt lt⟩
    rw [upd_ne (by rw [← hDD]; exact Nat.ne_of_lt lt)]
    exact z0
  have stc : tn 0 sc.heap := T.keep _ _ _ stb fun b _ o e => by rw [hch]; exact keepP b o e
  have Id := block_start Ic ok hN foc
  have hL : (compEnvC scope (cellsFrom (sc.heap.objs.size + 1) scope.names (cloFrom X.env.cells scope.names [])) sc.heap.objs.size X.env).locals = sc.heap.objs.size := rfl
  generalize hsd : ({ sc with heap := pushCells (sc.heap.push { cls := .type "dict", data := .dict #[] }) scope.names } : Shared) = sd at Id
  have std : tn 0 sd.heap := T.keep _ _ _ stc fun b _ o e => by rw [← hsd]; exact pushCells_keeps _ _ _ _ (Heap.get?_push_of_some _ e)
  have nfp : ∀ b ∈ fp, (upd Hb D (o0 D)) b = none := fun b hb => (foc b hb).1.1
  have loop : codeAny (model X.prog X.w) X.A (.compLoop (.DictComp kx vx (⟨tg, iter, ifs, 0⟩ :: rest) scope pos) 0 (.ref it) (.ref D) (Blk X scope sc (upd Hb D (o0 D)) sc.heap.objs.size (cellsFrom (sc.heap.objs.size + 1) scope.names (cloFrom X.env.cells scope.names [])) fp).env)
      (compPost (model X.prog X.w) X.A X.xe none (fun r s' => ∃ v H', Inv X pins σ H' s' ∧ RelV v r ∧ Q v H') (.ref D) sc.heap.objs.size) sd := by
    refine codeAny_mono (clause_walk (Y := Blk X scope sc (upd Hb D (o0 D)) sc.heap.objs.size (cellsFrom (sc.heap.objs.size + 1) scope.names (cloFrom X.env.cells scope.names [])) fp) (pins := []) rfl hc rfl (hform _ _ _) T (hg _ _ _ _ _) (ht _ _ _ _ _)
      (fun Ha sa Ia na b hb => ⟨na b hb, (Ia.ok.exf b hb).1, Ia.ok.exfs b hb, .inl hb, fun x c e => (Ia.ok.exf b hb).2 x c e, fun p hp => absurd (show p ∈ ([] : List (Addr × Obj)) ++ [] from hp) (by simp)⟩)
      (fun pins' sx σx Hx Nx _ Ix sbx rx => hR _ _ _ _ _ D pins' sx σ σx Hx Nx Ix sbx rx) W (fun Hz => Q (.ref D) Hz) turn w0 Id std nfp) ?_
    rintro r se ⟨rfl, He, Ie, qe⟩
    have If : Inv X pins σ He se := Ic.call' (ch := fp) Ie.os Ie.base Ie.hok Ie.bare fun b hb => by
      obtain ⟨z0, z1, z2, z3, z4, z5⟩ := (foc b hb).1
      exact ⟨z3, z1, z4, z5⟩
    have nC : He sc.heap.objs.size = none := Ie.free
    obtain ⟨mm, hnn, _⟩ := Ie.loc
    obtain ⟨f0, f1, f2, f3, f4, f5⟩ := Ic.fpOk (H' := He) (Nat.le_refl _) nC
    exact ⟨mm, hnn, fun h'' sbt => ⟨.ref D, He, If.turned (t' := se.toks) (fun b o hb e => (sbt.2 b hb).trans e) f0 f1 f3 f4 f5, rfl, qe⟩⟩
  subst hsc hDD hsd
  exact codeAny_compStart_dict loop (T.self X.A 0 _ _ _ std loop)
end

/-! ### what is done with an item: d[k] = v -/
abbrev PutT := Addr → V → V → Hp → (Hp → Prop) → Prop
def putKd : PutT := fun D y z H Nx => ∃ kvs k, y = kV k ∧ H D = some (.dK kvs) ∧ kvs.length < sizeLine ∧ Nx (upd H D (.dK (putK kvs k z)))
def rsPut (Pt : PutT) (tk tv : TE) : Addr → (Hp → Prop) → L2.St → Hp → Prop := fun D Nx σ H => tk σ H fun y H1 => tv σ H1 fun z H2 => Pt D y z H2 Nx
def emitD (kx vx : Expr) (D : Addr) (env : Env) (k : Sem PySem.Fin) : Sem PySem.Fin := do
  (do
    let kv ← eval kx env
    let vv ← holding [kv] (eval vx env)
    standAt { kx.pos with endLine := vx.pos.endLine, endCol := vx.pos.endCol }
    holding [kv, vv] (dictSet D kv vv))
  k
/-- what a kind of dict promises of d[k] = v, in a context Y -/
def PutOk (Y : Cx) (Pt : PutT) : Prop := ∀ (pins : List (Addr × Obj)) (s : Shared) (σ : L2.St) (H : Hp) (D : Addr) (y z : V) (u r : Value) (Nx : Hp → Prop), Inv Y pins σ H s → RelV y u → RelV z r → Pt D y z H Nx →
  wpAny (model Y.prog Y.w) Y.A (dictSet D u r) (fun _ s' => ∃ H', Inv Y pins σ H' s' ∧ Nx H') (fun _ _ => False) s
theorem put_kd {Y : Cx} : PutOk Y putKd := fun pins s σ H D y z u r Nx I ry rz ⟨kvs, k, ey, hD, hz, nx⟩ => by
  subst ey
  exact d_dictSet I hD hz ry rz fun s' I' => ⟨_, I', nx⟩
section
variable {Y : Cx} {kx vx : Expr} {tk tv : TE} {Pt : PutT} {D : Addr} {pins : List (Addr × Obj)} {s : Shared} {σ : L2.St} {H : Hp} {Nx : Hp → Prop}
theorem emit_ok (hxe : Y.xe = fun _ _ => False) (hk : PE Y kx tk) (hv : PE Y vx tv) (po : PutOk Y Pt) (I : Inv Y pins σ H s) (h : rsPut Pt tk tv D Nx σ H) :
    Does Y (emitD kx vx D Y.env) (fun s' => ∃ H', Inv Y pins σ H' s' ∧ Nx H') s := by
  intro k Q E rest
  unfold emitD
  refine wpAny_bind ?_
  have a := hk.run pins s σ H _ I h
  rw [hxe] at a
  refine wpAny_bind (thnF a ?_)
  rintro u s1 ⟨y, H1, I1, ry, h1⟩
  have b := hv.run pins s1 σ H1 _ I1 h1
  rw [hxe] at b
  refine wpAny_bind (wpAny_holding (thnF b ?_))
  rintro r s2 ⟨z, H2, I2, rz, h2⟩
  exact wpAny_bind (wpAny_standAt (wpAny_holding (thnF (po pins s2 σ H2 D y z u r Nx I2 ry rz h2) fun _ s' g => rest s' g)))
end
section
variable {X : Cx} {kx vx tg iter : Expr} {ifs : List Expr} {scope : Scope} {own : List (Str × Nat)} {pos : Pos} {wi : TI} {g : TG} {tt : TT} {o0 : Addr → HO} {tk tv : TE} {Pt : PutT}
/-- {k: v for x in xs if ..}, any kind of dict -/
theorem pe_dcP (hc : X.calm = true) (hN : X.N.Nodup) (hi : PI X tg iter wi) (ok : BlkOk X.N X.env.scope scope own)
    (hnew : ∀ (H : Hp) (h : Heap), sysModules < h.objs.size → ObjOk X.prog X.w H (h.push { cls := .type "dict", data := .dict #[] }) h.objs.size (o0 h.objs.size))
    (hp : ∀ (s : Shared) (H : Hp) (C : Addr) (cl : List (Str × Addr)) (fp : List Addr), PutOk (Blk X scope s H C cl fp) Pt)
    (hg : ∀ (s : Shared) (H : Hp) (C : Addr) (cl : List (Str × Addr)) (fp : List Addr), PG (Blk X scope s H C cl fp) tg g)
    (ht : ∀ (s : Shared) (H : Hp) (C : Addr) (cl : List (Str × Addr)) (fp : List Addr), PTs (Blk X scope s H C cl fp) ifs tt)
    (hk : ∀ (s : Shared) (H : Hp) (C : Addr) (cl : List (Str × Addr)) (fp : List Addr), PE (Blk X scope s H C cl fp) kx tk)
    (hv : ∀ (s : Shared) (H : Hp) (C : Addr) (cl : List (Str × Addr)) (fp : List Addr), PE (Blk X scope s H C cl fp) vx tv)
    (hs : ∀ x, foldedSetIterable iter X.env x = pure x := by intro _; rfl) :
    PE X (.DictComp kx vx [⟨tg, iter, ifs, 0⟩] scope pos) (tDX o0 wi g tt (rsPut Pt tk tv) (own.map (·.2))) :=
  pe_dX (RR := emitD kx vx) hc hN hi ok hnew hg ht (fun _ _ _ => rfl) (fun s0 H0 C cl fp D pins' s σ σ2 H Nx I sb h =>
    (emit_ok (Y := Blk X scope s0 H0 C cl fp) rfl (hk s0 H0 C cl fp) (hv s0 H0 C cl fp) (hp s0 H0 C cl fp) I h).imp fun s' ⟨H', I', nx⟩ => ⟨σ2, H', I', sb, nx⟩) hs

/-! ### two clauses -/
def inner2 (e : Expr) (iter1 : Expr) (D : Addr) (env : Env) (k : Sem PySem.Fin) : Sem PySem.Fin := do
  let x ← eval iter1 env
  standAt iter1.pos
  let x ← foldedSetIterable iter1 env x
  let _ ← runOwn (.compStart e 1 (← holding [x] (pyIter x)) (.ref D) env) env
  k
def rsIn (wi1 : TI) (g1 : TG) (tt1 : TT) (vs1 : List Nat) (Rs1 : Addr → (Hp → Prop) → L2.St → Hp → Prop) : Addr → (Hp → Prop) → L2.St → Hp → Prop := fun D Nx σ H => wi1 σ H fun J H1 => ∃ W : Nat → Nat → Hp → Prop, (∃ m, W 0 m H1) ∧
  ∀ i m H, W i m H → (J.stop i H ∧ Nx H) ∨ (J.go i H ∧ ∃ Nx1 : Hp → Prop, (∀ H', Nx1 H' → ∃ m', m' < m ∧ W (i + 1) m' H') ∧ ∀ x H', J.yld i H x H' → g1 x (wipe σ vs1) H' fun σ2 H2 => Sub (wipe σ vs1) σ2 ∧ tt1 σ2 H2 fun b H3 => if b = true then Rs1 D Nx1 σ2 H3 else Nx1 H3)
theorem start1 {M : Model} {A : Around} {R : Result → Shared → Prop} {s : Shared} {rest : Comprehension} {iter1 tg1 : Expr} {ifs1 : List Expr} {it acc : Value} {env : Env} {P : Program} {w : World}
    (h0 : codeAny (model P w) A (.compLoop (.DictComp kx vx [rest, ⟨tg1, iter1, ifs1, 0⟩] scope pos) 1 it acc env) R s)
    (h : wpAny (model P w) A (pyIter it) (fun it' s' => codeAny (model P w) A (.compLoop (.DictComp kx vx [rest, ⟨tg1, iter1, ifs1, 0⟩] scope pos) 1 it' acc env) R s') (notedBy (model P w) A env fun x s' => R (.error x) s') s) :
    codeAny (model P w) A (.compStart (.DictComp kx vx [rest, ⟨tg1, iter1, ifs1, 0⟩] scope pos) 1 it acc env) R s := by
  refine codeAny_of_tree ?_
  show wpAny _ A ((compStart (.DictComp kx vx [rest, ⟨tg1, iter1, ifs1, 0⟩] scope pos) 1 it acc env).onRaise (fun x => do noteFrame x env; standAt theWindowsPlace)) _ _ s
  refine wpAny_notedAt ?_
  unfold compStart
  show wpAny _ A (ask >>= _) _ _ s
  refine wpAny_bind (wpAny_askSetting (wpAny_ite ?_))
  split
  · first
      | exact wpAny_pure ⟨rfl, h0⟩
      | exact wpAny_bind (wpAny_pure (wpAny_pure ⟨rfl, h0⟩))
  · refine wpAny_bind (wpAny_rule ?_)
    show wpAny _ A (standAt iter1.pos >>= _) _ _ s
    exact wpAny_bind (wpAny_standAt (wpAny_bind (wpAny_mono h (fun it' s' q => wpAny_pure ⟨rfl, q⟩) fun _ _ q => q)))
theorem sub_in {σ σ2 : L2.St} {vs vs1 : List Nat} (h : Sub (wipe σ vs) σ2) (hv : ∀ i ∈ vs1, i ∈ vs) : Sub (wipe σ vs) (wipe σ2 vs1) :=
  ⟨h.len.trans (wipe_length _ _).symm, fun j v e => by
    rw [wipe_out fun m => (wipe_some e).2 (hv j m)]
    exact h.kn j v e⟩
/-- {k: v for x in xs if .. for y in ys if ..} -/
theorem pe_dcP2 {tg1 iter1 : Expr} {ifs1 : List Expr} {wi1 : TI} {g1 : TG} {tt1 : TT} {vs1 : List Nat} (hc : X.calm = true) (hN : X.N.Nodup) (hi : PI X tg iter wi) (ok : BlkOk X.N X.env.scope scope own) (hv1 : ∀ i ∈ vs1, i ∈ own.map (·.2))
    (hnew : ∀ (H : Hp) (h : Heap), sysModules < h.objs.size → ObjOk X.prog X.w H (h.push { cls := .type "dict", data := .dict #[] }) h.objs.size (o0 h.objs.size))
    (hp : ∀ (s : Shared) (H : Hp) (C : Addr) (cl : List (Str × Addr)) (fp : List Addr), PutOk (Blk X scope s H C cl fp) Pt)
    (hg : ∀ (s : Shared) (H : Hp) (C : Addr) (cl : List (Str × Addr)) (fp : List Addr), PG (Blk X scope s H C cl fp) tg g)
    (ht : ∀ (s : Shared) (H : Hp) (C : Addr) (cl : List (Str × Addr)) (fp : List Addr), PTs (Blk X scope s H C cl fp) ifs tt)
    (hi1 : ∀ (s : Shared) (H : Hp) (C : Addr) (cl : List (Str × Addr)) (fp : List Addr), PI (Blk X scope s H C cl fp) tg1 iter1 wi1)
    (hg1 : ∀ (s : Shared) (H : Hp) (C : Addr) (cl : List (Str × Addr)) (fp : List Addr), PG (Blk X scope s H C cl fp) tg1 g1)
    (ht1 : ∀ (s : Shared) (H : Hp) (C : Addr) (cl : List (Str × Addr)) (fp : List Addr), PTs (Blk X scope s H C cl fp) ifs1 tt1)
    (hk : ∀ (s : Shared) (H : Hp) (C : Addr) (cl : List (Str × Addr)) (fp : List Addr), PE (Blk X scope s H C cl fp) kx tk)
    (hv : ∀ (s : Shared) (H : Hp) (C : Addr) (cl : List (Str × Addr)) (fp : List Addr), PE (Blk X scope s H C cl fp) vx tv)
    (hs : ∀ x, foldedSetIterable iter X.env x = pure x := by intro _; rfl) (hs1 : ∀ env x, foldedSetIterable iter1 env x = pure x := by intro _ _; rfl) :
    PE X (.DictComp kx vx [⟨tg, iter, ifs, 0⟩, ⟨tg1, iter1, ifs1, 0⟩] scope pos) (tDX o0 wi g tt (rsIn wi1 g1 tt1 vs1 (rsPut Pt tk tv)) (own.map (·.2))) := by
  refine pe_dX (RR := inner2 (.DictComp kx vx [⟨tg, iter, ifs, 0⟩, ⟨tg1, iter1, ifs1, 0⟩] scope pos) iter1) hc hN hi ok hnew hg ht (fun _ _ _ => rfl) (fun s0 H0 C cl fp D pins' s σ σ2 H Nx I sb h => ?_) hs
  intro k Q E rest
  unfold inner2
  refine wpAny_bind (thnF ((hi1 s0 H0 C cl fp).run pins' s σ2 H _ I h) fun v s1 a1 => wpAny_bind (wpAny_standAt (wpAny_bind (wpAny_of_eq (hs1 _ v) (wpAny_bind (wpAny_holding (thnF a1 ?_)))))))
  rintro _ s2 ⟨it1, fp1, tn1, J1, H2, rfl, I2, T1, st1, fo1, W, ⟨m1, w1⟩, turn1⟩
  refine wpAny_bind (wpAny_runOwn ?_)
  rw [Around.mark_none]
  have loop : codeAny (model X.prog X.w) X.A (.compLoop (.DictComp kx vx [⟨tg, iter, ifs, 0⟩, ⟨tg1, iter1, ifs1, 0⟩] scope pos) 1 (.ref it1) (.ref D) (Blk X scope s0 H0 C cl fp).env)
      (fun r s' => r = .ok .next ∧ ∃ H', Inv (Blk X scope s0 H0 C cl fp) pins' (wipe σ2 vs1) H' s' ∧ Nx H') s2 :=
    clause_walk (Y := Blk X scope s0 H0 C cl fp) (R := emitD kx vx D (Blk X scope s0 H0 C cl fp).env) (p := iter1.pos) rfl hc rfl rfl T1 (hg1 s0 H0 C cl fp) (ht1 s0 H0 C cl fp)
      (fun Ha sa Ia na b hb => ⟨na b hb, (fo1 b hb).2⟩)
      (fun pins2 sx σx Hx Nx1 _ Ix sbx rx => (emit_ok (Y := Blk X scope s0 H0 C cl fp) rfl (hk s0 H0 C cl fp) (hv s0 H0 C cl fp) (hp s0 H0 C cl fp) Ix rx).imp fun s' ⟨H', I', nx⟩ => ⟨σx, H', I', sbx, nx⟩)
      W Nx turn1 w1 (I2.weak (wipe_length _ _) fun j v e => (wipe_some e).1) st1 fun b hb => (fo1 b hb).1
  refine codeAny_mono (start1 (M := model X.prog X.w) loop (T1.self X.A 0 _ _ _ st1 loop)) ?_
  rintro r s3 ⟨rfl, H3, I3, nx⟩
  exact rest s3 ⟨_, H3, I3, sub_in sb hv1, nx⟩
end
end FS

/-! FsI: sorted, of data of any shape. -/
namespace FS
open PySem L2 PySem.Spec PyProof.Rows

mutual
/-- whole numbers, texts, tuples of such -/
def stayB : PyData → Bool
  | .int _ => true
  | .str _ => true
  | .tuple xs => stayAll xs
  | .none => false
  | .bool _ => false
  | .list _ => false
  | .dict _ => false
def stayAll : List PyData → Bool
  | [] => true
  | x :: xs => stayB x && stayAll xs
end
mutual
theorem stay_reads {h : Heap} : ∀ (d : PyData) (v : Value) (as : List Addr), stayB d = true → Reads h v d as → as = []
  | .int _, _, _, _, r => by cases r; rfl
  | .str _, _, _, _, r => by cases r; rfl
  | .tuple xs, _, _, e, r => by
    cases r with
    | tuple _ _ _ r => exact stay_readsAll xs _ _ (by unfold stayB at e; exact e) r
  | .none, _, _, e, _ => by cases e
  | .bool _, _, _, e, _ => by cases e
  | .list _, _, _, e, _ => by cases e
  | .dict _, _, _, e, _ => by cases e
theorem stay_readsAll {h : Heap} : ∀ (ds : List PyData) (vs : List Value) (as : List Addr), stayAll ds = true → ReadsAll h vs ds as → as = []
  | [], _, _, _, r => by cases r; rfl
  | d :: ds, _, _, e, r => by
    cases r with
    | cons r1 r2 =>
      unfold stayAll at e
      rw [Bool.and_eq_true] at e
      rw [stay_reads d _ _ e.1 r1, stay_readsAll ds _ _ e.2 r2]
      rfl
end
structure SortIn (ds : List PyData) : Prop where
  alike : PySem.W.AllAlike ds
  srt : 2 ≤ ds.length → PySem.W.Sortable ds
  dep : ∀ d ∈ ds, d.depth ≤ 64
  stay : ∀ d ∈ ds, stayB d = true
/-- the pairs sorted by their data -/
abbrev srtP (bs : List (V × PyData)) : List (V × PyData) := bs.mergeSort (PySem.W.dataLe false (·.2))
section
variable {prog : Program} {w : World} {A : Around} {E : Value → Shared → Prop} {s : Shared} {β : Type} {R : Value → β → Prop} {enc : β → PyData} {vs : List Value} {bs : List β}
theorem perm_short {α : Type} {l m : List α} (h : l.Perm m) (k : ¬ 2 ≤ m.length) : l = m := by
  match m, k with
  | [], _ => exact h.eq_nil
  | [a], _ => exact List.perm_singleton.mp h
  | _ :: _ :: _, k => exact absurd (by simp) k
theorem sort_short {l : List β} (k : ¬ 2 ≤ l.length) (le : β → β → Bool) : l.mergeSort le = l := perm_short (List.mergeSort_perm _ _) k
/-- sorted of data; short lists of anything -/
theorem sorted_dataS {l : Addr} {Q : Value → Shared → Prop} (hl : s.heap.IsList l vs.toArray) (e : PySem.W.EachIs R vs bs) (er : PySem.W.EachIs (fun v b => ∃ as, Reads s.heap v (enc b) as) vs bs) (hal : PySem.W.AllAlike (bs.map enc)) (hk : 2 ≤ bs.length → PySem.W.Sortable (bs.map enc)) (hL : bs.length ≤ sizeLine)
    (hu : ∀ b, b ∈ bs → A.units + 2 + (enc b).depth < cLine) (h : ∀ out, out.length = bs.length → PySem.W.EachIs R out (bs.mergeSort (PySem.W.dataLe false enc)) → Q (.ref (s.heap.objs.size + 1)) { s with heap := sortedAll s.heap vs (List.toArray out) }) :
    wpAny (model prog w) A (call (.builtin "sorted") [.ref l]) Q E s := by
  by_cases z : 2 ≤ bs.length
  · exact PySem.W.sorted_data hl e er hal (hk z) hL hu h
  · refine Srt.sorted_any hl (by rw [e.length]; exact hL) (fun q => absurd (by rw [← e.length]; exact q) z) fun out hp => ?_
    rw [perm_short hp (by rw [e.length]; exact z)]
    exact h vs e.length (by rw [sort_short z]; exact e)
theorem list_sort_dataS {a : Addr} {n : Nat} {Q : Value → Shared → Prop} (ho : s.heap.get? a = some (seqObj "list" vs.toArray n)) (e : PySem.W.EachIs R vs bs) (er : PySem.W.EachIs (fun v b => ∃ as, Reads s.heap v (enc b) as ∧ a ∉ as) vs bs) (hal : PySem.W.AllAlike (bs.map enc)) (hk : 2 ≤ bs.length → PySem.W.Sortable (bs.map enc)) (hL : bs.length ≤ sizeLine)
    (hu : ∀ b, b ∈ bs → A.units + 1 + (enc b).depth < cLine) (h : ∀ out, out.length = bs.length → PySem.W.EachIs R out (bs.mergeSort (PySem.W.dataLe false enc)) → Q .none { s with heap := sortedHeap s.heap a vs (List.toArray out) }) :
    wpAny (model prog w) A (call (.builtin "list.sort") [.ref a]) Q E s := by
  by_cases z : 2 ≤ bs.length
  · exact PySem.W.list_sort_data ho e er hal (hk z) hL hu h
  · refine wpAny_call_entry PyProof.Rows.slot_list_sort ⟨_, ho, rfl⟩ PyProof.Rows.entry_list_sort (Srt.list_sort_any ho (by rw [e.length]; exact hL) (fun q => absurd (by rw [← e.length]; exact q) z) fun out hp => ⟨.none, rfl, ?_⟩) (PyProof.Rows.args_list_sort _)
    rw [perm_short hp (by rw [e.length]; exact z)]
    exact h vs e.length (by rw [sort_short z]; exact e)
end
/-- sorted(xs) -/
def rSortDt (K : PySem.W.Frag) : List V → Hp → VK → Prop := fun xs H Q => ∃ (a : Addr) (bs : List (V × PyData)), xs = [.ref a] ∧ SqL K H a (bs.map (·.1)) ∧ DpAll K H (bs.map (·.1)) (bs.map (·.2)) ∧ SortIn (bs.map (·.2)) ∧
  ∀ p, H p = none → Q (.ref p) (upd H p (.lst ((srtP bs).map (·.1))))
theorem each_vals {us : List Value} : ∀ {bs : List (V × PyData)}, Vals (bs.map (·.1)) us → PySem.W.EachIs (fun u (b : V × PyData) => RelV b.1 u) us bs := by
  intro bs
  induction bs generalizing us with
  | nil => intro r; cases r; exact .nil
  | cons b bs ih => intro r; cases r with | cons r1 r2 => exact .cons r1 (ih r2)
theorem vals_each {us : List Value} {bs : List (V × PyData)} (e : PySem.W.EachIs (fun u (b : V × PyData) => RelV b.1 u) us bs) : Vals (bs.map (·.1)) us := by
  induction e with
  | nil => exact .nil
  | cons r _ ih => exact .cons r ih
section
variable {X : Cx} {pins : List (Addr × Obj)} {s : Shared} {σ : L2.St} {H : Hp}
theorem each_reads (I : Inv X pins σ H s) {us : List Value} : ∀ {bs : List (V × PyData)}, Vals (bs.map (·.1)) us → DpAll X.K H (bs.map (·.1)) (bs.map (·.2)) → PySem.W.EachIs (fun u (b : V × PyData) => ∃ as, Reads s.heap u b.2 as) us bs := by
  intro bs
  induction bs generalizing us with
  | nil => intro r _; cases r; exact .nil
  | cons b bs ih =>
    intro r d
    cases r with
    | cons r1 r2 =>
      cases d with
      | cons d1 d2 => exact .cons (Dp.reads I b.2 b.1 _ d1 r1) (ih r2 d2)
theorem cr_sortDt (hu : X.A.units + 100 < cLine) : CallR X (.builtin "sorted") (rSortDt X.K) := by
  intro pins s σ H xs us Q I r h
  obtain ⟨a, bs, rfl, hs, hd, hb, q⟩ := h
  rw [Vals.ref1 r]
  obtain ⟨its, rv, hl, hz⟩ := I.list hs
  rw [List.length_map] at hz
  refine sorted_dataS (R := fun u (b : V × PyData) => RelV b.1 u) (bs := bs) (enc := (·.2)) hl.isList (each_vals rv) (each_reads I rv hd) hb.alike (fun z => hb.srt (by rw [List.length_map]; exact z)) hz (fun b hm => ?_) fun out ho eo => ?_
  · have := hb.dep b.2 (List.mem_map_of_mem hm)
    omega
  · obtain ⟨ep, he'⟩ := PyProof.Rows.sortedAll_at s.heap its out.toArray
    have hlen : ((srtP bs).map (·.1)).length ≤ sizeLine := by
      rw [List.length_map, List.length_mergeSort]
      exact hz
    exact ⟨.ref _, upd H (s.heap.objs.size + 1) (.lst ((srtP bs).map (·.1))), I.laid (t' := s.toks) (fun _ _ => PyProof.Rows.sortedAll_old) (Nat.le_succ _) ⟨hlen, out, ep, vals_each eo, he'⟩, rfl, q _ (I.hok.fresh (Nat.le_succ _))⟩

/-! ### sorted of what a dict hands out: its keys, whatever they are -/
/-- the sort of a list that was just laid -/
theorem sort_laid {A : Around} {E : Value → Shared → Prop} {Q : VK} {h1 : Heap} {tk : Nat} {vs : List Value} {bs : List (V × PyData)} (hA : X.A.units + 100 < cLine) (hAA : A.units ≤ X.A.units + 2) (I : Inv X pins σ H s)
    (kp : ∀ b o, s.heap.get? b = some o → h1.get? b = some o) (rv : Vals (bs.map (·.1)) vs) (rd : PySem.W.EachIs (fun u (b : V × PyData) => ∃ as, Reads (h1.push (seqObj "list" vs.toArray 0)) u b.2 as) vs bs) (hb : SortIn (bs.map (·.2))) (hz : bs.length ≤ sizeLine)
    (q : ∀ p, H p = none → Q (.ref p) (upd H p (.lst ((srtP bs).map (·.1))))) :
    wpAny (model X.prog X.w) A (call (.builtin "list.sort") [.ref h1.objs.size]) (fun _ s' => EP X pins σ Q (.ref h1.objs.size) s') E { s with heap := h1.push (seqObj "list" vs.toArray 0), toks := tk } := by
  have hob : (h1.push (seqObj "list" vs.toArray 0)).get? h1.objs.size = some (seqObj "list" vs.toArray 0) := Heap.get?_push_size _ rfl
  have lv : vs.length = bs.length := by rw [← rv.length, List.length_map]
  refine list_sort_dataS (s := { s with heap := h1.push (seqObj "list" vs.toArray 0), toks := tk }) (R := fun u (b : V × PyData) => RelV b.1 u) (bs := bs) (enc := (·.2)) hob (each_vals rv)
    ((PySem.W.each_mem rd).mono fun u b ⟨⟨as, r⟩, hm⟩ => ⟨as, r, by rw [stay_reads _ _ _ (hb.stay _ (List.mem_map_of_mem hm)) r]; simp⟩) hb.alike (fun z => hb.srt (by rw [List.length_map]; exact z)) hz (fun b hm => ?_) fun out ho eo => ?_
  · have := hb.dep b.2 (List.mem_map_of_mem hm)
    omega
  · obtain ⟨e', he'⟩ := PyProof.Rows.sortedHeap_at (vs := vs) (out := out.toArray) hob
    have hlen : ((srtP bs).map (·.1)).length ≤ sizeLine := by
      rw [List.length_map, List.length_mergeSort]
      exact hz
    have I1 : Inv X pins σ H { s with heap := h1, toks := tk } := I.kept kp
    refine ⟨.ref h1.objs.size, upd H h1.objs.size (.lst ((srtP bs).map (·.1))), I1.laid (t' := tk) (fun b u e => ?_) (Nat.le_refl _) ⟨hlen, out, e', vals_each eo, he'⟩, rfl, q _ (I1.hok.fresh (Nat.le_refl _))⟩
    have hlt : b < h1.objs.size := Heap.lt_size e
    rw [PyProof.Rows.sortedHeap_old (Nat.ne_of_lt hlt) (by rw [size_push']; exact Nat.lt_succ_of_lt hlt)]
    exact Heap.get?_push_of_some _ e

/-! ### d.items(), sorted of it -/
def rItemsK : V → List V → Hp → VK → Prop := fun x xs H Q => ∃ (a : Addr) (kvs : List (Key × V)), x = .ref a ∧ xs = [] ∧ Rd H a (.dK kvs) ∧ ∀ p, H p = none → Q (.ref p) (upd H p (DX.itemsO p a))
theorem mt_itemsK : MtR X "dict.items" rItemsK := by
  intro pins s σ H x xs v us Q I rx rxs h
  obtain ⟨a, kvs, rfl, rfl, ha, q⟩ := h
  cases rx
  cases rxs
  obtain ⟨z, hd, vs, rel, o, es, ep, ho, hx, hdat, _⟩ := dk_rd I.hok ha
  refine DT.callItems (es := es) (ep := ep) hd ⟨o, ho, hx, hdat⟩ ?_
  exact ⟨.ref s.heap.objs.size, upd H s.heap.objs.size (DX.itemsO s.heap.objs.size a), I.laid (t' := s.toks) (fun b u e => Heap.get?_push_of_some _ e) (Nat.le_refl _) (DX.itemsO_ok (Heap.get?_push_size _ rfl)), rfl, q _ (I.hok.fresh (Nat.le_refl _))⟩
/-- new tuples of the items -/
def TupItems (H H2 : Hp) (ts : List Addr) (kvs : List (Key × V)) : Prop := Paired (fun (t : Addr) (kv : Key × V) => H t = none ∧ H2 t = some (.tup [kV kv.1, kv.2])) ts kvs
theorem paired_of {α β : Type} {F : α → β → Prop} : ∀ {l : List α} {m : List β}, l.length = m.length → (∀ (j : Nat) (a : α) (b : β), l[j]? = some a → m[j]? = some b → F a b) → Paired F l m
  | [], [], _, _ => .nil
  | a :: l, b :: m, hl, h => .cons (h 0 a b rfl rfl) (paired_of (by simpa using hl) fun j x y hx hy => h (j + 1) x y (by simpa using hx) (by simpa using hy))
  | [], _ :: _, hl, _ => by simp at hl
  | _ :: _, [], hl, _ => by simp at hl
theorem paired_get {α β : Type} {F : α → β → Prop} : ∀ {l : List α} {m : List β} {j : Nat} {a : α}, Paired F l m → l[j]? = some a → ∃ b, m[j]? = some b ∧ F a b
  | _, _, j, _, .nil, h => by cases j <;> cases h
  | _, _, 0, _, .cons r _, h => by cases h; exact ⟨_, rfl, r⟩
  | _, _, j + 1, a, .cons _ t, h => by
    obtain ⟨b, h1, h2⟩ := paired_get (j := j) (a := a) t (by simpa using h)
    exact ⟨b, by simpa using h1, h2⟩
theorem pairs_get {P : Program} {w : World} {κ : Type} [DecidableEq κ] {knd : KeyKind P w κ} : ∀ {es : List DictEntry} {kvs : List (κ × Value)} {j : Nat} {e : DictEntry}, Pairs knd es kvs → es[j]? = some e → ∃ kv, kvs[j]? = some kv ∧ knd.is kv.1 e.key = true ∧ e.val = kv.2
  | _, _, j, _, .nil, h => by cases j <;> cases h
  | _, _, 0, _, .cons h1 h2 _, h => by cases h; exact ⟨_, rfl, h1, h2⟩
  | _, _, j + 1, e, .cons _ _ t, h => by
    obtain ⟨b, h1, h2⟩ := pairs_get (j := j) (e := e) t (by simpa using h)
    exact ⟨b, by simpa using h1, h2⟩
def rSortItK (K : PySem.W.Frag) : List V → Hp → VK → Prop := fun xs H Q => ∃ (p a : Addr) (kvs : List (Key × V)), xs = [.ref p] ∧ H p = some (DX.itemsO p a) ∧ Rd H a (.dK kvs) ∧
  ∀ (H2 : Hp) (ts : List Addr), Ex H H2 → TupItems H H2 ts kvs → ∃ bs : List (V × PyData), bs.map (·.1) = ts.map V.ref ∧ DpAll K H2 (bs.map (·.1)) (bs.map (·.2)) ∧ SortIn (bs.map (·.2)) ∧
  ∀ p, H2 p = none → Q (.ref p) (upd H2 p (.lst ((srtP bs).map (·.1))))
theorem cr_sortItK (hcalm : X.calm = true) (hu : X.A.units + 100 < cLine) : CallR X (.builtin "sorted") (rSortItK X.K) := by
  intro pins s σ H xs us Q I r h
  obtain ⟨p, a, kvs, rfl, hp, ha, q⟩ := h
  rw [Vals.ref1 r]
  have view : s.heap.IsItemsView p a := (show ObjOk X.prog X.w H s.heap p (DX.itemsO p a) from I.hok p _ hp).1
  obtain ⟨z, hd, vs, rel, o, es, ep, ho, hx, hdat, _, hpr, _⟩ := dk_rd I.hok ha
  have les : es.size = kvs.length := by rw [← Array.length_toList, hpr.length, rel.length]
  have hz : es.size ≤ sizeLine := by
    rw [les]
    exact z
  refine DT.sortedI (es := es) (ep := ep) (I.ok.hd hcalm) view ⟨o, ho, hx, hdat⟩ hz fun h' tk as hk hlt hl hG => ?_
  have I1 : Inv X pins σ H { s with heap := h', toks := tk } := I.kept hk
  have nd : as.Nodup := List.Pairwise.imp (fun h => Nat.ne_of_lt h) hG.rise
  have at_ : ∀ (j : Nat) (t : Addr) (kv : Key × V), as[j]? = some t → kvs[j]? = some kv → ∀ H3, ObjOk X.prog X.w H3 h' t (.tup [kV kv.1, kv.2]) := fun j t kv ht hkv H3 => by
    obtain ⟨e, he, hg⟩ := hG.pairs j t ht
    obtain ⟨kx, hkx, k1, k2⟩ := pairs_get hpr (by rw [Array.getElem?_toList]; exact he)
    obtain ⟨kx', hkx', r1, r2⟩ := paired_get rel hkv
    rw [hkx] at hkx'
    cases hkx'
    refine ⟨(by rw [sizeLine_eq]; show 2 ≤ 16777216; omega), [e.key, e.val], .cons ?_ (.cons (by rw [k2]; exact r2) .nil), ⟨_, hg, rfl, 0, rfl⟩⟩
    rw [r1]
    rcases keyIs_shape (show keyIs kx.1 e.key = true from k1) with ⟨i, t, e1, e2⟩ | ⟨y, t, e1, e2⟩
    · rw [e1]; exact ⟨t, e2⟩
    · rw [e1]; exact ⟨t, e2⟩
  have las : as.length = kvs.length := hl.trans les
  have fresh : ∀ t ∈ as, H t = none := fun t ht => I.hok.fresh (Nat.le_of_lt (hG.above t ht))
  obtain ⟨H2, I2, x2, q2⟩ := DX.takeT (P := fun t vs => ∃ (j : Nat) (kv : Key × V), as[j]? = some t ∧ kvs[j]? = some kv ∧ vs = [kV kv.1, kv.2]) I as H I1 nd fun t ht => by
    obtain ⟨j, hj⟩ := List.mem_iff_getElem?.mp ht
    obtain ⟨kv, hkv⟩ : ∃ kv, kvs[j]? = some kv := ⟨_, List.getElem?_eq_getElem (by rw [← las]; exact (List.getElem?_eq_some_iff.mp hj).1)⟩
    exact ⟨Nat.le_of_lt (hG.above t ht), fresh t ht, _, ⟨j, kv, hj, hkv, rfl⟩, at_ j t kv hj hkv⟩
  have ti : TupItems H H2 as kvs := paired_of las fun j t kv hj hkv => by
    obtain ⟨vs', ⟨j', kv', hj', hkv', ev⟩, ht2⟩ := q2 t (List.mem_of_getElem? hj)
    have ejj : j' = j := (List.getElem?_inj (List.getElem?_eq_some_iff.mp hj').1 nd).mp (hj'.trans hj.symm)
    subst ejj
    rw [hkv] at hkv'
    cases hkv'
    exact ⟨fresh t (List.mem_of_getElem? hj), by rw [ht2, ev]⟩
  obtain ⟨bs, e1, hd', hb, q'⟩ := q H2 as x2 ti
  have lb : bs.length = kvs.length := by
    have := congrArg List.length e1
    rw [List.length_map, List.length_map, las] at this
    exact this
  have rv : Vals (bs.map (·.1)) (as.map Value.ref) := by
    rw [e1]
    exact vals_maps _ _ as fun _ _ => rfl
  have I3 : Inv X pins σ H2 { s with heap := h'.push (seqObj "list" (as.map Value.ref).toArray 0), toks := tk } := I2.kept fun b u e => Heap.get?_push_of_some _ e
  exact sort_laid (s := { s with heap := h', toks := tk }) (tk := tk) (A := X.A.in1) hu (Nat.le_succ_of_le (Nat.le_refl _)) I2 (h1 := h') (fun _ _ e => e) rv (each_reads I3 rv hd') hb (by rw [lb]; exact z) q'
end
end FS

/-! FsJ: a dict whose keys are tuples of pairs (by a comprehension), its values as a list. -/
namespace FS
open PySem L2 PySem.Spec PyProof.Rows

/-- a kind of keys that are tuples -/
structure NK (κ : Type) where
  enc : κ → NestedKey
  inj : ∀ a b, enc a = enc b → a = b
  dep : ∀ a, (enc a).depth ≤ 8
  at_ : Hp → κ → Addr → Prop
  mono : ∀ {H H' : Hp} {k : κ} {a : Addr}, (∀ b o, H b = some o → H' b = some o) → at_ H k a → at_ H' k a
  is : ∀ {P : Program} {w : World} {H : Hp} {h : Heap} {k : κ} {a : Addr}, HOk P w H h → at_ H k a → NestedIs h (enc k) (.ref a)
/-- values that stand for one value alone -/
def exV : V → Option Value
  | .ref a => some (.ref a)
  | .bl b => some (.bool b)
  | _ => none
theorem exV_is {z : V} {u r : Value} (e : exV z = some u) (h : RelV z r) : r = u := by
  cases z <;> cases e
  · cases h; rfl
  · cases h; rfl
theorem exV_rel {z : V} {u : Value} (e : exV z = some u) : RelV z u := by
  cases z <;> cases e
  · rfl
  · rfl
abbrev NX (κ : Type) := κ × Addr × Value
section
variable {κ : Type} [DecidableEq κ] (N : NK κ)
def nxK (x : NX κ) : NestedKey × Addr × Value := (N.enc x.1, x.2.1, x.2.2)
/-- the dict at D: keys, the keys' own tuples, the values -/
def nsO (P : Program) (w : World) (D : Addr) (xs : List (NX κ)) : HO := .ext fun h => (D == sysModules) = false ∧ xs.length ≤ sizeLine ∧
  ∃ o es ep, h.get? D = some o ∧ o.ExactDict ∧ o.data = .dict es ep ∧ es.toList = (xs.map (nxK N)).map (entryOfKey (nestedKind P w)) ∧ (xs.map (·.1)).Nodup
def nsPut (xs : List (NX κ)) (ps : κ) (a : Addr) (b : Value) : List (NX κ) := if (xs.any fun x => decide (x.1 = ps)) = true then xs.map (fun x => if x.1 = ps then (x.1, x.2.1, b) else x) else xs ++ [(ps, a, b)]
theorem ns_put (xs : List (NX κ)) (ps : κ) (a : Addr) (b : Value) : storedH (xs.map (nxK N)) (N.enc ps) a b = (nsPut xs ps a b).map (nxK N) := by
  have hany : (atKey (xs.map (nxK N)) (N.enc ps)).isSome = xs.any fun x => decide (x.1 = ps) := by
    induction xs with
    | nil => rfl
    | cons x xs ih =>
      by_cases e : x.1 = ps
      · simp [atKey, nxK, e]
      · have e' : N.enc x.1 ≠ N.enc ps := fun z => e (N.inj _ _ z)
        simpa [atKey, nxK, e, e'] using ih
  unfold storedH nsPut
  rw [hany]
  split
  · rw [List.map_map, List.map_map]
    refine List.map_congr_left fun x _ => ?_
    by_cases e : x.1 = ps
    · simp [putAt, nxK, e]
    · have e' : N.enc x.1 ≠ N.enc ps := fun z => e (N.inj _ _ z)
      simp [putAt, nxK, e, e']
  · simp [nxK]
theorem ns_len (xs : List (NX κ)) (ps : κ) (a : Addr) (b : Value) : (nsPut xs ps a b).length ≤ xs.length + 1 := by
  unfold nsPut
  split
  · simp
  · simp
theorem ns_nodup (xs : List (NX κ)) (ps : κ) (a : Addr) (b : Value) (h : (xs.map (·.1)).Nodup) : ((nsPut xs ps a b).map (·.1)).Nodup := by
  unfold nsPut
  split
  · have e : ((xs.map fun x => if x.1 = ps then (x.1, x.2.1, b) else x).map (·.1)) = xs.map (·.1) := by
      rw [List.map_map]
      refine List.map_congr_left fun x _ => ?_
      show (if x.1 = ps then (x.1, x.2.1, b) else x).1 = x.1
      split <;> rfl
    rw [e]
    exact h
  · rename_i hn
    rw [List.map_append, List.nodup_append]
    refine ⟨h, by simp, fun c hc d hd => ?_⟩
    have ed : d = ps := by simpa using hd
    rw [ed]
    intro ec
    obtain ⟨x, hx, e⟩ := List.mem_map.mp hc
    exact hn (List.any_eq_true.mpr ⟨x, hx, decide_eq_true (e.trans ec)⟩)
variable {P : Program} {w : World} {H : Hp} {h : Heap}
theorem ns_stay (D : Addr) (xs : List (NX κ)) (o : Obj) (hg : h.get? D = some o) (x : (D == sysModules) = false ∧ xs.length ≤ sizeLine ∧ ∃ o es ep, h.get? D = some o ∧ o.ExactDict ∧ o.data = .dict es ep ∧ es.toList = (xs.map (nxK N)).map (entryOfKey (nestedKind P w)) ∧ (xs.map (·.1)).Nodup) :
    ObjOk P w H h D (nsO N P w D xs) := ⟨x, ⟨o, hg⟩, fun h1 h2 ⟨y, z, o, es, ep, e, r⟩ k => ⟨y, z, o, es, ep, k o e, r⟩⟩
theorem ns_new (hb : sysModules < h.objs.size) : ObjOk P w H (h.push { cls := .type "dict", data := .dict #[] }) h.objs.size (nsO N P w h.objs.size []) :=
  ns_stay N _ _ _ (Heap.get?_push_size _ rfl) ⟨beq_eq_false_iff_ne.mpr (Nat.ne_of_gt hb), Nat.zero_le _, _, #[], 0, Heap.get?_push_size _ rfl, ⟨rfl, rfl, rfl⟩, rfl, rfl, List.nodup_nil⟩
theorem ns_of {D : Addr} {xs : List (NX κ)} (ok : HOk P w H h) (hD : H D = some (nsO N P w D xs)) (hx : ∀ x ∈ xs, N.at_ H x.1 x.2.1) : (D == sysModules) = false ∧ xs.length ≤ sizeLine ∧ h.DictOfH (nestedKind P w) D (xs.map (nxK N)) ∧ (xs.map (·.1)).Nodup := by
  obtain ⟨⟨y, z, o, es, ep, e1, e2, e3, e4, e5⟩, _, _⟩ := (show ObjOk P w H h D (nsO N P w D xs) from ok D _ hD)
  refine ⟨y, z, ⟨o, es, ep, e1, e2, e3, e4, fun q hq => ?_, ?_⟩, e5⟩
  · obtain ⟨x, hm, rfl⟩ := List.mem_map.mp hq
    exact ⟨N.is ok (hx x hm), N.dep _⟩
  · rw [List.map_map]
    have e : (xs.map ((·.1) ∘ nxK N)) = (xs.map (·.1)).map N.enc := by rw [List.map_map]; rfl
    rw [e]
    exact List.Pairwise.map N.enc (fun a b hab z => hab (N.inj _ _ z)) e5
/-- d[k] = v -/
def putNs (P : Program) (w : World) : PutT := fun D y z H Nx => ∃ xs ps a u, y = .ref a ∧ exV z = some u ∧ H D = some (nsO N P w D xs) ∧ (∀ x ∈ xs, N.at_ H x.1 x.2.1) ∧ N.at_ H ps a ∧ xs.length < sizeLine ∧ Nx (upd H D (nsO N P w D (nsPut xs ps a u)))
theorem put_ns {Y : Cx} (hu : Y.A.units + 8 < cLine) : PutOk Y (putNs N Y.prog Y.w) := by
  rintro pins s σ H D y z u r Nx I ry rz ⟨xs, ps, a, b, rfl, ez, hD, hx, ha, hz, nx⟩
  cases ry
  have er := exV_is ez rz
  subst er
  obtain ⟨y1, _, dd, nd⟩ := ns_of N I.hok hD hx
  refine wpAny_dictSet_heap (knd := nestedKind Y.prog Y.w) (hsz := by rw [List.length_map]; omega) hu ⟨N.is I.hok ha, N.dep _⟩ dd fun h' dd' hs => ⟨_, ?_, nx⟩
  rw [ns_put] at dd'
  obtain ⟨o, es, ep, e1, e2, e3, e4, _, _⟩ := dd'
  refine d_write (t' := s.toks + (nestedKind Y.prog Y.w).draws (N.enc ps)) I (by rw [hD]; trivial) hs ⟨o, e1⟩ (ns_stay N _ _ o e1 ⟨y1, ?_, o, es, ep, e1, e2, e3, e4, ns_nodup _ _ _ _ nd⟩)
  have := ns_len xs ps a r
  omega
/-- the statement d[k] = v -/
def sNPut (P : Program) (w : World) (td ty tv : TE) : TS := fun Dn σ H => tv σ H fun z H1 => td σ H1 fun x H2 => ty σ H2 fun y H3 => ∃ D, x = .ref D ∧ putNs N P w D y z H3 (Dn.nx σ)
theorem ps_nput {X : Cx} {o i value : Expr} {td ty tv : TE} {pos pos' : Pos} (hu : X.A.units + 10 < cLine) (ho : PE X o td) (hi : PE X i ty) (hv : PE X value tv) (hs : swapsWith value (some (.Subscript o i pos')) pos.line X.env = pure false) :
    PS X (.Assign [.Subscript o i pos'] value pos) (sNPut N X.prog X.w td ty tv) := by
  refine ⟨fun pins s σ H D I h => wpAny_Assign_Subscript (thn (hv.run pins s σ H _ I h) ?_) hs⟩
  rintro r s1 ⟨z, H1, I1, rz, h1⟩
  refine thn (ho.run pins s1 σ H1 _ I1 h1) ?_
  rintro u s2 ⟨x, H2, I2, rx, h2⟩
  refine thn (hi.run pins s2 σ H2 _ I2 h2) ?_
  rintro iv s3 ⟨y, H3, I3, ry, Dd, rfl, xs, ps, a, b, rfl, ez, hD, hx, ha, hz, nx⟩
  cases rx
  cases ry
  have er := exV_is ez rz
  subst er
  obtain ⟨y1, _, dd, nd⟩ := ns_of N I3.hok hD hx
  refine wpAny_setItem_heap (knd := nestedKind X.prog X.w) (hsz := by rw [List.length_map]; omega) (show X.A.in1.units + 8 < cLine from by show X.A.units + 1 + 8 < cLine; omega) ⟨N.is I3.hok ha, N.dep _⟩ dd fun h' dd' hs => ?_
  rw [ns_put] at dd'
  obtain ⟨o, es, ep, e1, e2, e3, e4, _, _⟩ := dd'
  have := ns_len xs ps a r
  exact ⟨σ, _, d_write (t' := s3.toks + (nestedKind X.prog X.w).draws (N.enc ps)) I3 (by rw [hD]; trivial) hs ⟨o, e1⟩ (ns_stay N _ _ o e1 ⟨y1, by omega, o, es, ep, e1, e2, e3, e4, ns_nodup _ _ _ _ nd⟩), nx⟩
/-- {} -/
def tNNew (P : Program) (w : World) : TE := fun _ H Q => ∀ p, H p = none → Q (.ref p) (upd H p (nsO N P w p []))
theorem pe_nnew {X : Cx} {pos : Pos} : PE X (.Dict [] [] pos) (tNNew N X.prog X.w) := ⟨fun pins s σ H Q I h =>
  wpAny_Dict_empty ⟨.ref s.heap.objs.size, _, I.laid (a := s.heap.objs.size) (o := nsO N X.prog X.w s.heap.objs.size []) (t' := s.toks) (fun _ _ q => Heap.get?_push_of_some _ q) (Nat.le_refl _) (ns_new N I.big), rfl, h _ (I.hok.fresh (Nat.le_refl _))⟩⟩
end
/-- tables of names -/
def NkAt (H : Hp) (ps : List (Str × Int)) (a : Addr) : Prop := ∃ vs, H a = some (.tup vs) ∧ Paired (fun (v : V) (p : Str × Int) => ∃ b, v = .ref b ∧ H b = some (.tup [.str p.1, .int p.2])) vs ps
theorem nk_inj : ∀ {ps qs : List (Str × Int)}, NestedKey.tup (ps.map fun p => .tup [.text p.1, .num p.2]) = NestedKey.tup (qs.map fun p => .tup [.text p.1, .num p.2]) → ps = qs := by
  intro ps
  induction ps with
  | nil =>
    intro qs h
    cases qs with
    | nil => rfl
    | cons q qs => injection h with h; cases h
  | cons p ps ih =>
    intro qs h
    cases qs with
    | nil => injection h with h; cases h
    | cons q qs =>
      injection h with h
      rw [List.map_cons, List.map_cons] at h
      injection h with h1 h2
      injection h1 with h1
      injection h1 with h1 h3
      injection h3 with h3 _
      injection h1 with h1
      injection h3 with h3
      rw [ih (qs := qs) (by rw [h2])]
      have e : p = q := Prod.ext h1 h3
      rw [e]
def nkP : NK (List (Str × Int)) where
  enc := fun ps => .tup (ps.map fun p => .tup [.text p.1, .num p.2])
  inj := fun _ _ h => nk_inj h
  dep := fun ps => by
    have all : NestedKey.depthAll (ps.map fun p => NestedKey.tup [.text p.1, .num p.2]) ≤ 3 := by
      induction ps with
      | nil => simp [NestedKey.depthAll]
      | cons p ps ih => simp only [List.map_cons, NestedKey.depthAll, NestedKey.depth]; omega
    simp only [NestedKey.depth]
    omega
  at_ := NkAt
  mono := by
    rintro H H' ps a x ⟨vs, e, q⟩
    refine ⟨vs, x _ _ e, ?_⟩
    clear e
    induction q with
    | nil => exact .nil
    | cons r _ ih => exact .cons (let ⟨b, e, h⟩ := r; ⟨b, e, x _ _ h⟩) ih
  is := by
    rintro P w H h ps a ok ⟨vs, ha, pr⟩
    obtain ⟨hzz, its, rv, o, h1, h2, n, h3⟩ := (show ObjOk P w H h a (.tup vs) from ok a _ ha)
    clear hzz
    refine .tup h1 h2 h3 ?_
    show NestedAll h _ its
    clear h1 h2 h3 ha
    induction pr generalizing its with
    | nil => cases rv; exact .nil
    | cons r _ ih =>
      cases rv with
      | cons r1 r2 =>
        obtain ⟨b, rfl, hb⟩ := r
        cases r1
        obtain ⟨_, its2, rv2, o2, k1, k2, n2, k3⟩ := (show ObjOk P w H h b (.tup _) from ok b _ hb)
        refine .cons (.tup k1 k2 k3 ?_) (ih _ r2)
        obtain ⟨u1, u2, rfl, ⟨t1, rfl⟩, ⟨t2, rfl⟩⟩ := vals2 rv2
        exact .cons (.text _ _) (.cons (.int _ _) .nil)
/-- rows of numbers -/
def nkI : NK (List Int) where
  enc := fun is => .tup (is.map .num)
  inj := fun a b h => by
    injection h with h
    induction a generalizing b with
    | nil =>
      cases b with
      | nil => rfl
      | cons y b => cases h
    | cons x a ih =>
      cases b with
      | nil => cases h
      | cons y b =>
        rw [List.map_cons, List.map_cons] at h
        injection h with h1 h2
        injection h1 with h1
        rw [h1, ih b h2]
  dep := fun is => by
    have all : NestedKey.depthAll (is.map NestedKey.num) ≤ 1 := by
      induction is with
      | nil => simp [NestedKey.depthAll]
      | cons i is ih => simp only [List.map_cons, NestedKey.depthAll, NestedKey.depth]; omega
    simp only [NestedKey.depth]
    omega
  at_ := fun H is a => H a = some (.tup (is.map V.int))
  mono := fun x h => x _ _ h
  is := by
    rintro P w H h is a ok ha
    obtain ⟨hzz, its, rv, o, h1, h2, n, h3⟩ := (show ObjOk P w H h a (.tup (is.map V.int)) from ok a _ ha)
    clear hzz
    refine .tup h1 h2 h3 ?_
    show NestedAll h _ its
    clear h1 h2 h3 ha
    induction is generalizing its with
    | nil => cases rv; exact .nil
    | cons i is ih =>
      cases rv with
      | cons r1 r2 =>
        obtain ⟨t, rfl⟩ := r1
        exact .cons (.int _ _) (ih _ r2)

/-! ### list(d.values()) -/
def valsO (p d : Addr) : HO := .ext fun h => h.IsValuesView p d
section
variable {κ : Type} [DecidableEq κ] (N : NK κ) {X : Cx} {o : Expr} {to : TE} {apos cpos : Pos}
def tValsN (P : Program) (w : World) (to : TE) : TE := fun σ H Q => to σ H fun x H1 => ∃ D xs, x = .ref D ∧ H1 D = some (nsO N P w D xs) ∧ ∀ p, H1 p = none → Q (.ref p) (upd H1 p (valsO p D))
theorem pe_valsN (ho : PE X o to) (hbase : attributeBase o "values" X.env (eval o X.env) = eval o X.env := by rfl) (hline : (apos.endLine == cpos.line) = true := by rfl) :
    PE X (.Call (.Attribute o "values" apos) [] [] cpos) (tValsN N X.prog X.w to) := by
  refine ⟨fun pins s σ H Q I h => ?_⟩
  refine wpAny_Call_method0_late hbase hline (thn (ho.run pins s σ H _ I h) fun v s1 ⟨x, H1, I1, r1, D, xs, ex, hD, q1⟩ => ?_)
  subst ex
  cases r1
  obtain ⟨⟨y, z, o, es, ep, e1, e2, e3, _⟩, _, _⟩ := (show ObjOk X.prog X.w H1 s1.heap D (nsO N X.prog X.w D xs) from I1.hok D _ hD)
  refine ⟨"dict", "dict.values", PySem.F.plainAttrs_dict, PySem.F.slot_dict_values, PySem.F.type_dict_values, ⟨o, e1, e2.1⟩, fun a ea => ?_, Calls.callWith_builtin rfl (PySem.evalArgs_none ?_)⟩
  · cases ea
    exact ⟨o, e1, e2.2.1⟩
  · refine call_meetsIn PySem.F.slot_dict_values ⟨o, e1, e2.1⟩ PySem.F.entry_dict_values (PySem.F.args_dict_values_1 _) (meets_dict_values_raw D y) ⟨⟨es, ep, o, e1, e2, e3⟩, ?_⟩
    refine ⟨.ref s1.heap.objs.size, upd H1 s1.heap.objs.size (valsO s1.heap.objs.size D), I1.laid (t' := s1.toks) (fun b u e => Heap.get?_push_of_some _ e) (Nat.le_refl _) ?_, rfl, q1 _ (I1.hok.fresh (Nat.le_refl _))⟩
    exact ⟨⟨_, Heap.get?_push_size _ rfl, rfl, rfl⟩, ⟨_, Heap.get?_push_size _ rfl⟩, fun h1 h2 ⟨o, e, r⟩ k => ⟨o, k o e, r⟩⟩
def rListVN (P : Program) (w : World) : List V → Hp → VK → Prop := fun us H Q => ∃ p D xs vs, us = [.ref p] ∧ H p = some (valsO p D) ∧ H D = some (nsO N P w D xs) ∧ Vals vs (xs.map (·.2.2)) ∧ ∀ l, H l = none → Q (.ref l) (upd H l (.lst vs))
theorem cr_listVN (hcalm : X.calm = true) : CallR X (.type "list") (rListVN N X.prog X.w) := by
  intro pins s σ H vs us Q I r h
  obtain ⟨p, D, xs, vs, rfl, hp, hD, hv, q⟩ := h
  rw [Vals.ref1 r]
  obtain ⟨⟨y, z, o, es, ep, e1, e2, e3, e4, _⟩, _, _⟩ := (show ObjOk X.prog X.w H s.heap D (nsO N X.prog X.w D xs) from I.hok D _ hD)
  have view : s.heap.IsValuesView p D := (show ObjOk X.prog X.w H s.heap p (valsO p D) from I.hok p _ hp).1
  have len : es.size = xs.length := by rw [← Array.length_toList, e4, List.length_map, List.length_map]
  refine PySem.W.kdl_call (KdlSrc.rawValues (es := es) (ep := ep)) (I.ok.hd hcalm) ⟨view, o, e1, e2, e3⟩ (by rw [len]; exact z) fun h' tk acc c' hk hL hacc => ?_
  have ea : acc.toList = xs.map fun x => x.2.2 := by
    apply List.ext_getElem?
    intro i
    rw [List.getElem?_map]
    have e6 : es[i]? = (xs[i]?).map fun x => entryOfKey (nestedKind X.prog X.w) (nxK N x) := by
      rw [← Array.getElem?_toList, e4, List.getElem?_map, List.getElem?_map, Option.map_map]
      rfl
    cases hx : acc.toList[i]? with
    | none =>
      rw [List.getElem?_eq_none_iff, Array.length_toList, hacc.1, len] at hx
      rw [List.getElem?_eq_none (by omega)]
      rfl
    | some v =>
      obtain ⟨hi, e5⟩ := hacc.2 i v (by rw [← Array.getElem?_toList]; exact hx)
      rw [Array.getElem?_eq_getElem hi] at e6
      cases hy : xs[i]? with
      | none => rw [hy] at e6; cases e6
      | some x =>
        rw [hy] at e6
        rw [e5, Option.some.inj e6]
        rfl
  have lv := hv.length
  rw [List.length_map] at lv
  refine ⟨.ref s.heap.objs.size, upd H s.heap.objs.size (.lst vs), I.laid (t' := tk) hk (Nat.le_refl _) ⟨by rw [lv]; exact z, acc.toList, c', ?_, by rw [Array.toArray_toList]; exact hL⟩, rfl, q _ (I.hok.fresh (Nat.le_refl _))⟩
  rw [ea]
  exact hv

/-! ### sorted(d) -/
def rSortNs (K : PySem.W.Frag) (P : Program) (w : World) : List V → Hp → VK → Prop := fun us H Q => ∃ (D : Addr) (xs : List (NX κ)) (bs : List (V × PyData)), us = [.ref D] ∧ H D = some (nsO N P w D xs) ∧ bs.map (·.1) = xs.map (fun x => V.ref x.2.1) ∧
  DpAll K H (bs.map (·.1)) (bs.map (·.2)) ∧ SortIn (bs.map (·.2)) ∧ ∀ p, H p = none → Q (.ref p) (upd H p (.lst ((srtP bs).map (·.1))))
theorem cr_sortNs (hcalm : X.calm = true) (hu : X.A.units + 100 < cLine) : CallR X (.builtin "sorted") (rSortNs N X.K X.prog X.w) := by
  intro pins s σ H us0 us Q I r h
  obtain ⟨D, xs, bs, rfl, hD, eb, hd', hb, q⟩ := h
  rw [Vals.ref1 r]
  obtain ⟨⟨lo, hz, o, es, ep, h1, h2, h3, h4, _⟩, _, _⟩ := (show ObjOk X.prog X.w H s.heap D (nsO N X.prog X.w D xs) from I.hok D _ hD)
  have len : es.size = xs.length := by rw [← Array.length_toList, h4, List.length_map, List.length_map]
  refine Calls.call_function_entry PyProof.Rows.kind_sorted PyProof.Rows.plain_sorted PyProof.Rows.entry_sorted (PyProof.Rows.args_sorted1 _) ?_
  unfold Builtin.«sorted»
  refine wpAny_bind (m := checkCount "sorted" 1 1 _) (wpAny_pure ?_)
  refine wpAny_bind (PySem.W.kdu_collect (A := X.A.in1) (KdlSrc.rawDict (es := es) (ep := ep) lo) (I.ok.hd hcalm) ⟨o, h1, h2, h3⟩ (by rw [len]; exact hz) fun h' tk acc hk hacc => ?_)
  have acl : acc.toList.length = xs.length := by rw [Array.length_toList, hacc.1, len]
  have ea : acc.toList = xs.map fun x => Value.ref x.2.1 := by
    apply List.ext_getElem?
    intro i
    have e6 : es[i]? = (xs[i]?).map fun x => entryOfKey (nestedKind X.prog X.w) (nxK N x) := by
      rw [← Array.getElem?_toList, h4, List.getElem?_map, List.getElem?_map, Option.map_map]
      rfl
    rw [List.getElem?_map]
    cases hx : acc.toList[i]? with
    | none =>
      rw [List.getElem?_eq_none_iff] at hx
      rw [List.getElem?_eq_none (by omega)]
      rfl
    | some v =>
      obtain ⟨hi, e2⟩ := hacc.2 i v (by rw [← Array.getElem?_toList]; exact hx)
      rw [Array.getElem?_eq_getElem hi] at e6
      cases hy : xs[i]? with
      | none => rw [hy] at e6; cases e6
      | some x =>
        rw [hy] at e6
        rw [e2, Option.some.inj e6]
        rfl
  have lb : bs.length = xs.length := by
    have := congrArg List.length eb
    rw [List.length_map, List.length_map] at this
    exact this
  have rv : Vals (bs.map (·.1)) acc.toList := by
    rw [ea, eb]
    exact vals_maps _ _ xs fun _ _ => rfl
  have I1 : Inv X pins σ H { s with heap := h', toks := tk } := I.kept hk
  refine wpAny_bind (wpAny_newList ?_ (by rw [acl]; exact hz))
  have I2 : Inv X pins σ H { s with heap := h'.push (seqObj "list" acc.toList.toArray 0), toks := tk } := I1.kept fun b u e => Heap.get?_push_of_some _ e
  exact wpAny_bind (wpAny_holding (thn (sort_laid (A := X.A.in1) hu (Nat.le_succ_of_le (Nat.le_refl _)) I1 (h1 := h') (fun _ _ e => e) rv (each_reads I2 rv hd') hb (by rw [lb]; exact hz) q) fun v s' hq => wpAny_pure ⟨_, rfl, hq⟩))
end
end FS

/-! FsK: {**a, **b}; displays with stars. -/
namespace FS
open PySem L2 PySem.Spec PyProof.Rows
section
variable {P : Program} {w : World} {κ : Type} [DecidableEq κ] {knd : PySem.KeyKind P w κ} {A : Around} {E : Value → Shared → Prop} {s : Shared}
/-- one entry put, its hash known -/
theorem put_entry {d : Addr} {kd : List (κ × Value)} {k : κ} {key v : Value} {Q : Unit → Shared → Prop} (hkey : knd.is k key = true) (hm : s.heap.DictOf knd d kd) (hz : kd.length ≤ sizeLine)
    (hQ : ∀ h', h'.DictOf knd d (stored kd k v) → Heap.SameBut d s.heap h' → Q () { s with heap := h' }) : wpAny (model P w) A (dictPut d (knd.hash k) key v) Q E s := by
  obtain ⟨ob, ents, ep, hob, hex, hdat, hks, hps, hnd⟩ := hm
  have size : ents.size = kd.length := by rw [← Array.length_toList]; exact hps.length
  have same : (ents.findIdx? fun e => knd.is k e.key) = kd.findIdx? fun q => decide (q.1 = k) := by
    rw [← hps.findIdx k]
    cases ents
    simp
  unfold dictPut
  refine wpAny_bind (wpAny_dictFind_of hkey hob hdat hks ?_)
  generalize hf : (ents.findIdx? fun e => knd.is k e.key) = found
  rw [same] at hf
  cases found with
  | none =>
    have out : k ∉ kd.map (·.1) := not_mem_of_findIdx_none hf
    have no : ¬ (kd.any fun q => decide (q.1 = k)) = true := fun z => by
      obtain ⟨q, hq, eq⟩ := List.any_eq_true.mp z
      exact out (List.mem_map.mpr ⟨q, hq, of_decide_eq_true eq⟩)
    have form : stored kd k v = kd ++ [(k, v)] := by rw [stored, if_neg no]
    refine wpAny_updateDictKeys (hz := by rw [size]; exact hz) hob hdat (hQ _ ?_ (Heap.SameBut.update ..))
    refine ⟨_, _, ep + 1, Heap.get?_update_self _ hob (Obj.isFreed_of_dict (Obj.data_mapDictKeys hdat _)), hex.mapDictKeys _, Obj.data_mapDictKeys hdat _, hks.push hkey _, ?_, ?_⟩
    · rw [form]
      have z := hps.append hkey (knd.hash k) v
      cases ents
      simpa using z
    · rw [form, List.map_append, List.nodup_append]
      exact ⟨hnd, by simp, fun a ha b hb e => out (by have eb : b = k := by simpa using hb
                                                      rw [← eb, ← e]; exact ha)⟩
  | some i =>
    have form : stored kd k v = kd.map fun q => if q.1 = k then (q.1, v) else q := by rw [stored, if_pos (any_of_findIdx_some hf)]
    refine wpAny_updateDict hob hdat (hQ _ ?_ (Heap.SameBut.update ..))
    refine ⟨_, _, ep, Heap.get?_update_self _ hob (Obj.isFreed_of_dict (Obj.data_mapDict hdat _)), hex.mapDict _, Obj.data_mapDict hdat _, hks.modify _ _, ?_, ?_⟩
    · rw [form]
      have hl : (ents.toList.findIdx? fun e => knd.is k e.key) = some i := by
        rw [← hf, ← same]
        cases ents
        simp
      have z := hps.modify hnd hl v
      cases ents
      simpa using z
    · rw [form, keys_map_store]
      exact hnd
end
section
variable {P : Program} {w : World} {A : Around} {E : Value → Shared → Prop} {s : Shared}
theorem mix_noref {k : Key} {v : Value} (h : (mixKind P w).is k v = true) : ∀ a, v ≠ .ref a := fun a e => by
  rcases keyIs_shape (show keyIs k v = true from h) with ⟨i, t, _, e2⟩ | ⟨y, t, _, e2⟩ <;> (rw [e2] at e; cases e)
/-- another dict merged in -/
theorem merge_in {d a : Addr} {kd ka : List (Key × Value)} {Q : Unit → Shared → Prop} (hda : d ≠ a) (hs : (a == sysModules) = false) (hd : s.heap.DictOf (mixKind P w) d kd) (ha : s.heap.DictOf (mixKind P w) a ka) (hz : kd.length + ka.length ≤ sizeLine)
    (hQ : ∀ h', h'.DictOf (mixKind P w) d (merged kd ka) → Heap.SameBut d s.heap h' → Q () { s with heap := h' }) : wpAny (model P w) A (mergeMapping d (.ref a) false) Q E s := by
  obtain ⟨od, esd, epd, hod, hxd, hdd, hkd, hpd, hnd⟩ := id hd
  obtain ⟨oa, esa, epa, hoa, hxa, hda', hka, hpa, hna⟩ := id ha
  have lsa : esa.size = ka.length := by rw [← Array.length_toList]; exact hpa.length
  have hT : s.TypeIs (.ref a) "dict" := ⟨oa, hoa, hxa.1⟩
  unfold mergeMapping
  refine wpAny_bind (wpAny_isInstance (T := "dict") (b := true) hT (by rw [isSubtype_type]; kernel_rfl) ?_)
  simp only [if_true]
  refine wpAny_bind (wpAny_specialOf hT PySem.F.slot_dict_iter.lookup ?_)
  refine wpAny_bind (wpAny_pure ?_)
  rw [show ((some (Value.builtin "dict.__iter__") == some (.builtin "dict.__iter__")) = true) from by decide +kernel]
  dsimp only
  rw [if_neg (by rw [hs]; exact Bool.false_ne_true)]
  simp only [Bool.false_eq_true, if_false]
  -- the walk over a's entries
  have walk : wpAny (model P w) A (do
      let l ← dictEntries a
      let epoch ← dictEpoch a
      forIn (List.range l.size) PUnit.unit fun (i : Nat) (_ : PUnit) => (do
          let l' ← dictEntries a
          match l'[i]? with
            | some e => do
              holding [e.key, e.val] (dictPut d e.hash e.key e.val)
              let ep' ← dictEpoch a
              if (ep' != epoch) = true then do
                  (unsupported "dict.changed-during-merge" : Sem PUnit)
                  pure (ForInStep.yield PUnit.unit)
                else pure (ForInStep.yield PUnit.unit)
            | _ => do
              (unsupported "dict.changed-during-merge" : Sem PUnit)
              pure (ForInStep.yield PUnit.unit) : Sem (ForInStep PUnit))
      pure ()) Q E s := by
    refine wpAny_bind (wpAny_dictEntries hoa hda' (wpAny_bind (wpAny_dictEpoch hoa hda' (wpAny_bind ?_))))
    refine wpAny_forIn_list _ (fun rest _ s' => ∃ h' i, s' = { s with heap := h' } ∧ rest = List.range' i (esa.size - i) ∧ i ≤ esa.size ∧ h'.DictOf (mixKind P w) d (merged kd (ka.take i)) ∧ h'.get? a = some oa ∧ Heap.SameBut d s.heap h') _ ?_ ?_ _ _
      ⟨s.heap, 0, rfl, by rw [List.range_eq_range', Nat.sub_zero], Nat.zero_le _, by simpa [merged] using hd, hoa, Heap.SameBut.refl _ _⟩
    · rintro x rest _ s' ⟨h', i, rfl, hr, hi, hd', ha', hs'⟩
      have hlt : i < esa.size := by
        rcases Nat.lt_or_ge i esa.size with z | z
        · exact z
        · rw [Nat.sub_eq_zero_of_le z] at hr
          cases hr
      obtain ⟨m, hm⟩ : ∃ m, esa.size - i = m + 1 := ⟨esa.size - i - 1, by omega⟩
      rw [hm, List.range'_succ] at hr
      injection hr with hx hr
      subst hx
      refine wpAny_bind (wpAny_dictEntries ha' hda' ?_)
      rw [Array.getElem?_eq_getElem hlt]
      dsimp only
      obtain ⟨k, hk1, hk2⟩ := hka esa[x] (Array.getElem_mem hlt)
      obtain ⟨kv, e1, e2, e3⟩ := pairs_get (j := x) (e := esa[x]) hpa (by rw [Array.getElem?_toList, Array.getElem?_eq_getElem hlt])
      have ek : kv.1 = k := (mixKind P w).inj _ _ _ e2 hk1
      rw [hk2]
      have hlen : (merged kd (ka.take x)).length ≤ sizeLine := by
        have := merged_length_le kd (ka.take x)
        rw [List.length_take] at this
        omega
      refine wpAny_bind (wpAny_holding (put_entry (s := { s with heap := h' }) hk1 hd' hlen fun h2 hd2 hs2 => ?_))
      have ha2 : h2.get? a = some oa := (hs2.2 a (Ne.symm hda)).trans ha'
      refine wpAny_bind (wpAny_dictEpoch ha2 hda' ?_)
      rw [if_neg (by simp)]
      refine wpAny_pure ⟨h2, x + 1, rfl, ?_, hlt, ?_, ha2, hs'.trans hs2⟩
      · rw [hr, show esa.size - (x + 1) = m by omega]
      · rw [merged_take_succ kd ka x kv e1, ek, ← e3]
        exact hd2
    · rintro _ s' ⟨h', i, rfl, hr, hi, hd', _, hs'⟩
      have ei : i = esa.size := by
        rcases Nat.lt_or_ge i esa.size with z | z
        · obtain ⟨m, hm⟩ : ∃ m, esa.size - i = m + 1 := ⟨esa.size - i - 1, by omega⟩
          rw [hm, List.range'_succ] at hr
          cases hr
        · omega
      subst ei
      rw [lsa, List.take_length] at hd'
      exact wpAny_pure (hQ h' hd' hs')
  refine wpAny_bind (wpAny_dictEntries hod hdd ?_)
  split
  · refine wpAny_bind (wpAny_dictEntries hoa hda' (wpAny_bind ?_))
    rw [← Array.forIn_toList]
    refine wpAny_forIn_list _ (fun rest _ s' => s' = s ∧ ∀ e ∈ rest, e ∈ esa.toList) _ ?_ ?_ _ _ ⟨rfl, fun e he => he⟩
    · rintro e rest _ s' ⟨rfl, hall⟩
      obtain ⟨k, hk1, _⟩ := hka e (by simpa using hall e List.mem_cons_self)
      have nr := mix_noref hk1
      split
      · rename_i b eb
        exact absurd eb (nr b)
      · exact wpAny_pure ⟨rfl, fun e' he' => hall e' (List.mem_cons_of_mem _ he')⟩
    · rintro _ s' ⟨rfl, _⟩
      exact walk
  · exact walk
end
section
variable {X : Cx} {a b : Expr} {ta tb : TE} {pos : Pos}
/-- {**a, **b}, keys ints and texts -/
def tDD (ta tb : TE) : TE := fun σ H Q => ∀ p, H p = none → ta σ (upd H p (.dK [])) fun x H1 => ∃ (a : Addr) (ka : List (Key × V)), x = .ref a ∧ p ≠ a ∧ Rd H1 a (.dK ka) ∧ H1 p = some (.dK []) ∧
  tb σ (upd H1 p (.dK (mergeK [] ka))) fun y H2 => ∃ (b : Addr) (kb : List (Key × V)), y = .ref b ∧ p ≠ b ∧ Rd H2 b (.dK kb) ∧ H2 p = some (.dK (mergeK [] ka)) ∧ (mergeK [] ka).length + kb.length ≤ sizeLine ∧ Q (.ref p) (upd H2 p (.dK (mergeK (mergeK [] ka) kb)))
theorem merge_step {pins : List (Addr × Obj)} {σ : L2.St} {H : Hp} {s : Shared} {p q : Addr} {k0 kq : List (Key × V)} {E : Value → Shared → Prop} {Q : Unit → Shared → Prop} (I : Inv X pins σ H s) (hp : H p = some (.dK k0)) (hq : Rd H q (.dK kq)) (hpq : p ≠ q) (hz : k0.length + kq.length ≤ sizeLine)
    (h : ∀ s', Inv X pins σ (upd H p (.dK (mergeK k0 kq))) s' → Q () s') : wpAny (model X.prog X.w) X.A (mergeMapping p (.ref q) false) Q E s := by
  obtain ⟨_, yp, vp, rp, dp⟩ := dk_of I.hok hp
  obtain ⟨_, yq, vq, rq, dq⟩ := dk_rd I.hok hq
  refine merge_in hpq yq dp dq (by rw [← rp.length, ← rq.length]; exact hz) fun h' d' sb => h _ ?_
  have he : ∃ o, h'.get? p = some o := let ⟨o, _, _, e, _⟩ := d'; ⟨o, e⟩
  have hl := length_mergeK kq k0
  exact d_write (t' := s.toks) I (by rw [hp]; exact True.intro) sb he (dk_new (by omega) yp (rq.merge rp) d')
theorem pe_dd (ha : PE X a ta) (hb : PE X b tb) : PE X (.Dict [none, none] [a, b] pos) (tDD ta tb) := by
  refine ⟨fun pins s σ H Q I h => ?_⟩
  rw [arm_eval_Dict]
  refine wpAny_bind (wpAny_standAt ?_)
  show wpAny _ _ (dictDisplay [(none, do let x ← eval a X.env; standAt pos; pure x), (none, do let x ← eval b X.env; standAt pos; pure x)]) _ _ _
  have fresh : H s.heap.objs.size = none := I.hok.fresh (Nat.le_refl _)
  have I1 : Inv X pins σ (upd H s.heap.objs.size (.dK [])) { s with heap := s.heap.push { cls := .type "dict", data := .dict #[] } } := I.laid (t' := s.toks) (fun _ _ q => Heap.get?_push_of_some _ q) (Nat.le_refl _) (dk_empty s.heap I.big)
  have g := h _ fresh
  unfold dictDisplay
  simp only [List.forIn_cons, List.forIn_nil, List.isEmpty_nil, if_true, pure_bind, bind_assoc]
  refine wpAny_bind (wpAny_alloc ?_)
  generalize s.heap.objs.size = p at g I1 fresh ⊢
  refine wpAny_bind (wpAny_holding (wpAny_bind (thn (ha.run pins _ σ _ _ I1 g) ?_)))
  rintro _ s2 ⟨_, H1, I2, rx, qa, ka, rfl, pa, rda, hp1, g2⟩
  cases rx
  refine wpAny_bind (wpAny_standAt (wpAny_pure ?_))
  refine wpAny_bind (wpAny_onRaise (wpAny_tryCatch (wpAny_onRaise (wpAny_holding (merge_step I2 hp1 rda pa (by have := (dk_rd I2.hok rda).1; rw [List.length_nil]; omega) fun s3 I3 => ?_)))))
  refine wpAny_bind (wpAny_holding (wpAny_bind (thn (hb.run pins _ σ _ _ I3 g2) ?_)))
  rintro _ s4 ⟨_, H2, I4, ry, qb, kb, rfl, pb, rdb, hp2, hz, g3⟩
  cases ry
  refine wpAny_bind (wpAny_standAt (wpAny_pure ?_))
  refine wpAny_bind (wpAny_onRaise (wpAny_tryCatch (wpAny_onRaise (wpAny_holding (merge_step I4 hp2 rdb pb hz fun s5 I5 => ?_)))))
  exact wpAny_pure ⟨.ref p, _, I5, rfl, g3⟩
end

/-! ### displays with stars -/
section
variable {X : Cx} {e : Expr} {es : List Expr} {te : TE} {ts : TA} {p pos : Pos}
def tStar (K : PySem.W.Frag) (te : TE) (ts : TA) : TA := fun σ H Q => te σ H fun x H1 => ∃ a xs, x = .ref a ∧ (SqL K H1 a xs ∨ SqT K H1 a xs) ∧ ts σ H1 fun ys H2 => Q (xs ++ ys) H2
theorem pa_star {K : PySem.W.Frag} (he : PE X e te) (hs : PA X es ts) (hst : starEach (.Starred e p :: es) X.env = (true, eval e X.env) :: starEach es X.env := by rfl) (hK : X.K = K := by rfl) : PA X (.Starred e p :: es) (tStar K te ts) := by
  subst hK
  refine ⟨fun pos pins s σ H Q I h => ?_⟩
  refine PySem.W.items_star (thn (he.run pins s σ H _ I h) ?_) hst
  rintro u s1 ⟨_, H1, I1, rx, a, xs, rfl, hsq, q⟩
  cases rx
  have go : ∀ {its : List Value} {T : String} {o : Obj} {n : Nat}, Vals xs its → T = "list" ∨ T = "tuple" → s1.heap.get? a = some o → o.cls = .type T → o.data = .seq its.toArray n → xs.length ≤ sizeLine → PySem.W.StarOf (model X.prog X.w) X.A X.xe (.ref a) (fun here s₂ => wpAny (model X.prog X.w) X.A (spliced (backTo pos (starEach es X.env))) (fun vs s₃ => AP X pins σ Q (here ++ vs) s₃) X.xe s₂) s1 := by
    intro its T o n rv hT ho hc hd hz
    have hT' : s1.TypeIs (.ref a) T := ⟨o, ho, hc⟩
    have body : wpAny (model X.prog X.w) X.A (collect (.ref a)) (fun here s₂ => wpAny (model X.prog X.w) X.A (spliced (backTo pos (starEach es X.env))) (fun vs s₃ => AP X pins σ Q (here ++ vs) s₃) X.xe s₂) X.xe s1 := by
      refine wpAny_collect_seq a hT ho hc hd (fun h' hk => ?_) (by rw [List.size_toArray, ← rv.length]; exact hz)
      refine thn (hs.run pos pins _ σ H1 _ (I1.kept (t' := s1.toks) hk) q) ?_
      rintro us s3 ⟨ys, H2, I2, rys, q2⟩
      exact ⟨xs ++ ys, H2, I2, rv.append rys, q2⟩
    unfold PySem.W.StarOf notIterableAtAll
    rcases hT with rfl | rfl
    · exact wpAny_bind (wpAny_specialOf hT' PySem.F.slot_list_iter.lookup (wpAny_pure ⟨rfl, body⟩))
    · exact wpAny_bind (wpAny_specialOf hT' PySem.F.slot_tuple_iter.lookup (wpAny_pure ⟨rfl, body⟩))
  rcases hsq with hl | ht
  · obtain ⟨its, rv, pl, hz⟩ := I1.list hl
    obtain ⟨o, n, ho, hc, _, hd⟩ := pl
    exact go rv (.inl rfl) ho hc hd hz
  · obtain ⟨its, rv, pl, hz⟩ := I1.tuple ht
    obtain ⟨o, ho, hc, n, hd⟩ := pl
    exact go rv (.inr rfl) ho hc hd hz
end
end FS

/-! FsL: dict of pairs, extend by a sequence, xs[::0 - 1], enumerate of a tuple, tuple(list) with its object, d.items(). -/
namespace FS
open PySem L2 PySem.Spec PyProof.Rows
section
variable {X : Cx} {pins : List (Addr × Obj)} {σ : L2.St} {H : Hp} {s : Shared}

/-! ### dict(pairs), a list or a tuple whose object is known -/
def SqF (K : PySem.W.Frag) (H : Hp) (a : Addr) (xs : List V) : Prop := SqL K H a xs ∨ ∃ o : Obj, H a = some (.frz o (.tup xs)) ∧ o.dict = none
def rDictPr (K : PySem.W.Frag) : List V → Hp → VK → Prop := fun xs H Q => ∃ (a : Addr) (ps : List Addr) (kvs : List (Key × V)), xs = [.ref a] ∧ SqF K H a (ps.map V.ref) ∧ Paired (fun p (kv : Key × V) => SqT K H p [kV kv.1, kv.2]) ps kvs ∧
  ∀ p, H p = none → Q (.ref p) (upd H p (.dK (mergeK [] kvs)))
theorem pairs_vals (I : Inv X pins σ H s) : ∀ {ps : List Addr} {kvs : List (Key × V)}, Paired (fun p (kv : Key × V) => SqT X.K H p [kV kv.1, kv.2]) ps kvs →
    ∃ (us : List (Value × Value)) (prs : List (Key × Value)), KV kvs prs ∧ Paired (fun p (u : Value × Value) => IsTup s.heap p #[u.1, u.2]) ps us ∧ Paired (fun (u : Value × Value) (q : Key × Value) => keyIs q.1 u.1 = true ∧ u.2 = q.2) us prs
  | _, _, .nil => ⟨[], [], .nil, .nil, .nil⟩
  | _, _, .cons (b := kv) h t => by
    obtain ⟨us, prs, r1, r2, r3⟩ := pairs_vals I t
    obtain ⟨its, rv, ht, _⟩ := I.tuple h
    obtain ⟨u, y, rfl, ru, ry⟩ := vals2 rv
    refine ⟨(u, y) :: us, (kv.1, y) :: prs, .cons ⟨rfl, ry⟩ r1, .cons ht r2, .cons ⟨kV_is (P := X.prog) (w := X.w) ru, rfl⟩ r3⟩
theorem cr_dictPr (hcalm : X.calm = true) : CallR X (.type "dict") (rDictPr X.K) := by
  intro pins s σ H xs us Q I r h
  obtain ⟨a, ps, kvs, rfl, hsq, hp, q⟩ := h
  rcases hsq with hl | ⟨o, ho, hod⟩
  · exact call_dictP hcalm pins s σ H _ us Q I r ⟨a, ps, kvs, rfl, hl, hp, q⟩
  · rw [Vals.ref1 r]
    obtain ⟨eo, hz, its, rv, o2, ho2, hc, n, hd⟩ := (show ObjOk X.prog X.w H s.heap a (.frz o (.tup (ps.map V.ref))) from I.hok a _ ho)
    rw [eo] at ho2
    cases ho2
    have ei := refs_at rv
    subst ei
    rw [List.length_map] at hz
    obtain ⟨vs, prs, r1, r2, r3⟩ := pairs_vals I hp
    have l1 : ps.length = vs.length := Paired.length r2
    have l2 : vs.length = prs.length := Paired.length r3
    refine PySem.call_dict_pairs (knd := mixKind X.prog X.w) (kvs := prs) (PySem.PairArg.tuple a (ps.map Value.ref).toArray (fun j => ps.getD j 0) vs) (I.ok.hd hcalm) ⟨⟨o, n, eo, hc, hod, hd⟩, ?_⟩ ⟨l2.symm, ?_⟩ (by omega) fun h' tk d' hk => ?_
    · refine ⟨by simp [l1], fun j k v hj => ?_⟩
      have hlt : j < ps.length := by rw [l1]; exact (List.getElem?_eq_some_iff.mp hj).1
      obtain ⟨u, hu, ht⟩ := paired_get r2 (List.getElem?_eq_getElem hlt)
      rw [hj] at hu
      cases hu
      refine ⟨by simp [hlt], .inl ?_⟩
      show s.heap.IsTuple (ps.getD j 0) #[k, v]
      rw [show ps.getD j 0 = ps[j] by simp [hlt]]
      exact ht
    · intro i key v hr
      obtain ⟨q', hq', e1, e2⟩ := paired_get r3 (show vs[i]? = some (key, v) from hr)
      exact ⟨q'.1, by rw [hq']; exact congrArg some (Prod.ext rfl e2.symm), e1⟩
    · have hm : (s.heap.objs.size == sysModules) = false := beq_eq_false_iff_ne.mpr (Nat.ne_of_gt I.big)
      have hlen : (mergeK [] kvs).length ≤ sizeLine := by
        have := length_mergeK kvs []
        rw [List.length_nil, r1.length] at this
        omega
      exact ⟨.ref s.heap.objs.size, upd H s.heap.objs.size (.dK (mergeK [] kvs)), I.laid (t' := tk) (fun b o e => hk b o (by simp) e) (Nat.le_refl _) (show ObjOk X.prog X.w _ _ _ (.dK (mergeK [] kvs)) from ⟨hlen, hm, merged [] prs, KV.merge r1 .nil, d'⟩), rfl, q _ (I.hok.fresh (Nat.le_refl _))⟩

/-! ### xs.extend(ys), ys a list or a tuple -/
def rExtA (K : PySem.W.Frag) : V → List V → Hp → VK → Prop := fun x vs H Q => ∃ (l b : Addr) (xs zs : List V), x = .ref l ∧ vs = [.ref b] ∧ H l = some (.lst xs) ∧ (SqL K H b zs ∨ SqT K H b zs) ∧ xs.length + zs.length ≤ sizeLine ∧ Q .non (upd H l (.lst (xs ++ zs)))
theorem mt_extA : MtM X "list.extend" (rExtA X.K) := by
  intro pins s σ H x vs v us Q I rx rv h
  obtain ⟨l, b, xs, zs, rfl, rfl, hH, hB, hz, q⟩ := h
  cases rx
  obtain ⟨u, rfl, ru⟩ := rv.one
  cases ru
  obtain ⟨z, its, n, r, hl, e⟩ := I.lstM hH
  obtain ⟨its2, T, o2, n2, r2, hT, e2, ec2, ed2⟩ : ∃ (its2 : List Value) (T : String) (o2 : Obj) (n2 : Nat), Vals zs its2 ∧ (T = "list" ∨ T = "tuple") ∧ s.heap.get? b = some o2 ∧ o2.cls = .type T ∧ o2.data = .seq its2.toArray n2 := by
    rcases hB with hb | hb
    · obtain ⟨w, rw', ⟨o, n, h1, h2, _, h3⟩, _⟩ := I.list hb
      exact ⟨w, "list", o, n, rw', .inl rfl, h1, h2, h3⟩
    · obtain ⟨w, rw', ⟨o, h1, h2, n, h3⟩, _⟩ := I.tuple hb
      exact ⟨w, "tuple", o, n, rw', .inr rfl, h1, h2, h3⟩
  have l2 := r2.length
  refine wpAny_call_entry PySem.F.slot_list_extend ⟨_, e, rfl⟩ PySem.F.entry_list_extend ?_ (PySem.F.args_list_extend_2 _ _)
  show wpAny _ _ (Builtin.List.listExtendWith (.ref l) (.ref b) .none) _ _ s
  unfold Builtin.List.listExtendWith
  refine wpAny_bind (wpAny_typeOf (T := T) ⟨o2, e2, ec2⟩ ?_)
  have hc : (Builtin.List.listSameRef (.ref l) (.ref b) || Value.type T == Value.type "list" || Value.type T == Value.type "tuple") = true := by
    rcases hT with rfl | rfl
    · rw [show (Value.type "list" == Value.type "list") = true by decide +kernel, Bool.or_true, Bool.true_or]
    · rw [show (Value.type "tuple" == Value.type "tuple") = true by decide +kernel, Bool.or_true]
  rw [if_pos hc]
  refine wpAny_bind (listItems_at e2 ed2 (wpAny_bind (listItems_at e rfl ?_)))
  have hsz : its.toArray.size + its2.toArray.size ≤ sizeLine := by rw [List.size_toArray, List.size_toArray]; omega
  rw [if_neg (by rw [notLongL hsz, Bool.and_false]; exact Bool.false_ne_true)]
  refine wpAny_bind (listUpdate_at e rfl ?_ (by rw [List.size_toArray]; omega) (by rw [Array.size_append]; omega))
  refine wpAny_bind (wpAny_pure (wpAny_pure ⟨.none, rfl, ?_⟩))
  refine ⟨.non, _, I.lset (its' := its ++ its2) hH e (by simp) (r.append r2) ?_, rfl, q⟩
  rw [List.length_append]
  omega

/-! ### tuple(list), the object of the new tuple known -/
def rTupF (K : PySem.W.Frag) : List V → Hp → VK → Prop := fun xs H Q => ∃ p ys, xs = [.ref p] ∧ SqL K H p ys ∧ ∀ (l : Addr) (o : Obj), H l = none → o.dict = none → Q (.ref l) (upd H l (.frz o (.tup ys)))
theorem cr_tupF : CallR X (.type "tuple") (rTupF X.K) := by
  intro pins s σ H xs us Q I r h
  obtain ⟨p, ys, rfl, hq, q⟩ := h
  rw [Vals.ref1 r]
  obtain ⟨its, rv, pl, hz⟩ := I.list hq
  have hlen := rv.length
  refine call_tuple_list pl.isList (fun h' kp => ?_) (by simp only [List.size_toArray] <;> omega)
  have I1 : Inv X pins σ H { s with heap := h' } := I.kept (t' := s.toks) kp
  have new := Heap.get?_push_size h' (o := { cls := .type "tuple", data := .seq its.toArray }) rfl
  exact ⟨.ref h'.objs.size, upd H h'.objs.size (.frz { cls := .type "tuple", data := .seq its.toArray } (.tup ys)), I1.laid (t' := s.toks) (fun b o e => Heap.get?_push_of_some _ e) (Nat.le_refl _) ⟨new, hz, its, rv, IsTup.new _ _⟩, rfl, q _ _ (I1.hok.fresh (Nat.le_refl _)) rfl⟩

/-! ### d.items() -/
def tItemsK (te : TE) : TE := fun σ H Q => te σ H fun x H1 => ∃ (a : Addr) (kvs : List (Key × V)), x = .ref a ∧ Rd H1 a (.dK kvs) ∧ ∀ p, H1 p = none → Q (.ref p) (upd H1 p (DX.itemsO p a))
theorem pe_items {o : Expr} {to : TE} {apos cpos : Pos} (ho : PE X o to) (hbase : attributeBase o "items" X.env (eval o X.env) = eval o X.env := by rfl) (hline : (apos.endLine == cpos.line) = true := by rfl) :
    PE X (.Call (.Attribute o "items" apos) [] [] cpos) (tItemsK to) := by
  refine ⟨fun pins s σ H Q I h => ?_⟩
  refine wpAny_Call_method0_late hbase hline (thn (ho.run pins s σ H _ I h) fun v s1 ⟨x, H1, I1, r1, a, kvs, ex, ha, q1⟩ => ?_)
  subst ex
  cases r1
  obtain ⟨z, hd, vs, rel, o, es, ep, e1, e2, e3, _⟩ := dk_rd I1.hok ha
  refine ⟨"dict", "dict.items", PySem.F.plainAttrs_dict, PySem.F.slot_dict_items, PySem.F.type_dict_items, ⟨o, e1, e2.1⟩, fun a ea => ?_, Calls.callWith_builtin rfl (PySem.evalArgs_none ?_)⟩
  · cases ea
    exact ⟨o, e1, e2.2.1⟩
  · exact mt_itemsK pins s1 σ H1 (.ref a) [] _ [] Q I1 rfl .nil ⟨a, kvs, rfl, rfl, ha, q1⟩

/-! ### xs[::0 - 1] -/
theorem pe_rev {K : PySem.W.Frag} {e : Expr} {te : TE} {k k' : Nat} {p1 p2 p3 p4 pos : Pos} (he : PE X e te) (hK : X.K = K := by rfl) : PE X (.Subscript e (.Slice none none (some (.BinOp (.Constant (.int 0) k p1) .Sub (.Constant (.int 1) k' p2) p3)) p4) pos) (tRevL K te) := by
  subst hK
  have step : PO X (some (.BinOp (.Constant (.int 0) k p1) .Sub (.Constant (.int 1) k' p2) p3)) (tPart (tOp (rI0 fun i j => .int (i - j)) (tC (.int 0)) (tC (.int 1)))) := po_some (pe_op op_sub pe_int pe_int)
  refine ⟨fun pins s σ H Q I h => Subscript_ (thn (he.run pins s σ H _ I h) ?_)⟩
  rintro v sa ⟨_, Ha, Ia, ra, a, xs, rfl, hx, q⟩
  cases ra
  refine wpAny_Slice (thn (po_none.run pins sa σ Ha (fun o Hb => o = none ∧ Hb = Ha) Ia ⟨rfl, rfl⟩) ?_)
  rintro vl sb ⟨_, _, Ib, pl, rfl, rfl⟩
  refine thn (po_none.run pins sb σ _ (fun o Hb => o = none ∧ Hb = _) Ib ⟨rfl, rfl⟩) ?_
  rintro vu sc ⟨_, _, Ic, pu, rfl, rfl⟩
  refine thn (step.run pins sc σ _ (fun o Hb => o = some (-1) ∧ Hb = _) Ic ⟨0, 1, rfl, rfl, -1, rfl, rfl, rfl⟩) ?_
  rintro vs sd ⟨_, _, Id, ps, rfl, rfl⟩
  have Ie : Inv X pins σ _ { sd with heap := sd.heap.push { cls := .type "slice", data := .fields #[vl, vu, vs] } } := Id.kept (t' := sd.toks) fun b ob q => Heap.get?_push_of_some _ q
  obtain ⟨its, r, ht, hz⟩ := Ie.list hx
  have hlen := r.length
  refine tail_any (ops := [.ref a, .ref sd.heap.objs.size]) ht.isList.typeIs (PySem.slot_list_getitem.lookup) ?_ (by with_unfolding_all rfl)
  refine wpAny_getItem_list_slice ht.isList (Heap.IsSliceOf.new _ vl vu vs) pl pu ps (by decide) ?_ (by rw [List.size_toArray]; omega)
  rw [PySem.W.krv_pick]
  exact ⟨.ref _, _, Ie.laid (t' := sd.toks) (o := .lst xs.reverse) (fun b ob q => Heap.get?_push_of_some _ q) (Nat.le_refl _) ⟨by rw [List.length_reverse]; exact hz, _, 0, r.reverse, Heap.get?_push_size _ rfl⟩, rfl, q _ (Ie.hok.fresh (Nat.le_refl _))⟩
end

/-! ### enumerate(tuple) -/
abbrev tupIt (t : Addr) : Obj := { cls := .type "tuple_iterator", data := .fields #[.ref t, .int 0 0] }
abbrev enumOb (it : Addr) : Obj := { cls := .type "enumerate", data := .fields #[.none, .bool false, .ref it, rawInt 0, .none, .none] }
theorem enum_new (t : Addr) (items : Array Value) : Meets (Builtin.«enumerate.__new__» ⟨[.type "enumerate", .ref t], []⟩) (fun _ R s => s.heap.IsTuple t items ∧ R (.ok (.ret (.ref (s.heap.push (tupIt t)).objs.size))) { s with heap := (s.heap.push (tupIt t)).push (enumOb s.heap.objs.size) }) :=
  .of_wp fun prog w A R s h => by
    obtain ⟨hp, g, d, tk, os⟩ := s
    obtain ⟨h1, h⟩ := h
    have hsub := sub_enumerate
    have starts : ∀ {A' : Around} {E : Value → Shared → Prop} {Q : Value → Shared → Prop}, Q (.ref hp.objs.size) ⟨hp.push (tupIt t), g, d, tk, os⟩ → wpAny (model prog w) A' (pyIter (.ref t)) Q E ⟨hp, g, d, tk, os⟩ := fun q => wpAny_pyIter_tuple (s := ⟨hp, g, d, tk, os⟩) h1 q
    wp_walk using starts
    refine wpAny_stack_any fun st => wpAny_pure ?_
    split
    · rename_i c _ _ _ _ _
      cases (c == Value.type "enumerate") <;> (wp_walk using starts; exact ⟨_, rfl, h⟩)
    · wp_walk using starts
      exact ⟨_, rfl, h⟩
section
variable {P : Program} {w : World} {A : Around} {E : Value → Shared → Prop} {s : Shared}
theorem enum_call {t : Addr} {items : Array Value} {Q : Value → Shared → Prop} (ht : s.heap.IsTuple t items)
    (h : ∀ h', IsEnum h' (s.heap.objs.size + 1) s.heap.objs.size 0 .none → h'.IsTupleIter s.heap.objs.size t 0 → h'.objs.size = s.heap.objs.size + 2 → (∀ b o, s.heap.get? b = some o → h'.get? b = some o) → Q (.ref (s.heap.objs.size + 1)) { s with heap := h' }) :
    wpAny (model P w) A (call (.type "enumerate") [.ref t]) Q E s := by
  refine callType_new F.called_enumerate (by decide) (F.typeCall_enumerate_1 _) (F.newCall_enumerate_1 _) (fun obj => F.args_object_init_2 obj _) F.entry_enumerate_new (enum_new t items) ⟨ht, ?_⟩
  have sz : (s.heap.push (tupIt t)).objs.size = s.heap.objs.size + 1 := Heap.size_push ..
  have top : IsEnum ((s.heap.push (tupIt t)).push (enumOb s.heap.objs.size)) (s.heap.objs.size + 1) s.heap.objs.size 0 .none := by
    have z := Heap.get?_push_size (s.heap.push (tupIt t)) (o := enumOb s.heap.objs.size) rfl
    rw [sz] at z
    exact z
  show _ ∧ _
  rw [sz]
  exact ⟨⟨_, top, rfl⟩, h _ top ⟨_, Heap.get?_push_of_some _ (Heap.get?_push_size _ rfl), rfl, rfl⟩ (by rw [Heap.size_push, sz]) fun b o x => Heap.get?_push_of_some _ (Heap.get?_push_of_some _ x)⟩
end
/-- the tuple at a, each item in a new pair -/
def ItT (K : PySem.W.Frag) (a : Addr) : It :=
  ⟨fun i H => ∃ (xs : List V) (x : V), SqT K H a xs ∧ xs[i]? = some x, fun i H v H' => ∃ T x, v = .ref T ∧ H T = none ∧ H' = upd H T (.tup [.int (i : Nat), x]) ∧ ∀ xs, SqT K H a xs → xs[i]? = some x, fun i H => ∃ xs : List V, SqT K H a xs ∧ xs.length = i⟩
theorem turn_enumT {P : Program} {w : World} {K : PySem.W.Frag} {elts : List Expr} {kk : Nat} {tpos : Pos} (a e it : Addr) :
    Turn P w K (.Tuple elts kk tpos) (ItT K a) [e, it] e (fun i h => (∃ old, IsEnum h e it ((i : Nat) : Int) old) ∧ h.IsTupleIter it a i ∧ e ≠ it ∧ a ≠ it ∧ e ≠ a) where
  mem := List.mem_cons_self ..
  obj := fun i h ⟨⟨old, he⟩, ⟨o, ho, hc, hd⟩, _⟩ b hb => by
    rcases List.mem_cons.mp hb with rfl | hb
    · exact ⟨_, he, fun v z => nomatch z⟩
    · rw [List.mem_singleton.mp hb]
      exact ⟨o, ho, fun v z => by rw [hd] at z; cases z⟩
  keep := fun i h h' ⟨⟨old, he⟩, hi, ne⟩ k => ⟨⟨old, k e (by simp) _ he⟩, hi.at fun o z => k it (by simp) o z, ne⟩
  item := by
    rintro X rfl rfl rfl hc i pins s σ H E I hf ⟨⟨old, he⟩, hit, ne1, ne2, ne3⟩ ⟨xs, x, hq, hx⟩
    obtain ⟨its, rv, pt, hz⟩ := I.tuple hq
    obtain ⟨u, hu, ru⟩ := rv.get hx
    have hlt : i < its.toArray.size := by
      rw [List.size_toArray]
      exact (List.getElem?_eq_some_iff.mp hu).1
    have lt : ∀ b ∈ [e, it], b < s.heap.objs.size := fun b hb => by
      rcases List.mem_cons.mp hb with rfl | hb
      · exact Heap.lt_size he
      · rw [List.mem_singleton.mp hb]
        obtain ⟨_, z, _⟩ := hit
        exact Heap.lt_size z
    refine wpAny_pyNext_enum_itemD (Draws.tuple (prog := X.prog) (w := X.w) (A := X.A.in1) (I.ok.hd hc) it a ne2 its.toArray) he ⟨hit, pt⟩ hlt ne1 (by simp [ne1, ne3]) fun x' h' tk hP hout hst' hT hsz hk => ?_
    have ex : x' = u := by
      rw [List.getElem?_toArray, hu] at hP
      exact (Option.some.inj hP).symm
    subst ex
    refine ⟨_, rfl, wpAny_letOwnedTupleGo_enum (s := { s with heap := h', toks := tk + 1 }) hout fun h2 he2 sb => ?_⟩
    have hT2 := (sb.2 _ (Nat.ne_of_gt (lt e (by simp)))).trans hT
    have new : ObjOk X.prog X.w (upd H s.heap.objs.size (.tup [.int (i : Nat), x])) h2 s.heap.objs.size (.tup [.int (i : Nat), x]) :=
      ⟨by show 2 ≤ sizeLine; decide, [.int i tk, x'], .cons ⟨_, rfl⟩ (.cons ru .nil), ⟨_, hT2, rfl, _, rfl⟩⟩
    have I1 := I.turnedNew (t' := tk + 1) (ch := [e, it]) (fun b ob hb z => (sb.2 b (fun y => hb (by simp [y]))).trans (hk b ob (fun y => hb (by simp [y])) (fun y => hb (by simp [y])) z)) hf (Nat.le_refl _) new
    refine ⟨.ref s.heap.objs.size, _, I1, rfl, ⟨_, x, rfl, I.hok.fresh (Nat.le_refl _), rfl, fun ys hy => by rw [I.tuple_inj hy hq]; exact hx⟩, ⟨⟨x', ?_⟩, hst'.1.at fun o z => (sb.2 it (Ne.symm ne1)).trans z, ne1, ne2, ne3⟩, fun b hb => ?_⟩
    · rw [show ((i + 1 : Nat) : Int) = (i : Int) + 1 by omega]
      exact he2
    · rw [upd_ne (Nat.ne_of_lt (lt b hb))]
      exact (hf b hb).1
  done := by
    rintro X rfl rfl rfl hc i pins s σ H E I hf ⟨⟨old, he⟩, hit, ne1, ne2, ne3⟩ ⟨xs, hq, hx⟩
    obtain ⟨its, rv, pt, hz⟩ := I.tuple hq
    obtain ⟨f0, f1, f2, f3, f4, f5⟩ := hf it (by simp)
    have hl := rv.length
    have en : i = its.toArray.size := by rw [List.size_toArray]; omega
    subst en
    exact wpAny_pyNext_enum_endD (Draws.tuple (prog := X.prog) (w := X.w) (A := X.A.in1) (I.ok.hd hc) it a ne2 its.toArray) he ⟨hit, pt⟩ fun h' eb => ⟨rfl, I.turned (t' := s.toks) (fun b o hb z => eb b o hb z) f0 f1 f3 f4 f5⟩
  self := fun A i s Q E ⟨⟨_, he⟩, _⟩ h => wpAny_pyIter_enum he h
def iEnumT (K : PySem.W.Frag) (ta : TA) : TI := fun σ H R => ta σ H fun vs H1 => ∃ a xs, vs = [.ref a] ∧ SqT K H1 a xs ∧ R (ItT K a) H1
theorem pi_enumT {X : Cx} {e : Expr} {ta : TA} {p pos tpos : Pos} {elts : List Expr} {kk : Nat} (hg : Gl X "enumerate") (hm : X.mg "enumerate" = none) (ha : PA X [e] ta) (hs : starEach [e] X.env = [(false, eval e X.env)] := by rfl) :
    PI X (.Tuple elts kk tpos) (.Call (.Name "enumerate" p) [e] [] pos) (iEnumT X.K ta) := by
  refine ⟨fun pins s σ H R I h => Call_ (ld_blt I hg hm boot_enumerate (PyProof.Rows.callWith_type1 (thn (ha.run pos pins s σ H _ I h) ?_) hs rfl))⟩
  rintro us s1 ⟨vs, H1, I1, r1, a, xs, rfl, hq, q⟩
  rw [Vals.ref1 r1]
  obtain ⟨its, rv, pt, hz⟩ := I1.tuple hq
  have la : a < s1.heap.objs.size := pt.lt
  refine enum_call pt fun h' he hit hsz hk => wpAny_pyIter_enum he ?_
  have I2 : Inv X pins σ H1 { s1 with heap := h' } := I1.kept (t' := s1.toks) hk
  refine ⟨s1.heap.objs.size + 1, [s1.heap.objs.size + 1, s1.heap.objs.size], _, _, H1, rfl, I2, turn_enumT a (s1.heap.objs.size + 1) s1.heap.objs.size, ⟨⟨.none, he⟩, hit, Nat.succ_ne_self _, Nat.ne_of_lt la, Nat.ne_of_gt (Nat.lt_succ_of_lt la)⟩, fun b hb => ?_, q⟩
  have hle : s1.heap.objs.size ≤ b := by
    rcases List.mem_cons.mp hb with rfl | hb
    · exact Nat.le_succ _
    · rw [List.mem_singleton.mp hb]
      exact Nat.le_refl _
  exact I1.fpOk hle (I1.hok.fresh hle)
section
variable {K : PySem.W.Frag} {B : Addr → Prop} {ρ : Ro} {te ta tb : TE} {S : D → Prop} {P : Po}
theorem wi_enumT {t : TA} {S : List D → Prop} (h : WpA K B t ρ fun ds => ∃ xs, ds = [.tup xs] ∧ S (enumD xs)) : WpI K B (iEnumT K t) ρ S := fun H0 G H σ E R k => h H0 G H σ E _ fun vs ds G1 H1 g1 r1 ⟨xs, e, s⟩ => by
  subst e
  cases r1 with
  | cons r1 r2 =>
    cases r2
    cases r1 with
    | @tup a vs1 _ e1 q1 =>
      have here : ∀ G' H', Ex G1 G' → GH B G' H' → SqT K H' a vs1 := fun G' H' x g => .inl (.inl (g.gh _ _ (x _ _ e1)))
      refine ⟨a, vs1, rfl, here _ _ (Ex.refl _) g1.gH, k _ (enumD xs) G1 H1 g1 ⟨fun i G' H' x g hi => ?_, fun i d G' H' v H'' x g hd y => ?_, fun G' H' x g => ⟨vs1, here _ _ x g, by rw [enumD_len, q1.length]⟩⟩ s⟩
      · obtain ⟨p, h1, _⟩ := enumD_get (List.getElem?_eq_getElem hi)
        obtain ⟨v1, h3, _⟩ := q1.get h1
        exact ⟨vs1, v1, here _ _ x g, h3⟩
      · obtain ⟨T, v1, rfl, hT, rfl, f1⟩ := y
        obtain ⟨p, h1, rfl⟩ := enumD_get hd
        obtain ⟨w1, h3, d1⟩ := q1.get h1
        have z1 := f1 _ (here _ _ x g)
        rw [h3] at z1
        cases z1
        have xn := x.trans (Ex.new (o := .tup [.int (i : Nat), v1]) (g.gh.free hT))
        exact ⟨_, Gr.new g hT, .tup upd_same (.cons (.int _) (.cons (d1.mono xn) .nil))⟩
end
end FS

/-! FsN: the new rules over data. -/
namespace FS
open PySem L2

section
variable {K : PySem.W.Frag} {B : Addr → Prop} {ρ : Ro} {te ta tb : TE} {S : D → Prop} {P : Po} {α : Type}

/-! ### comprehensions that fill a dict -/
/-- what the dict being filled is, by what it has so far -/
structure AccR (K : PySem.W.Frag) (B : Addr → Prop) (α : Type) where
  at_ : Hp → Hp → Addr → α → Prop
  step : ∀ {G H G' H' : Hp} {p : Addr} {a : α}, ¬ B p → Gr B G H G' H' → at_ G H p a → at_ G' H' p a
  there : ∀ {G H : Hp} {p : Addr} {a : α}, at_ G H p a → ∃ u, H p = some u
def WpAcc (A : AccR K B α) (te : TE) (ρ : Ro) (S : α → Prop) : Prop :=
  ∀ H0 G H σ, EnvS K B H0 G H σ ρ → ∀ Q : VK, (∀ p G' H' a, Gr B G H G' H' → G' p = none → ¬ B p → H p = none → A.at_ G' H' p a → S a → Q (.ref p) H') → te σ H Q
def WpR (A : AccR K B α) (Rs : Addr → (Hp → Prop) → L2.St → Hp → Prop) (ρ : Ro) (a : α) (Post : α → Prop) : Prop :=
  ∀ Gb Hb H0 G H σ p, Hb p = none → Gr B Gb Hb G H → EnvS K B H0 G H σ ρ → G p = none → ¬ B p → A.at_ G H p a → ∀ Nx : Hp → Prop, (∀ G' H' a', Gr B Gb Hb G' H' → Ex G G' → G' p = none → A.at_ G' H' p a' → Post a' → Nx H') → Rs p Nx σ H
theorem WpR.imp {A : AccR K B α} {Rs : Addr → (Hp → Prop) → L2.St → Hp → Prop} {a : α} {Po1 Po2 : α → Prop} (h : WpR A Rs ρ a Po1) (q : ∀ a', Po1 a' → Po2 a') : WpR A Rs ρ a Po2 := fun Gb Hb H0 G H σ p e1 e2 e3 e4 e5 e6 Nx k => h Gb Hb H0 G H σ p e1 e2 e3 e4 e5 e6 Nx fun G' H' a' x1 x2 x3 x4 x5 => k G' H' a' x1 x2 x3 x4 (q a' x5)
theorem wp_dX {A : AccR K B α} {o0 : Addr → HO} {wi : TI} {g : TG} {tt : TT} {Rs : Addr → (Hp → Prop) → L2.St → Hp → Prop} {vs : List Nat} {S : α → Prop} (a0 : α) (h0 : ∀ (G H : Hp) (p : Addr), A.at_ G (upd H p (o0 p)) p a0)
    (h : WpI K B wi ρ fun ds => ∃ I : Nat → α → Prop, I 0 a0 ∧
      (∀ i d a, ds[i]? = some d → I i a → WpG K B vs g (wipeR ρ vs) d fun ρ2 => WpT K B tt ρ2 fun b => if b = true then WpR A Rs ρ2 a (I (i + 1)) else I (i + 1) a) ∧
      ∀ a, I ds.length a → S a) : WpAcc A (tDX o0 wi g tt Rs vs) ρ S :=
  fun H0 G H σ E Q k => h H0 G H σ E _ fun J ds G1 H1 g1 j ⟨I, i0, turn, fin⟩ => by
    intro p hD
    have E1 := E.step g1
    have nb : ¬ B p := not_box g1.gH hD
    refine ⟨fun i m H' => m = ds.length - i ∧ i ≤ ds.length ∧ ∃ G' a, Gr B G1 H1 G' H' ∧ G' p = none ∧ A.at_ G' H' p a ∧ I i a, ⟨ds.length, by simp, Nat.zero_le _, G1, a0, Gr.newOwn g1.gH hD, g1.gh.free hD, h0 _ _ _, i0⟩, ?_⟩
    rintro i m H2 ⟨rfl, hi, G2, a, g2, gD, eD, hI⟩
    by_cases hlt : i < ds.length
    · obtain ⟨d, hd⟩ : ∃ d, ds[i]? = some d := ⟨ds[i], List.getElem?_eq_getElem hlt⟩
      refine .inr ⟨j.go i G2 H2 g2.g g2.gH hlt, fun H' => ∃ G' a, Gr B G1 H1 G' H' ∧ G' p = none ∧ A.at_ G' H' p a ∧ I (i + 1) a, fun H' q => ⟨ds.length - (i + 1), by omega, rfl, hlt, q⟩, fun x H3 y => ?_⟩
      obtain ⟨G3, g3, r3⟩ := j.yld i d G2 H2 x H3 g2.g g2.gH hd y
      have E3 := wipe_env ((E1.step g2).step g3) vs
      refine turn i d a hd hI H0 G3 H3 (wipe σ vs) x E3 r3 _ fun ρ4 σ4 E4 l4 f4 w => ⟨⟨l4.symm, fun jj v e => by rw [f4 jj (wipe_some e).2]; exact e⟩, ?_⟩
      refine w H0 G3 H3 σ4 E4 _ fun b G5 H5 g5 s => ?_
      have g35 := g3.trans g5
      obtain ⟨u, hu⟩ := A.there eD
      have gD5 := g35.own _ _ hu gD
      have eD5 := A.step nb g35 eD
      cases b with
      | false =>
        rw [if_neg Bool.false_ne_true]
        exact ⟨G5, a, g2.trans g35, gD5, eD5, s⟩
      | true =>
        rw [if_pos rfl]
        exact (show WpR A Rs ρ4 a (I (i + 1)) from s) G1 H1 H0 G5 H5 σ4 p hD (g2.trans g35) (E4.step g5) gD5 nb eD5 _ fun G' H' a' x1 _ x3 x4 x5 => ⟨G', a', x1, x3, x4, x5⟩
    · have ei : i = ds.length := by omega
      subst ei
      exact .inl ⟨j.stop G2 H2 g2.g g2.gH, k p G2 H2 a (g1.trans g2) gD nb (by cases hq : H p with
        | none => rfl
        | some o => exact absurd (g1.keep p o nb hq) (by rw [hD]; exact fun z => nomatch z)) eD (fin a hI)⟩
/-- a second clause -/
theorem wr_in {A : AccR K B α} {wi1 : TI} {g1 : TG} {tt1 : TT} {vs1 : List Nat} {Rs1 : Addr → (Hp → Prop) → L2.St → Hp → Prop} {a : α} {Post : α → Prop} (no : noOwn ρ = true)
    (h : WpI K B wi1 ρ fun ds => ∃ I : Nat → α → Prop, I 0 a ∧
      (∀ i d a, ds[i]? = some d → I i a → WpG K B vs1 g1 (wipeR ρ vs1) d fun ρ2 => WpT K B tt1 ρ2 fun b => if b = true then WpR A Rs1 ρ2 a (I (i + 1)) else I (i + 1) a) ∧
      ∀ a, I ds.length a → Post a) : WpR A (rsIn wi1 g1 tt1 vs1 Rs1) ρ a Post := by
  intro Gb Hb H0 G H σ p hb gb E gp nb ea Nx k
  refine h H0 G H σ E _ fun J ds G1 H1 gg1 j ⟨I, i0, turn, fin⟩ => ?_
  obtain ⟨u0, hu0⟩ := A.there ea
  refine ⟨fun i m H' => m = ds.length - i ∧ i ≤ ds.length ∧ ∃ G' a, Gr B Gb Hb G' H' ∧ Ex G1 G' ∧ G' p = none ∧ A.at_ G' H' p a ∧ I i a, ⟨ds.length, by simp, Nat.zero_le _, G1, a, gb.trans gg1, Ex.refl _, gg1.own _ _ hu0 gp, A.step nb gg1 ea, i0⟩, ?_⟩
  rintro i m H2 ⟨rfl, hi, G2, a2, g2, x2, gD, eD, hI⟩
  by_cases hlt : i < ds.length
  · obtain ⟨d, hd⟩ : ∃ d, ds[i]? = some d := ⟨ds[i], List.getElem?_eq_getElem hlt⟩
    refine .inr ⟨j.go i G2 H2 x2 g2.gH hlt, fun H' => ∃ G' a, Gr B Gb Hb G' H' ∧ Ex G1 G' ∧ G' p = none ∧ A.at_ G' H' p a ∧ I (i + 1) a, fun H' q => ⟨ds.length - (i + 1), by omega, rfl, hlt, q⟩, fun x H3 y => ?_⟩
    obtain ⟨G3, g3, r3⟩ := j.yld i d G2 H2 x H3 x2 g2.gH hd y
    have E2 : EnvS K B H0 G2 H2 σ ρ := ⟨g2.gH, E.len, fun i d h => let ⟨v, e, r⟩ := (E.step gg1).at_ i d h; ⟨v, e, r.mono x2⟩, fun i o h => absurd h (noOwn_ok no), fun i j l o o' _ h => absurd h (noOwn_ok no)⟩
    have E3 := wipe_env (E2.step g3) vs1
    refine turn i d a2 hd hI H0 G3 H3 (wipe σ vs1) x E3 r3 _ fun ρ4 σ4 E4 l4 f4 w => ⟨⟨l4.symm, fun jj v e => by rw [f4 jj (wipe_some e).2]; exact e⟩, ?_⟩
    refine w H0 G3 H3 σ4 E4 _ fun b G5 H5 g5 s => ?_
    have g35 := g3.trans g5
    obtain ⟨u, hu⟩ := A.there eD
    have gD5 := g35.own _ _ hu gD
    have eD5 := A.step nb g35 eD
    cases b with
    | false =>
      rw [if_neg Bool.false_ne_true]
      exact ⟨G5, a2, g2.trans g35, x2.trans g35.g, gD5, eD5, s⟩
    | true =>
      rw [if_pos rfl]
      exact (show WpR A Rs1 ρ4 a2 (I (i + 1)) from s) Gb Hb H0 G5 H5 σ4 p hb (g2.trans g35) (E4.step g5) gD5 nb eD5 _ fun G' H' a' y1 y2 y3 y4 y5 => ⟨G', a', y1, (x2.trans g35.g).trans y2, y3, y4, y5⟩
  · have ei : i = ds.length := by omega
    subst ei
    exact .inl ⟨j.stop G2 H2 x2 g2.gH, k G2 H2 a2 g2 (gg1.g.trans x2) gD eD (fin a2 hI)⟩
/-- a dict by ints and texts -/
def accK (K : PySem.W.Frag) (B : Addr → Prop) : AccR K B (List (Key × D)) where
  at_ := fun G H p acc => ∃ vs, H p = some (.dK vs) ∧ Dks K B G vs acc
  step := fun nb g ⟨vs, e, r⟩ => ⟨vs, g.keep _ _ nb e, r.mono g.g⟩
  there := fun ⟨vs, e, _⟩ => ⟨_, e⟩
theorem accK_new (G H : Hp) (p : Addr) : (accK K B).at_ G (upd H p (.dK [])) p [] := ⟨[], upd_same, .nil⟩
theorem wr_put {tk tv : TE} {acc : List (Key × D)} {Post : List (Key × D) → Prop} (h : Wp K B tk ρ fun y => Wp K B tv ρ fun z => acc.length < sizeLine ∧ ∃ k, y.key = some k ∧ Post (kput acc k z)) : WpR (accK K B) (rsPut putKd tk tv) ρ acc Post := by
  intro Gb Hb H0 G H σ p hb gb E gp nb ⟨vs, ea, ra⟩ Nx k
  refine h H0 G H σ E _ fun v y G1 H1 g1 r1 w => w H0 G1 H1 σ (E.step g1) _ fun v2 z G2 H2 g2 r2 ⟨hz, ky, ek, hP⟩ => ?_
  have g12 := g1.trans g2
  have e2 := g12.keep _ _ nb ea
  have gp2 := g12.own _ _ ea gp
  have r0 := ra.mono g12.g
  exact ⟨vs, ky, (r1.mono g2.g).keyV ek, e2, by rw [r0.length]; exact hz, k G2 _ _ ((gb.trans g12).chg hb gp2 nb) g12.g gp2 ⟨_, upd_same, r0.put ky r2⟩ hP⟩
theorem wp_accK {S : D → Prop} (h : WpAcc (accK K B) te ρ fun acc => S (.dic acc)) : Wp K B te ρ S := fun H0 G H σ E Q k =>
  h H0 G H σ E Q fun p G' H' acc g gp nb hp ⟨vs, e, r⟩ s => k _ _ _ _ (g.share hp e nb) (.dic (.inl upd_same) (r.mono (Ex.new gp))) s
theorem wn_accK {S : OD → Prop} (h : WpAcc (accK K B) te ρ fun acc => S (.dic acc)) : WpN K B te ρ S := fun H0 G H σ E Q k =>
  h H0 G H σ E Q fun p G' H' acc g gp nb hp ⟨vs, e, r⟩ s => k p (.dic acc) G' H' g gp nb hp ⟨hp, vs, e, r⟩ s

/-! ### dicts whose keys are tuples -/
def dPs (ps : List (Str × Int)) : D := .tup (ps.map fun p => .tup [.str p.1, .int p.2])
def dIs (is : List Int) : D := .tup (is.map .int)
theorem nk_of {G : Hp} {v : V} {ps : List (Str × Int)} (r : Dt K B G v (dPs ps)) : ∃ a, v = .ref a ∧ nkP.at_ G ps a := by
  have r' : Dt K B G v (.tup (ps.map fun p => .tup [.str p.1, .int p.2])) := r
  cases r' with
  | @tup a xs _ e q =>
    refine ⟨a, rfl, xs, e, ?_⟩
    clear e r
    induction ps generalizing xs with
    | nil => cases q; exact .nil
    | cons p ps ih =>
      cases q with
      | cons q1 q2 =>
        refine .cons ?_ (ih q2)
        cases q1 with
        | tup e1 q3 =>
          cases q3 with
          | cons s1 q4 =>
            cases q4 with
            | cons s2 q5 =>
              cases q5
              cases s1
              cases s2
              exact ⟨_, rfl, e1⟩
theorem nki_of {G : Hp} {v : V} {is : List Int} (r : Dt K B G v (dIs is)) : ∃ a, v = .ref a ∧ nkI.at_ G is a := by
  have r' : Dt K B G v (.tup (is.map D.int)) := r
  cases r' with
  | @tup a xs _ e q => exact ⟨a, rfl, by show G a = _; rw [e, dts_ints q]⟩
section
variable {κ : Type} [DecidableEq κ] {N : NK κ} {Pr : Program} {w : World}
/-- what such a dict's thing is -/
def nsR (N : NK κ) (Pr : Program) (w : World) (K : PySem.W.Frag) (B : Addr → Prop) (acc : List (κ × D)) : Addr → Hp → HO → Prop := fun p G u => ∃ (xs : List (NX κ)) (vs : List V), u = nsO N Pr w p xs ∧ (∀ x ∈ xs, N.at_ G x.1 x.2.1) ∧ xs.map (·.1) = acc.map (·.1) ∧ vs.map exV = xs.map (fun x => some x.2.2) ∧ Dts K B G vs (acc.map (·.2))
theorem nsR_mono {acc : List (κ × D)} {p : Addr} {u : HO} : ∀ G G' : Hp, Ex G G' → nsR N Pr w K B acc p G u → nsR N Pr w K B acc p G' u := by
  rintro G G' x ⟨xs, vs, e, h1, h2, h3, r⟩
  exact ⟨xs, vs, e, fun y hy => N.mono x (h1 y hy), h2, h3, r.mono x⟩
theorem nsR_new {G : Hp} {p : Addr} : nsR N Pr w K B [] p G (nsO N Pr w p []) := ⟨[], [], rfl, fun _ h => (nomatch h), rfl, rfl, .nil⟩
theorem nsR_put {G : Hp} {xs : List (NX κ)} {vs : List V} {acc : List (κ × D)} {ps : κ} {a : Addr} {v : V} {u : Value} {d : D} (h2 : xs.map (·.1) = acc.map (·.1)) (h3 : vs.map exV = xs.map (fun x => some x.2.2)) (r : Dts K B G vs (acc.map (·.2))) (ev : exV v = some u) (q : Dt K B G v d) :
    (nsPut xs ps a u).map (·.1) = (kput acc ps d).map (·.1) ∧ ∃ vs', vs'.map exV = (nsPut xs ps a u).map (fun x => some x.2.2) ∧ Dts K B G vs' ((kput acc ps d).map (·.2)) := by
  have hany : (xs.any fun x => decide (x.1 = ps)) = acc.any fun x => decide (x.1 = ps) := by
    have e1 : (xs.any fun x => decide (x.1 = ps)) = (xs.map (·.1)).any fun k => decide (k = ps) := by rw [List.any_map]; rfl
    have e2 : (acc.any fun x => decide (x.1 = ps)) = (acc.map (·.1)).any fun k => decide (k = ps) := by rw [List.any_map]; rfl
    rw [e1, e2, h2]
  unfold nsPut kput
  rw [hany]
  split
  · clear hany
    rename_i hc
    clear hc
    induction xs generalizing acc vs with
    | nil =>
      cases acc with
      | nil => exact ⟨rfl, [], rfl, .nil⟩
      | cons y acc => cases h2
    | cons x xs ih =>
      cases acc with
      | nil => cases h2
      | cons y acc =>
        cases vs with
        | nil => cases h3
        | cons v0 vs =>
          rw [List.map_cons, List.map_cons] at h2 h3
          injection h2 with e1 e2
          injection h3 with e3 e4
          cases r with
          | cons r1 r2 =>
            obtain ⟨i1, vs', i2, i3⟩ := ih e2 e4 r2
            rw [List.map_cons, List.map_cons, List.map_cons, List.map_cons, List.map_cons, List.map_cons, i1]
            by_cases hk : x.1 = ps
            · rw [if_pos hk, if_pos (e1 ▸ hk)]
              exact ⟨by show x.1 :: _ = y.1 :: _; rw [e1], v :: vs', by rw [List.map_cons, ev, i2], .cons q i3⟩
            · rw [if_neg hk, if_neg (e1 ▸ hk)]
              exact ⟨by rw [e1], v0 :: vs', by rw [List.map_cons, e3, i2], .cons r1 i3⟩
  · rw [List.map_append, List.map_append, List.map_append, List.map_append, h2]
    exact ⟨rfl, vs ++ [v], by rw [List.map_append, h3]; show _ ++ [exV v] = _; rw [ev]; rfl, r.app (.one q)⟩
theorem ns_keys {G : Hp} {xs : List (NX κ)} {ps : κ} {a : Addr} {b : Value} (h : ∀ x ∈ xs, N.at_ G x.1 x.2.1) (ha : N.at_ G ps a) : ∀ x ∈ nsPut xs ps a b, N.at_ G x.1 x.2.1 := by
  intro x hx
  unfold nsPut at hx
  split at hx
  · obtain ⟨y, hy, rfl⟩ := List.mem_map.mp hx
    have q := h y hy
    split
    · exact q
    · exact q
  · rcases List.mem_append.mp hx with hx | hx
    · exact h x hx
    · rw [List.mem_singleton.mp hx]
      exact ha
/-- values that stand for one value alone -/
def D.exact : D → Bool
  | .dic _ => true
  | .bl _ => true
  | _ => false
theorem Dt.exV {G : Hp} {v : V} {d : D} (h : Dt K B G v d) (e : d.exact = true) : ∃ u, FS.exV v = some u := by
  cases h <;> first | exact ⟨_, rfl⟩ | cases e
def accN (N : NK κ) (P : Program) (w : World) (K : PySem.W.Frag) (B : Addr → Prop) : AccR K B (List (κ × D)) where
  at_ := fun G H p acc => ∃ u, H p = some u ∧ nsR N P w K B acc p G u
  step := by
    rintro G H G' H' p a nb g ⟨u, e, r⟩
    exact ⟨u, g.keep _ _ nb e, nsR_mono _ _ g.g r⟩
  there := by
    rintro G H p a ⟨u, e, _⟩
    exact ⟨u, e⟩
theorem accN_new (G H : Hp) (p : Addr) : (accN N Pr w K B).at_ G (upd H p (nsO N Pr w p [])) p [] := ⟨_, upd_same, nsR_new⟩
theorem wr_putN {dk : κ → D} (hdk : ∀ (G : Hp) (v : V) (k : κ), Dt K B G v (dk k) → ∃ a, v = .ref a ∧ N.at_ G k a) {tk tv : TE} {acc : List (κ × D)} {Post : List (κ × D) → Prop}
    (h : Wp K B tk ρ fun y => Wp K B tv ρ fun z => acc.length < sizeLine ∧ z.exact = true ∧ ∃ ps, y = dk ps ∧ Post (kput acc ps z)) : WpR (accN N Pr w K B) (rsPut (putNs N Pr w) tk tv) ρ acc Post := by
  rintro Gb Hb H0 G H σ p hb gb E gp nb ⟨u0, ea, xs, vs, rfl, h1, h2, h3, ra⟩ Nx k
  refine h H0 G H σ E _ fun v y G1 H1 g1 r1 wz => wz H0 G1 H1 σ (E.step g1) _ fun v2 z G2 H2 g2 r2 ⟨hz, ex, ps, ey, hP⟩ => ?_
  subst ey
  have g12 := g1.trans g2
  have e2 := g12.keep _ _ nb ea
  have gp2 := g12.own _ _ ea gp
  obtain ⟨a, rfl, na⟩ := hdk _ _ _ (r1.mono g2.g)
  obtain ⟨u, eu⟩ := r2.exV ex
  have len : xs.length = acc.length := by
    have := congrArg List.length h2
    rwa [List.length_map, List.length_map] at this
  have keys : ∀ x ∈ xs, N.at_ G2 x.1 x.2.1 := fun x hx => N.mono g12.g (h1 x hx)
  obtain ⟨m1, vs', m2, m3⟩ := nsR_put (ps := ps) (a := a) h2 h3 (ra.mono g12.g) eu r2
  exact ⟨xs, ps, a, u, rfl, eu, e2, fun x hx => N.mono g2.gh (keys x hx), N.mono g2.gh na, by rw [len]; exact hz, k G2 _ _ ((gb.trans g12).chg hb gp2 nb) g12.g gp2 ⟨_, upd_same, _, vs', rfl, ns_keys keys na, m1, m2, m3⟩ hP⟩
/-- list(d.values()) -/
theorem wp_valsN {S : D → Prop} (h : WpAcc (accN N Pr w K B) te ρ fun acc => S (.lst (acc.map (·.2)))) : Wp K B (tCB (rListVN N Pr w) (tCons (tValsN N Pr w te) tNil)) ρ S := fun H0 G H σ E Q k =>
  h H0 G H σ E _ fun p G1 H1 acc g1 gp nb hp ⟨u, e, xs, vs, eu, h1, h2, h3, r⟩ s => by
    subst eu
    refine ⟨p, xs, rfl, e, fun q hq => ⟨q, p, xs, vs, rfl, upd_same, by rw [upd_ne (ne_of_none e hq)]; exact e, ?_, fun l hl => ?_⟩⟩
    · clear e h1 h2 r s
      induction xs generalizing vs with
      | nil =>
        cases vs with
        | nil => exact .nil
        | cons v vs => cases h3
      | cons x xs ih =>
        cases vs with
        | nil => cases h3
        | cons v vs =>
          rw [List.map_cons, List.map_cons] at h3
          injection h3 with e1 e2
          exact .cons (exV_rel e1) (ih _ e2)
    · have hl1 : H1 l = none := by
        by_cases z : l = q
        · subst z
          rw [upd_same] at hl
          cases hl
        · rw [upd_ne z] at hl
          exact hl
      have g2 : Gr B G H G1 (upd H1 q (valsO q p)) := g1.trans (Gr.newOwn g1.gH hq)
      exact k (.ref l) (.lst (acc.map (·.2))) _ _ (g2.trans (Gr.new (o := .lst vs) g2.gH hl)) (.lst upd_same (r.mono (Ex.new (g1.gh.free hl1)))) s
/-- {} of one's own -/
theorem wn_nnew {S : OD → Prop} (s : S (.acc (nsR N Pr w K B []))) : WpN K B (tNNew N Pr w) ρ S := fun H0 G H σ E Q k p hp => k p (.acc (nsR N Pr w K B [])) G _ (Gr.newOwn E.gh hp) (E.gh.gh.free hp) (not_box E.gh hp) hp ⟨hp, _, upd_same, fun y z => (nomatch z), nsR_new, nsR_mono⟩ s
/-- d[k] = v -/
theorem ws_nput {dk : κ → D} (hdk : ∀ (G : Hp) (v : V) (k : κ), Dt K B G v (dk k) → ∃ a, v = .ref a ∧ N.at_ G k a) {i : Nat} {acc : List (κ × D)} {ty tv : TE} (hi : ρ[i]? = some (.own (.acc (nsR N Pr w K B acc)))) (hz : acc.length < sizeLine)
    (h : Wp K B tv ρ fun d => d.exact = true ∧ Wp K B ty ρ fun y => ∃ k, y = dk k ∧ P.nx (ρ.set i (.own (.acc (nsR N Pr w K B (kput acc k d)))))) : WpS K B (sNPut N Pr w (tVar i) ty tv) ρ P := fun F G0 H0 G H σ Dn E g f e => h H0 G H σ E _ fun v d G1 H1 g1 r1 ⟨ex, h1⟩ => by
  have E1 := E.step g1
  obtain ⟨l, e1, gl, nb, n0, u0, q1, no, q2, mo⟩ := E1.ow i _ hi
  refine ⟨.ref l, e1, h1 H0 G1 H1 σ E1 _ fun v2 d2 G2 H2 g2 r2 ⟨k, ek, p⟩ => ?_⟩
  subst ek
  have E2 := E1.step g2
  have q3 := g2.keep _ _ nb q1
  have gl2 := g2.own _ _ q1 gl
  obtain ⟨xs, vs, eu, m1, m2, m3, m4⟩ := mo _ _ g2.g q2
  subst eu
  obtain ⟨a, rfl, na⟩ := hdk _ _ _ r2
  obtain ⟨u, hu⟩ := (r1.mono g2.g).exV ex
  have len : xs.length = acc.length := by
    have := congrArg List.length m2
    rwa [List.length_map, List.length_map] at this
  obtain ⟨w1, vs', w2, w3⟩ := nsR_put (ps := k) (a := a) m2 m3 m4 hu (r1.mono g2.g)
  refine ⟨l, rfl, xs, k, a, u, rfl, hu, q3, fun x hx => N.mono g2.gh (m1 x hx), N.mono g2.gh na, by rw [len]; exact hz, ?_⟩
  exact e.nx _ _ _ σ (E2.chg (o' := .acc (nsR N Pr w K B (kput acc k d))) hi e1 gl2 nb q3 no ⟨n0, _, upd_same, fun y z => (nomatch z), ⟨_, vs', rfl, ns_keys m1 na, w1, w2, w3⟩, nsR_mono⟩) (((g.trans g1).trans g2).chg n0 gl2 nb) ((f.trans g1.g).trans g2.g) p
end

/-! ### {**a, **b} -/
def kmerge (a b : List (Key × D)) : List (Key × D) := b.foldl (fun acc kv => kput acc kv.1 kv.2) a
theorem Dks.merge {G : Hp} : ∀ {vb : List (Key × V)} {b : List (Key × D)} {va : List (Key × V)} {a : List (Key × D)}, Dks K B G vb b → Dks K B G va a → Dks K B G (mergeK va vb) (kmerge a b)
  | _, _, _, _, .nil, r => r
  | (_, v) :: vb, (_, d) :: b, va, a, .cons (k := k) q t, r => by
    show Dks K B G (mergeK (putK va k v) vb) (kmerge (kput a k d) b)
    exact Dks.merge t (r.put k q)
theorem wp_dd {S : D → Prop} (h : Wp K B ta ρ fun x => ∃ ka, x = .dic ka ∧ Wp K B tb ρ fun y => ∃ kb, y = .dic kb ∧ ka.length + kb.length ≤ sizeLine ∧ S (.dic (kmerge (kmerge [] ka) kb))) : Wp K B (tDD ta tb) ρ S := fun H0 G H σ E Q k => by
  intro p hp
  have nb := not_box E.gh hp
  have g0 : Gr B G H G (upd H p (.dK [])) := Gr.newOwn E.gh hp
  have gp : G p = none := E.gh.gh.free hp
  refine h H0 G _ σ (E.step g0) _ fun v x G1 H1 g1 r1 ⟨ka, ex, w⟩ => ?_
  subst ex
  have e1 := g1.keep p _ nb upd_same
  have gp1 := g1.own p _ upd_same gp
  -- behind the first merge
  have go : ∀ (a : Addr) (va : List (Key × V)), v = .ref a → Rd G1 a (.dK va) → Dks K B G1 va ka →
      tb σ (upd H1 p (.dK (mergeK [] va))) fun y H2 => ∃ (b : Addr) (kb : List (Key × V)), y = .ref b ∧ p ≠ b ∧ Rd H2 b (.dK kb) ∧ H2 p = some (.dK (mergeK [] va)) ∧ (mergeK [] va).length + kb.length ≤ sizeLine ∧ Q (.ref p) (upd H2 p (.dK (mergeK (mergeK [] va) kb))) := by
    intro a va ev rd ra
    have gA : Gr B G H G1 (upd H1 p (.dK (mergeK [] va))) := (g0.trans g1).chg hp gp1 nb
    have gH1 := gA.gH
    refine w H0 G1 _ σ (E.step gA) _ fun v2 y G2 H2 g2 r2 ⟨kb, ey, hz, s⟩ => ?_
    subst ey
    have e2 := g2.keep p _ nb upd_same
    have gp2 := g2.own p _ upd_same gp1
    have ma : Dks K B G2 (mergeK [] va) (kmerge [] ka) := Dks.merge (ra.mono g2.g) .nil
    cases r2 with
    | @dic b vb _ rdb rb =>
      have pb : p ≠ b := by
        rintro rfl
        rcases rdb with z | ⟨o, z⟩ <;> (rw [gp2] at z; cases z)
      have la : (mergeK [] va).length ≤ ka.length := by
        have := length_mergeK va []
        rw [List.length_nil, ra.length] at this
        omega
      refine ⟨b, vb, rfl, pb, g2.gh.rd rdb, e2, by rw [rb.length]; omega, ?_⟩
      have gB := (gA.trans g2).chg (o := .dK (mergeK (mergeK [] va) vb)) hp gp2 nb
      exact k (.ref p) _ _ _ (gB.share hp upd_same nb) (.dic (.inl upd_same) ((Dks.merge rb ma).mono (Ex.new gp2))) s
  cases r1 with
  | @dic a va _ rd ra =>
    have pa : p ≠ a := by
      rintro rfl
      rcases rd with z | ⟨o, z⟩ <;> (rw [gp1] at z; cases z)
    exact ⟨a, va, rfl, pa, g1.gh.rd rd, e1, go a va rfl rd ra⟩

/-! ### stars -/
theorem wa_star {ts : TA} {S : List D → Prop} (h : Wp K B te ρ fun a => ∃ xs, (a = .lst xs ∨ a = .tup xs) ∧ WpA K B ts ρ fun ys => S (xs ++ ys)) : WpA K B (tStar K te ts) ρ S := fun H0 G H σ E Q k =>
  h H0 G H σ E _ fun v a G1 H1 g1 r1 ⟨xs, ea, w⟩ => by
    rcases ea with rfl | rfl
    · cases r1 with
      | @lst p vs _ e q => exact ⟨p, vs, rfl, .inl (.inl (.inl (g1.gh _ _ e))), w H0 G1 H1 σ (E.step g1) _ fun ws ys G2 H2 g2 r2 s => k _ _ G2 H2 (g1.trans g2) ((q.mono g2.g).app r2) s⟩
    · cases r1 with
      | @tup p vs _ e q => exact ⟨p, vs, rfl, .inr (.inl (.inl (g1.gh _ _ e))), w H0 G1 H1 σ (E.step g1) _ fun ws ys G2 H2 g2 r2 s => k _ _ G2 H2 (g1.trans g2) ((q.mono g2.g).app r2) s⟩

/-! ### sorted -/
/-- by the order of the data -/
def srt (ds : List D) : List D := ds.mergeSort fun a b => PySem.W.dataLe false D.py a b
theorem dts_zip {G : Hp} : ∀ {vs : List V} {ds : List D}, Dts K B G vs ds → ∃ bs : List (V × D), bs.map (·.1) = vs ∧ bs.map (·.2) = ds ∧ ∀ b ∈ bs, Dt K B G b.1 b.2
  | _, _, .nil => ⟨[], rfl, rfl, fun _ h => nomatch h⟩
  | _, _, .cons (v := v) (d := d) r t => by
    obtain ⟨bs, e1, e2, h⟩ := dts_zip t
    exact ⟨(v, d) :: bs, by rw [List.map_cons, e1], by rw [List.map_cons, e2], fun b hb => by
      rcases List.mem_cons.mp hb with rfl | hb
      · exact r
      · exact h b hb⟩
theorem zip_dts {G : Hp} : ∀ {bs : List (V × D)}, (∀ b ∈ bs, Dt K B G b.1 b.2) → Dts K B G (bs.map (·.1)) (bs.map (·.2))
  | [], _ => .nil
  | b :: bs, h => .cons (h b (List.mem_cons_self ..)) (zip_dts fun c hc => h c (List.mem_cons_of_mem _ hc))
/-- values sorted by what they denote -/
theorem srt_dts {G : Hp} {bs : List (V × D)} (h : ∀ b ∈ bs, Dt K B G b.1 b.2) : Dts K B G ((srtP (bs.map fun b => (b.1, b.2.py))).map (·.1)) (srt (bs.map (·.2))) := by
  have e1 : srtP (bs.map fun b => (b.1, b.2.py)) = (bs.mergeSort fun a b => PySem.W.dataLe false D.py a.2 b.2).map fun b => (b.1, b.2.py) := by
    unfold srtP
    rw [List.map_mergeSort]
    exact fun a _ b _ => rfl
  have e2 : srt (bs.map (·.2)) = (bs.mergeSort fun a b => PySem.W.dataLe false D.py a.2 b.2).map (·.2) := by
    unfold srt
    rw [List.map_mergeSort]
    exact fun a _ b _ => rfl
  rw [e1, e2, List.map_map]
  exact zip_dts fun b hb => h b ((List.mergeSort_perm _ _).mem_iff.mp hb)
theorem wp_sortDt {t : TA} (h : WpA K B t ρ fun ds => ∃ xs, ds = [.lst xs] ∧ (∀ d ∈ xs, ∃ n, Pur n d) ∧ SortIn (pys xs) ∧ S (.lst (srt xs))) : Wp K B (tCB (rSortDt K) t) ρ S :=
  wp_cb (h.imp fun ds ⟨xs, e, hp, hs, s⟩ G H vs Q gh r k => by
    subst e
    cases r with
    | cons r1 r2 =>
      cases r2
      cases r1 with
      | @lst a us _ e q =>
        obtain ⟨bs, e1, e2, hb⟩ := dts_zip q
        subst e1 e2
        have z1 : (bs.map fun b => (b.1, b.2.py)).map (·.1) = bs.map (·.1) := by rw [List.map_map]; rfl
        have z2 : (bs.map fun b => (b.1, b.2.py)).map (·.2) = pys (bs.map (·.2)) := by rw [pys_map, List.map_map, List.map_map]; rfl
        refine ⟨a, bs.map fun b => (b.1, b.2.py), rfl, by rw [z1]; exact .inl (.inl (gh.gh _ _ e)), by rw [z1, z2]; exact q.dp gh.gh hp, by rw [z2]; exact hs, fun l hl => ?_⟩
        exact k _ _ _ _ (Gr.new (o := .lst _) gh hl) (.lst upd_same ((srt_dts hb).mono (Ex.new (gh.gh.free hl)))) s)
/-- sorted(d), d one's own, its keys tuples -/
theorem wp_sortNs {κ : Type} [DecidableEq κ] {N : NK κ} {Pr : Program} {w : World} {dk : κ → D} (hdk : ∀ (G : Hp) (a : Addr) (k : κ), N.at_ G k a → Dt K B G (.ref a) (dk k)) {i : Nat} {acc : List (κ × D)} {S : D → Prop} (hi : ρ[i]? = some (.own (.acc (nsR N Pr w K B acc))))
    (hp : ∀ x ∈ acc, ∃ n, Pur n (dk x.1)) (hs : SortIn (pys (acc.map fun x => dk x.1))) (s : S (.lst (srt (acc.map fun x => dk x.1)))) : Wp K B (tCB (rSortNs N K Pr w) (tCons (tVar i) tNil)) ρ S := fun H0 G H σ E Q k => by
  obtain ⟨l, e1, gl, nb, n0, u0, q1, no, q2, mo⟩ := E.ow i _ hi
  obtain ⟨xs, vs, eu, m1, m2, m3, m4⟩ := q2
  subst eu
  have z1 : (xs.map fun x => ((V.ref x.2.1, dk x.1) : V × D)).map (fun b => b.1) = xs.map fun x => V.ref x.2.1 := by rw [List.map_map]; rfl
  have z2 : (xs.map fun x => ((V.ref x.2.1, dk x.1) : V × D)).map (fun b => b.2) = acc.map fun x => dk x.1 := by
    rw [List.map_map]
    have : (acc.map fun x => dk x.1) = (acc.map (·.1)).map dk := by rw [List.map_map]; rfl
    rw [this, ← m2, List.map_map]
    rfl
  have hb : ∀ b ∈ xs.map (fun x => ((V.ref x.2.1, dk x.1) : V × D)), Dt K B G b.1 b.2 := fun b hb => by
    obtain ⟨x, hx, rfl⟩ := List.mem_map.mp hb
    exact hdk _ _ _ (m1 x hx)
  generalize xs.map (fun x => ((V.ref x.2.1, dk x.1) : V × D)) = bs at z1 z2 hb
  have w1 : (bs.map fun b => (b.1, b.2.py)).map (·.1) = bs.map (·.1) := by rw [List.map_map]; rfl
  have w2 : (bs.map fun b => (b.1, b.2.py)).map (·.2) = pys (bs.map (·.2)) := by rw [pys_map, List.map_map, List.map_map]; rfl
  refine ⟨.ref l, e1, l, xs, bs.map fun b => (b.1, b.2.py), rfl, q1, w1.trans z1, ?_, by rw [w2, z2]; exact hs, fun q hq => ?_⟩
  · rw [w1, w2]
    refine (zip_dts hb).dp E.gh.gh fun d hd => ?_
    rw [z2] at hd
    obtain ⟨x, hx, rfl⟩ := List.mem_map.mp hd
    exact hp x hx
  · have r := (srt_dts hb).mono (Ex.new (o := .lst ((srtP (bs.map fun b => (b.1, b.2.py))).map (·.1))) (E.gh.gh.free hq))
    rw [z2] at r
    exact k _ _ _ _ (Gr.new (o := .lst _) E.gh hq) (.lst upd_same r) s
end
end FS

/-! FsO: more rules over data: a dict walked while it is read, sorted items, dict(pairs), extend, pop, xs[::0 - 1], index, powers. -/
namespace FS
open PySem L2
section
variable {K : PySem.W.Frag} {B : Addr → Prop} {ρ : Ro} {te ta tb : TE} {S : D → Prop} {P : Po}

/-! ### a dict that is walked and read -/
def tOrE (t u : TE) : TE := fun σ H Q => t σ H Q ∨ u σ H Q
theorem pe_orE {X : Cx} {e : Expr} {t u : TE} (h1 : PE X e t) (h2 : PE X e u) : PE X e (tOrE t u) := ⟨fun pins s σ H Q I h => by
  rcases h with h | h
  · exact h1.run pins s σ H Q I h
  · exact h2.run pins s σ H Q I h⟩
def tLk (t : TE) : TE := tOrE (tLockE t) t
theorem pe_lk {X : Cx} {e : Expr} {t : TE} (h : PE X e t) : PE X e (tLk t) := pe_orE (pe_lock h) h
mutual
theorem Dt.lock {G : Hp} {a : Addr} {o : Obj} {kvs : List (Key × V)} (ha : G a = some (.dK kvs)) : ∀ {v : V} {d : D}, Dt K B G v d → Dt K B (upd G a (.frz o (.dK kvs))) v d
  | _, _, .non => .non
  | _, _, .bl b => .bl b
  | _, _, .int i => .int i
  | _, _, .str x => .str x
  | _, _, .tup e r => .tup (by rw [upd_ne (ne_of e ha (fun z => nomatch z))]; exact e) (Dts.lock ha r)
  | _, _, .ftup e n r => .ftup (by rw [upd_ne (ne_of e ha (fun z => nomatch z))]; exact e) n (Dts.lock ha r)
  | _, _, .fz e r => .fz (by rw [upd_ne (ne_of e ha (fun z => nomatch z))]; exact e) (Dks.lock ha r)
  | _, _, .lst e r => .lst (by rw [upd_ne (ne_of e ha (fun z => nomatch z))]; exact e) (Dts.lock ha r)
  | _, _, .dic (a := p) e r => .dic (by
      by_cases z : p = a
      · subst z
        rcases e with e | ⟨o2, e⟩
        · rw [ha] at e
          cases e
          exact .inr ⟨o, upd_same⟩
        · rw [ha] at e
          cases e
      · rcases e with e | ⟨o2, e⟩
        · exact .inl (by rw [upd_ne z]; exact e)
        · exact .inr ⟨o2, by rw [upd_ne z]; exact e⟩) (Dks.lock ha r)
  | _, _, .ins e r => .ins (by rw [upd_ne (ne_of e ha (fun z => nomatch z))]; exact e) (Dfs.lock ha r)
  | _, _, .box h => .box h
  | _, _, .scr (a := p) h => .scr (by
      rcases h with h | h
      · have z : p ≠ a := by
          rintro rfl
          rcases h with e | ⟨o2, e⟩ <;> (rw [ha] at e; cases e)
        rcases h with e | ⟨o2, e⟩
        · exact .inl (.inl (by rw [upd_ne z]; exact e))
        · exact .inl (.inr ⟨o2, by rw [upd_ne z]; exact e⟩)
      · exact .inr h)
theorem Dts.lock {G : Hp} {a : Addr} {o : Obj} {kvs : List (Key × V)} (ha : G a = some (.dK kvs)) : ∀ {v : List V} {d : List D}, Dts K B G v d → Dts K B (upd G a (.frz o (.dK kvs))) v d
  | _, _, .nil => .nil
  | _, _, .cons h r => .cons (Dt.lock ha h) (Dts.lock ha r)
theorem Dks.lock {G : Hp} {a : Addr} {o : Obj} {kvs : List (Key × V)} (ha : G a = some (.dK kvs)) : ∀ {v : List (Key × V)} {d : List (Key × D)}, Dks K B G v d → Dks K B (upd G a (.frz o (.dK kvs))) v d
  | _, _, .nil => .nil
  | _, _, .cons h r => .cons (Dt.lock ha h) (Dks.lock ha r)
theorem Dfs.lock {G : Hp} {a : Addr} {o : Obj} {kvs : List (Key × V)} (ha : G a = some (.dK kvs)) : ∀ {v : List (Str × V)} {d : List (Str × D)}, Dfs K B G v d → Dfs K B (upd G a (.frz o (.dK kvs))) v d
  | _, _, .nil => .nil
  | _, _, .cons h r => .cons (Dt.lock ha h) (Dfs.lock ha r)
end
theorem Dt.flatOf {G G' : Hp} {v : V} {d : D} (h : Dt K B G v d) (e : d.v.isSome = true) : Dt K B G' v d := by
  cases h <;> first | exact .non | exact .bl _ | exact .int _ | exact .str _ | cases e
theorem Dks.flatOf {G G' : Hp} : ∀ {v : List (Key × V)} {d : List (Key × D)}, Dks K B G v d → (∀ p ∈ d, p.2.v.isSome = true) → Dks K B G' v d
  | _, _, .nil, _ => .nil
  | _, _, .cons h r, e => .cons (h.flatOf (e _ (List.mem_cons_self ..))) (Dks.flatOf r fun p hp => e p (List.mem_cons_of_mem _ hp))
/-- the dict in slot i is walked in t; a flat dict comes -/
theorem wp_lk {i : Nat} {ks : List (Key × D)} (hi : ρ[i]? = some (.d (.dic ks))) (no : noOwn ρ = true) {t : TE} (h : Wp K B t (ρ.set i (.d (.fz ks))) fun d => ∃ acc, d = .dic acc ∧ (∀ p ∈ acc, p.2.v.isSome = true) ∧ S d) : Wp K B (tLk t) ρ S := fun H0 G H σ E Q k => by
  obtain ⟨v, hv, r⟩ := E.at_ i _ hi
  have hiρ : i < ρ.length := (List.getElem?_eq_some_iff.mp hi).1
  cases r with
  | @dic a kvs _ rd q =>
    -- an environment in which the dict is known to be locked
    have env : ∀ (G1 H1 : Hp) (o : Obj), GH B G1 H1 → G1 a = some (.frz o (.dK kvs)) → (∀ (v : V) (d : D), Dt K B G v d → Dt K B G1 v d) → Dks K B G1 kvs ks → EnvS K B H0 G1 H1 σ (ρ.set i (.d (.fz ks))) := by
      intro G1 H1 o gh e1 mv q1
      refine ⟨gh, by rw [List.length_set]; exact E.len, fun j d hj => ?_, fun j o' hj => ?_, fun j l w o1 o2 _ hj => ?_⟩
      · by_cases z : i = j
        · subst z
          rw [List.getElem?_set_self hiρ] at hj
          cases hj
          exact ⟨_, hv, .fz e1 q1⟩
        · rw [List.getElem?_set_ne z] at hj
          obtain ⟨w, e, r⟩ := E.at_ j d hj
          exact ⟨w, e, mv _ _ r⟩
      · by_cases z : i = j
        · subst z
          rw [List.getElem?_set_self hiρ] at hj
          cases hj
        · rw [List.getElem?_set_ne z] at hj
          exact absurd hj (noOwn_ok no)
      · by_cases z : i = j
        · subst z
          rw [List.getElem?_set_self hiρ] at hj
          cases hj
        · rw [List.getElem?_set_ne z] at hj
          exact absurd hj (noOwn_ok no)
    rcases rd with ea | ⟨o, ea⟩
    · refine .inl ⟨a, .dK kvs, E.gh.gh _ _ ea, trivial, fun od => ?_⟩
      have nba : ¬ B a := fun z => by rw [E.gh.nob a z] at ea; cases ea
      have neB : ∀ b, B b → b ≠ a := fun b hb z => nba (by rw [← z]; exact hb)
      have gh1 : GH B (upd G a (.frz od (.dK kvs))) (upd H a (.frz od (.dK kvs))) := by
        refine ⟨fun b o e => ?_, fun b hb => ?_, fun b hb => ?_⟩
        · by_cases z : b = a
          · subst z
            rw [upd_same] at e ⊢
            exact e
          · rw [upd_ne z] at e ⊢
            exact E.gh.gh _ _ e
        · obtain ⟨x, y, z, e⟩ := E.gh.box b hb
          exact ⟨x, y, z, by rw [upd_ne (neB b hb)]; exact e⟩
        · rw [upd_ne (neB b hb)]
          exact E.gh.nob b hb
      refine h H0 _ _ σ (env _ _ od gh1 upd_same (fun _ _ r => r.lock ea) (q.lock ea)) _ fun w d G2 H2 g2 r2 ⟨acc, ed, fl, s⟩ => ?_
      subst ed
      have ga2 : G2 a = some (.frz od (.dK kvs)) := g2.g _ _ upd_same
      refine ⟨g2.gh _ _ ga2, ?_⟩
      have gb : Gr B G H (upd G2 a (.dK kvs)) (upd H2 a (.dK kvs)) := by
        refine ⟨E.gh.gh, fun b o e => ?_, fun b o e => ?_, fun b o nb e => ?_, fun b hb => ?_, fun b hb => ?_, fun b o e n => ?_⟩
        · by_cases z : b = a
          · subst z
            rw [upd_same, ← ea]
            exact e
          · rw [upd_ne z]
            exact g2.g b o (by rw [upd_ne z]; exact e)
        · by_cases z : b = a
          · subst z
            rw [upd_same] at e ⊢
            exact e
          · rw [upd_ne z] at e ⊢
            exact g2.gh _ _ e
        · by_cases z : b = a
          · subst z
            rw [upd_same, ← E.gh.gh _ _ ea]
            exact e
          · rw [upd_ne z]
            exact g2.keep b o nb (by rw [upd_ne z]; exact e)
        · obtain ⟨x, y, z, e⟩ := g2.box b hb
          exact ⟨x, y, z, by rw [upd_ne (neB b hb)]; exact e⟩
        · rw [upd_ne (neB b hb)]
          exact g2.nob b hb
        · have z : b ≠ a := by
            rintro rfl
            rw [ea] at n
            cases n
          rw [upd_ne z]
          exact g2.own b o (by rw [upd_ne z]; exact e) (by rw [upd_ne z]; exact n)
      cases r2 with
      | @dic p vs _ rp q2 =>
        have zp : p ≠ a ∨ p = a := (Decidable.em (p = a)).symm.imp id id
        by_cases z : p = a
        · subst z
          rcases rp with e | ⟨o2, e⟩
          · rw [ga2] at e
            cases e
          · rw [ga2] at e
            cases e
            exact k _ _ _ _ gb (.dic (.inl upd_same) (q2.flatOf fl)) s
        · refine k _ _ _ _ gb (.dic ?_ (q2.flatOf fl)) s
          rcases rp with e | ⟨o2, e⟩
          · exact .inl (by rw [upd_ne z]; exact e)
          · exact .inr ⟨o2, by rw [upd_ne z]; exact e⟩
    · exact .inr (h H0 G H σ (env G H o E.gh ea (fun _ _ r => r) q) Q fun w d G2 H2 g2 r2 ⟨acc, _, _, s⟩ => k w d G2 H2 g2 r2 s)
theorem wi_keys {i : Nat} {ks : List (Key × D)} (hi : ρ[i]? = some (.d (.fz ks))) {S : List D → Prop} (s : S (ks.map fun kv => kD kv.1)) : WpI K B (iKeys (tVar i)) ρ S := fun H0 G H σ E R k => by
  obtain ⟨v, hv, r⟩ := E.at_ i _ hi
  cases r with
  | @fz a o kvs _ ea q =>
    refine ⟨.ref a, hv, a, o, rfl, .inl ⟨kvs, E.gh.gh _ _ ea, k _ _ G H E.gh.refl ⟨fun j G' H' x g hj => ?_, fun j d G' H' v H'' x g hd y => ?_, fun G' H' x g => ?_⟩ s⟩⟩
    · rw [List.length_map] at hj
      exact ⟨g.gh _ _ (x _ _ ea), by rw [q.length]; exact hj⟩
    · obtain ⟨rfl, k1, v1, e1, rfl⟩ := y
      have z := dks_keys q
      obtain ⟨w, e2, r2⟩ := z.get hd
      rw [List.getElem?_map, e1] at e2
      cases e2
      exact ⟨G', g.refl, r2.mono x⟩
    · rw [List.length_map]
      exact ⟨g.gh _ _ (x _ _ ea), by rw [q.length]; exact Nat.le_refl _⟩
theorem wp_dgetZ {td ty : TE} (h : Wp K B td ρ fun a => Wp K B ty ρ fun b => ∃ kvs k d, a = .fz kvs ∧ b.key = some k ∧ kget kvs k = some d ∧ S d) : Wp K B (tDGet td ty) ρ S := fun H0 G H σ E Q k =>
  h H0 G H σ E _ fun x a G1 H1 g1 r1 h1 => h1 H0 G1 H1 σ (E.step g1) _ fun y b G2 H2 g2 r2 ⟨kvs, ky, d, ea, eb, hd, s⟩ => by
    subst ea
    rw [r2.keyV eb]
    cases r1.mono g2.g with
    | @fz p o vs _ e r =>
      rcases r.get (k := ky) with ⟨_, z⟩ | ⟨v, d', h3, h4, h5⟩
      · rw [hd] at z
        cases z
      · rw [hd] at h4
        cases h4
        exact ⟨p, v, rfl, .inl ⟨vs, ky, .inr ⟨o, g2.gh _ _ e⟩, rfl, h3.symm⟩, k v d G2 H2 (g1.trans g2) h5 s⟩

/-! ### sorted(d.items()) -/
theorem gr_ext {G H H' : Hp} (g : GH B G H) (x : Ex H H') : Gr B G H (fun b => if (H b).isNone then H' b else G b) H' := by
  have nn : ∀ {b : Addr} {o : HO}, H b = some o → (H b).isNone = false := fun e => by rw [e]; rfl
  refine ⟨g.gh, fun b o e => ?_, fun b o e => ?_, fun b o _ e => x b o e, fun b hb => ?_, fun b hb => ?_, fun b o e n => ?_⟩
  · show (if (H b).isNone then H' b else G b) = some o
    rw [nn (g.gh b o e), if_neg Bool.false_ne_true]
    exact e
  · have e' : (if (H b).isNone then H' b else G b) = some o := e
    by_cases z : (H b).isNone = true
    · rw [if_pos z] at e'
      exact e'
    · rw [if_neg z] at e'
      exact x b o (g.gh b o e')
  · obtain ⟨i, j, k, e⟩ := g.box b hb
    exact ⟨i, j, k, x _ _ e⟩
  · obtain ⟨i, j, k, e⟩ := g.box b hb
    show (if (H b).isNone then H' b else G b) = none
    rw [nn e, if_neg Bool.false_ne_true]
    exact g.nob b hb
  · show (if (H b).isNone then H' b else G b) = none
    rw [nn e, if_neg Bool.false_ne_true]
    exact n
def dItem (kv : Key × D) : D := .tup [kD kv.1, kv.2]
theorem wp_sortIt (h : Wp K B te ρ fun a => ∃ ks, a = .dic ks ∧ (∀ x ∈ ks, x.2.v.isSome = true ∧ ∃ n, Pur n (dItem x)) ∧ SortIn (pys (ks.map dItem)) ∧ S (.lst (srt (ks.map dItem)))) : Wp K B (tCB (rSortItK K) (tCons (tItemsK te) tNil)) ρ S := fun H0 G H σ E Q k =>
  h H0 G H σ E _ fun v a G1 H1 g1 r1 ⟨ks, ea, hp, hs, s⟩ => by
    subst ea
    cases r1 with
    | @dic p vs _ rd q =>
      refine ⟨p, vs, rfl, g1.gh.rd rd, fun w hw => ⟨w, p, vs, rfl, upd_same, ?_, fun H2 ts x ti => ?_⟩⟩
      · have z : w ≠ p := by
          rintro rfl
          rcases g1.gh.rd rd with e | ⟨o, e⟩ <;> (rw [hw] at e; cases e)
        rcases g1.gh.rd rd with e | ⟨o, e⟩
        · exact .inl (by rw [upd_ne (Ne.symm z)]; exact e)
        · exact .inr ⟨o, by rw [upd_ne (Ne.symm z)]; exact e⟩
      · have gv : Gr B G1 H1 G1 (upd H1 w (DX.itemsO w p)) := Gr.newOwn g1.gH hw
        have ge := gr_ext gv.gH x
        generalize hG2 : (fun b => if (upd H1 w (DX.itemsO w p) b).isNone then H2 b else G1 b) = G2 at ge
        -- the new pairs denote the items
        have pr : ∀ {ts : List Addr} {vs : List (Key × V)} {ks : List (Key × D)}, TupItems (upd H1 w (DX.itemsO w p)) H2 ts vs → Dks K B G1 vs ks → (∀ x ∈ ks, x.2.v.isSome = true) → Dts K B G2 (ts.map V.ref) (ks.map dItem) := by
          intro ts vs ks ti
          induction ti generalizing ks with
          | nil => intro q _; cases q; exact .nil
          | cons r _ ih =>
            intro q fl
            cases q with
            | cons q1 q2 =>
              obtain ⟨h1, h2⟩ := r
              refine .cons (.tup ?_ (.cons (kD_dt _) (.cons (q1.flatOf (fl _ (List.mem_cons_self ..))) .nil))) (ih q2 fun y hy => fl y (List.mem_cons_of_mem _ hy))
              rw [← hG2]
              show (if (upd H1 w (DX.itemsO w p) _).isNone then H2 _ else G1 _) = _
              rw [h1]
              exact h2
        have rD := pr ti q fun y hy => (hp y hy).1
        obtain ⟨bs, e1, e2, hb⟩ := dts_zip rD
        have w1 : (bs.map fun b => (b.1, b.2.py)).map (·.1) = bs.map (·.1) := by rw [List.map_map]; rfl
        have w2 : (bs.map fun b => (b.1, b.2.py)).map (·.2) = pys (bs.map (·.2)) := by rw [pys_map, List.map_map, List.map_map]; rfl
        refine ⟨bs.map fun b => (b.1, b.2.py), w1.trans e1, ?_, by rw [w2, e2]; exact hs, fun l hl => ?_⟩
        · rw [w1, w2]
          refine (zip_dts hb).dp ge.gh fun d hd => ?_
          rw [e2] at hd
          obtain ⟨y, hy, rfl⟩ := List.mem_map.mp hd
          exact (hp y hy).2
        · have r := (srt_dts hb).mono (Ex.new (o := .lst ((srtP (bs.map fun b => (b.1, b.2.py))).map (·.1))) (ge.gh.free hl))
          rw [e2] at r
          exact k _ _ _ _ (((g1.trans gv).trans ge).trans (Gr.new (o := .lst _) ge.gH hl)) (.lst upd_same r) s

/-! ### dict(pairs) -/
def dPair (kv : Key × D) : D := .tup [kD kv.1, kv.2]
theorem dts_pairs {G : Hp} : ∀ {vs : List V} {ks : List (Key × D)}, Dts K B G vs (ks.map dPair) → ∃ (ps : List Addr) (kvs : List (Key × V)), vs = ps.map V.ref ∧ Paired (fun p (kv : Key × V) => G p = some (.tup [kV kv.1, kv.2])) ps kvs ∧ Dks K B G kvs ks
  | _, [], r => by cases r; exact ⟨[], [], rfl, .nil, .nil⟩
  | _, (key, d) :: ks, r => by
    cases r with
    | cons r1 r2 =>
      obtain ⟨ps, kvs, e1, e2, e3⟩ := dts_pairs r2
      have r1' : Dt K B G _ (.tup [kD key, d]) := r1
      cases r1' with
      | @tup p _ _ e q =>
        cases q with
        | cons q1 q2 =>
          cases q2 with
          | cons q2 q3 =>
            cases q3
            have ek : (kD key).key = some key := by cases key <;> rfl
            rw [q1.keyV ek] at e
            exact ⟨p :: ps, (key, _) :: kvs, by rw [e1]; rfl, .cons e e2, .cons q2 e3⟩
theorem paired_imp {α β : Type} {F G : α → β → Prop} {l : List α} {m : List β} (h : PySem.Paired F l m) (q : ∀ a b, F a b → G a b) : PySem.Paired G l m := Paired.mapP h q
theorem wn_dictPr {t : TA} {S : OD → Prop} (h : WpA K B t ρ fun ds => ∃ ks, (ds = [.lst (ks.map dPair)] ∨ ds = [.ftup (ks.map dPair)]) ∧ S (.dic (kmerge [] ks))) : WpN K B (tCB (rDictPr K) t) ρ S :=
  wn_cb (h.imp fun ds ⟨ks, e, s⟩ G H vs Q gh r k => by
    rcases e with e | e
    · subst e
      cases r with
      | cons r1 r2 =>
        cases r2
        cases r1 with
        | @lst a us _ e q =>
          obtain ⟨ps, kvs, rfl, e2, e3⟩ := dts_pairs q
          exact ⟨a, ps, kvs, rfl, .inl (.inl (.inl (gh.gh _ _ e))), Paired.mapP e2 fun p kv h => .inl (.inl (gh.gh _ _ h)), fun l hl => k l (.dic (kmerge [] ks)) _ hl (fun H0 h0 => ⟨h0, _, upd_same, Dks.merge e3 .nil⟩) s⟩
    · subst e
      cases r with
      | cons r1 r2 =>
        cases r2
        cases r1 with
        | @ftup a o us _ e n q =>
          obtain ⟨ps, kvs, rfl, e2, e3⟩ := dts_pairs q
          exact ⟨a, ps, kvs, rfl, .inr ⟨o, gh.gh _ _ e, n⟩, Paired.mapP e2 fun p kv h => .inl (.inl (gh.gh _ _ h)), fun l hl => k l (.dic (kmerge [] ks)) _ hl (fun H0 h0 => ⟨h0, _, upd_same, Dks.merge e3 .nil⟩) s⟩)
theorem wp_dictPr {t : TA} {S : D → Prop} (h : WpA K B t ρ fun ds => ∃ ks, (ds = [.lst (ks.map dPair)] ∨ ds = [.ftup (ks.map dPair)]) ∧ S (.dic (kmerge [] ks))) : Wp K B (tCB (rDictPr K) t) ρ S :=
  wp_cb (h.imp fun ds ⟨ks, e, s⟩ G H vs Q gh r k => by
    rcases e with e | e
    · subst e
      cases r with
      | cons r1 r2 =>
        cases r2
        cases r1 with
        | @lst a us _ e q =>
          obtain ⟨ps, kvs, rfl, e2, e3⟩ := dts_pairs q
          exact ⟨a, ps, kvs, rfl, .inl (.inl (.inl (gh.gh _ _ e))), Paired.mapP e2 fun p kv h => .inl (.inl (gh.gh _ _ h)), fun l hl => k _ _ _ _ (Gr.new (o := .dK _) gh hl) (.dic (.inl upd_same) ((Dks.merge e3 .nil).mono (Ex.new (gh.gh.free hl)))) s⟩
    · subst e
      cases r with
      | cons r1 r2 =>
        cases r2
        cases r1 with
        | @ftup a o us _ e n q =>
          obtain ⟨ps, kvs, rfl, e2, e3⟩ := dts_pairs q
          exact ⟨a, ps, kvs, rfl, .inr ⟨o, gh.gh _ _ e, n⟩, Paired.mapP e2 fun p kv h => .inl (.inl (gh.gh _ _ h)), fun l hl => k _ _ _ _ (Gr.new (o := .dK _) gh hl) (.dic (.inl upd_same) ((Dks.merge e3 .nil).mono (Ex.new (gh.gh.free hl)))) s⟩)
/-- tuple(list), its object known -/
theorem wp_tupF {t : TA} {S : D → Prop} (h : WpA K B t ρ fun ds => ∃ xs, ds = [.lst xs] ∧ S (.ftup xs)) : Wp K B (tCB (rTupF K) t) ρ S :=
  wp_cb (h.imp fun ds ⟨xs, e, s⟩ G H vs Q gh r k => by
    subst e
    cases r with
    | cons r1 r2 =>
      cases r2
      cases r1 with
      | @lst a us _ e q => exact ⟨a, us, rfl, .inl (.inl (gh.gh _ _ e)), fun l o hl ho => k _ _ _ _ (Gr.new (o := .frz o (.tup us)) gh hl) (.ftup upd_same ho (q.mono (Ex.new (gh.gh.free hl)))) s⟩)

/-! ### lists of one's own -/
theorem ws_ext {i : Nat} {ds : List D} (hi : ρ[i]? = some (.own (.lst ds))) (h : Wp K B te ρ fun d => ∃ es, (d = .lst es ∨ d = .tup es) ∧ ds.length + es.length ≤ sizeLine ∧ P.nx (ρ.set i (.own (.lst (ds ++ es))))) :
    WpS K B (tDrop (tBM K "list" (rExtA K) (tVar i) (tCons te tNil))) ρ P := fun F G0 H0 G H σ Dn E g f e => by
  obtain ⟨l, e1, gl, nb, n0, vs, q1, q2⟩ := E.ow i _ hi
  refine ⟨.ref l, e1, .inl ⟨rfl, vs, .inl (.inl q1)⟩, h H0 G H σ E _ fun v d G1 H1 g1 r1 ⟨es, ed, hz, p⟩ => ?_⟩
  have E1 := E.step g1
  have q3 := g1.keep _ _ nb q1
  have gl1 := g1.own _ _ q1 gl
  have fin : ∀ (b : Addr) (ws : List V), Dts K B G1 ws es → (SqL K H1 b ws ∨ SqT K H1 b ws) → rExtA K (.ref l) [.ref b] H1 (fun _ H' => Dn.nx σ H') := fun b ws rw' hsq =>
    ⟨l, b, vs, ws, rfl, rfl, q3, hsq, by rw [q2.length, rw'.length]; exact hz, e.nx _ _ _ σ (E1.chg (o' := .lst (ds ++ es)) hi e1 gl1 nb q3 (fun y z => by cases z) ⟨n0, _, upd_same, (q2.mono g1.g).app rw'⟩) ((g.trans g1).chg n0 gl1 nb) (f.trans g1.g) p⟩
  rcases ed with rfl | rfl
  · cases r1 with
    | @lst b ws _ eb rb => exact fin b ws rb (.inl (.inl (.inl (g1.gh _ _ eb))))
  · cases r1 with
    | @tup b ws _ eb rb => exact fin b ws rb (.inr (.inl (.inl (g1.gh _ _ eb))))
/-- xs.append(ys.pop(e)) -/
theorem ws_apPop {i j : Nat} {xs ys : List D} (hij : i ≠ j) (hi : ρ[i]? = some (.own (.lst xs))) (hj : ρ[j]? = some (.own (.lst ys))) (hz : xs.length < sizeLine) (hy : ys.length < 2 ^ 63)
    (h : Wp K B te ρ fun d => ∃ k : Nat, d = .int (k : Int) ∧ ∃ y, ys[k]? = some y ∧ P.nx ((ρ.set j (.own (.lst (ys.eraseIdx k)))).set i (.own (.lst (xs ++ [y]))))) :
    WpS K B (tDrop (tBM K "list" rAppend (tVar i) (tCons (tBM K "list" rPopAt (tVar j) (tCons te tNil)) tNil))) ρ P := fun F G0 H0 G H σ Dn E g f e => by
  obtain ⟨l, e1, gl, nb, n0, vs, q1, q2⟩ := E.ow i _ hi
  obtain ⟨m, e2, gm, nbm, n0m, ws, p1, p2⟩ := E.ow j _ hj
  have lm : l ≠ m := fun z => by subst z; exact E.apart i j l _ _ hij hi hj e1 e2
  refine ⟨.ref l, e1, .inl ⟨rfl, vs, .inl (.inl q1)⟩, .ref m, e2, .inl ⟨rfl, ws, .inl (.inl p1)⟩, h H0 G H σ E _ fun v d G1 H1 g1 r1 ⟨k, ed, y, hk, p⟩ => ?_⟩
  subst ed
  cases r1
  have E1 := E.step g1
  have q3 := g1.keep _ _ nb q1
  have p3 := g1.keep _ _ nbm p1
  have gl1 := g1.own _ _ q1 gl
  have gm1 := g1.own _ _ p1 gm
  have klt : k < ys.length := (List.getElem?_eq_some_iff.mp hk).1
  obtain ⟨u, hu, ru⟩ := (p2.mono g1.g).get hk
  have lw := p2.length
  refine ⟨m, ws, (k : Int), k, u, rfl, rfl, p3, by omega, by omega, ?_, hu, ?_⟩
  · have kw : k < ws.length := by omega
    have nk : ¬ (k : Int) < 0 := by omega
    have c : (decide (0 ≤ (k : Int)) && decide ((k : Int) < (ws.length : Int))) = true := by
      rw [Bool.and_eq_true]
      exact ⟨decide_eq_true (by omega), decide_eq_true (by omega)⟩
    unfold seqIndex?
    simp only [if_neg nk]
    rw [if_pos c]
    simp
  · have E2 := E1.chg (o' := .lst (ys.eraseIdx k)) hj e2 gm1 nbm p3 (fun y z => by cases z) ⟨n0m, _, upd_same, (p2.mono g1.g).erase k⟩
    have hi2 : (ρ.set j (.own (.lst (ys.eraseIdx k))))[i]? = some (.own (.lst xs)) := by rw [List.getElem?_set_ne (Ne.symm hij)]; exact hi
    have q4 : upd H1 m (.lst (ws.eraseIdx k)) l = some (.lst vs) := by rw [upd_ne lm]; exact q3
    have gg := (g.trans g1).chg (o := .lst (ws.eraseIdx k)) n0m gm1 nbm
    exact ⟨l, vs, u, rfl, rfl, q4, by rw [q2.length]; exact hz, e.nx _ _ _ σ (E2.chg (o' := .lst (xs ++ [y])) hi2 e1 gl1 nb q4 (fun y z => by cases z) ⟨n0, _, upd_same, (q2.mono g1.g).app (.one ru)⟩) (gg.chg n0 gl1 nb) (f.trans g1.g) p⟩

/-! ### xs[::0 - 1], index, powers -/
theorem wp_rev (h : Wp K B te ρ fun a => ∃ xs, a = .lst xs ∧ S (.lst xs.reverse)) : Wp K B (tRevL K te) ρ S := fun H0 G H σ E Q k => h H0 G H σ E _ fun v a G1 H1 g1 r1 ⟨xs, ea, s⟩ => by
  subst ea
  cases r1 with
  | @lst p vs _ e q => exact ⟨p, vs, rfl, .inl (.inl (g1.gh _ _ e)), fun l hl => k _ _ _ _ (g1.trans (Gr.new g1.gH hl)) (.lst upd_same (q.rev.mono (Ex.new (g1.gh.free hl)))) s⟩
theorem wp_pow (h : Wp K B ta ρ fun a => Wp K B tb ρ fun b => ∃ i j, a = .int i ∧ b = .int j ∧ CPow i j ∧ S (.int (i ^ j.toNat))) : Wp K B (tOp (rI CPow fun i j => .int (i ^ j.toNat)) ta tb) ρ S := wp_opC (fd := fun i j => .int (i ^ j.toNat)) (fun _ _ => .int _) h
theorem wp_index {t : TE} (h : Wp K B ta ρ fun a => ∃ xs : List Str, a = .lst (xs.map .str) ∧ Wp K B t ρ fun b => ∃ (x : Str) (j : Nat), b = .str x ∧ xs[j]? = some x ∧ (∀ m, m < j → xs[m]? ≠ some x) ∧ S (.int (j : Nat))) : Wp K B (tBM K "list" (rIndex K) ta (tCons t tNil)) ρ S := fun H0 G H σ E Q k =>
  h H0 G H σ E _ fun v a G1 H1 g1 r1 ⟨xs, ea, w⟩ => by
    subst ea
    cases r1 with
    | @lst p vs _ e q =>
      have ev : vs = xs.map V.str := dts_strs q
      subst ev
      refine ⟨.inl ⟨rfl, _, .inl (.inl (g1.gh _ _ e))⟩, w H0 G1 H1 σ (E.step g1) _ fun v2 b G2 H2 g2 r2 ⟨x, j, eb, hj, hno, s⟩ => ?_⟩
      subst eb
      cases r2
      refine ⟨p, xs.map V.str, .str x, j, .str x, rfl, rfl, .inl (.inl (g2.gh _ _ (g2.g _ _ e))), rfl, ?_, by rw [List.getElem?_map, hj]; rfl, by simp [eqV], fun m z hm hz => ?_, k _ _ G2 H2 (g1.trans g2) (.int _) s⟩
      · rw [List.all_eq_true]
        intro z hz
        obtain ⟨y, _, rfl⟩ := List.mem_map.mp hz
        rfl
      · rw [List.getElem?_map] at hz
        cases hx : xs[m]? with
        | none => rw [hx] at hz; cases hz
        | some y =>
          rw [hx] at hz
          cases hz
          have ne : y ≠ x := fun z => hno m hm (by rw [hx, z])
          simp [eqV, ne]
end
end FS

/-! FsP: x, y = a, b; more small rules. -/
namespace FS
open PySem L2
section
variable {K : PySem.W.Frag} {B : Addr → Prop} {ρ : Ro} {te ta tb : TE} {S : D → Prop} {P : Po} {i j : Nat}
theorem ws_parDD (h : Wp K B ta ρ fun a => Wp K B tb ρ fun b => P.nx ((ρ.set i (.d a)).set j (.d b))) : WpS K B (tPar i j (tCons ta (tCons tb tNil))) ρ P := fun F G0 H0 G H σ Dn E g f e =>
  h H0 G H σ E _ fun v a G1 H1 g1 r1 w => w H0 G1 H1 σ (E.step g1) _ fun v2 b G2 H2 g2 r2 p =>
    ⟨v, v2, rfl, e.nx _ G2 H2 _ ((((E.step g1).step g2).setD i (r1.mono g2.g)).setD j r2) ((g.trans g1).trans g2) ((f.trans g1.g).trans g2.g) p⟩
theorem own_apart {H0 G H : Hp} {σ : L2.St} (E : EnvS K B H0 G H σ ρ) {l : Addr} (hl : H l = none) : ∀ (j : Nat) (o' : OD), ρ[j]? = some (.own o') → σ[j]? = some (some (.ref l)) → False := fun j o' h1 h2 => by
  obtain ⟨l2, w1, w2, w3, w4⟩ := E.ow j o' h1
  rw [h2] at w1
  cases w1
  obtain ⟨u, hu⟩ := w4.there
  rw [hl] at hu
  cases hu
theorem ws_parDN (hij : i ≠ j) (h : Wp K B ta ρ fun a => WpN K B tb ρ fun o => P.nx ((ρ.set i (.d a)).set j (.own o))) : WpS K B (tPar i j (tCons ta (tCons tb tNil))) ρ P := fun F G0 H0 G H σ Dn E g f e =>
  h H0 G H σ E _ fun v a G1 H1 g1 r1 w => w H0 G1 H1 σ (E.step g1) _ fun l o G2 H2 g2 gl nb hl ow p => by
    have E1 := E.step g1
    have E2 := (E1.step g2).setD i (r1.mono g2.g)
    refine ⟨v, .ref l, rfl, e.nx _ G2 H2 _ (E2.setOwn j gl nb (ow.base (g.trans g1).back nb) fun k o' ne h1 h2 => ?_) ((g.trans g1).trans g2) ((f.trans g1.g).trans g2.g) p⟩
    by_cases z : i = k
    · subst z
      have hi : i < ρ.length := by
        have := (List.getElem?_eq_some_iff.mp h1).1
        rwa [List.length_set] at this
      rw [List.getElem?_set_self hi] at h1
      cases h1
    · rw [List.getElem?_set_ne z] at h1 h2
      exact own_apart E1 hl k o' h1 h2
theorem ws_parNN (hij : i ≠ j) (h : WpN K B ta ρ fun a => WpN K B tb ρ fun o => P.nx ((ρ.set i (.own a)).set j (.own o))) : WpS K B (tPar i j (tCons ta (tCons tb tNil))) ρ P := fun F G0 H0 G H σ Dn E g f e =>
  h H0 G H σ E _ fun l1 o1 G1 H1 g1 gl1 nb1 hl1 ow1 w => w H0 G1 H1 σ (E.step g1) _ fun l o G2 H2 g2 gl nb hl ow p => by
    have E1 := E.step g1
    obtain ⟨u1, hu1⟩ := ow1.there
    have ne : l ≠ l1 := fun z => by subst z; rw [hl] at hu1; cases hu1
    have E2 := (E1.step g2).setOwn i (g2.own _ _ hu1 gl1) nb1 ((ow1.step nb1 g2).base g.back nb1) fun k o' _ h1 h2 => own_apart E hl1 k o' h1 h2
    refine ⟨.ref l1, .ref l, rfl, e.nx _ G2 H2 _ (E2.setOwn j gl nb (ow.base (g.trans g1).back nb) fun k o' _ h1 h2 => ?_) ((g.trans g1).trans g2) ((f.trans g1.g).trans g2.g) p⟩
    by_cases z : i = k
    · subst z
      have hi : i < σ.length := by
        have := (List.getElem?_eq_some_iff.mp h2).1
        rwa [List.length_set] at this
      rw [List.getElem?_set_self hi] at h2
      cases h2
      exact ne rfl
    · rw [List.getElem?_set_ne z] at h1 h2
      exact own_apart E1 hl k o' h1 h2

/-! ### x not in a tuple of data -/
def rNotInDT (K : PySem.W.Frag) : R2 := fun x y H Q => ∃ d ds, Dp K H x d ∧ Dp K H y (.tuple ds) ∧ SeqAt.shaped d = true ∧ SeqAt.shaped (.tuple ds) = true ∧ Q (.bl (!ds.any fun z => PyData.eqv z d)) H
theorem op_notInDT {X : Cx} (hu : X.A.units + 65 < cLine) : OpR X (compareOp .NotIn) (rNotInDT X.K) := by
  rintro pins s σ H x y v u Q I rx ry ⟨d, ds, hd, he, sd, se, q⟩
  obtain ⟨as, r1⟩ := Dp.reads I d x v hd rx
  obtain ⟨bs, r2⟩ := Dp.reads I (.tuple ds) y u he ry
  exact SeqAt.notIn_tuple_reads r2 r1 (SeqAt.canLay_of_shaped se) (SeqAt.canLay_of_shaped sd) (PyProof.Rows.room_in_shaped sd hu) ⟨.bl _, H, I, rfl, q⟩
theorem wp_notInDT (h : Wp K B ta ρ fun a => Wp K B tb ρ fun b => ∃ n ds, n ≤ 63 ∧ b = .tup ds ∧ Pur n a ∧ (∀ d ∈ ds, Pur n d) ∧ ∀ r : Bool, (r = true ↔ a ∈ ds) → S (.bl (!r))) : Wp K B (tOp (rNotInDT K) ta tb) ρ S :=
  wp_op (h.imp fun a w => w.imp fun b ⟨n, ds, hn, eb, pa, pd, s⟩ G H x y Q gh rx ry k => by
    subst eb
    have pl : Pur (n + 1) (.tup ds) := .tup n ds pd
    exact ⟨a.py, pys ds, rx.dp gh.gh ⟨n, pa⟩, ry.dp gh.gh ⟨n + 1, pl⟩, pa.shaped (by omega), pl.shaped (by omega), k _ _ G H gh.refl (.bl _) (s _ (any_iff pa pd))⟩)
theorem cr_sortDI {X : Cx} (hcalm : X.calm = true) : CallR X (.builtin "sorted") (fun xs H Q => ∃ (a : Addr) (kvs : List (Key × V)) (ks : List Int), xs = [.ref a] ∧ Rd H a (.dK kvs) ∧ kvs.map (·.1) = ks.map Sum.inl ∧ ks.length < 64 ∧
    ∀ (ys : List Int) (p : Addr), ys.Perm ks → ys.Pairwise (· ≤ ·) → H p = none → Q (.ref p) (upd H p (.lst (ys.map V.int)))) := call_sortedDI hcalm
end
end FS

/-! FsM0: terms, atoms, rules, rows, houses, questions; how they stand as data. -/
namespace FS
open PySem L2
abbrev Tm := Key
abbrev At := Str × List Tm
abbrev Rul := Str × List Nat × Nat
abbrev Row := Str × List Int
abbrev Tab := Str × Nat
abbrev Mem := List Tm × List At
structure House where
  tabs : List Tab
  ruls : List Rul
structure Ques where
  mems : List Mem
  told : Nat
def dTms (l : List Tm) : D := .tup (l.map kD)
def dAt (a : At) : D := .tup [.str a.1, dTms a.2]
def dInts (l : List Int) : D := .tup (l.map .int)
def dNats (l : List Nat) : D := .tup (l.map fun n => .int (n : Nat))
def dRul (r : Rul) : D := .tup [.str r.1, dNats r.2.1, .int (r.2.2 : Nat)]
def dRow (r : Row) : D := .tup [.str r.1, dInts r.2]
def dTab (t : Tab) : D := .tup [.str t.1, .int (t.2 : Nat)]
def dMemL (m : Mem) : D := .tup [dTms m.1, .lst (m.2.map dAt)]
def dMemT (m : Mem) : D := .tup [dTms m.1, .tup (m.2.map dAt)]
def dHouse (c : Addr) (h : House) : D := .ins c [("tables", .ftup (h.tabs.map dTab)), ("rules", .tup (h.ruls.map dRul))]
def dQues (c : Addr) (q : Ques) : D := .ins c [("members", .tup (q.mems.map dMemT)), ("told", .int (q.told : Nat))]
def dWids (l : List Tab) : D := .dic (l.map fun t => (.inr t.1, .int (t.2 : Nat)))
/-- a word: small letters, some, no keyword -/
def wordB (z : Str) : Bool := decide (z.cps.toList.length ≤ 100) && (!decide (z = "") && (!decide (z = "if") && (!decide (z = "say") && z.cps.toList.all fun c => decide (c ∈ (Str.ofString "abcdefghijklmnopqrstuvwxyz").cps.toList))))
def numB : Tm → Bool
  | .inl i => decide (0 ≤ i)
  | .inr _ => false
theorem numB_nat (n : Nat) : numB (.inl (n : Int)) = true := decide_eq_true (Int.natCast_nonneg n)
def tmB : Tm → Bool
  | .inl i => decide (0 ≤ i)
  | .inr z => wordB z
section
variable {K : PySem.W.Frag} {B : Addr → Prop} {ρ : Ro}
/-- all([test for ..]), every test true -/
theorem wp_allT {wi : TI} {g : TG} {te : TE} {vs : List Nat} {S : D → Prop} (h : WpI K B wi ρ fun ds => ds.length ≤ sizeLine ∧ (∀ d ∈ ds, WpG K B vs g (wipeR ρ vs) d fun ρ2 => Wp K B te ρ2 fun y => y = .bl true) ∧ S (.bl true)) :
    Wp K B (tCB (rAll K) (tCons (tLc wi g tYes te vs) tNil)) ρ S :=
  wp_all (wa_cons (wp_lcMap fun H0 G H σ E R k => h H0 G H σ E R fun J ds G' H' g' j ⟨hz, turn, s⟩ => k J ds G' H' g' j ⟨hz, fun _ => .bl true, turn, wa_nil ⟨ds.map fun _ => true, by rw [List.map_map]; rfl, by
    rw [show (ds.map fun _ => true).all id = true from List.all_eq_true.mpr fun b hb => by
      obtain ⟨_, _, rfl⟩ := List.mem_map.mp hb
      rfl]
    exact s⟩⟩))
/-- i <= j <= k -/
theorem wp_chainLe {ta tb tc : TE} {S : D → Prop} (h : Wp K B ta ρ fun a => Wp K B tb ρ fun b => ∃ i j, a = .int i ∧ b = .int j ∧ if i ≤ j then Wp K B tc ρ fun e => ∃ k, e = .int k ∧ S (.bl (decide (j ≤ k))) else S (.bl false)) :
    Wp K B (tChain (rI0 fun i j => .bl (decide (i ≤ j))) (rI0 fun i j => .bl (decide (i ≤ j))) ta tb tc) ρ S :=
  wp_chain (h.imp fun a w => w.imp fun b ⟨i, j, ea, eb, s⟩ G H x y Q gh rx ry q => by
    subst ea eb
    cases rx
    cases ry
    refine ⟨i, j, rfl, rfl, q _ ?_⟩
    by_cases z : i ≤ j
    · rw [decide_eq_true z, if_pos rfl]
      rw [if_pos z] at s
      refine s.imp fun e ⟨k, ee, se⟩ G H x y Q gh rx ry k' => ?_
      subst ee
      cases rx
      cases ry
      exact ⟨j, k, rfl, rfl, k' _ _ G H gh.refl (.bl _) se⟩
    · rw [decide_eq_false z, if_neg Bool.false_ne_true]
      rw [if_neg z] at s
      exact s)
end
theorem sz_le {n : Nat} (h : n ≤ 1000000) : n ≤ sizeLine := by rw [sizeLine_eq]; omega
theorem sz_lt {n : Nat} (h : n ≤ 1000000) : n < sizeLine := by rw [sizeLine_eq]; omega
def dFst : D → D
  | .tup (a :: _) => a
  | d => d
def dSnd : D → D
  | .tup (_ :: b :: _) => b
  | d => d
/-- a table -/
def tabB (t : Tab) : Bool := wordB t.1 && (decide (1 ≤ t.2) && decide (t.2 ≤ 9))
/-- tables -/
structure TabsOk (l : List Tab) : Prop where
  some : l ≠ []
  few : l.length ≤ 100
  each : ∀ t ∈ l, tabB t = true
  nodup : (l.map (·.1)).Nodup
/-- columns of a table so wide -/
structure ColsOk (cols : List Nat) (w : Nat) : Prop where
  lt : ∀ c ∈ cols, c < w
  up : cols.Pairwise (· < ·)
  few : cols.length ≤ 100
def widOf (l : List Tab) (t : Str) : Option Nat := kget l t
structure RulOk (l : List Tab) (r : Rul) : Prop where
  ex : ∃ w, widOf l r.1 = some w ∧ ColsOk r.2.1 w ∧ r.2.2 < w ∧ r.2.2 ∉ r.2.1
structure RowOk (l : List Tab) (r : Row) : Prop where
  wid : widOf l r.1 = some r.2.length
  nn : ∀ n ∈ r.2, 0 ≤ n
  few : r.2.length ≤ 100
theorem kget_wids {l : List Tab} {x : Str} : kget (l.map fun t => ((.inr t.1 : Key), D.int (t.2 : Nat))) (.inr x) = (widOf l x).map fun n => D.int (n : Nat) := by
  unfold widOf kget
  induction l with
  | nil => rfl
  | cons t l ih =>
    by_cases e : t.1 = x
    · simp [e]
    · have e' : ¬ (Sum.inr t.1 : Key) = Sum.inr x := fun z => e (Sum.inr.inj z)
      simpa [e, e'] using ih
/-- the names among terms -/
def nmsOf (ts : List Tm) : List Str := ts.filterMap fun t => match t with
  | .inr x => some x
  | .inl _ => none
/-- an atom's shape -/
structure AtOk (a : At) : Prop where
  word : wordB a.1 = true
  some : a.2 ≠ []
  each : ∀ t ∈ a.2, tmB t = true
  few : a.2.length ≤ 100
/-- x stands in some atom -/
def InAts (x : Str) (as : List At) : Prop := ∃ a ∈ as, .inr x ∈ a.2
/-- a member's shape -/
structure MemOk (m : Mem) : Prop where
  head : ∀ t ∈ m.1, tmB t = true
  few : m.1.length ≤ 100
  some : m.2 ≠ []
  each : ∀ a ∈ m.2, AtOk a
  few2 : m.2.length ≤ 100
  names : ∀ x, .inr x ∈ m.1 → InAts x m.2
theorem mem_nms {x : Str} {ts : List Tm} : x ∈ nmsOf ts ↔ .inr x ∈ ts := by
  unfold nmsOf
  rw [List.mem_filterMap]
  constructor
  · rintro ⟨t, ht, e⟩
    cases t with
    | inl i => cases e
    | inr y => cases e; exact ht
  · intro h
    exact ⟨_, h, rfl⟩
theorem nms_len (ts : List Tm) : (nmsOf ts).length ≤ ts.length := List.length_filterMap_le _ _
def isStrD : D → Bool
  | .str _ => true
  | _ => false
theorem nms_D (ts : List Tm) : (ts.map kD).filter isStrD = (nmsOf ts).map D.str := by
  induction ts with
  | nil => rfl
  | cons t ts ih =>
    cases t with
    | inl i =>
      show ((ts.map kD).filter _) = _
      rw [ih]
      rfl
    | inr x =>
      show D.str x :: ((ts.map kD).filter _) = _
      rw [ih]
      rfl
theorem atI_nat {ds : List D} {j : Nat} {d : D} (h : ds[j]? = some d) : atI ds (j : Int) = some d := by
  unfold atI
  rw [ixN_nat (List.getElem?_eq_some_iff.mp h).1]
  exact h
theorem atI_0 {ds : List D} {d : D} (h : ds[0]? = some d) : atI ds 0 = some d := atI_nat (j := 0) h
/-! ### sorting -/
theorem srt_perm (ds : List D) : (srt ds).Perm ds := List.mergeSort_perm _ _
theorem srt_mem {ds : List D} {d : D} : d ∈ srt ds ↔ d ∈ ds := (srt_perm ds).mem_iff
theorem srt_len (ds : List D) : (srt ds).length = ds.length := (srt_perm ds).length_eq
theorem py_mem {ds : List D} {p : PyData} (h : p ∈ pys ds) : ∃ d ∈ ds, d.py = p := by
  rw [pys_map] at h
  obtain ⟨d, h1, h2⟩ := List.mem_map.mp h
  exact ⟨d, h1, h2⟩
theorem sortIn_tup {ds : List D} (h1 : ∀ d ∈ ds, ∀ e ∈ ds, PySem.W.alike d.py e.py = true) (h2 : ∀ d ∈ ds, ∃ x r, d.py = .tuple (x :: r)) (h3 : ∀ d ∈ ds, d.py.depth ≤ 64) (h4 : ∀ d ∈ ds, stayB d.py = true) : SortIn (pys ds) := by
  refine ⟨fun p hp q hq => ?_, fun z => .inl fun p hp => ?_, fun p hp => ?_, fun p hp => ?_⟩
  · obtain ⟨d, hd, rfl⟩ := py_mem hp
    obtain ⟨e, he, rfl⟩ := py_mem hq
    exact h1 d hd e he
  · obtain ⟨d, hd, rfl⟩ := py_mem hp
    exact h2 d hd
  · obtain ⟨d, hd, rfl⟩ := py_mem hp
    exact h3 d hd
  · obtain ⟨d, hd, rfl⟩ := py_mem hp
    exact h4 d hd
theorem sortIn_one {d : D} (h1 : PySem.W.alike d.py d.py = true) (h3 : d.py.depth ≤ 64) (h4 : stayB d.py = true) (hk : PySem.W.Sortable [d.py]) : SortIn (pys [d]) := by
  refine ⟨fun p hp q hq => ?_, fun _ => hk, fun p hp => ?_, fun p hp => ?_⟩
  · obtain ⟨d, hd, rfl⟩ := py_mem hp
    obtain ⟨e, he, rfl⟩ := py_mem hq
    rw [List.mem_singleton.mp hd, List.mem_singleton.mp he]
    exact h1
  · obtain ⟨d, hd, rfl⟩ := py_mem hp
    rw [List.mem_singleton.mp hd]
    exact h3
  · obtain ⟨d, hd, rfl⟩ := py_mem hp
    rw [List.mem_singleton.mp hd]
    exact h4
theorem sortIn_ints (is : List Int) : SortIn (pys (is.map D.int)) := by
  have all : ∀ p ∈ pys (is.map D.int), ∃ i, p = .int i := fun p hp => by
    obtain ⟨d, hd, rfl⟩ := py_mem hp
    obtain ⟨i, _, rfl⟩ := List.mem_map.mp hd
    exact ⟨i, rfl⟩
  refine ⟨fun p hp q hq => ?_, fun _ => .inr fun p hp => ?_, fun p hp => ?_, fun p hp => ?_⟩
  · obtain ⟨i, rfl⟩ := all p hp
    obtain ⟨j, rfl⟩ := all q hq
    rfl
  · obtain ⟨i, rfl⟩ := all p hp
    exact ⟨by simp, by simp⟩
  · obtain ⟨i, rfl⟩ := all p hp
    exact Nat.zero_le _
  · obtain ⟨i, rfl⟩ := all p hp
    rfl
theorem sortIn_tup2 {ds : List D} (h1 : ∀ d ∈ ds, ∀ e ∈ ds, PySem.W.alike d.py e.py = true) (h2 : 2 ≤ ds.length → ∀ d ∈ ds, ∃ x r, d.py = .tuple (x :: r)) (h3 : ∀ d ∈ ds, d.py.depth ≤ 64) (h4 : ∀ d ∈ ds, stayB d.py = true) : SortIn (pys ds) := by
  refine ⟨fun p hp q hq => ?_, fun z => .inl fun p hp => ?_, fun p hp => ?_, fun p hp => ?_⟩
  · obtain ⟨d, hd, rfl⟩ := py_mem hp
    obtain ⟨e, he, rfl⟩ := py_mem hq
    exact h1 d hd e he
  · obtain ⟨d, hd, rfl⟩ := py_mem hp
    exact h2 (by rw [pys_map, List.length_map] at z; exact z) d hd
  · obtain ⟨d, hd, rfl⟩ := py_mem hp
    exact h3 d hd
  · obtain ⟨d, hd, rfl⟩ := py_mem hp
    exact h4 d hd
theorem stay_ints (is : List Int) : stayAll (is.map PyData.int) = true := by
  induction is with
  | nil => rfl
  | cons i is ih => unfold List.map stayAll; rw [ih]; rfl
theorem py_ints (is : List Int) : pys (is.map D.int) = is.map PyData.int := by
  rw [pys_map, List.map_map]; rfl
theorem py_dInts (is : List Int) : (dInts is).py = .tuple (is.map .int) := by
  show PyData.tuple (pys (is.map D.int)) = _
  rw [py_ints]
theorem py_dNats (ns : List Nat) : (dNats ns).py = .tuple ((ns.map fun (n : Nat) => (n : Int)).map .int) := by
  have : dNats ns = dInts (ns.map fun (n : Nat) => (n : Int)) := by unfold dNats dInts; rw [List.map_map]; rfl
  rw [this, py_dInts]
theorem py_dRow (r : Row) : (dRow r).py = .tuple [.str r.1, .tuple (r.2.map .int)] := by
  show PyData.tuple [PyData.str r.1, (dInts r.2).py] = _
  rw [py_dInts]
theorem py_dRul (r : Rul) : (dRul r).py = .tuple [.str r.1, .tuple ((r.2.1.map fun (n : Nat) => (n : Int)).map .int), .int (r.2.2 : Nat)] := by
  show PyData.tuple [PyData.str r.1, (dNats r.2.1).py, PyData.int (r.2.2 : Nat)] = _
  rw [py_dNats]
theorem sortIn_rows {rs : List Row} {ds : List D} (h : ∀ d ∈ ds, ∃ r ∈ rs, d = dRow r) : SortIn (pys ds) := by
  refine sortIn_tup (fun d hd e he => ?_) (fun d hd => ?_) (fun d hd => ?_) (fun d hd => ?_)
  · obtain ⟨r, _, rfl⟩ := h d hd
    obtain ⟨q, _, rfl⟩ := h e he
    rw [py_dRow, py_dRow]
    simp [PySem.W.alike, PySem.W.alikeAll, PySem.W.alike_ints]
  · obtain ⟨r, _, rfl⟩ := h d hd
    rw [py_dRow]
    exact ⟨_, _, rfl⟩
  · obtain ⟨r, _, rfl⟩ := h d hd
    rw [py_dRow]
    simp [PyData.depth, PyData.depthAll, PySem.W.depth_ints]
  · obtain ⟨r, _, rfl⟩ := h d hd
    rw [py_dRow]
    simp [stayB, stayAll, stay_ints]
theorem sortIn_ruls {rs : List Rul} {ds : List D} (h : ∀ d ∈ ds, ∃ r ∈ rs, d = dRul r) : SortIn (pys ds) := by
  refine sortIn_tup (fun d hd e he => ?_) (fun d hd => ?_) (fun d hd => ?_) (fun d hd => ?_)
  · obtain ⟨r, _, rfl⟩ := h d hd
    obtain ⟨q, _, rfl⟩ := h e he
    rw [py_dRul, py_dRul]
    simp only [PySem.W.alike, PySem.W.alikeAll, PySem.W.alike_ints, Bool.and_self]
  · obtain ⟨r, _, rfl⟩ := h d hd
    rw [py_dRul]
    exact ⟨_, _, rfl⟩
  · obtain ⟨r, _, rfl⟩ := h d hd
    rw [py_dRul]
    simp only [PyData.depth, PyData.depthAll, PySem.W.depth_ints]
    omega
  · obtain ⟨r, _, rfl⟩ := h d hd
    rw [py_dRul]
    simp only [stayB, stayAll, stay_ints, Bool.and_self]
/-- a list of images -/
theorem of_images {α : Type} {f : α → D} {as : List α} : ∀ {ds : List D}, (∀ d ∈ ds, ∃ a ∈ as, d = f a) → ∃ bs : List α, ds = bs.map f ∧ ∀ b ∈ bs, b ∈ as
  | [], _ => ⟨[], rfl, fun _ h => nomatch h⟩
  | d :: ds, h => by
    obtain ⟨a, ha, rfl⟩ := h d (List.mem_cons_self ..)
    obtain ⟨bs, rfl, hb⟩ := of_images fun e he => h e (List.mem_cons_of_mem _ he)
    exact ⟨a :: bs, rfl, fun b hb' => by
      rcases List.mem_cons.mp hb' with rfl | hb'
      · exact ha
      · exact hb b hb'⟩
theorem map_inj {α : Type} {f : α → D} (hf : ∀ a b, f a = f b → a = b) : ∀ {l m : List α}, l.map f = m.map f → l = m
  | [], [], _ => rfl
  | a :: l, b :: m, h => by
    rw [List.map_cons, List.map_cons] at h
    injection h with h1 h2
    rw [hf _ _ h1, map_inj hf h2]
  | [], _ :: _, h => by cases h
  | _ :: _, [], h => by cases h
theorem dInts_inj {a b : List Int} (h : dInts a = dInts b) : a = b := map_inj (f := D.int) (fun _ _ e => D.int.inj e) (D.tup.inj h)
theorem dNats_inj {a b : List Nat} (h : dNats a = dNats b) : a = b := map_inj (f := fun n : Nat => D.int (n : Int)) (fun _ _ e => Int.ofNat.inj (D.int.inj e)) (D.tup.inj h)
theorem dRow_inj {a b : Row} (h : dRow a = dRow b) : a = b := by
  have h' := D.tup.inj h
  injection h' with h1 h2
  injection h2 with h2 _
  exact Prod.ext (D.str.inj h1) (dInts_inj h2)
theorem dRul_inj {a b : Rul} (h : dRul a = dRul b) : a = b := by
  have h' := D.tup.inj h
  injection h' with h1 h2
  injection h2 with h2 h3
  injection h3 with h3 _
  exact Prod.ext (D.str.inj h1) (Prod.ext (dNats_inj h2) (Int.ofNat.inj (D.int.inj h3)))
theorem pur_ints (is : List Int) : Pur 1 (dInts is) := .tup 0 _ fun d hd => by
  obtain ⟨i, _, rfl⟩ := List.mem_map.mp hd
  exact .int 0 i
theorem pur_row {r : Row} (h : PyData.strOk r.1 = true) : Pur 2 (dRow r) := .tup 1 _ fun d hd => by
  rcases List.mem_cons.mp hd with rfl | hd
  · exact .str _ _ h
  · rw [List.mem_singleton.mp hd]
    exact pur_ints _
theorem pur_rul {r : Rul} (h : PyData.strOk r.1 = true) : Pur 2 (dRul r) := .tup 1 _ fun d hd => by
  rcases List.mem_cons.mp hd with rfl | hd
  · exact .str _ _ h
  · rcases List.mem_cons.mp hd with rfl | hd
    · refine .tup 0 _ fun d hd => ?_
      obtain ⟨i, _, rfl⟩ := List.mem_map.mp hd
      exact .int 0 _
    · rw [List.mem_singleton.mp hd]
      exact .int _ _
end FS

/-! FsU1: the small tests. -/
namespace FS
open PySem L2
section
variable {P : Program} {w : World} {K : PySem.W.Frag} {mg : Str → Option Value} {base : Heap} {cH cS cQ : Addr}
def sp_is_integer : Spc := fun ds S => ∃ k : Tm, ds = [kD k] ∧ S (.bl k.isLeft)
theorem len_is_integer : ∀ ds S, sp_is_integer ds S → ds.length = 1 := by rintro _ _ ⟨_, rfl, _⟩; rfl
theorem sc_is_integer : FnScope ["value"] ["value"] (defScope (topS 12)) := ⟨rfl, rfl, rfl, by decide +kernel, rfl, by decide +kernel, by decide +kernel⟩
/-! slots: 0 value; cells: [] -/
theorem Txt.d_is_integer (T : Txt K mg cH cS cQ) : Df P w K mg base 1 "is_integer" ["value"] [] sp_is_integer := by
  refine df_mk T.a_is_integer sc_is_integer (fun _ _ _ _ _ _ us hl => match us, hl with | [_], _ => rfl) len_is_integer fun f cdv A outer s H E hr => ?_
  refine ⟨_,
    (pss_one (ps_ret (pe_and (pe_callB (kCR (K := K) (r := rIsi) call_isi) (by rfl) T.f_isinstance (by decide +kernel) (pa_cons (pv 0) (pa_cons (pe_ty (n := "int") T.f_int) pa_nil))) (pe_one (pe_not (pe_callB (kCR (K := K) (r := rIsi) call_isi) (by rfl) T.f_isinstance (by decide +kernel) (pa_cons (pv 0) (pa_cons (pe_ty (n := "bool") T.f_bool) pa_nil)))))))), fun B ds S h => ?_⟩
  obtain ⟨k, rfl, hs⟩ := h
  refine ws_ret (wp_andV ?_)
  cases k with
  | inl i => exact wp_isi (wp_var rfl ⟨_, _, rfl, rfl, true, rfl, wp_notV (wp_isi (wp_var rfl ⟨_, _, rfl, rfl, false, rfl, hs⟩))⟩)
  | inr z => exact wp_isi (wp_var rfl ⟨_, _, rfl, rfl, false, rfl, hs⟩)
def sp_is_number : Spc := fun ds S => ∃ k : Tm, ds = [kD k] ∧ S (.bl (numB k))
theorem len_is_number : ∀ ds S, sp_is_number ds S → ds.length = 1 := by rintro _ _ ⟨_, rfl, _⟩; rfl
theorem sc_is_number : FnScope ["value"] ["value"] (defScope (topS 13)) := ⟨rfl, rfl, rfl, by decide +kernel, rfl, by decide +kernel, by decide +kernel⟩
/-! slots: 0 value; cells: [] -/
theorem Txt.d_is_number (T : Txt K mg cH cS cQ) : Df P w K mg base 2 "is_number" ["value"] [] sp_is_number := by
  refine df_mk T.a_is_number sc_is_number (fun _ _ _ _ _ _ us hl => match us, hl with | [_], _ => rfl) len_is_number fun f cdv A outer s H E hr => ?_
  refine ⟨_,
    (pss_one (ps_ret (pe_and (pe_df T.d_is_integer hr (by decide) (by rfl) (pa_cons (pv 0) pa_nil)) (pe_one (pe_cmpR op_ge (pv 0) pe_int (nomark _)))))), fun B ds S h => ?_⟩
  obtain ⟨k, rfl, hs⟩ := h
  refine ws_ret (wp_andV (wp_call0 (wa_cons (wp_var rfl (wa_nil ⟨k, rfl, _, rfl, ?_⟩)))))
  cases k with
  | inl i => exact wp_ge (wp_var rfl (wp_int ⟨_, _, rfl, rfl, hs⟩))
  | inr z => exact hs
def sp_is_sequence : Spc := fun ds S => ∃ xs, (ds = [.lst xs] ∨ ds = [.tup xs]) ∧ S (.bl true)
theorem len_is_sequence : ∀ ds S, sp_is_sequence ds S → ds.length = 1 := by rintro _ _ ⟨_, rfl | rfl, _⟩ <;> rfl
theorem sc_is_sequence : FnScope ["value"] ["value"] (defScope (topS 14)) := ⟨rfl, rfl, rfl, by decide +kernel, rfl, by decide +kernel, by decide +kernel⟩
/-! slots: 0 value; cells: [] -/
theorem Txt.d_is_sequence (T : Txt K mg cH cS cQ) : Df P w K mg base 1 "is_sequence" ["value"] [] sp_is_sequence := by
  refine df_mk T.a_is_sequence sc_is_sequence (fun _ _ _ _ _ _ us hl => match us, hl with | [_], _ => rfl) len_is_sequence fun f cdv A outer s H E hr => ?_
  refine ⟨_,
    (pss_one (ps_ret (pe_callB (kCR (K := K) (r := rIsiT) call_isiT) (by rfl) T.f_isinstance (by decide +kernel) (pa_cons (pv 0) (pa_cons (pe_tup (pa_cons (pe_ty (n := "list") T.f_list) (pa_cons (pe_ty (n := "tuple") T.f_tuple) pa_nil))) pa_nil))))), fun B ds S h => ?_⟩
  obtain ⟨xs, rfl | rfl, hs⟩ := h
  · exact ws_ret (wp_isiT (wp_var rfl ⟨_, _, _, rfl, rfl, rfl, hs⟩))
  · exact ws_ret (wp_isiT (wp_var rfl ⟨_, _, _, rfl, rfl, rfl, hs⟩))
def sp_is_word : Spc := fun ds S => ∃ k : Tm, ds = [kD k] ∧ (∀ z, k = .inr z → wordB z = true) ∧ S (.bl k.isRight)
theorem len_is_word : ∀ ds S, sp_is_word ds S → ds.length = 1 := by rintro _ _ ⟨_, rfl, _⟩; rfl
theorem word_of {z : Str} (h : wordB z = true) : z ≠ "" ∧ z ∉ (["if", "say"] : List Str) ∧ (∀ c ∈ z.cps.toList, c ∈ (Str.ofString "abcdefghijklmnopqrstuvwxyz").cps.toList) ∧ z.cps.toList.length ≤ 100 := by
  unfold wordB at h
  rw [Bool.and_eq_true, Bool.and_eq_true, Bool.and_eq_true, Bool.and_eq_true, Bool.not_eq_true', Bool.not_eq_true', Bool.not_eq_true'] at h
  obtain ⟨h0, h1, h2, h3, h4⟩ := h
  refine ⟨of_decide_eq_false h1, fun m => ?_, fun c hc => of_decide_eq_true (List.all_eq_true.mp h4 c hc), of_decide_eq_true h0⟩
  rcases List.mem_cons.mp m with e | m
  · exact of_decide_eq_false h2 e
  · exact of_decide_eq_false h3 (List.mem_singleton.mp m)
theorem sc_is_word : FnScope ["value", "sign"] ["value"] (defScope (topS 15)) := ⟨rfl, rfl, rfl, by decide +kernel, rfl, by decide +kernel, by decide +kernel⟩
/-! slots: 0 value, 1 sign; cells: [] -/
theorem Txt.d_is_word (T : Txt K mg cH cS cQ) : Df P w K mg base 1 "is_word" ["value"] [] sp_is_word := by
  obtain ⟨_, hLETTERS⟩ := T.c_LETTERS
  obtain ⟨nw, hNO_WORDS, hnw⟩ := T.c_NO_WORDS
  refine df_mk T.a_is_word sc_is_word (fun _ _ _ _ _ _ us hl => match us, hl with | [_], _ => rfl) len_is_word fun f cdv A outer s H E hr => ?_
  refine ⟨_,
    (pss_cons (ps_if (PW.pt (pw_or (pt_not (pt_val (pe_callB (kCR (K := K) (r := rIsi) call_isi) (by rfl) T.f_isinstance (by decide +kernel) (pa_cons (pv 0) (pa_cons (pe_ty (n := "str") T.f_str) pa_nil))))) (pw_or (pt_cmpR op_eq (pv 0) pe_str (nomark _)) (pw_or1 (pt_cmpR (kOp (K := K) (r := fun K => rIn K false) op_in_seq) (pv 0) (pe_glob (v := .ref nw) (by rfl) hNO_WORDS rfl) rfl)))))
      (pss_one (ps_ret pe_bl))
      pss_nil)
    (pss_one (ps_ret (pe_callB (kCR (K := K) (r := rAll) (cr_all rfl)) (by rfl) T.f_all (by decide +kernel) (pa_cons (pe_lc (own := [("sign", 1)]) rfl sc_is_word.nd (pi_str (pv 0)) (blkOk_by (own := [("sign", 1)]) (by first | (show blkC ["value", "sign"] (defScope (topS 15)) _ _ = true; decide +kernel) | rfl)) (fun _ _ _ _ _ => by exact (pg_name (i := 1) sc_is_word.nd rfl (by first | exact Or.inl rfl | exact Or.inr rfl))) (fun _ _ _ _ _ => by exact pts_nil) (fun _ _ _ _ _ => by exact (pe_cmpR op_inS (pv 1) (pe_glob (v := .str "abcdefghijklmnopqrstuvwxyz") (by rfl) hLETTERS ⟨_, rfl⟩) rfl))) pa_nil))))), fun B ds S h => ?_⟩
  obtain ⟨k, rfl, hk, hs⟩ := h
  cases k with
  | inl i => exact ws_seq (ws_if (wt_or (wt_not (wt_B (wp_isi (wp_var rfl ⟨_, _, rfl, rfl, _, rfl, ws_ret (wp_bl hs)⟩))))))
  | inr z =>
    obtain ⟨h1, h2, h3, h4⟩ := word_of (hk z rfl)
    refine ws_seq (ws_if (wt_or (wt_not (wt_B (wp_isi (wp_var rfl ⟨_, _, rfl, rfl, true, rfl, ?_⟩))))))
    refine wt_or (wt_B (wp_eq (wp_var rfl (wp_str ⟨_, _, rfl, rfl, rfl, _, rfl, ?_⟩))))
    rw [decide_eq_false (by intro e; exact h1 (V.str.inj e))]
    refine wt_B (wp_inK hnw (wp_var rfl ⟨z, rfl, fun r hr => ⟨r, rfl, ?_⟩⟩))
    have er : r = false := by
      cases r with
      | false => rfl
      | true => exact absurd (hr.mp rfl) h2
    subst er
    refine ws_next ?_
    refine ws_ret (wp_allT (wi_str (wp_var rfl ⟨z, rfl, ?_, fun d hd => ?_, hs⟩)))
    · unfold charsD
      rw [List.length_map]
      exact sz_le (by omega)
    · unfold charsD at hd
      obtain ⟨c, hc, rfl⟩ := List.mem_map.mp hd
      exact wg_name (by simp) (wp_inS (wp_var rfl (wp_str ⟨c, _, rfl, rfl, by rw [decide_eq_true (h3 c hc)]⟩)))
def sp_once : Spc := fun ds S => ∃ (n : Nat) (xs : List D), n ≤ 63 ∧ (ds = [.lst xs] ∨ ds = [.tup xs]) ∧ xs.length ≤ 1000000 ∧ (∀ d ∈ xs, Pur n d) ∧ ∀ ys, (∀ d, d ∈ ys ↔ d ∈ xs) → ys.Nodup → (xs.Nodup → ys = xs) → ys.length ≤ xs.length → S (.lst ys)
theorem len_once : ∀ ds S, sp_once ds S → ds.length = 1 := by rintro _ _ ⟨_, _, _, rfl | rfl, _⟩ <;> rfl
theorem sc_once : FnScope ["things", "found", "thing"] ["things"] (defScope (topS 17)) := ⟨rfl, rfl, rfl, by decide +kernel, rfl, by decide +kernel, by decide +kernel⟩
/-! slots: 0 things, 1 found, 2 thing; cells: [] -/
theorem Txt.d_once (T : Txt K mg cH cS cQ) : Df P w K mg base 1 "once" ["things"] [] sp_once := by
  refine df_mk T.a_once sc_once (fun _ _ _ _ _ _ us hl => match us, hl with | [_], _ => rfl) len_once fun f cdv A outer s H E hr => ?_
  refine ⟨_,
    (pss_cons (ps_set (i := 1) sc_once.nd rfl (by first | exact Or.inl rfl | exact Or.inr rfl) (pe_lst pa_nil))
    (pss_cons (ps_for PassesOwn.never rfl (kPI (K := K) (w := iSeq) (pi_seq (pv 0))) (pg_name (i := 2) sc_once.nd rfl (by first | exact Or.inl rfl | exact Or.inr rfl))
      (pss_one (ps_if (pt_cmpR (kOp (K := K) (r := rNotInD) (op_notInD (rm_u hr))) (pv 2) (pv 1) rfl)
        (pss_one (ps_expr (kBM (K := K) (pe_bm PySem.F.plainAttrs_list PySem.F.slot_list_append PySem.F.type_list_append mt_append (pv 1) (pa_cons (pv 2) pa_nil)))))
        pss_nil)))
    (pss_one (ps_ret (pv 1))))), fun B ds S h => ?_⟩
  obtain ⟨n, xs, hn, hd, hz, hp, hs⟩ := h
  obtain ⟨d0, e0, hd0⟩ : ∃ d0, ds = [d0] ∧ (d0 = .lst xs ∨ d0 = .tup xs) := by
    rcases hd with rfl | rfl
    · exact ⟨_, rfl, .inl rfl⟩
    · exact ⟨_, rfl, .inr rfl⟩
  subst e0
  refine ws_seq (ws_asgN (wn_nil ?_))
  refine ws_seq (ws_for (vs := [2]) (wi_seqV (ds := xs) rfl hd0 ⟨fun i ρ' => ∃ ys s2, ρ' = [.d d0, .own (.lst ys), s2] ∧ (∀ d, d ∈ ys ↔ d ∈ xs.take i) ∧ ys.Nodup ∧ ((xs.take i).Nodup → ys = xs.take i) ∧ ys.length ≤ i, ⟨[], _, rfl, by simp, List.nodup_nil, fun _ => by simp, by simp⟩, ?_, ?_⟩))
  · rintro i d _ hd ⟨ys, s2, rfl, h1, h2, h3, h4⟩
    have et : xs.take (i + 1) = xs.take i ++ [d] := by rw [List.take_add_one, hd]; rfl
    have dx : d ∈ xs := List.mem_of_getElem? hd
    have yx : ∀ e ∈ ys, Pur n e := fun e he => hp e (List.mem_of_mem_take ((h1 e).mp he))
    refine wg_name (by simp) (ws_if (wt_peek (i := 1) rfl (.inl ⟨_, rfl⟩) (wt_B (wp_notInD (wp_var rfl (wp_var rfl ⟨n, ys, hn, rfl, hp d dx, yx, fun r hr => ⟨_, rfl, ?_⟩⟩))))))
    cases r with
    | true =>
      rw [Bool.not_true, if_neg Bool.false_ne_true]
      have dy : d ∈ ys := hr.mp rfl
      refine ws_next ⟨ys, _, rfl, fun e => ?_, h2, fun nd => ?_, by omega⟩
      · rw [et, List.mem_append, h1, List.mem_singleton]
        exact ⟨.inl, fun z => z.elim id fun z => by rw [z]; exact (h1 d).mp dy⟩
      · rw [et, List.nodup_append] at nd
        exact absurd rfl (nd.2.2 d ((h1 d).mp dy) d (List.mem_singleton.mpr rfl))
    | false =>
      rw [Bool.not_false, if_pos rfl]
      have dy : d ∉ ys := fun z => Bool.false_ne_true (hr.mpr z)
      refine ws_append (i := 1) rfl (sz_lt (by have := (List.getElem?_eq_some_iff.mp hd).1; omega)) (wp_var rfl ⟨ys ++ [d], _, rfl, fun e => ?_, ?_, fun nd => ?_, by rw [List.length_append, List.length_singleton]; omega⟩)
      · rw [et, List.mem_append, List.mem_append, h1]
      · rw [List.nodup_append]
        exact ⟨h2, by simp, fun a ha b hb e => dy (by rw [List.mem_singleton.mp hb] at e; rw [← e]; exact ha)⟩
      · rw [et] at nd ⊢
        rw [h3 (List.nodup_append.mp nd).1]
  · rintro _ ⟨ys, s2, rfl, h1, h2, h3, h4⟩
    rw [List.take_length] at h1 h3
    exact ws_share (i := 1) rfl (.inl ⟨_, rfl⟩) (ws_ret (wp_var rfl (hs ys h1 h2 h3 h4)))
def sp_is_table : Spc := fun ds S => ∃ t : Tab, ds = [dTab t] ∧ tabB t = true ∧ S (.bl true)
theorem len_is_table : ∀ ds S, sp_is_table ds S → ds.length = 1 := by rintro _ _ ⟨_, rfl, _⟩; rfl
theorem sc_is_table : FnScope ["value"] ["value"] (defScope (topS 20)) := ⟨rfl, rfl, rfl, by decide +kernel, rfl, by decide +kernel, by decide +kernel⟩
/-! slots: 0 value; cells: [] -/
theorem Txt.d_is_table (T : Txt K mg cH cS cQ) : Df P w K mg base 2 "is_table" ["value"] [] sp_is_table := by
  obtain ⟨_, hMOST_WIDTH⟩ := T.c_MOST_WIDTH
  refine df_mk T.a_is_table sc_is_table (fun _ _ _ _ _ _ us hl => match us, hl with | [_], _ => rfl) len_is_table fun f cdv A outer s H E hr => ?_
  refine ⟨_,
    (pss_cons (ps_if (PW.pt (pw_or (pt_not (pt_val (pe_callB (kCR (K := K) (r := rIsi) call_isi) (by rfl) T.f_isinstance (by decide +kernel) (pa_cons (pv 0) (pa_cons (pe_ty (n := "tuple") T.f_tuple) pa_nil))))) (pw_or (pt_cmpR op_ne (pe_callB (kCR (K := K) (r := rLenS) cr_len) (by rfl) T.f_len (by decide +kernel) (pa_cons (pv 0) pa_nil)) pe_int (nomark _)) (pw_or1 (pt_not (pt_val (pe_df T.d_is_word hr (by decide) (by rfl) (pa_cons (pe_ix (kIx (K := K) (r := rIx) ix_seq) (pv 0) pe_int (fun _ _ => rfl)) pa_nil))))))))
      (pss_one (ps_ret pe_bl))
      pss_nil)
    (pss_one (ps_ret (pe_and (pe_df T.d_is_integer hr (by decide) (by rfl) (pa_cons (pe_ix (kIx (K := K) (r := rIx) ix_seq) (pv 0) pe_int (fun _ _ => rfl)) pa_nil)) (pe_one (pe_chain op_le op_le pe_int (pe_ix (kIx (K := K) (r := rIx) ix_seq) (pv 0) pe_int (fun _ _ => rfl)) (pe_glob (v := .int 9) (by rfl) hMOST_WIDTH ⟨_, rfl⟩))))))), fun B ds S h => ?_⟩
  obtain ⟨t, rfl, ht, hs⟩ := h
  unfold tabB at ht
  rw [Bool.and_eq_true, Bool.and_eq_true] at ht
  obtain ⟨h1, h2, h3⟩ := ht
  have h2 := of_decide_eq_true h2
  have h3 := of_decide_eq_true h3
  refine ws_seq (ws_if (wt_or (wt_not (wt_B (wp_isi (wp_var rfl ⟨_, _, rfl, rfl, true, rfl, ?_⟩))))))
  refine wt_or (wt_B (wp_ne (wp_len (wa_cons (wp_var rfl (wa_nil ⟨_, .inr rfl, wp_int ⟨_, _, rfl, rfl, rfl, _, rfl, ?_⟩⟩))))))
  refine wt_not (wt_B (wp_call0 (wa_cons (wp_ix (wp_var rfl (wp_int ⟨_, _, _, .inr rfl, rfl, rfl, wa_nil ⟨.inr t.1, rfl, fun z e => by cases e; exact h1, _, rfl, ?_⟩⟩))))))
  refine ws_next (ws_ret (wp_andV (wp_call0 (wa_cons (wp_ix (wp_var rfl (wp_int ⟨_, _, _, .inr rfl, rfl, rfl, wa_nil ⟨.inl (t.2 : Nat), rfl, _, rfl, ?_⟩⟩)))))))
  rw [show (Sum.isLeft (Sum.inl ((t.2 : Nat) : Int) : Tm)) = true from rfl, if_pos rfl]
  refine wp_chainLe (wp_int (wp_ix (wp_var rfl (wp_int ⟨_, _, _, .inr rfl, rfl, rfl, 1, (t.2 : Nat), rfl, rfl, ?_⟩))))
  rw [if_pos (by omega)]
  refine wp_int ⟨9, rfl, ?_⟩
  rw [decide_eq_true (by omega)]
  exact hs
def sp_are_tables : Spc := fun ds S => ∃ l : List Tab, (ds = [.lst (l.map dTab)] ∨ ds = [.tup (l.map dTab)]) ∧ TabsOk l ∧ S (.bl true)
theorem len_are_tables : ∀ ds S, sp_are_tables ds S → ds.length = 1 := by rintro _ _ ⟨_, rfl | rfl, _⟩ <;> rfl
theorem word_ok {z : Str} (h : wordB z = true) : PyData.strOk z = true := by
  obtain ⟨_, _, h3, _⟩ := word_of h
  unfold PyData.strOk
  rw [← Array.all_toList]
  refine List.all_eq_true.mpr fun c hc => ?_
  have all : ∀ c ∈ (Str.ofString "abcdefghijklmnopqrstuvwxyz").cps.toList, decide (c < 0x110000) = true := by decide +kernel
  exact all c (h3 c hc)
theorem sc_are_tables : FnScope ["value", "table", "word", "width"] ["value"] (defScope (topS 21)) := ⟨rfl, rfl, rfl, by decide +kernel, rfl, by decide +kernel, by decide +kernel⟩
/-! slots: 0 value, 1 table, 2 word, 3 width; cells: [] -/
theorem Txt.d_are_tables (T : Txt K mg cH cS cQ) : Df P w K mg base 3 "are_tables" ["value"] [] sp_are_tables := by
  refine df_mk T.a_are_tables sc_are_tables (fun _ _ _ _ _ _ us hl => match us, hl with | [_], _ => rfl) len_are_tables fun f cdv A outer s H E hr => ?_
  refine ⟨_,
    (pss_cons (ps_if (PW.pt (pw_or (pt_not (pt_val (pe_df T.d_is_sequence hr (by decide) (by rfl) (pa_cons (pv 0) pa_nil)))) (pw_or (pt_cmpR op_eq (pe_callB (kCR (K := K) (r := rLenS) cr_len) (by rfl) T.f_len (by decide +kernel) (pa_cons (pv 0) pa_nil)) pe_int (nomark _)) (pw_or1 (pt_not (pt_val (pe_callB (kCR (K := K) (r := rAll) (cr_all rfl)) (by rfl) T.f_all (by decide +kernel) (pa_cons (pe_lc (own := [("table", 1)]) rfl sc_are_tables.nd (kPI (K := K) (w := iSeq) (pi_seq (pv 0))) (blkOk_by (own := [("table", 1)]) (by first | (show blkC ["value", "table", "word", "width"] (defScope (topS 21)) _ _ = true; decide +kernel) | rfl)) (fun _ _ _ _ _ => by exact (pg_name (i := 1) sc_are_tables.nd rfl (by first | exact Or.inl rfl | exact Or.inr rfl))) (fun _ _ _ _ _ => by exact pts_nil) (fun _ _ _ _ _ => by exact (pe_df T.d_is_table hr (by decide) (by rfl) (pa_cons (pv 1) pa_nil)))) pa_nil))))))))
      (pss_one (ps_ret pe_bl))
      pss_nil)
    (pss_one (ps_ret (pe_cmpR op_eq (pe_callB (kCR (K := K) (r := rLenS) cr_len) (by rfl) T.f_len (by decide +kernel) (pa_cons (pe_df T.d_once hr (by decide) (by rfl) (pa_cons (pe_lc (own := [("word", 2), ("width", 3)]) rfl sc_are_tables.nd (kPI (K := K) (w := iSeq) (pi_seq (pv 0))) (blkOk_by (own := [("word", 2), ("width", 3)]) (by first | (show blkC ["value", "table", "word", "width"] (defScope (topS 21)) _ _ = true; decide +kernel) | rfl)) (fun _ _ _ _ _ => by exact (kPG (K := K) (w := gTup) (pg_tup (n := 2) rfl (pgs_cons (pg_name (i := 2) sc_are_tables.nd rfl (by first | exact Or.inl rfl | exact Or.inr rfl)) (pgs_cons (pg_name (i := 3) sc_are_tables.nd rfl (by first | exact Or.inl rfl | exact Or.inr rfl)) pgs_nil))))) (fun _ _ _ _ _ => by exact pts_nil) (fun _ _ _ _ _ => by exact (pv 2))) pa_nil)) pa_nil)) (pe_callB (kCR (K := K) (r := rLenS) cr_len) (by rfl) T.f_len (by decide +kernel) (pa_cons (pv 0) pa_nil)) (nomark _))))), fun B ds S h => ?_⟩
  obtain ⟨l, hd, hl, hs⟩ := h
  obtain ⟨d0, e0, hd0⟩ : ∃ d0, ds = [d0] ∧ (d0 = .lst (l.map dTab) ∨ d0 = .tup (l.map dTab)) := by
    rcases hd with rfl | rfl
    · exact ⟨_, rfl, .inl rfl⟩
    · exact ⟨_, rfl, .inr rfl⟩
  subst e0
  have len1 : (l.map dTab).length ≤ sizeLine := by rw [List.length_map]; exact sz_le (by have := hl.few; omega)
  have seq : ([d0] = [.lst (l.map dTab)] ∨ [d0] = [.tup (l.map dTab)]) := hd0.imp (fun e => by rw [e]) fun e => by rw [e]
  refine ws_seq (ws_if (wt_or (wt_not (wt_B (wp_call0 (wa_cons (wp_var rfl (wa_nil ⟨l.map dTab, seq, _, rfl, ?_⟩))))))))
  refine wt_or (wt_B (wp_eq (wp_len (wa_cons (wp_var rfl (wa_nil ⟨l.map dTab, seq, wp_int ⟨_, _, rfl, rfl, rfl, _, rfl, ?_⟩⟩))))))
  have nz : ((l.map dTab).length : Int) ≠ 0 := by
    rw [List.length_map]
    have := hl.some
    cases l with
    | nil => exact absurd rfl this
    | cons a l => simp; omega
  rw [decide_eq_false (by intro e; exact nz (V.int.inj e))]
  refine wt_not (wt_B (wp_allT (wi_seqV (ds := l.map dTab) rfl hd0 ⟨len1, fun d hd => ?_, _, rfl, ?_⟩)))
  · obtain ⟨t, ht, rfl⟩ := List.mem_map.mp hd
    exact wg_name (by simp) (wp_call0 (wa_cons (wp_var rfl (wa_nil ⟨t, rfl, hl.each t ht, rfl⟩))))
  · refine ws_next (ws_ret (wp_eq (wp_len (wa_cons (wp_call0 (wa_cons (wp_lcMap (wi_seqV (ds := l.map dTab) rfl hd0 ⟨len1, dFst, fun d hd => ?_, ?_⟩))))))))
    · obtain ⟨t, ht, rfl⟩ := List.mem_map.mp hd
      exact wg_tup rfl (wg_cons (wg_name (by simp) (wg_cons (wg_name (by simp) (wg_nil (wp_var rfl rfl))))))
    · have e1 : (l.map dTab).map dFst = (l.map (·.1)).map D.str := by rw [List.map_map, List.map_map]; rfl
      have nd : ((l.map (·.1)).map D.str).Nodup := List.Pairwise.map _ (fun a b h e => h (D.str.inj e)) hl.nodup
      rw [e1]
      refine wa_nil ⟨0, _, by omega, .inl rfl, by rw [List.length_map, List.length_map]; have := hl.few; omega, fun d hd => ?_, fun ys _ _ h3 _ => wa_nil ⟨ys, .inl rfl, wp_len (wa_cons (wp_var rfl (wa_nil ⟨l.map dTab, seq, _, _, rfl, rfl, rfl, ?_⟩)))⟩⟩
      · obtain ⟨x, hx, rfl⟩ := List.mem_map.mp hd
        obtain ⟨t, ht, rfl⟩ := List.mem_map.mp hx
        have := hl.each t ht
        unfold tabB at this
        rw [Bool.and_eq_true] at this
        exact .str 0 _ (word_ok this.1)
      · rw [h3 nd, List.length_map, List.length_map, List.length_map, decide_eq_true rfl]
        exact hs
def sp_are_columns : Spc := fun ds S => ∃ (cols : List Nat) (n : Nat), ds = [dNats cols, .int (n : Nat)] ∧ ColsOk cols n ∧ S (.bl true)
theorem len_are_columns : ∀ ds S, sp_are_columns ds S → ds.length = 2 := by rintro _ _ ⟨_, _, rfl, _⟩; rfl
theorem cutD_drop1 {ds : List D} : cutD ds (some 1) none = ds.drop 1 := cutD_from (k := 1)
theorem sc_are_columns : FnScope ["value", "width", "column", "one", "other"] ["value", "width"] (defScope (topS 22)) := ⟨rfl, rfl, rfl, by decide +kernel, rfl, by decide +kernel, by decide +kernel⟩
/-! slots: 0 value, 1 width, 2 column, 3 one, 4 other; cells: ['width'] -/
theorem Txt.d_are_columns (T : Txt K mg cH cS cQ) : Df P w K mg base 3 "are_columns" ["value", "width"] [] sp_are_columns := by
  refine df_mk T.a_are_columns sc_are_columns (fun _ _ _ _ _ _ us hl => match us, hl with | [_, _], _ => rfl) len_are_columns fun f cdv A outer s H E hr => ?_
  refine ⟨_,
    (pss_cons (ps_if (PW.pt (pw_or (pt_not (pt_val (pe_callB (kCR (K := K) (r := rIsi) call_isi) (by rfl) T.f_isinstance (by decide +kernel) (pa_cons (pv 0) (pa_cons (pe_ty (n := "tuple") T.f_tuple) pa_nil))))) (pw_or1 (pt_not (pt_val (pe_callB (kCR (K := K) (r := rAll) (cr_all rfl)) (by rfl) T.f_all (by decide +kernel) (pa_cons (pe_lc (own := [("column", 2)]) rfl sc_are_columns.nd (kPI (K := K) (w := iSeq) (pi_seq (pv 0))) (blkOk_by (own := [("column", 2)]) (by first | (show blkC ["value", "width", "column", "one", "other"] (defScope (topS 22)) _ _ = true; decide +kernel) | rfl)) (fun _ _ _ _ _ => by exact (pg_name (i := 2) sc_are_columns.nd rfl (by first | exact Or.inl rfl | exact Or.inr rfl))) (fun _ _ _ _ _ => by exact pts_nil) (fun _ _ _ _ _ => by exact (pe_and (pe_df T.d_is_number hr (by decide) (by rfl) (pa_cons (pv 2) pa_nil)) (pe_one (pe_cmpR op_lt (pv 2) (pv 1) (nomark _)))))) pa_nil)))))))
      (pss_one (ps_ret pe_bl))
      pss_nil)
    (pss_one (ps_ret (pe_callB (kCR (K := K) (r := rAll) (cr_all rfl)) (by rfl) T.f_all (by decide +kernel) (pa_cons (pe_lc (own := [("one", 3), ("other", 4)]) rfl sc_are_columns.nd (kPI (K := K) (w := RZ.iZipA) (RZ.pi_zipA (by rfl) T.f_zip (pa_cons (pv 0) (pa_cons (pe_slice (kSl (K := K) (r := rSlA) sl_tupA) (pv 0) (po_some pe_int) po_none) pa_nil)))) (blkOk_by (own := [("one", 3), ("other", 4)]) (by first | (show blkC ["value", "width", "column", "one", "other"] (defScope (topS 22)) _ _ = true; decide +kernel) | rfl)) (fun _ _ _ _ _ => by exact (kPG (K := K) (w := gTup) (pg_tup (n := 2) rfl (pgs_cons (pg_name (i := 3) sc_are_columns.nd rfl (by first | exact Or.inl rfl | exact Or.inr rfl)) (pgs_cons (pg_name (i := 4) sc_are_columns.nd rfl (by first | exact Or.inl rfl | exact Or.inr rfl)) pgs_nil))))) (fun _ _ _ _ _ => by exact pts_nil) (fun _ _ _ _ _ => by exact (pe_cmpR op_lt (pv 3) (pv 4) (nomark _)))) pa_nil))))), fun B ds S h => ?_⟩
  obtain ⟨cols, n, rfl, hc, hs⟩ := h
  have len1 : (cols.map fun n => D.int (n : Nat)).length ≤ sizeLine := by rw [List.length_map]; exact sz_le (by have := hc.few; omega)
  refine ws_seq (ws_if (wt_or (wt_not (wt_B (wp_isi (wp_var rfl ⟨_, _, rfl, rfl, true, rfl, ?_⟩))))))
  refine wt_not (wt_B (wp_allT (wi_seqV (ds := cols.map fun n => D.int (n : Nat)) rfl (.inr rfl) ⟨len1, fun d hd => ?_, _, rfl, ?_⟩)))
  · obtain ⟨c, hc', rfl⟩ := List.mem_map.mp hd
    refine wg_name (by simp) (wp_andV (wp_call0 (wa_cons (wp_var rfl (wa_nil ⟨.inl (c : Nat), rfl, _, rfl, ?_⟩)))))
    rw [numB_nat, if_pos rfl]
    refine wp_lt (wp_var rfl (wp_var rfl ⟨_, _, rfl, rfl, ?_⟩))
    rw [decide_eq_true (by have := hc.lt c hc'; omega)]
  · refine ws_next (ws_ret (wp_allT (wi_zip (wa_cons (wp_var rfl (wa_cons (wp_slT (wp_var rfl (wo_some (wp_int ⟨_, rfl, wo_none ⟨_, rfl, wa_nil ⟨_, _, .inr rfl, ?_, fun d hd => ?_, hs⟩⟩⟩))))))))))
    · rw [zipD_len]
      exact Nat.le_trans (Nat.min_le_left _ _) len1
    · obtain ⟨i, hi⟩ := List.mem_iff_getElem?.mp hd
      obtain ⟨x, y, hx, hy, rfl⟩ := zipD_get hi
      rw [cutD_drop1, List.getElem?_drop] at hy
      rw [List.getElem?_map] at hx hy
      cases h1 : cols[i]? with
      | none => rw [h1] at hx; cases hx
      | some a =>
        cases h2 : cols[1 + i]? with
        | none => rw [h2] at hy; cases hy
        | some b =>
          rw [h1] at hx
          rw [h2] at hy
          cases hx
          cases hy
          refine wg_tup rfl (wg_cons (wg_name (by simp) (wg_cons (wg_name (by simp) (wg_nil (wp_lt (wp_var rfl (wp_var rfl ⟨_, _, rfl, rfl, ?_⟩))))))))
          have : a < b := by
            obtain ⟨l1, e1⟩ := List.getElem?_eq_some_iff.mp h1
            obtain ⟨l2, e2⟩ := List.getElem?_eq_some_iff.mp h2
            have := List.pairwise_iff_getElem.mp hc.up i (1 + i) l1 l2 (by omega)
            rw [e1, e2] at this
            exact this
          rw [decide_eq_true (by omega)]
end
end FS

/-! FsU2: rules, rows, terms, atoms, members. -/
namespace FS
open PySem L2
section
variable {P : Program} {w : World} {K : PySem.W.Frag} {mg : Str → Option Value} {base : Heap} {cH cS cQ : Addr}
def sp_is_rule : Spc := fun ds S => ∃ (r : Rul) (l : List Tab), ds = [dRul r, dWids l] ∧ RulOk l r ∧ S (.bl true)
theorem len_is_rule : ∀ ds S, sp_is_rule ds S → ds.length = 2 := by rintro _ _ ⟨_, _, rfl, _⟩; rfl
theorem sc_is_rule : FnScope ["value", "widths"] ["value", "widths"] (defScope (topS 23)) := ⟨rfl, rfl, rfl, by decide +kernel, rfl, by decide +kernel, by decide +kernel⟩
/-! slots: 0 value, 1 widths; cells: [] -/
theorem Txt.d_is_rule (T : Txt K mg cH cS cQ) : Df P w K mg base 4 "is_rule" ["value", "widths"] [] sp_is_rule := by
  refine df_mk T.a_is_rule sc_is_rule (fun _ _ _ _ _ _ us hl => match us, hl with | [_, _], _ => rfl) len_is_rule fun f cdv A outer s H E hr => ?_
  refine ⟨_,
    (pss_cons (ps_if (PW.pt (pw_or (pt_not (pt_val (pe_callB (kCR (K := K) (r := rIsi) call_isi) (by rfl) T.f_isinstance (by decide +kernel) (pa_cons (pv 0) (pa_cons (pe_ty (n := "tuple") T.f_tuple) pa_nil))))) (pw_or (pt_cmpR op_ne (pe_callB (kCR (K := K) (r := rLenS) cr_len) (by rfl) T.f_len (by decide +kernel) (pa_cons (pv 0) pa_nil)) pe_int (nomark _)) (pw_or (pt_not (pt_val (pe_callB (kCR (K := K) (r := rIsi) call_isi) (by rfl) T.f_isinstance (by decide +kernel) (pa_cons (pe_ix (kIx (K := K) (r := rIx) ix_seq) (pv 0) pe_int (fun _ _ => rfl)) (pa_cons (pe_ty (n := "str") T.f_str) pa_nil))))) (pw_or1 (pt_cmp (pc_dnotin (rm_u hr) (pe_ix (kIx (K := K) (r := rIx) ix_seq) (pv 0) pe_int (fun _ _ => rfl)) (pv 1)) rfl))))))
      (pss_one (ps_ret pe_bl))
      pss_nil)
    (pss_cons (ps_if (pt_not (pt_val (pe_df T.d_are_columns hr (by decide) (by rfl) (pa_cons (pe_ix (kIx (K := K) (r := rIx) ix_seq) (pv 0) pe_int (fun _ _ => rfl)) (pa_cons (pe_dget (rm_u hr) (pv 1) (pe_ix (kIx (K := K) (r := rIx) ix_seq) (pv 0) pe_int (fun _ _ => rfl)) (fun _ _ => rfl)) pa_nil)))))
      (pss_one (ps_ret pe_bl))
      pss_nil)
    (pss_one (ps_ret (pe_and (pe_df T.d_is_number hr (by decide) (by rfl) (pa_cons (pe_ix (kIx (K := K) (r := rIx) ix_seq) (pv 0) pe_int (fun _ _ => rfl)) pa_nil)) (pe_and (pe_cmpR op_lt (pe_ix (kIx (K := K) (r := rIx) ix_seq) (pv 0) pe_int (fun _ _ => rfl)) (pe_dget (rm_u hr) (pv 1) (pe_ix (kIx (K := K) (r := rIx) ix_seq) (pv 0) pe_int (fun _ _ => rfl)) (fun _ _ => rfl)) (nomark _)) (pe_one (pe_cmpR (kOp (K := K) (r := fun K => rIn K true) op_notIn_seq) (pe_ix (kIx (K := K) (r := rIx) ix_seq) (pv 0) pe_int (fun _ _ => rfl)) (pe_ix (kIx (K := K) (r := rIx) ix_seq) (pv 0) pe_int (fun _ _ => rfl)) rfl)))))))), fun B ds S h => ?_⟩
  obtain ⟨r, l, rfl, ⟨wd, hw, hc, hl, hn⟩, hs⟩ := h
  have kg : kget (l.map fun t => ((.inr t.1 : Key), D.int (t.2 : Nat))) (.inr r.1) = some (.int (wd : Nat)) := by rw [kget_wids, hw]; rfl
  refine ws_seq (ws_if (wt_or (wt_not (wt_B (wp_isi (wp_var rfl ⟨_, _, rfl, rfl, true, rfl, ?_⟩))))))
  refine wt_or (wt_B (wp_ne (wp_len (wa_cons (wp_var rfl (wa_nil ⟨_, .inr rfl, wp_int ⟨_, _, rfl, rfl, rfl, _, rfl, ?_⟩⟩))))))
  refine wt_or (wt_not (wt_B (wp_isi (wp_ix (wp_var rfl (wp_int ⟨_, _, _, .inr rfl, rfl, rfl, _, _, rfl, rfl, true, rfl, ?_⟩))))))
  refine wt_B (wp_dnotin (wp_ix (wp_var rfl (wp_int ⟨_, _, _, .inr rfl, rfl, rfl, wp_var rfl ⟨_, .inr r.1, rfl, rfl, _, rfl, ?_⟩⟩))))
  rw [kg]
  refine ws_next (ws_seq (ws_if (wt_not (wt_B (wp_call0 (wa_cons (wp_ix (wp_var rfl (wp_int ⟨_, _, _, .inr rfl, rfl, rfl, wa_cons (wp_dget (wp_var rfl (wp_ix (wp_var rfl (wp_int ⟨_, _, _, .inr rfl, rfl, rfl, _, .inr r.1, _, rfl, rfl, kg, wa_nil ⟨r.2.1, wd, rfl, hc, _, rfl, ?_⟩⟩)))))⟩)))))))))
  refine ws_next (ws_ret (wp_andV (wp_call0 (wa_cons (wp_ix (wp_var rfl (wp_int ⟨_, _, _, .inr rfl, rfl, rfl, wa_nil ⟨.inl (r.2.2 : Nat), rfl, _, rfl, ?_⟩⟩)))))))
  rw [numB_nat, if_pos rfl]
  refine wp_andV (wp_lt (wp_ix (wp_var rfl (wp_int ⟨_, _, _, .inr rfl, rfl, rfl, wp_dget (wp_var rfl (wp_ix (wp_var rfl (wp_int ⟨_, _, _, .inr rfl, rfl, rfl, _, .inr r.1, _, rfl, rfl, kg, _, _, rfl, rfl, _, rfl, ?_⟩))))⟩))))
  rw [if_pos (by simp; omega)]
  refine wp_in (wp_ix (wp_var rfl (wp_int ⟨_, _, _, .inr rfl, rfl, rfl, wp_ix (wp_var rfl (wp_int ⟨_, _, _, .inr rfl, rfl, rfl, _, .inr rfl, rfl, rfl, fun d hd => ?_, fun q hq => ?_⟩))⟩)))
  · obtain ⟨c, _, rfl⟩ := List.mem_map.mp hd
    exact ⟨rfl, rfl⟩
  · have : q = false := by
      cases q with
      | false => rfl
      | true =>
        obtain ⟨c, hc', e⟩ := List.mem_map.mp (hq.mp rfl)
        have : c = r.2.2 := Int.ofNat.inj (D.int.inj e)
        exact absurd (this ▸ hc') hn
    subst this
    exact hs
def sp_is_row : Spc := fun ds S => ∃ (r : Row) (l : List Tab), ds = [dRow r, dWids l] ∧ RowOk l r ∧ S (.bl true)
theorem len_is_row : ∀ ds S, sp_is_row ds S → ds.length = 2 := by rintro _ _ ⟨_, _, rfl, _⟩; rfl
theorem sc_is_row : FnScope ["value", "widths", "number"] ["value", "widths"] (defScope (topS 24)) := ⟨rfl, rfl, rfl, by decide +kernel, rfl, by decide +kernel, by decide +kernel⟩
/-! slots: 0 value, 1 widths, 2 number; cells: [] -/
theorem Txt.d_is_row (T : Txt K mg cH cS cQ) : Df P w K mg base 3 "is_row" ["value", "widths"] [] sp_is_row := by
  refine df_mk T.a_is_row sc_is_row (fun _ _ _ _ _ _ us hl => match us, hl with | [_, _], _ => rfl) len_is_row fun f cdv A outer s H E hr => ?_
  refine ⟨_,
    (pss_cons (ps_if (PW.pt (pw_or (pt_not (pt_val (pe_callB (kCR (K := K) (r := rIsi) call_isi) (by rfl) T.f_isinstance (by decide +kernel) (pa_cons (pv 0) (pa_cons (pe_ty (n := "tuple") T.f_tuple) pa_nil))))) (pw_or (pt_cmpR op_ne (pe_callB (kCR (K := K) (r := rLenS) cr_len) (by rfl) T.f_len (by decide +kernel) (pa_cons (pv 0) pa_nil)) pe_int (nomark _)) (pw_or (pt_not (pt_val (pe_callB (kCR (K := K) (r := rIsi) call_isi) (by rfl) T.f_isinstance (by decide +kernel) (pa_cons (pe_ix (kIx (K := K) (r := rIx) ix_seq) (pv 0) pe_int (fun _ _ => rfl)) (pa_cons (pe_ty (n := "str") T.f_str) pa_nil))))) (pw_or1 (pt_cmp (pc_dnotin (rm_u hr) (pe_ix (kIx (K := K) (r := rIx) ix_seq) (pv 0) pe_int (fun _ _ => rfl)) (pv 1)) rfl))))))
      (pss_one (ps_ret pe_bl))
      pss_nil)
    (pss_cons (ps_if (PW.pt (pw_or (pt_not (pt_val (pe_callB (kCR (K := K) (r := rIsi) call_isi) (by rfl) T.f_isinstance (by decide +kernel) (pa_cons (pe_ix (kIx (K := K) (r := rIx) ix_seq) (pv 0) pe_int (fun _ _ => rfl)) (pa_cons (pe_ty (n := "tuple") T.f_tuple) pa_nil))))) (pw_or1 (pt_cmpR op_ne (pe_callB (kCR (K := K) (r := rLenS) cr_len) (by rfl) T.f_len (by decide +kernel) (pa_cons (pe_ix (kIx (K := K) (r := rIx) ix_seq) (pv 0) pe_int (fun _ _ => rfl)) pa_nil)) (pe_dget (rm_u hr) (pv 1) (pe_ix (kIx (K := K) (r := rIx) ix_seq) (pv 0) pe_int (fun _ _ => rfl)) (fun _ _ => rfl)) (nomark _)))))
      (pss_one (ps_ret pe_bl))
      pss_nil)
    (pss_one (ps_ret (pe_callB (kCR (K := K) (r := rAll) (cr_all rfl)) (by rfl) T.f_all (by decide +kernel) (pa_cons (pe_lc (own := [("number", 2)]) rfl sc_is_row.nd (kPI (K := K) (w := iTup) (pi_tup (pe_ix (kIx (K := K) (r := rIx) ix_seq) (pv 0) pe_int (fun _ _ => rfl)))) (blkOk_by (own := [("number", 2)]) (by first | (show blkC ["value", "widths", "number"] (defScope (topS 24)) _ _ = true; decide +kernel) | rfl)) (fun _ _ _ _ _ => by exact (pg_name (i := 2) sc_is_row.nd rfl (by first | exact Or.inl rfl | exact Or.inr rfl))) (fun _ _ _ _ _ => by exact pts_nil) (fun _ _ _ _ _ => by exact (pe_df T.d_is_number hr (by decide) (by rfl) (pa_cons (pv 2) pa_nil)))) pa_nil)))))), fun B ds S h => ?_⟩
  obtain ⟨r, l, rfl, ⟨hw, hn, hf⟩, hs⟩ := h
  have kg : kget (l.map fun t => ((.inr t.1 : Key), D.int (t.2 : Nat))) (.inr r.1) = some (.int (r.2.length : Nat)) := by rw [kget_wids, hw]; rfl
  refine ws_seq (ws_if (wt_or (wt_not (wt_B (wp_isi (wp_var rfl ⟨_, _, rfl, rfl, true, rfl, ?_⟩))))))
  refine wt_or (wt_B (wp_ne (wp_len (wa_cons (wp_var rfl (wa_nil ⟨_, .inr rfl, wp_int ⟨_, _, rfl, rfl, rfl, _, rfl, ?_⟩⟩))))))
  refine wt_or (wt_not (wt_B (wp_isi (wp_ix (wp_var rfl (wp_int ⟨_, _, _, .inr rfl, rfl, rfl, _, _, rfl, rfl, true, rfl, ?_⟩))))))
  refine wt_B (wp_dnotin (wp_ix (wp_var rfl (wp_int ⟨_, _, _, .inr rfl, rfl, rfl, wp_var rfl ⟨_, .inr r.1, rfl, rfl, _, rfl, ?_⟩⟩))))
  rw [kg]
  refine ws_next (ws_seq (ws_if (wt_or (wt_not (wt_B (wp_isi (wp_ix (wp_var rfl (wp_int ⟨_, _, _, .inr rfl, rfl, rfl, _, _, rfl, rfl, true, rfl, ?_⟩)))))))))
  refine wt_B (wp_ne (wp_len (wa_cons (wp_ix (wp_var rfl (wp_int ⟨_, _, _, .inr rfl, rfl, rfl, wa_nil ⟨_, .inr rfl, wp_dget (wp_var rfl (wp_ix (wp_var rfl (wp_int ⟨_, _, _, .inr rfl, rfl, rfl, _, .inr r.1, _, rfl, rfl, kg, _, _, rfl, rfl, rfl, _, rfl, ?_⟩))))⟩⟩))))))
  rw [List.length_map, decide_eq_true rfl]
  refine ws_next (ws_ret (wp_allT (wi_tup (wp_ix (wp_var rfl (wp_int ⟨_, _, _, .inr rfl, rfl, rfl, _, rfl, ?_, fun d hd => ?_, hs⟩))))))
  · rw [List.length_map]
    exact sz_le (by omega)
  · obtain ⟨c, hc, rfl⟩ := List.mem_map.mp hd
    refine wg_name (by simp) (wp_call0 (wa_cons (wp_var rfl (wa_nil ⟨.inl c, rfl, ?_⟩))))
    rw [show numB (Sum.inl c) = true from decide_eq_true (hn c hc)]
def sp_is_term : Spc := fun ds S => ∃ k : Tm, ds = [kD k] ∧ tmB k = true ∧ S (.bl true)
theorem len_is_term : ∀ ds S, sp_is_term ds S → ds.length = 1 := by rintro _ _ ⟨_, rfl, _⟩; rfl
theorem sc_is_term : FnScope ["value"] ["value"] (defScope (topS 36)) := ⟨rfl, rfl, rfl, by decide +kernel, rfl, by decide +kernel, by decide +kernel⟩
/-! slots: 0 value; cells: [] -/
theorem Txt.d_is_term (T : Txt K mg cH cS cQ) : Df P w K mg base 3 "is_term" ["value"] [] sp_is_term := by
  refine df_mk T.a_is_term sc_is_term (fun _ _ _ _ _ _ us hl => match us, hl with | [_], _ => rfl) len_is_term fun f cdv A outer s H E hr => ?_
  refine ⟨_,
    (pss_one (ps_ret (pe_or (pe_df T.d_is_word hr (by decide) (by rfl) (pa_cons (pv 0) pa_nil)) (pe_one (pe_df T.d_is_number hr (by decide) (by rfl) (pa_cons (pv 0) pa_nil)))))), fun B ds S h => ?_⟩
  obtain ⟨k, rfl, hk, hs⟩ := h
  refine ws_ret (wp_orV (wp_call0 (wa_cons (wp_var rfl (wa_nil ⟨k, rfl, fun z e => by subst e; exact hk, _, rfl, ?_⟩)))))
  cases k with
  | inr z => exact hs
  | inl i =>
    refine wp_call0 (wa_cons (wp_var rfl (wa_nil ⟨.inl i, rfl, ?_⟩)))
    rw [show numB (Sum.inl i) = true from hk]
    exact hs
def sp_words_in : Spc := fun ds S => ∃ ts : List Tm, (ds = [.lst (ts.map kD)] ∨ ds = [.tup (ts.map kD)]) ∧ ts.length ≤ 1000000 ∧ S (.lst ((nmsOf ts).map D.str))
theorem len_words_in : ∀ ds S, sp_words_in ds S → ds.length = 1 := by rintro _ _ ⟨_, rfl | rfl, _⟩ <;> rfl
theorem sc_words_in : FnScope ["terms", "term"] ["terms"] (defScope (topS 38)) := ⟨rfl, rfl, rfl, by decide +kernel, rfl, by decide +kernel, by decide +kernel⟩
/-! slots: 0 terms, 1 term; cells: [] -/
theorem Txt.d_words_in (T : Txt K mg cH cS cQ) : Df P w K mg base 1 "words_in" ["terms"] [] sp_words_in := by
  refine df_mk T.a_words_in sc_words_in (fun _ _ _ _ _ _ us hl => match us, hl with | [_], _ => rfl) len_words_in fun f cdv A outer s H E hr => ?_
  refine ⟨_,
    (pss_one (ps_ret (pe_lc (own := [("term", 1)]) rfl sc_words_in.nd (kPI (K := K) (w := iSeq) (pi_seq (pv 0))) (blkOk_by (own := [("term", 1)]) (by first | (show blkC ["terms", "term"] (defScope (topS 38)) _ _ = true; decide +kernel) | rfl)) (fun _ _ _ _ _ => by exact (pg_name (i := 1) sc_words_in.nd rfl (by first | exact Or.inl rfl | exact Or.inr rfl))) (fun _ _ _ _ _ => by exact (pts_one (pt_val (pe_callB (kCR (K := K) (r := rIsi) call_isi) (by rfl) T.f_isinstance (by decide +kernel) (pa_cons (pv 1) (pa_cons (pe_ty (n := "str") T.f_str) pa_nil)))))) (fun _ _ _ _ _ => by exact (pv 1))))), fun B ds S h => ?_⟩
  obtain ⟨ts, hd, hz, hs⟩ := h
  obtain ⟨d0, e0, hd0⟩ : ∃ d0, ds = [d0] ∧ (d0 = .lst (ts.map kD) ∨ d0 = .tup (ts.map kD)) := by
    rcases hd with rfl | rfl
    · exact ⟨_, rfl, .inl rfl⟩
    · exact ⟨_, rfl, .inr rfl⟩
  subst e0
  refine ws_ret (wp_lcIf (wi_seqV (ds := ts.map kD) rfl hd0 ⟨by rw [List.length_map]; exact sz_le hz, isStrD, id, fun d hd => ?_, ?_⟩))
  · obtain ⟨t, ht, rfl⟩ := List.mem_map.mp hd
    cases t with
    | inl i => exact wg_name (by simp) (wt_B (wp_isi (wp_var rfl ⟨_, _, rfl, rfl, false, rfl, rfl, fun z => by cases z⟩)))
    | inr x => exact wg_name (by simp) (wt_B (wp_isi (wp_var rfl ⟨_, _, rfl, rfl, true, rfl, rfl, fun _ => wp_var rfl rfl⟩)))
  · rw [nms_D, List.map_id]
    exact hs
def dNames (ns : List Str) : D := .dic (ns.map fun x => (.inr x, .bl true))
def sp_names_in : Spc := fun ds S => ∃ as : List At, (ds = [.lst (as.map dAt)] ∨ ds = [.tup (as.map dAt)]) ∧ as.length ≤ 1000 ∧ (∀ a ∈ as, a.2.length ≤ 100) ∧ ∀ ns : List Str, ns.Nodup → (∀ x, x ∈ ns ↔ InAts x as) → ns.length ≤ 100000 → S (dNames ns)
theorem len_names_in : ∀ ds S, sp_names_in ds S → ds.length = 1 := by rintro _ _ ⟨_, rfl | rfl, _⟩ <;> rfl
theorem kput_names (ns : List Str) (x : Str) : kput (ns.map fun x => ((.inr x : Key), D.bl true)) (.inr x) (.bl true) = if x ∈ ns then ns.map (fun x => ((.inr x : Key), D.bl true)) else (ns ++ [x]).map fun x => ((.inr x : Key), D.bl true) := by
  unfold kput
  have ea : ((ns.map fun x => ((.inr x : Key), D.bl true)).any fun kv => decide (kv.1 = .inr x)) = decide (x ∈ ns) := by
    induction ns with
    | nil => simp
    | cons y ns ih =>
      rw [List.map_cons, List.any_cons, ih]
      by_cases e : y = x
      · simp [e]
      · have e' : ¬ (Sum.inr y : Key) = .inr x := fun z => e (Sum.inr.inj z)
        simp [e, e', Ne.symm e]
  rw [ea]
  by_cases h : x ∈ ns
  · rw [if_pos h, if_pos (decide_eq_true h), List.map_map]
    refine List.map_congr_left fun y _ => ?_
    show (if (Sum.inr y : Key) = .inr x then ((Sum.inr y : Key), D.bl true) else (Sum.inr y, D.bl true)) = _
    split <;> rfl
  · rw [if_neg h, if_neg (by rw [decide_eq_false h]; exact Bool.false_ne_true), List.map_append]
    rfl
theorem sc_names_in : FnScope ["atoms", "table", "terms", "term"] ["atoms"] (defScope (topS 39)) := ⟨rfl, rfl, rfl, by decide +kernel, rfl, by decide +kernel, by decide +kernel⟩
/-! slots: 0 atoms, 1 table, 2 terms, 3 term; cells: [] -/
theorem Txt.d_names_in (T : Txt K mg cH cS cQ) : Df P w K mg base 2 "names_in" ["atoms"] [] sp_names_in := by
  refine df_mk T.a_names_in sc_names_in (fun _ _ _ _ _ _ us hl => match us, hl with | [_], _ => rfl) len_names_in fun f cdv A outer s H E hr => ?_
  refine ⟨_,
    (pss_one (ps_ret (pe_dcP2 (Pt := putKd) (o0 := fun _ => .dK []) (own := [("table", 1), ("terms", 2), ("term", 3)]) (vs1 := [3]) rfl sc_names_in.nd (kPI (K := K) (w := iSeq) (pi_seq (pv 0))) (blkOk_by (own := [("table", 1), ("terms", 2), ("term", 3)]) (by first | (show blkC ["atoms", "table", "terms", "term"] (defScope (topS 39)) _ _ = true; decide +kernel) | rfl)) (by decide) (fun H h hb => dk_empty h hb) (fun _ _ _ _ _ => put_kd) (fun _ _ _ _ _ => by exact (kPG (K := K) (w := gTup) (pg_tup (n := 2) rfl (pgs_cons (pg_name (i := 1) sc_names_in.nd rfl (by first | exact Or.inl rfl | exact Or.inr rfl)) (pgs_cons (pg_name (i := 2) sc_names_in.nd rfl (by first | exact Or.inl rfl | exact Or.inr rfl)) pgs_nil))))) (fun _ _ _ _ _ => by exact pts_nil) (fun _ _ _ _ _ => by exact (kPI (K := K) (w := iList) (pi_list (pe_df T.d_words_in hr (by decide) (by rfl) (pa_cons (pv 2) pa_nil))))) (fun _ _ _ _ _ => by exact (pg_name (i := 3) sc_names_in.nd rfl (by first | exact Or.inl rfl | exact Or.inr rfl))) (fun _ _ _ _ _ => by exact pts_nil) (fun _ _ _ _ _ => by exact (pv 3)) (fun _ _ _ _ _ => by exact pe_bl)))), fun B ds S h => ?_⟩
  obtain ⟨as, hd, hz, hz2, hs⟩ := h
  obtain ⟨d0, e0, hd0⟩ : ∃ d0, ds = [d0] ∧ (d0 = .lst (as.map dAt) ∨ d0 = .tup (as.map dAt)) := by
    rcases hd with rfl | rfl
    · exact ⟨_, rfl, .inl rfl⟩
    · exact ⟨_, rfl, .inr rfl⟩
  subst e0
  refine ws_ret (wp_accK (wp_dX [] accK_new (wi_seqV (ds := as.map dAt) rfl hd0 ⟨fun i acc => ∃ ns : List Str, acc = ns.map (fun x => ((.inr x : Key), D.bl true)) ∧ ns.Nodup ∧ (∀ x, x ∈ ns ↔ InAts x (as.take i)) ∧ ns.length ≤ 100 * i, ⟨[], rfl, List.nodup_nil, fun x => by simp [InAts], by simp⟩, ?_, ?_⟩)))
  · rintro i d _ hd ⟨ns, rfl, nd, hm, hl⟩
    rw [List.getElem?_map] at hd
    cases ha : as[i]? with
    | none => rw [ha] at hd; cases hd
    | some a =>
      rw [ha] at hd
      cases hd
      have hia := (List.getElem?_eq_some_iff.mp ha).1
      have am : a ∈ as := List.mem_of_getElem? ha
      have et : as.take (i + 1) = as.take i ++ [a] := by rw [List.take_add_one, ha]; rfl
      refine wg_tup rfl (wg_cons (wg_name (by simp) (wg_cons (wg_name (by simp) (wg_nil (wt_yes ?_))))))
      refine wr_in rfl (wi_list (wp_call0 (wa_cons (wp_var rfl (wa_nil ⟨a.2, .inr rfl, by have := hz2 a am; omega, _, rfl, fun j acc => ∃ ns' : List Str, acc = ns'.map (fun x => ((.inr x : Key), D.bl true)) ∧ ns'.Nodup ∧ (∀ x, x ∈ ns' ↔ InAts x (as.take i) ∨ x ∈ (nmsOf a.2).take j) ∧ ns'.length ≤ 100 * i + j, ⟨ns, rfl, nd, fun x => by simp [hm], by omega⟩, ?_, ?_⟩)))))
      · rintro j d _ hd ⟨ns', rfl, nd', hm', hl'⟩
        rw [List.getElem?_map] at hd
        cases hx : (nmsOf a.2)[j]? with
        | none => rw [hx] at hd; cases hd
        | some x =>
          rw [hx] at hd
          cases hd
          have et' : (nmsOf a.2).take (j + 1) = (nmsOf a.2).take j ++ [x] := by rw [List.take_add_one, hx]; rfl
          have hj := (List.getElem?_eq_some_iff.mp hx).1
          have hj2 := nms_len a.2
          have hj3 := hz2 a am
          refine wg_name (by simp) (wt_yes (wr_put (wp_var rfl (wp_bl ⟨by rw [List.length_map]; exact sz_lt (by omega), .inr x, rfl, ?_⟩))))
          rw [kput_names]
          by_cases hin : x ∈ ns'
          · rw [if_pos hin]
            refine ⟨ns', rfl, nd', fun y => ?_, by omega⟩
            rw [hm', et', List.mem_append, List.mem_singleton]
            constructor
            · rintro (h | h)
              · exact .inl h
              · exact .inr (.inl h)
            · rintro (h | h | h)
              · exact .inl h
              · exact .inr h
              · rw [h]; exact (hm' x).mp hin
          · rw [if_neg hin]
            refine ⟨ns' ++ [x], rfl, ?_, fun y => ?_, by rw [List.length_append, List.length_singleton]; omega⟩
            · rw [List.nodup_append]
              exact ⟨nd', by simp, fun b hb c hc e => hin (by rw [← List.mem_singleton.mp hc, ← e]; exact hb)⟩
            · rw [List.mem_append, List.mem_singleton, hm', et', List.mem_append, List.mem_singleton, or_assoc]
      · rintro _ ⟨ns', rfl, nd', hm', hl'⟩
        rw [List.length_map, List.take_length] at hm'
        rw [List.length_map] at hl'
        have hj2 := nms_len a.2
        have hj3 := hz2 a am
        refine ⟨ns', rfl, nd', fun x => ?_, by omega⟩
        rw [hm', et, mem_nms]
        constructor
        · rintro (⟨b, hb, hx⟩ | h)
          · exact ⟨b, List.mem_append_left _ hb, hx⟩
          · exact ⟨a, List.mem_append_right _ (List.mem_singleton.mpr rfl), h⟩
        · rintro ⟨b, hb, hx⟩
          rcases List.mem_append.mp hb with hb | hb
          · exact .inl ⟨b, hb, hx⟩
          · rw [List.mem_singleton.mp hb] at hx
            exact .inr hx
  · rintro _ ⟨ns, rfl, nd, hm, hl⟩
    rw [List.length_map, List.take_length] at hm
    rw [List.length_map] at hl
    exact hs ns nd hm (by omega)
def sp_is_atom : Spc := fun ds S => ∃ a : At, ds = [dAt a] ∧ AtOk a ∧ S (.bl true)
theorem len_is_atom : ∀ ds S, sp_is_atom ds S → ds.length = 1 := by rintro _ _ ⟨_, rfl, _⟩; rfl
theorem sc_is_atom : FnScope ["value", "term"] ["value"] (defScope (topS 37)) := ⟨rfl, rfl, rfl, by decide +kernel, rfl, by decide +kernel, by decide +kernel⟩
/-! slots: 0 value, 1 term; cells: [] -/
theorem Txt.d_is_atom (T : Txt K mg cH cS cQ) : Df P w K mg base 4 "is_atom" ["value"] [] sp_is_atom := by
  refine df_mk T.a_is_atom sc_is_atom (fun _ _ _ _ _ _ us hl => match us, hl with | [_], _ => rfl) len_is_atom fun f cdv A outer s H E hr => ?_
  refine ⟨_,
    (pss_cons (ps_if (PW.pt (pw_or (pt_not (pt_val (pe_callB (kCR (K := K) (r := rIsi) call_isi) (by rfl) T.f_isinstance (by decide +kernel) (pa_cons (pv 0) (pa_cons (pe_ty (n := "tuple") T.f_tuple) pa_nil))))) (pw_or (pt_cmpR op_ne (pe_callB (kCR (K := K) (r := rLenS) cr_len) (by rfl) T.f_len (by decide +kernel) (pa_cons (pv 0) pa_nil)) pe_int (nomark _)) (pw_or1 (pt_not (pt_val (pe_df T.d_is_word hr (by decide) (by rfl) (pa_cons (pe_ix (kIx (K := K) (r := rIx) ix_seq) (pv 0) pe_int (fun _ _ => rfl)) pa_nil))))))))
      (pss_one (ps_ret pe_bl))
      pss_nil)
    (pss_one (ps_ret (pe_and (pe_callB (kCR (K := K) (r := rIsi) call_isi) (by rfl) T.f_isinstance (by decide +kernel) (pa_cons (pe_ix (kIx (K := K) (r := rIx) ix_seq) (pv 0) pe_int (fun _ _ => rfl)) (pa_cons (pe_ty (n := "tuple") T.f_tuple) pa_nil))) (pe_and (pe_cmpR op_gt (pe_callB (kCR (K := K) (r := rLenS) cr_len) (by rfl) T.f_len (by decide +kernel) (pa_cons (pe_ix (kIx (K := K) (r := rIx) ix_seq) (pv 0) pe_int (fun _ _ => rfl)) pa_nil)) pe_int (nomark _)) (pe_one (pe_callB (kCR (K := K) (r := rAll) (cr_all rfl)) (by rfl) T.f_all (by decide +kernel) (pa_cons (pe_lc (own := [("term", 1)]) rfl sc_is_atom.nd (kPI (K := K) (w := iTup) (pi_tup (pe_ix (kIx (K := K) (r := rIx) ix_seq) (pv 0) pe_int (fun _ _ => rfl)))) (blkOk_by (own := [("term", 1)]) (by first | (show blkC ["value", "term"] (defScope (topS 37)) _ _ = true; decide +kernel) | rfl)) (fun _ _ _ _ _ => by exact (pg_name (i := 1) sc_is_atom.nd rfl (by first | exact Or.inl rfl | exact Or.inr rfl))) (fun _ _ _ _ _ => by exact pts_nil) (fun _ _ _ _ _ => by exact (pe_df T.d_is_term hr (by decide) (by rfl) (pa_cons (pv 1) pa_nil)))) pa_nil)))))))), fun B ds S h => ?_⟩
  obtain ⟨a, rfl, ha, hs⟩ := h
  refine ws_seq (ws_if (wt_or (wt_not (wt_B (wp_isi (wp_var rfl ⟨_, _, rfl, rfl, true, rfl, ?_⟩))))))
  refine wt_or (wt_B (wp_ne (wp_len (wa_cons (wp_var rfl (wa_nil ⟨_, .inr rfl, wp_int ⟨_, _, rfl, rfl, rfl, _, rfl, ?_⟩⟩))))))
  refine wt_not (wt_B (wp_call0 (wa_cons (wp_ix (wp_var rfl (wp_int ⟨_, _, _, .inr rfl, rfl, rfl, wa_nil ⟨.inr a.1, rfl, fun z e => by cases e; exact ha.word, _, rfl, ?_⟩⟩))))))
  refine ws_next (ws_ret (wp_andV (wp_isi (wp_ix (wp_var rfl (wp_int ⟨_, _, _, .inr rfl, rfl, rfl, _, _, rfl, rfl, true, rfl, ?_⟩))))))
  refine wp_andV (wp_gt (wp_len (wa_cons (wp_ix (wp_var rfl (wp_int ⟨_, _, _, .inr rfl, rfl, rfl, wa_nil ⟨_, .inr rfl, wp_int ⟨_, _, rfl, rfl, _, rfl, ?_⟩⟩⟩))))))
  have : 0 < a.2.length := List.length_pos_iff.mpr ha.some
  rw [List.length_map, decide_eq_true (by omega), if_pos rfl]
  refine wp_allT (wi_tup (wp_ix (wp_var rfl (wp_int ⟨_, _, _, .inr rfl, rfl, rfl, _, rfl, ?_, fun d hd => ?_, hs⟩))))
  · rw [List.length_map]
    exact sz_le (by have := ha.few; omega)
  · obtain ⟨t, ht, rfl⟩ := List.mem_map.mp hd
    exact wg_name (by simp) (wp_call0 (wa_cons (wp_var rfl (wa_nil ⟨t, rfl, ha.each t ht, rfl⟩))))
def sp_is_member : Spc := fun ds S => ∃ m : Mem, ds = [dMemL m] ∧ MemOk m ∧ S (.bl true)
theorem len_is_member : ∀ ds S, sp_is_member ds S → ds.length = 1 := by rintro _ _ ⟨_, rfl, _⟩; rfl
theorem kget_names {ns : List Str} {x : Str} : (kget (ns.map fun x => ((.inr x : Key), D.bl true)) (.inr x)).isSome = decide (x ∈ ns) := by
  unfold kget
  induction ns with
  | nil => simp
  | cons y ns ih =>
    by_cases e : y = x
    · simp [e]
    · have e' : ¬ (Sum.inr y : Key) = .inr x := fun z => e (Sum.inr.inj z)
      simpa [e, e', Ne.symm e] using ih
theorem sc_is_member : FnScope ["value", "head", "atoms", "term", "atom"] ["value"] (defScope (topS 40)) := ⟨rfl, rfl, rfl, by decide +kernel, rfl, by decide +kernel, by decide +kernel⟩
/-! slots: 0 value, 1 head, 2 atoms, 3 term, 4 atom; cells: ['atoms'] -/
theorem Txt.d_is_member (T : Txt K mg cH cS cQ) : Df P w K mg base 5 "is_member" ["value"] [] sp_is_member := by
  refine df_mk T.a_is_member sc_is_member (fun _ _ _ _ _ _ us hl => match us, hl with | [_], _ => rfl) len_is_member fun f cdv A outer s H E hr => ?_
  refine ⟨_,
    (pss_cons (ps_if (PW.pt (pw_or (pt_not (pt_val (pe_callB (kCR (K := K) (r := rIsi) call_isi) (by rfl) T.f_isinstance (by decide +kernel) (pa_cons (pv 0) (pa_cons (pe_ty (n := "tuple") T.f_tuple) pa_nil))))) (pw_or1 (pt_cmpR op_ne (pe_callB (kCR (K := K) (r := rLenS) cr_len) (by rfl) T.f_len (by decide +kernel) (pa_cons (pv 0) pa_nil)) pe_int (nomark _)))))
      (pss_one (ps_ret pe_bl))
      pss_nil)
    (pss_cons (ps_asg (pv 0) (kPG (K := K) (w := gTup) (pg_tup (n := 2) rfl (pgs_cons (pg_name (i := 1) sc_is_member.nd rfl (by first | exact Or.inl rfl | exact Or.inr rfl)) (pgs_cons (pg_name (i := 2) sc_is_member.nd rfl (by first | exact Or.inl rfl | exact Or.inr rfl)) pgs_nil)))))
    (pss_cons (ps_if (PW.pt (pw_or (pt_not (pt_val (pe_callB (kCR (K := K) (r := rIsi) call_isi) (by rfl) T.f_isinstance (by decide +kernel) (pa_cons (pv 1) (pa_cons (pe_ty (n := "tuple") T.f_tuple) pa_nil))))) (pw_or1 (pt_not (pt_val (pe_callB (kCR (K := K) (r := rAll) (cr_all rfl)) (by rfl) T.f_all (by decide +kernel) (pa_cons (pe_lc (own := [("term", 3)]) rfl sc_is_member.nd (kPI (K := K) (w := iSeq) (pi_seq (pv 1))) (blkOk_by (own := [("term", 3)]) (by first | (show blkC ["value", "head", "atoms", "term", "atom"] (defScope (topS 40)) _ _ = true; decide +kernel) | rfl)) (fun _ _ _ _ _ => by exact (pg_name (i := 3) sc_is_member.nd rfl (by first | exact Or.inl rfl | exact Or.inr rfl))) (fun _ _ _ _ _ => by exact pts_nil) (fun _ _ _ _ _ => by exact (pe_df T.d_is_term hr (by decide) (by rfl) (pa_cons (pv 3) pa_nil)))) pa_nil)))))))
      (pss_one (ps_ret pe_bl))
      pss_nil)
    (pss_cons (ps_if (PW.pt (pw_or (pt_not (pt_val (pe_df T.d_is_sequence hr (by decide) (by rfl) (pa_cons (pv 2) pa_nil)))) (pw_or (pt_cmpR op_eq (pe_callB (kCR (K := K) (r := rLenS) cr_len) (by rfl) T.f_len (by decide +kernel) (pa_cons (pv 2) pa_nil)) pe_int (nomark _)) (pw_or1 (pt_not (pt_val (pe_callB (kCR (K := K) (r := rAll) (cr_all rfl)) (by rfl) T.f_all (by decide +kernel) (pa_cons (pe_lc (own := [("atom", 4)]) rfl sc_is_member.nd (kPI (K := K) (w := iSeq) (pi_seq (pv 2))) (blkOk_by (own := [("atom", 4)]) (by first | (show blkC ["value", "head", "atoms", "term", "atom"] (defScope (topS 40)) _ _ = true; decide +kernel) | rfl)) (fun _ _ _ _ _ => by exact (pg_name (i := 4) sc_is_member.nd rfl (by first | exact Or.inl rfl | exact Or.inr rfl))) (fun _ _ _ _ _ => by exact pts_nil) (fun _ _ _ _ _ => by exact (pe_df T.d_is_atom hr (by decide) (by rfl) (pa_cons (pv 4) pa_nil)))) pa_nil))))))))
      (pss_one (ps_ret pe_bl))
      pss_nil)
    (pss_one (ps_ret (pe_callB (kCR (K := K) (r := rAll) (cr_all rfl)) (by rfl) T.f_all (by decide +kernel) (pa_cons (pe_lc (own := [("term", 3)]) rfl sc_is_member.nd (kPI (K := K) (w := iList) (pi_list (pe_df T.d_words_in hr (by decide) (by rfl) (pa_cons (pv 1) pa_nil)))) (blkOk_by (own := [("term", 3)]) (by first | (show blkC ["value", "head", "atoms", "term", "atom"] (defScope (topS 40)) _ _ = true; decide +kernel) | rfl)) (fun _ _ _ _ _ => by exact (pg_name (i := 3) sc_is_member.nd rfl (by first | exact Or.inl rfl | exact Or.inr rfl))) (fun _ _ _ _ _ => by exact pts_nil) (fun _ _ _ _ _ => by exact (pe_cmp (pc_din (rm_u hr) (pv 3) (pe_df T.d_names_in hr (by decide) (by rfl) (pa_cons (pv 2) pa_nil))) rfl))) pa_nil)))))))), fun B ds S h => ?_⟩
  obtain ⟨m, rfl, hm, hs⟩ := h
  refine ws_seq (ws_if (wt_or (wt_not (wt_B (wp_isi (wp_var rfl ⟨_, _, rfl, rfl, true, rfl, ?_⟩))))))
  refine wt_B (wp_ne (wp_len (wa_cons (wp_var rfl (wa_nil ⟨_, .inr rfl, wp_int ⟨_, _, rfl, rfl, rfl, _, rfl, ?_⟩⟩)))))
  refine ws_next (ws_seq (ws_asgG (vs := [1, 2]) (wp_var rfl (wg_tup rfl (wg_cons (wg_name (by simp) (wg_cons (wg_name (by simp) (wg_nil ?_)))))))))
  have lenH : (m.1.map kD).length ≤ sizeLine := by rw [List.length_map]; exact sz_le (by have := hm.few; omega)
  have lenA : (m.2.map dAt).length ≤ sizeLine := by rw [List.length_map]; exact sz_le (by have := hm.few2; omega)
  refine ws_seq (ws_if (wt_or (wt_not (wt_B (wp_isi (wp_var rfl ⟨_, _, rfl, rfl, true, rfl, ?_⟩))))))
  refine wt_not (wt_B (wp_allT (wi_seqV (ds := m.1.map kD) rfl (.inr rfl) ⟨lenH, fun d hd => ?_, _, rfl, ?_⟩)))
  · obtain ⟨t, ht, rfl⟩ := List.mem_map.mp hd
    exact wg_name (by simp) (wp_call0 (wa_cons (wp_var rfl (wa_nil ⟨t, rfl, hm.head t ht, rfl⟩))))
  refine ws_next (ws_seq (ws_if (wt_or (wt_not (wt_B (wp_call0 (wa_cons (wp_var rfl (wa_nil ⟨m.2.map dAt, .inl rfl, _, rfl, ?_⟩)))))))))
  refine wt_or (wt_B (wp_eq (wp_len (wa_cons (wp_var rfl (wa_nil ⟨m.2.map dAt, .inl rfl, wp_int ⟨_, _, rfl, rfl, rfl, _, rfl, ?_⟩⟩))))))
  have : 0 < m.2.length := List.length_pos_iff.mpr hm.some
  rw [decide_eq_false (by intro e; have := V.int.inj e; rw [List.length_map] at this; omega)]
  refine wt_not (wt_B (wp_allT (wi_seqV (ds := m.2.map dAt) rfl (.inl rfl) ⟨lenA, fun d hd => ?_, _, rfl, ?_⟩)))
  · obtain ⟨a, ha, rfl⟩ := List.mem_map.mp hd
    exact wg_name (by simp) (wp_call0 (wa_cons (wp_var rfl (wa_nil ⟨a, rfl, hm.each a ha, rfl⟩))))
  refine ws_next (ws_ret (wp_allT (wi_list (wp_call0 (wa_cons (wp_var rfl (wa_nil ⟨m.1, .inr rfl, by have := hm.few; omega, _, rfl, ?_, fun d hd => ?_, hs⟩)))))))
  · rw [List.length_map]
    have := nms_len m.1
    exact sz_le (by have := hm.few; omega)
  · obtain ⟨x, hx, rfl⟩ := List.mem_map.mp hd
    refine wg_name (by simp) (wp_din (wp_var rfl (wp_call0 (wa_cons (wp_var rfl (wa_nil ⟨m.2, .inl rfl, by have := hm.few2; omega, fun a ha => (hm.each a ha).few, fun ns nd hn _ => ⟨_, .inr x, rfl, rfl, ?_⟩⟩))))))
    rw [kget_names, decide_eq_true ((hn x).mpr (hm.names x (mem_nms.mp hx)))]
structure MemsOk (ms : List Mem) : Prop where
  some : ms ≠ []
  few : ms.length ≤ 100
  each : ∀ m ∈ ms, MemOk m
  same : ∀ m ∈ ms, ∀ m' ∈ ms, m.1.length = m'.1.length
def sp_are_members : Spc := fun ds S => ∃ ms : List Mem, ds = [.lst (ms.map dMemL)] ∧ MemsOk ms ∧ S (.bl true)
theorem len_are_members : ∀ ds S, sp_are_members ds S → ds.length = 1 := by rintro _ _ ⟨_, rfl, _⟩; rfl
theorem sc_are_members : FnScope ["value", "one", "head", "atoms"] ["value"] (defScope (topS 41)) := ⟨rfl, rfl, rfl, by decide +kernel, rfl, by decide +kernel, by decide +kernel⟩
/-! slots: 0 value, 1 one, 2 head, 3 atoms; cells: ['value'] -/
theorem Txt.d_are_members (T : Txt K mg cH cS cQ) : Df P w K mg base 6 "are_members" ["value"] [] sp_are_members := by
  refine df_mk T.a_are_members sc_are_members (fun _ _ _ _ _ _ us hl => match us, hl with | [_], _ => rfl) len_are_members fun f cdv A outer s H E hr => ?_
  refine ⟨_,
    (pss_cons (ps_if (PW.pt (pw_or (pt_not (pt_val (pe_df T.d_is_sequence hr (by decide) (by rfl) (pa_cons (pv 0) pa_nil)))) (pw_or (pt_cmpR op_eq (pe_callB (kCR (K := K) (r := rLenS) cr_len) (by rfl) T.f_len (by decide +kernel) (pa_cons (pv 0) pa_nil)) pe_int (nomark _)) (pw_or1 (pt_not (pt_val (pe_callB (kCR (K := K) (r := rAll) (cr_all rfl)) (by rfl) T.f_all (by decide +kernel) (pa_cons (pe_lc (own := [("one", 1)]) rfl sc_are_members.nd (kPI (K := K) (w := iSeq) (pi_seq (pv 0))) (blkOk_by (own := [("one", 1)]) (by first | (show blkC ["value", "one", "head", "atoms"] (defScope (topS 41)) _ _ = true; decide +kernel) | rfl)) (fun _ _ _ _ _ => by exact (pg_name (i := 1) sc_are_members.nd rfl (by first | exact Or.inl rfl | exact Or.inr rfl))) (fun _ _ _ _ _ => by exact pts_nil) (fun _ _ _ _ _ => by exact (pe_df T.d_is_member hr (by decide) (by rfl) (pa_cons (pv 1) pa_nil)))) pa_nil))))))))
      (pss_one (ps_ret pe_bl))
      pss_nil)
    (pss_one (ps_ret (pe_callB (kCR (K := K) (r := rAll) (cr_all rfl)) (by rfl) T.f_all (by decide +kernel) (pa_cons (pe_lc (own := [("head", 2), ("atoms", 3)]) rfl sc_are_members.nd (kPI (K := K) (w := iSeq) (pi_seq (pv 0))) (blkOk_by (own := [("head", 2), ("atoms", 3)]) (by first | (show blkC ["value", "one", "head", "atoms"] (defScope (topS 41)) _ _ = true; decide +kernel) | rfl)) (fun _ _ _ _ _ => by exact (kPG (K := K) (w := gTup) (pg_tup (n := 2) rfl (pgs_cons (pg_name (i := 2) sc_are_members.nd rfl (by first | exact Or.inl rfl | exact Or.inr rfl)) (pgs_cons (pg_name (i := 3) sc_are_members.nd rfl (by first | exact Or.inl rfl | exact Or.inr rfl)) pgs_nil))))) (fun _ _ _ _ _ => by exact pts_nil) (fun _ _ _ _ _ => by exact (pe_cmpR op_eq (pe_callB (kCR (K := K) (r := rLenS) cr_len) (by rfl) T.f_len (by decide +kernel) (pa_cons (pv 2) pa_nil)) (pe_callB (kCR (K := K) (r := rLenS) cr_len) (by rfl) T.f_len (by decide +kernel) (pa_cons (pe_ix (kIx (K := K) (r := rIx) ix_seq) (pe_ix (kIx (K := K) (r := rIx) ix_seq) (pv 0) pe_int (fun _ _ => rfl)) pe_int (fun _ _ => rfl)) pa_nil)) (nomark _)))) pa_nil))))), fun B ds S h => ?_⟩
  obtain ⟨ms, rfl, hm, hs⟩ := h
  have len : (ms.map dMemL).length ≤ sizeLine := by rw [List.length_map]; exact sz_le (by have := hm.few; omega)
  refine ws_seq (ws_if (wt_or (wt_not (wt_B (wp_call0 (wa_cons (wp_var rfl (wa_nil ⟨_, .inl rfl, _, rfl, ?_⟩))))))))
  refine wt_or (wt_B (wp_eq (wp_len (wa_cons (wp_var rfl (wa_nil ⟨_, .inl rfl, wp_int ⟨_, _, rfl, rfl, rfl, _, rfl, ?_⟩⟩))))))
  have pos : 0 < ms.length := List.length_pos_iff.mpr hm.some
  rw [decide_eq_false (by intro e; have := V.int.inj e; rw [List.length_map] at this; omega)]
  refine wt_not (wt_B (wp_allT (wi_seqV (ds := ms.map dMemL) rfl (.inl rfl) ⟨len, fun d hd => ?_, _, rfl, ?_⟩)))
  · obtain ⟨m, hm', rfl⟩ := List.mem_map.mp hd
    exact wg_name (by simp) (wp_call0 (wa_cons (wp_var rfl (wa_nil ⟨m, rfl, hm.each m hm', rfl⟩))))
  refine ws_next (ws_ret (wp_allT (wi_seqV (ds := ms.map dMemL) rfl (.inl rfl) ⟨len, fun d hd => ?_, hs⟩)))
  obtain ⟨m, hm', rfl⟩ := List.mem_map.mp hd
  obtain ⟨m0, ms', rfl⟩ : ∃ m0 ms', ms = m0 :: ms' := by
    cases ms with
    | nil => exact absurd rfl hm.some
    | cons a l => exact ⟨a, l, rfl⟩
  refine wg_tup rfl (wg_cons (wg_name (by simp) (wg_cons (wg_name (by simp) (wg_nil (wp_eq (wp_len (wa_cons (wp_var rfl (wa_nil ⟨m.1.map kD, .inr rfl, ?_⟩))))))))))
  refine wp_len (wa_cons (wp_ix (wp_ix (wp_var rfl (wp_int ⟨_, _, dMemL m0, .inl rfl, rfl, atI_0 rfl, wp_int ⟨[dTms m0.1, .lst (m0.2.map dAt)], _, _, .inr rfl, rfl, rfl, wa_nil ⟨m0.1.map kD, .inr rfl, _, _, rfl, rfl, rfl, ?_⟩⟩⟩)))))
  rw [List.length_map, List.length_map, hm.same m hm' m0 (List.mem_cons_self ..), decide_eq_true rfl]
end
end FS

/-! FsU3: houses and stores. -/
namespace FS
open PySem L2
/-- no two rows of one table agree on a rule's columns and differ at its column -/
def Agree (rs : List Rul) (p q : Row) : Prop := ∀ r ∈ rs, p.1 = r.1 → q.1 = r.1 → (∀ c ∈ r.2.1, p.2[c]? = q.2[c]?) → p.2[r.2.2]? = q.2[r.2.2]?
theorem kput_fresh {α : Type} {l : List (Key × α)} {k : Key} {v : α} (h : k ∉ l.map (·.1)) : kput l k v = l ++ [(k, v)] := by
  unfold kput
  rw [if_neg]
  intro e
  obtain ⟨kv, h1, h2⟩ := List.any_eq_true.mp e
  exact h (List.mem_map.mpr ⟨kv, h1, of_decide_eq_true h2⟩)
theorem kmerge_nodup : ∀ {b a : List (Key × D)}, (b.map (·.1)).Nodup → (∀ k ∈ b.map (·.1), k ∉ a.map (·.1)) → kmerge a b = a ++ b
  | [], a, _, _ => (List.append_nil a).symm
  | kv :: b, a, h1, h2 => by
    rw [List.map_cons, List.nodup_cons] at h1
    show kmerge (kput a kv.1 kv.2) b = _
    rw [kput_fresh (h2 kv.1 (List.mem_cons_self ..)), kmerge_nodup h1.2 fun k hk => ?_, List.append_assoc]
    · rfl
    rw [List.map_append, List.mem_append]
    rintro (z | z)
    · exact h2 k (List.mem_cons_of_mem _ hk) z
    · exact h1.1 (by rw [show kv.1 = k from (List.mem_singleton.mp z).symm]; exact hk)
theorem wids_merge {l : List Tab} (h : TabsOk l) : kmerge [] (l.map fun t => ((.inr t.1 : Key), D.int (t.2 : Nat))) = l.map fun t => ((.inr t.1 : Key), D.int (t.2 : Nat)) := by
  rw [kmerge_nodup _ (fun _ _ z => absurd z List.not_mem_nil)]
  · rfl
  rw [List.map_map, show ((fun x : Key × D => x.1) ∘ fun t : Tab => ((.inr t.1 : Key), D.int (t.2 : Nat))) = Sum.inr ∘ (·.1) from rfl, ← List.map_map]
  have := h.nodup
  rw [List.nodup_iff_pairwise_ne] at this ⊢
  exact List.Pairwise.map _ (fun a b n e => n (Sum.inr.inj e)) this
theorem tabs_pairs (l : List Tab) : l.map dTab = (l.map fun t => ((.inr t.1 : Key), D.int (t.2 : Nat))).map dPair := by
  rw [List.map_map]
  rfl
/-- a house as the model keeps it -/
structure HOk (h : House) : Prop where
  tabs : TabsOk h.tabs
  ruls : ∀ r ∈ h.ruls, RulOk h.tabs r
  few : h.ruls.length ≤ 1000
theorem wid_word {l : List Tab} (hl : TabsOk l) {x : Str} {n : Nat} (h : widOf l x = some n) : wordB x = true := by
  unfold widOf kget at h
  obtain ⟨t, h1, h2⟩ := Option.map_eq_some_iff.mp h
  have h3 := List.mem_of_find?_eq_some h1
  have h4 := List.find?_some h1
  have h5 := hl.each t h3
  unfold tabB at h5
  rw [Bool.and_eq_true] at h5
  rw [← of_decide_eq_true h4]
  exact h5.1
theorem row_str {l : List Tab} (hl : TabsOk l) {r : Row} (h : RowOk l r) : PyData.strOk r.1 = true := word_ok (wid_word hl h.wid)
theorem rul_str {l : List Tab} (hl : TabsOk l) {r : Rul} (h : RulOk l r) : PyData.strOk r.1 = true := by
  obtain ⟨w, hw, _⟩ := h.ex
  exact word_ok (wid_word hl hw)
def colB (p q : Row) : D → Bool
  | .int i => decide (p.2[i.toNat]? = q.2[i.toNat]?)
  | _ => false
theorem atI_int {l : List Int} {c : Nat} (h : c < l.length) : atI (l.map D.int) (c : Int) = some (.int (l[c]'h)) := atI_nat (by rw [List.getElem?_map, List.getElem?_eq_getElem h]; rfl)
section
variable {K : PySem.W.Frag} {B : Addr → Prop} {ρ : Ro}
theorem wp_allP {wi : TI} {g : TG} {te : TE} {vs : List Nat} {S : D → Prop} (h : WpI K B wi ρ fun ds => ds.length ≤ sizeLine ∧ ∃ p : D → Bool, (∀ d ∈ ds, WpG K B vs g (wipeR ρ vs) d fun ρ2 => Wp K B te ρ2 fun y => y = .bl (p d)) ∧ S (.bl (ds.all p))) :
    Wp K B (tCB (rAll K) (tCons (tLc wi g tYes te vs) tNil)) ρ S :=
  wp_all (wa_cons (wp_lcMap fun H0 G H σ E R k => h H0 G H σ E R fun J ds G' H' g' j ⟨hz, p, turn, s⟩ => k J ds G' H' g' j ⟨hz, fun d => .bl (p d), turn, wa_nil ⟨ds.map p, by rw [List.map_map]; rfl, by
    rw [List.all_map]
    exact s⟩⟩))
end
theorem fput_len1 (f : Str) (d : D) : ∀ l : List (Str × D), (fput f d l).length ≤ l.length + 1
  | [] => Nat.le_refl _
  | (g, e) :: r => by
    unfold fput
    split
    · exact Nat.le_succ _
    · exact Nat.succ_le_succ (fput_len1 f d r)
theorem fput_len2 (f g : Str) (d e : D) : (fput f d (fput g e [])).length ≤ 2 := fput_len1 f d _
theorem lt1000 {n m : Nat} (h : n ≤ m) (k : m < 1000) : n < 1000 := Nat.lt_of_le_of_lt h k
section
variable {P : Program} {w : World} {K : PySem.W.Frag} {mg : Str → Option Value} {base : Heap} {cH cS cQ : Addr}
def sp_House : List D → (List (Str × D) → Prop) → Prop := fun ds S => ∃ (l : List Tab) (rs : List Rul), ds = [.lst (l.map dTab), .lst (rs.map dRul)] ∧ TabsOk l ∧ rs.length ≤ 1000 ∧ (∀ r ∈ rs, RulOk l r ∧ PyData.strOk r.1 = true) ∧ ∀ rs' : List Rul, (∀ r, r ∈ rs' ↔ r ∈ rs) → rs'.length ≤ rs.length → S [("tables", .ftup (l.map dTab)), ("rules", .tup (rs'.map dRul))]
theorem len_House : ∀ ds S, sp_House ds S → ds.length = 2 := by rintro _ _ ⟨_, _, rfl, _⟩; rfl
theorem sc_House_init : FnScope ["self", "tables", "rules", "widths", "rule"] ["self", "tables", "rules"] (defScope (inClass (topS 31) 0)) := ⟨rfl, rfl, rfl, by decide +kernel, rfl, by decide +kernel, by decide +kernel⟩
/-! slots: 0 self, 1 tables, 2 rules, 3 widths, 4 rule; cells: ['widths'] -/
theorem Txt.m_House (T : Txt K mg cH cS cQ) : Dc P w K mg base 5 "House" cH ["self", "tables", "rules"] sp_House := by
  obtain ⟨a, ha⟩ := T.i_House
  refine dc_mkD (n := 2) ha T.g_House (by simp) sc_House_init (fun _ _ _ _ _ _ _ us its hl hm => match us, hl, its, hm with | [_, _, _], _, [_], _ => ⟨_, rfl, rfl⟩) rfl len_House fun f cdv A outer s H E hr => ?_
  refine ⟨_,
    (pss_cons (ps_if (pt_not (pt_val (pe_df T.d_are_tables hr (by decide) (by rfl) (pa_cons (pv 1) pa_nil))))
      (pss_one ps_never)
      pss_nil)
    (pss_cons (ps_set (i := 3) sc_House_init.nd rfl (by first | exact Or.inl rfl | exact Or.inr rfl) (pe_callTy (kCR (K := K) (r := rDictPr) (cr_dictPr rfl)) (by rfl) T.f_dict (by decide +kernel) (pa_cons (pv 1) pa_nil)))
    (pss_cons (ps_if (PW.pt (pw_or (pt_not (pt_val (pe_df T.d_is_sequence hr (by decide) (by rfl) (pa_cons (pv 2) pa_nil)))) (pw_or1 (pt_not (pt_val (pe_callB (kCR (K := K) (r := rAll) (cr_all rfl)) (by rfl) T.f_all (by decide +kernel) (pa_cons (pe_lc (own := [("rule", 4)]) rfl sc_House_init.nd (kPI (K := K) (w := iSeq) (pi_seq (pv 2))) (blkOk_by (own := [("rule", 4)]) (by first | (show blkC ["self", "tables", "rules", "widths", "rule"] (defScope (inClass (topS 31) 0)) _ _ = true; decide +kernel) | rfl)) (fun _ _ _ _ _ => by exact (pg_name (i := 4) sc_House_init.nd rfl (by first | exact Or.inl rfl | exact Or.inr rfl))) (fun _ _ _ _ _ => by exact pts_nil) (fun _ _ _ _ _ => by exact (pe_df T.d_is_rule hr (by decide) (by rfl) (pa_cons (pv 4) (pa_cons (pv 3) pa_nil))))) pa_nil)))))))
      (pss_one ps_never)
      pss_nil)
    (pss_cons (ps_fld (pv 0) (pe_callTy (kCR (K := K) (r := rTupF) cr_tupF) (by rfl) T.f_tuple (by decide +kernel) (pa_cons (pv 1) pa_nil)) rfl)
    (pss_one (ps_fld (pv 0) (pe_callTy (kCR (K := K) (r := rTupS) cr_tup) (by rfl) T.f_tuple (by decide +kernel) (pa_cons (pe_callB (kCR (K := K) (r := rSortDt) (cr_sortDt (rm_u hr))) (by rfl) T.f_sorted (by decide +kernel) (pa_cons (pe_df T.d_once hr (by decide) (by rfl) (pa_cons (pv 2) pa_nil)) pa_nil)) pa_nil)) rfl)))))), fun B ds S x h => ?_⟩
  obtain ⟨l, rs, rfl, hl, hz, hr, hs⟩ := h
  refine ws_seq (ws_if (wt_not (wt_B (wp_call0 (wa_cons (wp_var rfl (wa_nil ⟨l, .inl rfl, hl, _, rfl, ?_⟩)))))))
  refine ws_next (ws_seq (ws_asg (wp_dictPr (wa_cons (wp_var rfl (wa_nil ⟨l.map fun t => ((.inr t.1 : Key), D.int (t.2 : Nat)), .inl (by rw [tabs_pairs]), ?_⟩))))))
  rw [wids_merge hl]
  refine ws_seq (ws_if (wt_or (wt_not (wt_B (wp_call0 (wa_cons (wp_var rfl (wa_nil ⟨_, .inl rfl, _, rfl, ?_⟩))))))))
  refine wt_not (wt_B (wp_allT (wi_seqV (ds := rs.map dRul) rfl (.inl rfl) ⟨by rw [List.length_map]; exact sz_le (by omega), fun d hd => ?_, _, rfl, ?_⟩)))
  · obtain ⟨r, hr', rfl⟩ := List.mem_map.mp hd
    exact wg_name (by simp) (wp_call0 (wa_cons (wp_var rfl (wa_cons (wp_var rfl (wa_nil ⟨r, l, rfl, (hr r hr').1, rfl⟩))))))
  refine ws_next (ws_seq (ws_fld rfl T.k_House T.n_tables (by simp) (wp_tupF (wa_cons (wp_var rfl (wa_nil ⟨_, rfl, ?_⟩))))))
  refine ws_fld rfl T.k_House T.n_rules (by simp [fput]) (wp_tupOf (wa_cons (wp_sortDt (wa_cons (wp_call0 (wa_cons (wp_var rfl (wa_nil ⟨2, _, by omega, .inl rfl, by rw [List.length_map]; omega, fun d hd => ?_, fun ys hy _ _ hyl => ?_⟩))))))))
  · obtain ⟨r, hr', rfl⟩ := List.mem_map.mp hd
    exact pur_rul (hr r hr').2
  · have him : ∀ d ∈ ys, ∃ r ∈ rs, d = dRul r := fun d hd => by
      obtain ⟨r, h1, h2⟩ := List.mem_map.mp ((hy d).mp hd)
      exact ⟨r, h1, h2.symm⟩
    obtain ⟨rs', e, hrs'⟩ := of_images (ds := srt ys) (f := dRul) (as := rs) fun d hd => him d (srt_mem.mp hd)
    refine wa_nil ⟨_, rfl, fun d hd => ?_, sortIn_ruls him, wa_nil ⟨_, .inl rfl, ?_⟩⟩
    · obtain ⟨r, hr', rfl⟩ := him d hd
      exact ⟨2, pur_rul (hr r hr').2⟩
    · rw [e]
      have := hs rs' (fun r => ⟨hrs' r, fun h => ?_⟩) ?_
      · exact ⟨_, rfl, this⟩
      · have : dRul r ∈ srt ys := srt_mem.mpr ((hy _).mpr (List.mem_map.mpr ⟨r, h, rfl⟩))
        rw [e] at this
        obtain ⟨q, hq, eq⟩ := List.mem_map.mp this
        rw [← dRul_inj eq]
        exact hq
      · have h1 := congrArg List.length e
        rw [srt_len, List.length_map] at h1
        rw [List.length_map] at hyl
        omega
def sp_names (c : Addr) : Spc := fun ds S => ∃ h : House, ds = [dHouse c h] ∧ TabsOk h.tabs ∧ S (dWids h.tabs)
theorem len_names {c : Addr} : ∀ ds S, sp_names c ds S → ds.length = 1 := by rintro _ _ ⟨_, rfl, _⟩; rfl
theorem sc_House_names : FnScope ["self"] ["self"] (defScope (inClass (topS 31) 2)) := ⟨rfl, rfl, rfl, by decide +kernel, rfl, by decide +kernel, by decide +kernel⟩
/-! slots: 0 self; cells: [] -/
theorem Txt.dt_names (T : Txt K mg cH cS cQ) : Dm P w K mg base 1 cH "names" ["self"] (sp_names cH) := by
  refine dm_mk T.t_names T.k_House sc_House_names (fun _ _ _ _ _ _ us hl => match us, hl with | [_], _ => rfl) len_names fun f cdv A outer s H E hr => ?_
  refine ⟨_,
    (pss_one (ps_ret (pe_callTy (kCR (K := K) (r := rDictPr) (cr_dictPr rfl)) (by rfl) T.f_dict (by decide +kernel) (pa_cons (kPE (K := K) (w := tFld) (pe_fld (pv 0) rfl)) pa_nil)))), fun B ds S h => ?_⟩
  obtain ⟨h, rfl, hl, hs⟩ := h
  refine ws_ret (wp_dictPr (wa_cons (wp_fld (wp_var rfl ⟨cH, _, _, rfl, T.k_House, T.n_tables, rfl, wa_nil ⟨h.tabs.map fun t => ((.inr t.1 : Key), D.int (t.2 : Nat)), .inr (by rw [tabs_pairs]), ?_⟩⟩))))
  rw [wids_merge hl]
  exact hs
def sp_breaks (c : Addr) : Spc := fun ds S => ∃ (h : House) (p : Row) (qs : List Row), ds = [dHouse c h, dRow p, .lst (qs.map dRow)] ∧ HOk h ∧ RowOk h.tabs p ∧ (∀ q ∈ qs, RowOk h.tabs q ∧ Agree h.ruls q p) ∧ S (.bl false)
theorem len_breaks {c : Addr} : ∀ ds S, sp_breaks c ds S → ds.length = 3 := by rintro _ _ ⟨_, _, _, rfl, _⟩; rfl
theorem sc_breaks : FnScope ["house", "row", "rows", "table", "columns", "column", "word", "numbers", "one"] ["house", "row", "rows"] (defScope (topS 32)) := ⟨rfl, rfl, rfl, by decide +kernel, rfl, by decide +kernel, by decide +kernel⟩
/-! slots: 0 house, 1 row, 2 rows, 3 table, 4 columns, 5 column, 6 word, 7 numbers, 8 one; cells: ['numbers', 'row'] -/
theorem Txt.d_breaks (T : Txt K mg cH cS cQ) : Df P w K mg base 1 "breaks" ["house", "row", "rows"] [] (sp_breaks cH) := by
  refine df_mk T.a_breaks sc_breaks (fun _ _ _ _ _ _ us hl => match us, hl with | [_, _, _], _ => rfl) len_breaks fun f cdv A outer s H E hr => ?_
  refine ⟨_,
    (pss_cons (ps_for PassesOwn.never rfl (kPI (K := K) (w := iTup) (pi_tup (kPE (K := K) (w := tFld) (pe_fld (pv 0) rfl)))) (kPG (K := K) (w := gTup) (pg_tup (n := 3) rfl (pgs_cons (pg_name (i := 3) sc_breaks.nd rfl (by first | exact Or.inl rfl | exact Or.inr rfl)) (pgs_cons (pg_name (i := 4) sc_breaks.nd rfl (by first | exact Or.inl rfl | exact Or.inr rfl)) (pgs_cons (pg_name (i := 5) sc_breaks.nd rfl (by first | exact Or.inl rfl | exact Or.inr rfl)) pgs_nil)))))
      (pss_one (ps_for PassesOwn.never rfl (kPI (K := K) (w := iSeq) (pi_seq (pv 2))) (kPG (K := K) (w := gTup) (pg_tup (n := 2) rfl (pgs_cons (pg_name (i := 6) sc_breaks.nd rfl (by first | exact Or.inl rfl | exact Or.inr rfl)) (pgs_cons (pg_name (i := 7) sc_breaks.nd rfl (by first | exact Or.inl rfl | exact Or.inr rfl)) pgs_nil))))
        (pss_one (ps_if (PW.pt (pw_and (pt_cmpR op_eq (pv 6) (pv 3) (nomark _)) (pw_and (pt_cmpR op_eq (pe_ix (kIx (K := K) (r := rIx) ix_seq) (pv 1) pe_int (fun _ _ => rfl)) (pv 3) (nomark _)) (pw_and1 (pt_val (pe_callB (kCR (K := K) (r := rAll) (cr_all rfl)) (by rfl) T.f_all (by decide +kernel) (pa_cons (pe_lc (own := [("one", 8)]) rfl sc_breaks.nd (kPI (K := K) (w := iSeq) (pi_seq (pv 4))) (blkOk_by (own := [("one", 8)]) (by first | (show blkC ["house", "row", "rows", "table", "columns", "column", "word", "numbers", "one"] (defScope (topS 32)) _ _ = true; decide +kernel) | rfl)) (fun _ _ _ _ _ => by exact (pg_name (i := 8) sc_breaks.nd rfl (by first | exact Or.inl rfl | exact Or.inr rfl))) (fun _ _ _ _ _ => by exact pts_nil) (fun _ _ _ _ _ => by exact (pe_cmpR op_eq (pe_ix (kIx (K := K) (r := rIx) ix_seq) (pv 7) (pv 8) (fun _ _ => rfl)) (pe_ix (kIx (K := K) (r := rIx) ix_seq) (pe_ix (kIx (K := K) (r := rIx) ix_seq) (pv 1) pe_int (fun _ _ => rfl)) (pv 8) (fun _ _ => rfl)) (nomark _)))) pa_nil)))))))
          (pss_one (ps_if (pt_cmpR op_ne (pe_ix (kIx (K := K) (r := rIx) ix_seq) (pv 7) (pv 5) (fun _ _ => rfl)) (pe_ix (kIx (K := K) (r := rIx) ix_seq) (pe_ix (kIx (K := K) (r := rIx) ix_seq) (pv 1) pe_int (fun _ _ => rfl)) (pv 5) (fun _ _ => rfl)) (nomark _))
            (pss_one (ps_ret pe_bl))
            pss_nil))
          pss_nil)))))
    (pss_one (ps_ret pe_bl))), fun B ds S h => ?_⟩
  obtain ⟨h, p, qs, rfl, ho, hp, hq, hs⟩ := h
  refine ws_seq (ws_for (vs := [3, 4, 5]) (wi_tup (wp_fld (wp_var rfl ⟨cH, _, _, rfl, T.k_House, T.n_rules, rfl, _, rfl, fun _ ρ' => ∃ s3 s4 s5 s6 s7 s8, ρ' = [.d (dHouse cH h), .d (dRow p), .d (.lst (qs.map dRow)), s3, s4, s5, s6, s7, s8], ⟨_, _, _, _, _, _, rfl⟩, ?_, ?_⟩))))
  · rintro i d _ hd ⟨s3, s4, s5, s6, s7, s8, rfl⟩
    obtain ⟨r, hr, rfl⟩ := List.mem_map.mp (List.mem_of_getElem? hd)
    obtain ⟨wd, hw, hc, hl, hn⟩ := (ho.ruls r hr).ex
    refine wg_tup rfl (wg_cons (wg_name (by simp) (wg_cons (wg_name (by simp) (wg_cons (wg_name (by simp) (wg_nil ?_)))))))
    refine ws_for (vs := [6, 7]) (wi_seqV (i := 2) rfl (.inl rfl) ⟨fun _ ρ' => ∃ s6 s7 s8, ρ' = [.d (dHouse cH h), .d (dRow p), .d (.lst (qs.map dRow)), .d (.str r.1), .d (dNats r.2.1), .d (.int (r.2.2 : Nat)), s6, s7, s8], ⟨_, _, _, rfl⟩, ?_, ?_⟩)
    · rintro j d _ hd ⟨s6, s7, s8, rfl⟩
      obtain ⟨q, hq', rfl⟩ := List.mem_map.mp (List.mem_of_getElem? hd)
      obtain ⟨qo, qa⟩ := hq q hq'
      refine wg_tup rfl (wg_cons (wg_name (by simp) (wg_cons (wg_name (by simp) (wg_nil ?_)))))
      refine ws_if (wt_and (wt_B (wp_eq (wp_var rfl (wp_var rfl ⟨_, _, rfl, rfl, rfl, _, rfl, ?_⟩)))))
      have nx : ∀ {x : Prop}, x → x := id
      by_cases e1 : q.1 = r.1
      · rw [e1, decide_eq_true rfl, if_pos rfl]
        refine wt_and (wt_B (wp_eq (wp_ix (wp_var rfl (wp_int ⟨_, _, _, .inr rfl, rfl, rfl, wp_var rfl ⟨_, _, rfl, rfl, rfl, _, rfl, ?_⟩⟩)))))
        by_cases e2 : p.1 = r.1
        · rw [e2, decide_eq_true rfl, if_pos rfl]
          have lq : wd = q.2.length := by have := qo.wid; rw [e1, hw] at this; exact Option.some.inj this
          have lp : wd = p.2.length := by have := hp.wid; rw [e2, hw] at this; exact Option.some.inj this
          refine wt_B (wp_allP (wi_seqV (ds := r.2.1.map fun n => .int (n : Nat)) rfl (.inr rfl) ⟨by rw [List.length_map]; exact sz_le (by have := hc.few; omega), colB q p, fun d hd => ?_, _, rfl, ?_⟩))
          · obtain ⟨c, hc', rfl⟩ := List.mem_map.mp hd
            have cl := hc.lt c hc'
            refine wg_name (by simp) (wp_eq (wp_ix (wp_var rfl (wp_var rfl ⟨q.2.map D.int, _, _, .inr rfl, rfl, atI_int (by omega), wp_ix (wp_ix (wp_var rfl (wp_int ⟨_, _, dInts p.2, .inr rfl, rfl, rfl, wp_var rfl ⟨_, _, _, .inr rfl, rfl, atI_int (c := c) (by omega), _, _, rfl, rfl, rfl, ?_⟩⟩)))⟩))))
            show D.bl _ = D.bl (decide (q.2[((c : Nat) : Int).toNat]? = p.2[((c : Nat) : Int).toNat]?))
            rw [Int.toNat_natCast, List.getElem?_eq_getElem (by omega), List.getElem?_eq_getElem (by omega)]
            congr 1
            simp
          · by_cases e3 : (r.2.1.map fun n => D.int (n : Nat)).all (colB q p) = true
            · rw [e3, if_pos rfl]
              have ag := qa r hr e1 e2 fun c hc' => by
                have := of_decide_eq_true (List.all_eq_true.mp e3 (.int (c : Nat)) (List.mem_map.mpr ⟨c, hc', rfl⟩))
                rwa [Int.toNat_natCast] at this
              rw [List.getElem?_eq_getElem (by omega), List.getElem?_eq_getElem (by omega)] at ag
              refine ws_if (wt_B (wp_ne (wp_ix (wp_var rfl (wp_var rfl ⟨q.2.map D.int, _, _, .inr rfl, rfl, atI_int (by omega), wp_ix (wp_ix (wp_var rfl (wp_int ⟨_, _, dInts p.2, .inr rfl, rfl, rfl, wp_var rfl ⟨_, _, _, .inr rfl, rfl, atI_int (c := r.2.2) (by omega), _, _, rfl, rfl, rfl, _, rfl, ?_⟩⟩)))⟩)))))
              rw [decide_eq_true (by rw [Option.some.inj ag]), Bool.not_true, if_neg Bool.false_ne_true]
              exact ws_next ⟨_, _, _, rfl⟩
            · rw [if_neg e3]
              exact ws_next ⟨_, _, _, rfl⟩
        · rw [decide_eq_false (fun z => e2 (V.str.inj z)), if_neg Bool.false_ne_true, if_neg Bool.false_ne_true]
          exact ws_next ⟨_, _, _, rfl⟩
      · rw [decide_eq_false (fun z => e1 (V.str.inj z)), if_neg Bool.false_ne_true, if_neg Bool.false_ne_true]
        exact ws_next ⟨_, _, _, rfl⟩
    · rintro _ ⟨s6, s7, s8, rfl⟩
      exact ⟨_, _, _, _, _, _, rfl⟩
  · rintro _ ⟨s3, s4, s5, s6, s7, s8, rfl⟩
    exact ws_ret (wp_bl hs)
/-- rows as the model keeps them -/
structure RowsOk (h : House) (rs : List Row) : Prop where
  each : ∀ r ∈ rs, RowOk h.tabs r
  keep : ∀ p ∈ rs, ∀ q ∈ rs, Agree h.ruls p q
  few : rs.length ≤ 1000
def sp_need_rows (c : Addr) : Spc := fun ds S => ∃ (h : House) (rs : List Row), ds = [dHouse c h, .lst (rs.map dRow), .tup []] ∧ HOk h ∧ RowsOk h rs ∧ S .non
theorem len_need_rows {c : Addr} : ∀ ds S, sp_need_rows c ds S → ds.length = 3 := by rintro _ _ ⟨_, _, rfl, _⟩; rfl
theorem sc_need_rows : FnScope ["house", "rows", "ahead", "widths", "known", "at", "row"] ["house", "rows", "ahead"] (defScope (topS 33)) := ⟨rfl, rfl, rfl, by decide +kernel, rfl, by decide +kernel, by decide +kernel⟩
/-! slots: 0 house, 1 rows, 2 ahead, 3 widths, 4 known, 5 at, 6 row; cells: [] -/
theorem Txt.d_need_rows (T : Txt K mg cH cS cQ) : Df P w K mg base 4 "need_rows" ["house", "rows", "ahead"] [] (sp_need_rows cH) := by
  refine df_mk T.a_need_rows sc_need_rows (fun _ _ _ _ _ _ us hl => match us, hl with | [_, _, _], _ => rfl) len_need_rows fun f cdv A outer s H E hr => ?_
  refine ⟨_,
    (pss_cons (ps_if (pt_not (pt_val (pe_df T.d_is_sequence hr (by decide) (by rfl) (pa_cons (pv 1) pa_nil))))
      (pss_one ps_never)
      pss_nil)
    (pss_cons (ps_par (i := 3) (j := 4) (by rfl) sc_need_rows.nd rfl rfl (by decide) rfl rfl (pa_cons (pe_mth0 (pl := _) (pv 0) T.dt_names hr (by decide)) (pa_cons (pe_callTy (kCR (K := K) (r := rListS) cr_list) (by rfl) T.f_list (by decide +kernel) (pa_cons (pv 2) pa_nil)) pa_nil)) (by rfl))
    (pss_one (ps_for PassesOwn.never rfl (kPI (K := K) (w := iEnum) (pi_enum (by rfl) T.f_enumerate (pa_cons (pv 1) pa_nil))) (kPG (K := K) (w := gTup) (pg_tup (n := 2) rfl (pgs_cons (pg_name (i := 5) sc_need_rows.nd rfl (by first | exact Or.inl rfl | exact Or.inr rfl)) (pgs_cons (pg_name (i := 6) sc_need_rows.nd rfl (by first | exact Or.inl rfl | exact Or.inr rfl)) pgs_nil))))
      (pss_cons (ps_if (PW.pt (pw_or (pt_not (pt_val (pe_df T.d_is_row hr (by decide) (by rfl) (pa_cons (pv 6) (pa_cons (pv 3) pa_nil))))) (pw_or1 (pt_val (pe_df T.d_breaks hr (by decide) (by rfl) (pa_cons (pv 0) (pa_cons (pv 6) (pa_cons (pv 4) pa_nil))))))))
        (pss_one ps_never)
        pss_nil)
      (pss_one (ps_expr (kBM (K := K) (pe_bm PySem.F.plainAttrs_list PySem.F.slot_list_append PySem.F.type_list_append mt_append (pv 4) (pa_cons (pv 6) pa_nil)))))))))), fun B ds S h => ?_⟩
  obtain ⟨h, rs, rfl, ho, hr, hs⟩ := h
  refine ws_seq (ws_if (wt_not (wt_B (wp_call0 (wa_cons (wp_var rfl (wa_nil ⟨_, .inl rfl, _, rfl, ?_⟩)))))))
  refine ws_next (ws_seq (ws_parDN (by decide) (wp_meth .nil (wp_var rfl ⟨_, rfl, rfl, wa_nil ⟨h, rfl, ho.tabs, wn_listOf (wa_cons (wp_var rfl (wa_nil ⟨[], .inr rfl, ?_⟩)))⟩⟩))))
  refine ws_for (vs := [5, 6]) (wi_enum (wa_cons (wp_var rfl (wa_nil ⟨_, rfl, fun i ρ' => ∃ s5 s6, ρ' = [.d (dHouse cH h), .d (.lst (rs.map dRow)), .d (.tup []), .d (dWids h.tabs), .own (.lst ((rs.take i).map dRow)), s5, s6], ⟨_, _, rfl⟩, ?_, ?_⟩))))
  · rintro i d _ hd ⟨s5, s6, rfl⟩
    obtain ⟨x, hx, rfl⟩ := enumD_get hd
    rw [List.getElem?_map] at hx
    cases hri : rs[i]? with
    | none => rw [hri] at hx; cases hx
    | some r =>
      rw [hri] at hx
      cases hx
      have hm := List.mem_of_getElem? hri
      have hl := (List.getElem?_eq_some_iff.mp hri).1
      refine wg_tup rfl (wg_cons (wg_name (by simp) (wg_cons (wg_name (by simp) (wg_nil ?_)))))
      refine ws_seq (ws_if (wt_peek (i := 4) rfl (.inl ⟨_, rfl⟩) (wt_or (wt_not (wt_B (wp_call0 (wa_cons (wp_var rfl (wa_cons (wp_var rfl (wa_nil ⟨r, _, rfl, hr.each r hm, _, rfl, ?_⟩)))))))))))
      refine wt_B (wp_call0 (wa_cons (wp_var rfl (wa_cons (wp_var rfl (wa_cons (wp_var rfl (wa_nil ⟨h, r, rs.take i, rfl, ho, hr.each r hm, fun q hq => ⟨hr.each q (List.mem_of_mem_take hq), hr.keep q (List.mem_of_mem_take hq) r hm⟩, _, rfl, ?_⟩))))))))
      refine ws_next (ws_append (i := 4) rfl (sz_lt (by rw [List.length_map, List.length_take]; have := hr.few; omega)) (wp_var rfl ⟨_, _, by rw [List.take_add_one, hri, List.map_append]; rfl⟩))
  · rintro _ ⟨s5, s6, rfl⟩
    exact hs
def sp_Store (c : Addr) : List D → (List (Str × D) → Prop) → Prop := fun ds S => ∃ (h : House) (rs : List Row), ds = [dHouse c h, .lst (rs.map dRow)] ∧ HOk h ∧ RowsOk h rs ∧ ∀ (rs' : List Row) (ns : List Int), (∀ r, r ∈ rs' ↔ r ∈ rs) → rs'.length ≤ rs.length → S [("house", dHouse c h), ("rows", .tup (rs'.map dRow)), ("figures", dInts ns)]
theorem len_Store {c : Addr} : ∀ ds S, sp_Store c ds S → ds.length = 2 := by rintro _ _ ⟨_, _, rfl, _⟩; rfl
theorem sc_Store_init : FnScope ["self", "house", "rows", "numbers", "table", "cells"] ["self", "house", "rows"] (defScope (inClass (topS 34) 0)) := ⟨rfl, rfl, rfl, by decide +kernel, rfl, by decide +kernel, by decide +kernel⟩
/-! slots: 0 self, 1 house, 2 rows, 3 numbers, 4 table, 5 cells; cells: [] -/
theorem Txt.m_Store (T : Txt K mg cH cS cQ) : Dc P w K mg base 5 "Store" cS ["self", "house", "rows"] (sp_Store cH) := by
  obtain ⟨a, ha⟩ := T.i_Store
  refine dc_mkD (n := 2) ha T.g_Store (by simp) sc_Store_init (fun _ _ _ _ _ _ _ us its hl hm => match us, hl, its, hm with | [_, _, _], _, [_], _ => ⟨_, rfl, rfl⟩) rfl len_Store fun f cdv A outer s H E hr => ?_
  refine ⟨_,
    (pss_cons (ps_expr (pe_df T.d_need_rows hr (by decide) (by rfl) (pa_cons (pv 1) (pa_cons (pv 2) (pa_cons (pe_tup pa_nil) pa_nil)))))
    (pss_cons (ps_set (i := 3) sc_Store_init.nd rfl (by first | exact Or.inl rfl | exact Or.inr rfl) (pe_lst pa_nil))
    (pss_cons (ps_for PassesOwn.never rfl (kPI (K := K) (w := iSeq) (pi_seq (pv 2))) (kPG (K := K) (w := gTup) (pg_tup (n := 2) rfl (pgs_cons (pg_name (i := 4) sc_Store_init.nd rfl (by first | exact Or.inl rfl | exact Or.inr rfl)) (pgs_cons (pg_name (i := 5) sc_Store_init.nd rfl (by first | exact Or.inl rfl | exact Or.inr rfl)) pgs_nil))))
      (pss_one (ps_expr (kBM (K := K) (pe_bm PySem.F.plainAttrs_list PySem.F.slot_list_extend PySem.F.type_list_extend (kMt (K := K) (r := rExtA) mt_extA) (pv 3) (pa_cons (pv 5) pa_nil))))))
    (pss_cons (ps_fld (pv 0) (pv 1) rfl)
    (pss_cons (ps_fld (pv 0) (pe_callTy (kCR (K := K) (r := rTupS) cr_tup) (by rfl) T.f_tuple (by decide +kernel) (pa_cons (pe_callB (kCR (K := K) (r := rSortDt) (cr_sortDt (rm_u hr))) (by rfl) T.f_sorted (by decide +kernel) (pa_cons (pe_df T.d_once hr (by decide) (by rfl) (pa_cons (pv 2) pa_nil)) pa_nil)) pa_nil)) rfl)
    (pss_one (ps_fld (pv 0) (pe_callTy (kCR (K := K) (r := rTupS) cr_tup) (by rfl) T.f_tuple (by decide +kernel) (pa_cons (pe_callB (kCR (K := K) (r := rSortDt) (cr_sortDt (rm_u hr))) (by rfl) T.f_sorted (by decide +kernel) (pa_cons (pe_df T.d_once hr (by decide) (by rfl) (pa_cons (pv 3) pa_nil)) pa_nil)) pa_nil)) rfl))))))), fun B ds S x h => ?_⟩
  obtain ⟨h, rs, rfl, ho, hr, hs⟩ := h
  refine ws_seq (ws_drop (wp_call0 (wa_cons (wp_var rfl (wa_cons (wp_var rfl (wa_cons (wp_tup (wa_nil ⟨Nat.zero_le _, wa_nil ⟨h, rs, rfl, ho, hr, ?_⟩⟩)))))))))
  refine ws_seq (ws_asgN (wn_nil ?_))
  refine ws_seq (ws_for (vs := [4, 5]) (wi_seqV (i := 2) rfl (.inl rfl) ⟨fun i ρ' => ∃ (ns : List Int) (s4 s5 : Sl), ρ' = [.own (.ins x cS []), .d (dHouse cH h), .d (.lst (rs.map dRow)), .own (.lst (ns.map D.int)), s4, s5] ∧ ns.length ≤ 100 * i, ⟨[], _, _, rfl, Nat.zero_le _⟩, ?_, ?_⟩))
  · rintro i d _ hd ⟨ns, s4, s5, rfl, hn⟩
    have hi := (List.getElem?_eq_some_iff.mp hd).1
    rw [List.length_map] at hi
    obtain ⟨r, hm, rfl⟩ := List.mem_map.mp (List.mem_of_getElem? hd)
    have h1 := (hr.each r hm).few
    have h2 := hr.few
    refine wg_tup rfl (wg_cons (wg_name (by simp) (wg_cons (wg_name (by simp) (wg_nil ?_)))))
    refine ws_ext (i := 3) rfl (wp_var rfl ⟨r.2.map D.int, .inr rfl, by rw [List.length_map, List.length_map]; exact sz_le (by omega), ns ++ r.2, _, _, by rw [List.map_append]; rfl, by rw [List.length_append]; omega⟩)
  rintro _ ⟨ns, s4, s5, rfl, hn⟩
  rw [List.length_map] at hn
  have hf := hr.few
  refine ws_share (i := 3) rfl (.inl ⟨_, rfl⟩) ?_
  refine ws_seq (ws_fld rfl T.k_Store T.n_house (by simp) (wp_var rfl ?_))
  refine ws_seq (ws_fld rfl T.k_Store T.n_rows (by simp [fput]) (wp_tupOf (wa_cons (wp_sortDt (wa_cons (wp_call0 (wa_cons (wp_var rfl (wa_nil ⟨2, _, by omega, .inl rfl, by rw [List.length_map]; omega, fun d hd => ?_, fun ys hy _ _ hyl => ?_⟩)))))))))
  · obtain ⟨r, hr', rfl⟩ := List.mem_map.mp hd
    exact pur_row (row_str ho.tabs (hr.each r hr'))
  have him : ∀ d ∈ ys, ∃ r ∈ rs, d = dRow r := fun d hd => by
    obtain ⟨r, h1, h2⟩ := List.mem_map.mp ((hy d).mp hd)
    exact ⟨r, h1, h2.symm⟩
  obtain ⟨rs', e, hrs'⟩ := of_images (ds := srt ys) (f := dRow) (as := rs) fun d hd => him d (srt_mem.mp hd)
  refine wa_nil ⟨_, rfl, fun d hd => ?_, sortIn_rows him, wa_nil ⟨_, .inl rfl, ?_⟩⟩
  · obtain ⟨r, hr', rfl⟩ := him d hd
    exact ⟨2, pur_row (row_str ho.tabs (hr.each r hr'))⟩
  rw [e]
  refine ws_fld rfl T.k_Store T.n_figures (lt1000 (fput_len2 _ _ _ _) (by decide)) (wp_tupOf (wa_cons (wp_sortDt (wa_cons (wp_call0 (wa_cons (wp_var rfl (wa_nil ⟨2, _, by omega, .inl rfl, by rw [List.length_map]; omega, fun d hd => ?_, fun zs hz _ _ hzl => ?_⟩))))))))
  · obtain ⟨n, _, rfl⟩ := List.mem_map.mp hd
    exact .int _ _
  have him2 : ∀ d ∈ zs, ∃ n ∈ ns, d = D.int n := fun d hd => by
    obtain ⟨r, h1, h2⟩ := List.mem_map.mp ((hz d).mp hd)
    exact ⟨r, h1, h2.symm⟩
  obtain ⟨ns', e2, _⟩ := of_images (ds := srt zs) (f := D.int) (as := ns) fun d hd => him2 d (srt_mem.mp hd)
  refine wa_nil ⟨_, rfl, fun d hd => ?_, ?_, wa_nil ⟨_, .inl rfl, ?_⟩⟩
  · obtain ⟨n, _, rfl⟩ := him2 d hd
    exact ⟨0, .int _ _⟩
  · obtain ⟨ms, e3, _⟩ := of_images (ds := zs) (f := D.int) (as := ns) him2
    rw [e3]
    exact sortIn_ints ms
  rw [e2]
  refine ⟨_, rfl, hs rs' ns' (fun r => ⟨hrs' r, fun h => ?_⟩) ?_⟩
  · have : dRow r ∈ srt ys := srt_mem.mpr ((hy _).mpr (List.mem_map.mpr ⟨r, h, rfl⟩))
    rw [e] at this
    obtain ⟨q, hq, eq⟩ := List.mem_map.mp this
    rw [← dRow_inj eq]
    exact hq
  · have h1 := congrArg List.length e
    rw [srt_len, List.length_map] at h1
    rw [List.length_map] at hyl
    omega
end
end FS

/-! FsU4: bindings: extended, each_once. -/
namespace FS
open PySem L2
abbrev Bnd := List (Str × Int)
def bkv (p : Str × Int) : Key × D := (.inr p.1, .int p.2)
def dBnd (b : Bnd) : D := .dic (b.map bkv)
theorem kget_bnd (b : Bnd) (x : Str) : kget (b.map bkv) (.inr x) = (kget b x).map D.int := by
  unfold kget
  induction b with
  | nil => rfl
  | cons t l ih =>
    by_cases e : t.1 = x
    · simp [e, bkv]
    · have e' : ¬ (Sum.inr t.1 : Key) = Sum.inr x := fun z => e (Sum.inr.inj z)
      simpa [e, e', bkv] using ih
theorem kput_bnd (b : Bnd) (x : Str) (n : Int) : kput (b.map bkv) (.inr x) (.int n) = (kput b x n).map bkv := by
  have ea : ((b.map bkv).any fun kv => decide (kv.1 = .inr x)) = b.any fun kv => decide (kv.1 = x) := by
    induction b with
    | nil => rfl
    | cons y ns ih =>
      rw [List.map_cons, List.any_cons, List.any_cons, ih]
      by_cases e : y.1 = x
      · simp [e, bkv]
      · have e' : ¬ (Sum.inr y.1 : Key) = .inr x := fun z => e (Sum.inr.inj z)
        simp [e, e', bkv]
  unfold kput
  rw [ea]
  by_cases h : (b.any fun kv => decide (kv.1 = x)) = true
  · rw [if_pos h, if_pos h, List.map_map, List.map_map]
    refine List.map_congr_left fun y _ => ?_
    show (if (Sum.inr y.1 : Key) = .inr x then ((Sum.inr y.1 : Key), D.int n) else (Sum.inr y.1, .int y.2)) = bkv (if y.1 = x then (y.1, n) else y)
    by_cases e : y.1 = x
    · rw [if_pos (by rw [e]), if_pos e]; rfl
    · rw [if_neg (fun z => e (Sum.inr.inj z)), if_neg e]; rfl
  · rw [if_neg h, if_neg h, List.map_append]
    rfl
theorem kput_mem {κ α : Type} [DecidableEq κ] {l : List (κ × α)} {k : κ} {v : α} {e : κ × α} : e ∈ kput l k v ↔ e = (k, v) ∨ (e ∈ l ∧ e.1 ≠ k) := by
  unfold kput
  by_cases h : (l.any fun kv => decide (kv.1 = k)) = true
  · rw [if_pos h, List.mem_map]
    obtain ⟨kv, h1, h2⟩ := List.any_eq_true.mp h
    have h2 := of_decide_eq_true h2
    constructor
    · rintro ⟨a, ha, rfl⟩
      by_cases z : a.1 = k
      · left; rw [if_pos z, z]
      · right; rw [if_neg z]; exact ⟨ha, z⟩
    · rintro (rfl | ⟨ha, z⟩)
      · exact ⟨kv, h1, by rw [if_pos h2, h2]⟩
      · exact ⟨e, ha, by rw [if_neg z]⟩
  · rw [if_neg h, List.mem_append, List.mem_singleton]
    constructor
    · rintro (ha | rfl)
      · exact .inr ⟨ha, fun z => h (List.any_eq_true.mpr ⟨e, ha, decide_eq_true z⟩)⟩
      · exact .inl rfl
    · rintro (rfl | ⟨ha, z⟩)
      · exact .inr rfl
      · exact .inl ha
theorem kget_of_mem {κ α : Type} [DecidableEq κ] : ∀ {l : List (κ × α)} {k : κ} {v : α}, (l.map (·.1)).Nodup → (k, v) ∈ l → kget l k = some v
  | (a, b) :: l, k, v, nd, h => by
    rw [List.map_cons, List.nodup_cons] at nd
    rcases List.mem_cons.mp h with e | h
    · cases e
      unfold kget
      simp
    · have : ¬ a = k := fun e => nd.1 (List.mem_map.mpr ⟨_, h, e.symm⟩)
      have ih := kget_of_mem nd.2 h
      unfold kget at ih ⊢
      simpa [this] using ih
theorem mem_of_kget {κ α : Type} [DecidableEq κ] {l : List (κ × α)} {k : κ} {v : α} (h : kget l k = some v) : (k, v) ∈ l := by
  unfold kget at h
  obtain ⟨t, h1, h2⟩ := Option.map_eq_some_iff.mp h
  have h3 := List.mem_of_find?_eq_some h1
  have h4 := List.find?_some h1
  rw [← of_decide_eq_true h4, ← h2]
  exact h3
theorem kput_keys {κ α : Type} [DecidableEq κ] (l : List (κ × α)) (k : κ) (v : α) : (kput l k v).map (·.1) = if k ∈ l.map (·.1) then l.map (·.1) else l.map (·.1) ++ [k] := by
  unfold kput
  have ea : (l.any fun kv => decide (kv.1 = k)) = true ↔ k ∈ l.map (·.1) := by
    rw [List.any_eq_true, List.mem_map]
    exact ⟨fun ⟨a, h1, h2⟩ => ⟨a, h1, of_decide_eq_true h2⟩, fun ⟨a, h1, h2⟩ => ⟨a, h1, decide_eq_true h2⟩⟩
  by_cases h : k ∈ l.map (·.1)
  · rw [if_pos h, if_pos (ea.mpr h), List.map_map]
    refine List.map_congr_left fun y _ => ?_
    show (if y.1 = k then (y.1, v) else y).1 = y.1
    split <;> rfl
  · rw [if_neg h, if_neg (fun z => h (ea.mp z)), List.map_append]
    rfl
theorem kput_nodup {κ α : Type} [DecidableEq κ] {l : List (κ × α)} (k : κ) (v : α) (h : (l.map (·.1)).Nodup) : ((kput l k v).map (·.1)).Nodup := by
  rw [kput_keys]
  split
  · exact h
  · rename_i z
    rw [List.nodup_append]
    exact ⟨h, by simp, fun a ha b hb e => z (by rw [← List.mem_singleton.mp hb, ← e]; exact ha)⟩
/-- extended, as a function -/
def extB : Bnd → List Tm → List Int → Option Bnd
  | b, .inr x :: ts, n :: ns => if (kget b x).getD n = n then extB (kput b x n) ts ns else none
  | b, .inl i :: ts, n :: ns => if i = n then extB b ts ns else none
  | b, _, _ => some b
def dOpt : Option Bnd → D
  | some b => dBnd b
  | none => .non
theorem extB_nil_l (b : Bnd) (ns : List Int) : extB b [] ns = some b := by unfold extB; rfl
theorem extB_nil_r (b : Bnd) (ts : List Tm) : extB b ts [] = some b := by cases ts with
  | nil => unfold extB; rfl
  | cons t ts => cases t <;> (unfold extB; rfl)
theorem extB_inr (b : Bnd) (x : Str) (ts : List Tm) (n : Int) (ns : List Int) : extB b (.inr x :: ts) (n :: ns) = if (kget b x).getD n = n then extB (kput b x n) ts ns else none := rfl
theorem extB_inl (b : Bnd) (i : Int) (ts : List Tm) (n : Int) (ns : List Int) : extB b (.inl i :: ts) (n :: ns) = if i = n then extB b ts ns else none := rfl
theorem drop_cons {α : Type} {l : List α} {i : Nat} {a : α} (h : l[i]? = some a) : l.drop i = a :: l.drop (i + 1) := by
  obtain ⟨h1, h2⟩ := List.getElem?_eq_some_iff.mp h
  rw [List.drop_eq_getElem_cons h1, h2]
/-- a binding as the model keeps it -/
structure BOk (b : Bnd) : Prop where
  nodup : (b.map (·.1)).Nodup
  str : ∀ p ∈ b, PyData.strOk p.1 = true
  few : b.length ≤ 10000
def dPr (p : Str × Int) : D := .tup [.str p.1, .int p.2]
theorem items_bnd (b : Bnd) : (b.map bkv).map dItem = b.map dPr := by
  rw [List.map_map]
  rfl
theorem dPr_inj {a b : Str × Int} (h : dPr a = dPr b) : a = b := by
  have h' := D.tup.inj h
  injection h' with h1 h2
  injection h2 with h2 _
  exact Prod.ext (D.str.inj h1) (D.int.inj h2)
theorem srt_items (b : Bnd) : ∃ ps : Bnd, srt ((b.map bkv).map dItem) = ps.map dPr ∧ ∀ p, p ∈ ps ↔ p ∈ b := by
  rw [items_bnd]
  obtain ⟨ps, e, h⟩ := of_images (ds := srt (b.map dPr)) (f := dPr) (as := b) fun d hd => by
    obtain ⟨p, h1, h2⟩ := List.mem_map.mp (srt_mem.mp hd)
    exact ⟨p, h1, h2.symm⟩
  refine ⟨ps, e, fun p => ⟨h p, fun hp => ?_⟩⟩
  have : dPr p ∈ srt (b.map dPr) := srt_mem.mpr (List.mem_map.mpr ⟨p, hp, rfl⟩)
  rw [e] at this
  obtain ⟨q, hq, eq⟩ := List.mem_map.mp this
  rw [← dPr_inj eq]
  exact hq
theorem sortIn_items (b : Bnd) : SortIn (pys ((b.map bkv).map dItem)) := by
  rw [items_bnd]
  have im : ∀ d ∈ b.map dPr, ∃ p : Str × Int, d.py = .tuple [.str p.1, .int p.2] := fun d hd => by
    obtain ⟨p, _, rfl⟩ := List.mem_map.mp hd
    exact ⟨p, rfl⟩
  refine sortIn_tup (fun d hd e he => ?_) (fun d hd => ?_) (fun d hd => ?_) (fun d hd => ?_)
  · obtain ⟨p, hp⟩ := im d hd
    obtain ⟨q, hq⟩ := im e he
    rw [hp, hq]
    rfl
  · obtain ⟨p, hp⟩ := im d hd
    rw [hp]
    exact ⟨_, _, rfl⟩
  · obtain ⟨p, hp⟩ := im d hd
    rw [hp]
    simp [PyData.depth, PyData.depthAll]
  · obtain ⟨p, hp⟩ := im d hd
    rw [hp]
    rfl
theorem pur_item {p : Str × Int} (h : PyData.strOk p.1 = true) : Pur 1 (dItem (bkv p)) := .tup 0 _ fun d hd => by
  rcases List.mem_cons.mp hd with rfl | hd
  · exact .str _ _ h
  · rw [List.mem_singleton.mp hd]
    exact .int _ _
theorem bkvs_inj : ∀ {a b : Bnd}, a.map bkv = b.map bkv → a = b
  | [], [], _ => rfl
  | p :: l, q :: m, h => by
    rw [List.map_cons, List.map_cons] at h
    injection h with h1 h2
    have h3 := Prod.mk.inj h1
    rw [Prod.ext (Sum.inr.inj h3.1) (D.int.inj h3.2), bkvs_inj h2]
  | [], _ :: _, h => by cases h
  | _ :: _, [], h => by cases h
theorem dBnd_inj (a b : Bnd) (h : dBnd a = dBnd b) : a = b := bkvs_inj (D.dic.inj h)
theorem kput_len2 {κ α : Type} [DecidableEq κ] {l : List (κ × α)} {k : κ} {v : α} {n : Nat} (h : l.length ≤ n) : (kput l k v).length ≤ n + 1 := Nat.le_trans (kput_len l k v) (Nat.succ_le_succ h)
section
variable {K : PySem.W.Frag} {B : Addr → Prop} {ρ : Ro}
theorem wi_zipM {t : TA} {S : List D → Prop} (h : WpA K B t ρ fun ds => ∃ xs ys, (ds = [.tup xs, .lst ys] ∨ ds = [.tup xs, .tup ys]) ∧ S (zipD xs ys)) : WpI K B (iZipM K t) ρ S := fun H0 G H σ E R k => h H0 G H σ E _ fun vs ds G1 H1 g1 r1 ⟨xs, ys, e, s⟩ => by
  rcases e with e | e <;> subst e
  · cases r1 with
    | cons r1 r2 =>
    cases r2 with
    | cons r2 r3 =>
    cases r3
    cases r1 with
    | @tup a vs1 _ e1 q1 =>
    cases r2 with
    | @lst b vs2 _ e2 q2 =>
    have at1 : ∀ G' H', Ex G1 G' → GH B G' H' → SqT K H' a vs1 := fun G' H' x g => .inl (.inl (g.gh _ _ (x _ _ e1)))
    have at2 : ∀ G' H', Ex G1 G' → GH B G' H' → SqL K H' b vs2 := fun G' H' x g => .inl (.inl (g.gh _ _ (x _ _ e2)))
    refine ⟨a, b, vs1, vs2, rfl, .inl ⟨at1 _ _ (Ex.refl _) g1.gH, at2 _ _ (Ex.refl _) g1.gH, k _ (zipD xs ys) G1 H1 g1 ⟨fun i G' H' x g hi => ?_, fun i d G' H' v H'' x g hd y => ?_, fun G' H' x g => ?_⟩ s⟩⟩
    · obtain ⟨d, hd⟩ : ∃ d, (zipD xs ys)[i]? = some d := ⟨_, List.getElem?_eq_getElem hi⟩
      obtain ⟨p, q, h1, h2, _⟩ := zipD_get hd
      obtain ⟨v1, h3, _⟩ := q1.get h1
      obtain ⟨v2, h4, _⟩ := q2.get h2
      exact ⟨vs1, vs2, v1, v2, at1 _ _ x g, at2 _ _ x g, h3, h4⟩
    · obtain ⟨T, v1, v2, rfl, hT, rfl, f1, f2⟩ := y
      obtain ⟨p, q, h1, h2, rfl⟩ := zipD_get hd
      obtain ⟨w1, h3, d1⟩ := q1.get h1
      obtain ⟨w2, h4, d2⟩ := q2.get h2
      have z1 := f1 _ (at1 _ _ x g)
      have z2 := f2 _ (at2 _ _ x g)
      rw [h3] at z1
      rw [h4] at z2
      cases z1
      cases z2
      have xn := x.trans (Ex.new (o := .tup [v1, v2]) (g.gh.free hT))
      exact ⟨_, Gr.new g hT, .tup upd_same (.cons (d1.mono xn) (.cons (d2.mono xn) .nil))⟩
    · refine ⟨vs1, vs2, at1 _ _ x g, at2 _ _ x g, ?_⟩
      rw [zipD_len, q1.length, q2.length]
      omega
  · cases r1 with
    | cons r1 r2 =>
    cases r2 with
    | cons r2 r3 =>
    cases r3
    cases r1 with
    | @tup a vs1 _ e1 q1 =>
    cases r2 with
    | @tup b vs2 _ e2 q2 =>
    have at1 : ∀ G' H', Ex G1 G' → GH B G' H' → SqT K H' a vs1 := fun G' H' x g => .inl (.inl (g.gh _ _ (x _ _ e1)))
    have at2 : ∀ G' H', Ex G1 G' → GH B G' H' → SqT K H' b vs2 := fun G' H' x g => .inl (.inl (g.gh _ _ (x _ _ e2)))
    refine ⟨a, b, vs1, vs2, rfl, .inr ⟨at1 _ _ (Ex.refl _) g1.gH, at2 _ _ (Ex.refl _) g1.gH, k _ (zipD xs ys) G1 H1 g1 ⟨fun i G' H' x g hi => ?_, fun i d G' H' v H'' x g hd y => ?_, fun G' H' x g => ?_⟩ s⟩⟩
    · obtain ⟨d, hd⟩ : ∃ d, (zipD xs ys)[i]? = some d := ⟨_, List.getElem?_eq_getElem hi⟩
      obtain ⟨p, q, h1, h2, _⟩ := zipD_get hd
      obtain ⟨v1, h3, _⟩ := q1.get h1
      obtain ⟨v2, h4, _⟩ := q2.get h2
      exact ⟨vs1, vs2, v1, v2, at1 _ _ x g, at2 _ _ x g, h3, h4⟩
    · obtain ⟨T, v1, v2, rfl, hT, rfl, f1, f2⟩ := y
      obtain ⟨p, q, h1, h2, rfl⟩ := zipD_get hd
      obtain ⟨w1, h3, d1⟩ := q1.get h1
      obtain ⟨w2, h4, d2⟩ := q2.get h2
      have z1 := f1 _ (at1 _ _ x g)
      have z2 := f2 _ (at2 _ _ x g)
      rw [h3] at z1
      rw [h4] at z2
      cases z1
      cases z2
      have xn := x.trans (Ex.new (o := .tup [v1, v2]) (g.gh.free hT))
      exact ⟨_, Gr.new g hT, .tup upd_same (.cons (d1.mono xn) (.cons (d2.mono xn) .nil))⟩
    · refine ⟨vs1, vs2, at1 _ _ x g, at2 _ _ x g, ?_⟩
      rw [zipD_len, q1.length, q2.length]
      omega
end
section
variable {P : Program} {w : World} {K : PySem.W.Frag} {mg : Str → Option Value} {base : Heap} {cH cS cQ : Addr}
def sp_extended : Spc := fun ds S => ∃ (b : Bnd) (ts : List Tm) (ns : List Int), (ds = [dBnd b, dTms ts, .lst (ns.map D.int)] ∨ ds = [dBnd b, dTms ts, dInts ns]) ∧ b.length ≤ 10000 ∧ ts.length ≤ 100 ∧ S (dOpt (extB b ts ns))
theorem len_extended : ∀ ds S, sp_extended ds S → ds.length = 3 := by rintro _ _ ⟨_, _, _, rfl | rfl, _⟩ <;> rfl
theorem sc_extended : FnScope ["binding", "terms", "numbers", "found", "term", "number"] ["binding", "terms", "numbers"] (defScope (topS 43)) := ⟨rfl, rfl, rfl, by decide +kernel, rfl, by decide +kernel, by decide +kernel⟩
/-! slots: 0 binding, 1 terms, 2 numbers, 3 found, 4 term, 5 number; cells: [] -/
theorem Txt.d_extended (T : Txt K mg cH cS cQ) : Df P w K mg base 1 "extended" ["binding", "terms", "numbers"] [] sp_extended := by
  refine df_mk T.a_extended sc_extended (fun _ _ _ _ _ _ us hl => match us, hl with | [_, _, _], _ => rfl) len_extended fun f cdv A outer s H E hr => ?_
  refine ⟨_,
    (pss_cons (ps_set (i := 3) sc_extended.nd rfl (by first | exact Or.inl rfl | exact Or.inr rfl) (pe_callTy cr_dictD (by rfl) T.f_dict (by decide +kernel) (pa_cons (pv 0) pa_nil)))
    (pss_cons (ps_for PassesOwn.never rfl (kPI (K := K) (w := iZipM) (pi_zipM (by rfl) T.f_zip (pa_cons (pv 1) (pa_cons (pv 2) pa_nil)))) (kPG (K := K) (w := gTup) (pg_tup (n := 2) rfl (pgs_cons (pg_name (i := 4) sc_extended.nd rfl (by first | exact Or.inl rfl | exact Or.inr rfl)) (pgs_cons (pg_name (i := 5) sc_extended.nd rfl (by first | exact Or.inl rfl | exact Or.inr rfl)) pgs_nil))))
      (pss_one (ps_if (pt_val (pe_callB (kCR (K := K) (r := rIsi) call_isi) (by rfl) T.f_isinstance (by decide +kernel) (pa_cons (pv 4) (pa_cons (pe_ty (n := "str") T.f_str) pa_nil))))
        (pss_cons (ps_if (pt_cmpR op_ne (pe_dget2 (rm_u hr) (pv 3) (pv 4) (pv 5) ⟨rfl, rfl, rfl, rfl⟩) (pv 5) (nomark _))
          (pss_one (ps_ret pe_non))
          pss_nil)
        (pss_one (ps_dput (rm_u hr) (pv 3) (pv 4) (pv 5) rfl)))
        (pss_one (ps_if (pt_cmpR op_ne (pv 4) (pv 5) (nomark _))
          (pss_one (ps_ret pe_non))
          pss_nil)))))
    (pss_one (ps_ret (pv 3))))), fun B ds S h => ?_⟩
  obtain ⟨b, ts, ns, hd, hb, ht, hs⟩ := h
  obtain ⟨dn, e0, hdn⟩ : ∃ dn, ds = [dBnd b, dTms ts, dn] ∧ (dn = .lst (ns.map D.int) ∨ dn = .tup (ns.map D.int)) := by
    rcases hd with rfl | rfl
    · exact ⟨_, rfl, .inl rfl⟩
    · exact ⟨_, rfl, .inr rfl⟩
  subst e0
  clear hd
  refine ws_seq (ws_asgN (wn_dictOf (wa_cons (wp_var rfl (wa_nil ⟨_, rfl, ?_⟩)))))
  refine ws_seq (ws_for (vs := [4, 5]) (wi_zipM (wa_cons (wp_var rfl (wa_cons (wp_var rfl (wa_nil ⟨ts.map kD, ns.map D.int, hdn.imp (fun z => by rw [z]; rfl) (fun z => by rw [z]; rfl), fun i ρ' => ∃ (b' : Bnd) (s4 s5 : Sl), ρ' = [.d (dBnd b), .d (dTms ts), .d dn, .own (.dic (b'.map bkv)), s4, s5] ∧ extB b ts ns = extB b' (ts.drop i) (ns.drop i) ∧ b'.length ≤ b.length + i, ⟨b, _, _, rfl, rfl, Nat.le_refl _⟩, ?_, ?_⟩)))))))
  · rintro i d _ hd ⟨b', s4, s5, rfl, he, hl⟩
    obtain ⟨x, y, hx, hy, rfl⟩ := zipD_get hd
    rw [List.getElem?_map] at hx hy
    cases hti : ts[i]? with
    | none => rw [hti] at hx; cases hx
    | some t =>
    cases hni : ns[i]? with
    | none => rw [hni] at hy; cases hy
    | some n =>
    rw [hti] at hx
    rw [hni] at hy
    cases hx
    cases hy
    have hil := (List.getElem?_eq_some_iff.mp hti).1
    rw [drop_cons hti, drop_cons hni] at he
    refine wg_tup rfl (wg_cons (wg_name (by simp) (wg_cons (wg_name (by simp) (wg_nil ?_)))))
    cases t with
    | inr x =>
      rw [extB_inr] at he
      refine ws_if (wt_B (wp_isi (wp_var rfl ⟨_, _, rfl, rfl, true, rfl, ?_⟩)))
      have kg : ((kget (b'.map bkv) (.inr x)).getD (.int n)) = .int ((kget b' x).getD n) := by
        rw [kget_bnd]
        cases kget b' x <;> rfl
      refine ws_seq (ws_if (wt_peek (i := 3) rfl (.inr ⟨_, rfl⟩) (wt_B (wp_ne (wp_dget2 (wp_var rfl ⟨⟨_, rfl⟩, wp_var rfl (wp_var rfl ⟨_, .inr x, rfl, rfl, ?_⟩)⟩))))))
      rw [kg]
      refine wp_var rfl ⟨_, _, rfl, rfl, rfl, _, rfl, ?_⟩
      by_cases e : (kget b' x).getD n = n
      · rw [e, decide_eq_true rfl, Bool.not_true, if_neg Bool.false_ne_true]
        rw [if_pos e] at he
        refine ws_next (ws_put (i := 3) rfl (sz_lt (by rw [List.length_map]; omega)) (wp_var rfl (wp_var rfl ⟨.inr x, rfl, kput b' x n, _, _, by rw [kput_bnd]; rfl, he, by have := kput_len b' x n; omega⟩)))
      · rw [decide_eq_false (fun z => e (V.int.inj z)), Bool.not_false, if_pos rfl]
        rw [if_neg e] at he
        rw [he] at hs
        exact ws_ret (wp_non hs)
    | inl j =>
      rw [extB_inl] at he
      refine ws_if (wt_B (wp_isi (wp_var rfl ⟨_, _, rfl, rfl, false, rfl, ?_⟩)))
      refine ws_if (wt_B (wp_ne (wp_var rfl (wp_var rfl ⟨_, _, rfl, rfl, rfl, _, rfl, ?_⟩))))
      by_cases e : j = n
      · rw [e, decide_eq_true rfl, Bool.not_true, if_neg Bool.false_ne_true]
        rw [if_pos e] at he
        exact ws_next ⟨b', _, _, rfl, he, by omega⟩
      · rw [decide_eq_false (fun z => e (V.int.inj z)), Bool.not_false, if_pos rfl]
        rw [if_neg e] at he
        rw [he] at hs
        exact ws_ret (wp_non hs)
  · rintro _ ⟨b', s4, s5, rfl, he, hl⟩
    have : extB b ts ns = some b' := by
      rw [he, zipD_len, List.length_map, List.length_map]
      by_cases z : ts.length ≤ ns.length
      · rw [Nat.min_eq_left z, List.drop_length, extB_nil_l]
      · rw [Nat.min_eq_right (by omega), List.drop_length, extB_nil_r]
    rw [this] at hs
    exact ws_share (i := 3) rfl (.inr ⟨_, rfl⟩) (ws_ret (wp_var rfl hs))
def sp_each_once : Spc := fun ds S => ∃ bs : List Bnd, ds = [.lst (bs.map dBnd)] ∧ bs.length ≤ 1000000 ∧ (∀ b ∈ bs, BOk b) ∧ ∀ rs : List Bnd, (∀ r ∈ rs, r ∈ bs) → (∀ b ∈ bs, ∃ r ∈ rs, ∀ p, p ∈ r ↔ p ∈ b) → rs.length ≤ bs.length → S (.lst (rs.map dBnd))
theorem len_each_once : ∀ ds S, sp_each_once ds S → ds.length = 1 := by rintro _ _ ⟨_, rfl, _⟩; rfl
theorem sc_each_once : FnScope ["some", "one"] ["some"] (defScope (topS 42)) := ⟨rfl, rfl, rfl, by decide +kernel, rfl, by decide +kernel, by decide +kernel⟩
/-! slots: 0 some, 1 one; cells: [] -/
theorem Txt.d_each_once (T : Txt K mg cH cS cQ) : Df P w K mg base 1 "each_once" ["some"] [] sp_each_once := by
  refine df_mk T.a_each_once sc_each_once (fun _ _ _ _ _ _ us hl => match us, hl with | [_], _ => rfl) len_each_once fun f cdv A outer s H E hr => ?_
  refine ⟨_,
    (pss_one (ps_ret (pe_callTy (cr_listVN nkP rfl) (by rfl) T.f_list (by decide +kernel) (pa_cons (pe_valsN nkP (pe_dcP (Pt := putNs nkP P w) (o0 := fun p => nsO nkP P w p []) (own := [("one", 1)]) rfl sc_each_once.nd (kPI (K := K) (w := iSeq) (pi_seq (pv 0))) (blkOk_by (own := [("one", 1)]) (by first | (show blkC ["some", "one"] (defScope (topS 42)) _ _ = true; decide +kernel) | rfl)) (fun H h hb => ns_new nkP hb) (fun _ _ _ _ _ => put_ns nkP (rm_u hr)) (fun _ _ _ _ _ => by exact (pg_name (i := 1) sc_each_once.nd rfl (by first | exact Or.inl rfl | exact Or.inr rfl))) (fun _ _ _ _ _ => by exact pts_nil) (fun _ _ _ _ _ => by exact (pe_callTy (kCR (K := K) (r := rTupS) cr_tup) (by rfl) T.f_tuple (by decide +kernel) (pa_cons (pe_callB (kCR (K := K) (r := rSortItK) (cr_sortItK rfl (rm_u hr))) (by rfl) T.f_sorted (by decide +kernel) (pa_cons (pe_items (pv 1)) pa_nil)) pa_nil))) (fun _ _ _ _ _ => by exact (pv 1)))) pa_nil)))), fun B ds S h => ?_⟩
  obtain ⟨bs, rfl, hz, ho, hs⟩ := h
  refine ws_ret (wp_valsN (wp_dX [] accN_new (wi_seqV (ds := bs.map dBnd) rfl (.inl rfl) ⟨fun i acc => acc.length ≤ i ∧ (∀ e ∈ acc, ∃ b ∈ bs, e.2 = dBnd b ∧ ∀ p, p ∈ e.1 ↔ p ∈ b) ∧ ∀ b ∈ bs.take i, ∃ e ∈ acc, ∀ p, p ∈ e.1 ↔ p ∈ b, ⟨Nat.le_refl _, fun _ h => absurd h List.not_mem_nil, fun _ h => absurd h (by simp)⟩, ?_, ?_⟩)))
  · rintro i d acc hd ⟨h1, h2, h3⟩
    rw [List.getElem?_map] at hd
    cases hbi : bs[i]? with
    | none => rw [hbi] at hd; cases hd
    | some b =>
      rw [hbi] at hd
      cases hd
      have hm := List.mem_of_getElem? hbi
      have hl := (List.getElem?_eq_some_iff.mp hbi).1
      have bo := ho b hm
      obtain ⟨ps, e, hps⟩ := srt_items b
      refine wg_name (by simp) (wt_yes (wr_putN (dk := dPs) (fun _ _ _ r => nk_of r) (wp_tupOf (wa_cons (wp_sortIt (wp_var rfl ⟨b.map bkv, rfl, fun x hx => ?_, sortIn_items b, wa_nil ⟨_, .inl rfl, wp_var rfl ⟨sz_lt (by omega), rfl, ps, congrArg D.tup e, kput_len2 h1, fun e he => ?_, fun c hc => ?_⟩⟩⟩))))))
      · obtain ⟨p, hp, rfl⟩ := List.mem_map.mp hx
        exact ⟨rfl, 1, pur_item (bo.str p hp)⟩
      · rcases kput_mem.mp he with rfl | ⟨he, _⟩
        · exact ⟨b, hm, rfl, hps⟩
        · exact h2 e he
      · rw [List.take_add_one, hbi] at hc
        rcases List.mem_append.mp hc with hc | hc
        · obtain ⟨e, he, hec⟩ := h3 c hc
          by_cases z : e.1 = ps
          · exact ⟨(ps, dBnd b), kput_mem.mpr (.inl rfl), fun p => by rw [← hec, z]⟩
          · exact ⟨e, kput_mem.mpr (.inr ⟨he, z⟩), hec⟩
        · rw [List.mem_singleton.mp hc]
          exact ⟨(ps, dBnd b), kput_mem.mpr (.inl rfl), hps⟩
  · rintro acc ⟨h1, h2, h3⟩
    rw [List.length_map] at h1 h3
    rw [List.take_length] at h3
    obtain ⟨rs, er, hr⟩ := of_images (ds := acc.map (·.2)) (f := dBnd) (as := bs) fun d hd => by
      obtain ⟨e, he, rfl⟩ := List.mem_map.mp hd
      obtain ⟨b, hb, eb, _⟩ := h2 e he
      exact ⟨b, hb, eb⟩
    rw [er]
    have dinj := @dBnd_inj
    refine hs rs hr (fun b hb => ?_) ?_
    · obtain ⟨e, he, hec⟩ := h3 b hb
      obtain ⟨c, hc, ec, hcc⟩ := h2 e he
      have : e.2 ∈ acc.map (·.2) := List.mem_map.mpr ⟨e, he, rfl⟩
      rw [er, ec] at this
      obtain ⟨r, hr', e'⟩ := List.mem_map.mp this
      rw [dinj _ _ e'] at hr'
      exact ⟨c, hr', fun p => by rw [← hcc, hec]⟩
    · have := congrArg List.length er
      rw [List.length_map, List.length_map] at this
      omega
end
end FS

/-! FsU5: matches. -/
namespace FS
open PySem L2
def ev (f : Str → Int) : Tm → Int
  | .inl i => i
  | .inr x => f x
def Agr (f : Str → Int) (b : Bnd) : Prop := ∀ p ∈ b, f p.1 = p.2
def Sat (rows : List Row) (f : Str → Int) (a : At) : Prop := ((a.1, a.2.map (ev f)) : Row) ∈ rows
structure ExtOk (b : Bnd) (ts : List Tm) (ns : List Int) (b' : Bnd) : Prop where
  nodup : (b'.map (·.1)).Nodup
  sub : ∀ p ∈ b, p ∈ b'
  org : ∀ p ∈ b', p ∈ b ∨ .inr p.1 ∈ ts
  all : ∀ x, .inr x ∈ ts → x ∈ b'.map (·.1)
  evs : ∀ f, Agr f b' → ts.map (ev f) = ns
  few : b'.length ≤ b.length + ts.length
theorem extB_some : ∀ {ts : List Tm} {b : Bnd} {ns : List Int} {b' : Bnd}, (b.map (·.1)).Nodup → ts.length = ns.length → extB b ts ns = some b' → ExtOk b ts ns b'
  | [], b, [], b', nd, _, h => by
    rw [extB_nil_l] at h
    cases h
    exact ⟨nd, fun _ h => h, fun _ h => .inl h, fun _ h => absurd h List.not_mem_nil, fun _ _ => rfl, Nat.le_refl _⟩
  | [], b, _ :: _, b', nd, hl, h => by cases hl
  | _ :: _, b, [], b', nd, hl, h => by cases hl
  | .inl i :: ts, b, n :: ns, b', nd, hl, h => by
    rw [extB_inl] at h
    by_cases e : i = n
    · rw [if_pos e] at h
      have r := extB_some nd (Nat.succ.inj hl) h
      exact ⟨r.nodup, r.sub, fun p hp => (r.org p hp).imp id fun z => List.mem_cons_of_mem _ z, fun x hx => r.all x (by
        rcases List.mem_cons.mp hx with z | z
        · cases z
        · exact z), fun f hf => by rw [List.map_cons, r.evs f hf]; exact congrArg (· :: ns) e, by have := r.few; rw [List.length_cons]; omega⟩
    · rw [if_neg e] at h
      cases h
  | .inr x :: ts, b, n :: ns, b', nd, hl, h => by
    rw [extB_inr] at h
    by_cases e : (kget b x).getD n = n
    · rw [if_pos e] at h
      have r := extB_some (kput_nodup x n nd) (Nat.succ.inj hl) h
      have hx : (x, n) ∈ b' := r.sub _ (kput_mem.mpr (.inl rfl))
      refine ⟨r.nodup, fun p hp => ?_, fun p hp => ?_, fun y hy => ?_, fun f hf => ?_, ?_⟩
      · by_cases z : p.1 = x
        · have := kget_of_mem (k := p.1) (v := p.2) nd hp
          rw [← z, this] at e
          have e' : p.2 = n := e
          have : p = (x, n) := Prod.ext z e'
          rw [this]
          exact hx
        · exact r.sub p (kput_mem.mpr (.inr ⟨hp, z⟩))
      · rcases r.org p hp with z | z
        · rcases kput_mem.mp z with z | z
          · rw [z]; exact .inr (List.mem_cons_self ..)
          · exact .inl z.1
        · exact .inr (List.mem_cons_of_mem _ z)
      · rcases List.mem_cons.mp hy with z | z
        · cases z
          exact List.mem_map.mpr ⟨_, hx, rfl⟩
        · exact r.all y z
      · rw [List.map_cons, r.evs f hf]
        exact congrArg (· :: ns) (hf _ hx)
      · have := r.few
        have := kput_len b x n
        rw [List.length_cons]
        omega
    · rw [if_neg e] at h
      cases h
theorem extB_full {f : Str → Int} : ∀ {ts : List Tm} {b : Bnd}, Agr f b → ∃ b', extB b ts (ts.map (ev f)) = some b' ∧ Agr f b'
  | [], b, h => ⟨b, extB_nil_l _ _, h⟩
  | .inl i :: ts, b, h => by
    obtain ⟨b', h1, h2⟩ := extB_full (ts := ts) h
    exact ⟨b', by rw [List.map_cons, extB_inl, show ev f (.inl i) = i from rfl, if_pos rfl]; exact h1, h2⟩
  | .inr x :: ts, b, h => by
    have : (kget b x).getD (f x) = f x := by
      cases e : kget b x with
      | none => rfl
      | some v => exact (h _ (mem_of_kget e)).symm
    obtain ⟨b', h1, h2⟩ := extB_full (ts := ts) (b := kput b x (f x)) fun p hp => by
      rcases kput_mem.mp hp with rfl | hp
      · rfl
      · exact h p hp.1
    exact ⟨b', by rw [List.map_cons, extB_inr, show ev f (.inr x) = f x from rfl, if_pos this]; exact h1, h2⟩
structure MI (rows : List Row) (atoms : List At) (b : Bnd) (kept : List Str) (i : Nat) (bs : List Bnd) : Prop where
  few : bs.length ≤ rows.length ^ i
  ok : ∀ o ∈ bs, (o.map (·.1)).Nodup ∧ (∀ p ∈ o, PyData.strOk p.1 = true) ∧ o.length ≤ b.length + 100 * i
  sound : ∀ o ∈ bs, ∃ f, Agr f b ∧ Agr f o ∧ ∀ a ∈ atoms.take i, Sat rows f a
  dom : ∀ o ∈ bs, ∀ x, (x ∈ b.map (·.1) ∨ InAts x (atoms.take i)) → (x ∈ kept ∨ InAts x (atoms.drop i)) → x ∈ o.map (·.1)
  full : ∀ f, Agr f b → (∀ a ∈ atoms.take i, Sat rows f a) → ∃ o ∈ bs, Agr f o
theorem MI.init {rows : List Row} {atoms : List At} {b : Bnd} {kept : List Str} (nd : (b.map (·.1)).Nodup) (so : ∀ p ∈ b, PyData.strOk p.1 = true) : MI rows atoms b kept 0 [b] where
  few := Nat.le_refl _
  ok := fun o ho => by
    rw [List.mem_singleton.mp ho]
    exact ⟨nd, so, Nat.le_refl _⟩
  sound := fun o ho => by
    rw [List.mem_singleton.mp ho]
    have : Agr (fun x => (kget b x).getD 0) b := fun p hp => by
      show (kget b p.1).getD 0 = p.2
      rw [kget_of_mem (k := p.1) (v := p.2) nd hp]
      rfl
    exact ⟨_, this, this, fun a ha => absurd ha (by simp)⟩
  dom := fun o ho x h _ => by
    rw [List.mem_singleton.mp ho]
    rcases h with h | ⟨a, ha, _⟩
    · exact h
    · exact absurd ha (by simp)
  full := fun f hf _ => ⟨b, List.mem_singleton.mpr rfl, hf⟩
def someOf (rows : List Row) (t : Str) : List (List Int) := (rows.filter fun r => decide (r.1 = t)).map (·.2)
theorem mem_someOf {rows : List Row} {t : Str} {ns : List Int} : ns ∈ someOf rows t ↔ (t, ns) ∈ rows := by
  unfold someOf
  rw [List.mem_map]
  constructor
  · rintro ⟨r, hr, rfl⟩
    obtain ⟨h1, h2⟩ := List.mem_filter.mp hr
    rw [← of_decide_eq_true h2]
    exact h1
  · intro h
    exact ⟨(t, ns), List.mem_filter.mpr ⟨h, decide_eq_true rfl⟩, rfl⟩
theorem someOf_len (rows : List Row) (t : Str) : (someOf rows t).length ≤ rows.length := by
  unfold someOf
  rw [List.length_map]
  exact List.length_filter_le _ _
/-- one round of matches -/
theorem MI.step {rows : List Row} {atoms : List At} {b : Bnd} {kept : List Str} {i : Nat} {bs : List Bnd} {a : At} {q : Str → Bool} {rs : List Bnd}
    (m : MI rows atoms b kept i bs) (ha : atoms[i]? = some a) (fit : ∀ r ∈ rows, r.1 = a.1 → a.2.length = r.2.length) (hl : a.2.length ≤ 100) (so : ∀ x, .inr x ∈ a.2 → PyData.strOk x = true)
    (hq : ∀ x, q x = true ↔ (InAts x (atoms.drop (i + 1)) ∨ x ∈ kept))
    (h1 : ∀ r ∈ rs, ∃ o ∈ bs, ∃ ns ∈ someOf rows a.1, ∃ o1, extB o a.2 ns = some o1 ∧ r = o1.filter fun p => q p.1)
    (h2 : ∀ o ∈ bs, ∀ ns ∈ someOf rows a.1, ∀ o1, extB o a.2 ns = some o1 → ∃ r ∈ rs, ∀ p, p ∈ r ↔ p ∈ o1.filter fun p => q p.1)
    (h3 : rs.length ≤ bs.length * rows.length) : MI rows atoms b kept (i + 1) rs := by
  have et : atoms.take (i + 1) = atoms.take i ++ [a] := by rw [List.take_add_one, ha]; rfl
  have ed := drop_cons ha
  have inA : ∀ x, InAts x (atoms.take (i + 1)) → InAts x (atoms.take i) ∨ .inr x ∈ a.2 := by
    rintro x ⟨c, hc, hx⟩
    rw [et] at hc
    rcases List.mem_append.mp hc with hc | hc
    · exact .inl ⟨c, hc, hx⟩
    · rw [List.mem_singleton.mp hc] at hx
      exact .inr hx
  have inD : ∀ x, InAts x (atoms.drop (i + 1)) → InAts x (atoms.drop i) := by
    rintro x ⟨c, hc, hx⟩
    exact ⟨c, by rw [ed]; exact List.mem_cons_of_mem _ hc, hx⟩
  have ext : ∀ {o ns o1}, o ∈ bs → ns ∈ someOf rows a.1 → extB o a.2 ns = some o1 → ExtOk o a.2 ns o1 := fun ho hn he => extB_some (m.ok _ ho).1 (fit (a.1, _) (mem_someOf.mp hn) rfl) he
  refine ⟨?_, fun r hr => ?_, fun r hr => ?_, fun r hr x hx hy => ?_, fun f hf hs => ?_⟩
  · rw [Nat.pow_succ]
    exact Nat.le_trans h3 (Nat.mul_le_mul_right _ m.few)
  · obtain ⟨o, ho, ns, hn, o1, he, rfl⟩ := h1 r hr
    have x := ext ho hn he
    obtain ⟨k1, k2, k3⟩ := m.ok o ho
    refine ⟨x.nodup.sublist (List.filter_sublist.map _), fun p hp => ?_, ?_⟩
    · rcases x.org p (List.mem_filter.mp hp).1 with z | z
      · exact k2 p z
      · exact so _ z
    · have := List.length_filter_le (fun p : Str × Int => q p.1) o1
      have := x.few
      omega
  · obtain ⟨o, ho, ns, hn, o1, he, rfl⟩ := h1 r hr
    have x := ext ho hn he
    obtain ⟨f, f1, f2, f3⟩ := m.sound o ho
    have a1 : Agr (fun y => (kget o1 y).getD (f y)) o1 := fun p hp => by
      show (kget o1 p.1).getD _ = p.2
      rw [kget_of_mem (k := p.1) (v := p.2) x.nodup hp]
      rfl
    have same : ∀ y, (y ∈ b.map (·.1) ∨ InAts y (atoms.take i)) → (kget o1 y).getD (f y) = f y := fun y hy => by
      cases e : kget o1 y with
      | none => rfl
      | some v =>
        have hv := mem_of_kget e
        show v = f y
        rcases x.org _ hv with z | z
        · exact (f2 _ z).symm
        · have := m.dom o ho y hy (.inr ⟨a, by rw [ed]; exact List.mem_cons_self .., z⟩)
          obtain ⟨p, hp, rfl⟩ := List.mem_map.mp this
          have := kget_of_mem (k := p.1) (v := p.2) x.nodup (x.sub p hp)
          rw [e] at this
          rw [Option.some.inj this]
          exact (f2 p hp).symm
    refine ⟨fun y => (kget o1 y).getD (f y), fun p hp => ?_, fun p hp => a1 p (List.mem_filter.mp hp).1, fun c hc => ?_⟩
    · rw [← f1 p hp]
      exact same p.1 (.inl (List.mem_map.mpr ⟨p, hp, rfl⟩))
    · rw [et] at hc
      rcases List.mem_append.mp hc with hc | hc
      · have : c.2.map (ev fun y => (kget o1 y).getD (f y)) = c.2.map (ev f) := List.map_congr_left fun t ht => by
          cases t with
          | inl j => rfl
          | inr y => exact same y (.inr ⟨c, hc, ht⟩)
        unfold Sat
        rw [this]
        exact f3 c hc
      · rw [List.mem_singleton.mp hc]
        unfold Sat
        rw [x.evs _ a1]
        exact mem_someOf.mp hn
  · obtain ⟨o, ho, ns, hn, o1, he, rfl⟩ := h1 r hr
    have e := ext ho hn he
    have : x ∈ o1.map (·.1) := by
      have old : (x ∈ b.map (·.1) ∨ InAts x (atoms.take i)) → x ∈ o1.map (·.1) := fun h => by
        obtain ⟨p, hp, rfl⟩ := List.mem_map.mp (m.dom o ho x h (hy.imp id (inD x)))
        exact List.mem_map.mpr ⟨p, e.sub p hp, rfl⟩
      rcases hx with hx | hx
      · exact old (.inl hx)
      · rcases inA x hx with z | z
        · exact old (.inr z)
        · exact e.all x z
    obtain ⟨p, hp, rfl⟩ := List.mem_map.mp this
    exact List.mem_map.mpr ⟨p, List.mem_filter.mpr ⟨hp, (hq p.1).mpr hy.symm⟩, rfl⟩
  · have hs' : ∀ c ∈ atoms.take i, Sat rows f c := fun c hc => hs c (by rw [et]; exact List.mem_append_left _ hc)
    obtain ⟨o, ho, hfo⟩ := m.full f hf hs'
    have sa := hs a (by rw [et]; exact List.mem_append_right _ (List.mem_singleton.mpr rfl))
    obtain ⟨o1, he, hfo1⟩ := extB_full (ts := a.2) hfo
    obtain ⟨r, hr, hrp⟩ := h2 o ho _ (mem_someOf.mpr sa) o1 he
    exact ⟨r, hr, fun p hp => hfo1 p (List.mem_filter.mp ((hrp p).mp hp)).1⟩
theorem kmerge_keys : ∀ {b a : List (Key × D)} {k : Key}, k ∈ (kmerge a b).map (·.1) ↔ k ∈ a.map (·.1) ∨ k ∈ b.map (·.1)
  | [], a, k => by
    show k ∈ a.map _ ↔ _
    simp
  | kv :: b, a, k => by
    show k ∈ (kmerge (kput a kv.1 kv.2) b).map _ ↔ _
    rw [kmerge_keys, kput_keys, List.map_cons, List.mem_cons]
    by_cases z : kv.1 ∈ a.map (·.1)
    · rw [if_pos z]
      constructor
      · rintro (h | h)
        · exact .inl h
        · exact .inr (.inr h)
      · rintro (h | h | h)
        · exact .inl h
        · rw [h]; exact .inl z
        · exact .inr h
    · rw [if_neg z, List.mem_append, List.mem_singleton, or_assoc]
theorem kget_isSome {κ α : Type} [DecidableEq κ] {l : List (κ × α)} {k : κ} : (kget l k).isSome = true ↔ k ∈ l.map (·.1) := by
  unfold kget
  rw [Option.isSome_map, List.find?_isSome, List.mem_map]
  exact ⟨fun ⟨x, h1, h2⟩ => ⟨x, h1, of_decide_eq_true h2⟩, fun ⟨x, h1, h2⟩ => ⟨x, h1, decide_eq_true h2⟩⟩
def someB : Option Bnd → Bool
  | some _ => true
  | none => false
def isDic : D → Bool
  | .dic _ => true
  | _ => false
theorem opts_D (wo : List (Option Bnd)) : (((wo.map dOpt).filter isDic).map id) = (wo.filterMap id).map dBnd := by
  rw [List.map_id]
  induction wo with
  | nil => rfl
  | cons o wo ih =>
    cases o with
    | none => exact ih
    | some b =>
      show dBnd b :: ((wo.map dOpt).filter isDic) = dBnd b :: (wo.filterMap id).map dBnd
      rw [ih]
def dropKeys (ks : List (Key × D)) : D → D
  | .dic kvs => .dic (kvs.filter fun kv => (kget ks kv.1).isSome)
  | d => d
def qOf (ks : List (Key × D)) (x : Str) : Bool := (kget ks (.inr x)).isSome
theorem dropKeys_bnd (ks : List (Key × D)) (b : Bnd) : dropKeys ks (dBnd b) = dBnd (b.filter fun p => qOf ks p.1) := by
  show D.dic ((b.map bkv).filter _) = D.dic ((b.filter _).map bkv)
  rw [List.filter_map]
  rfl
theorem rows_some (rows : List Row) (t : Str) (p : D → Bool) (f : D → D) (hp : ∀ r : Row, p (dRow r) = decide (r.1 = t)) (hf : ∀ r : Row, f (dRow r) = dInts r.2) : (((rows.map dRow).filter p).map f) = (someOf rows t).map dInts := by
  induction rows with
  | nil => rfl
  | cons r rows ih =>
    unfold someOf at ih ⊢
    rw [List.map_cons, List.filter_cons, List.filter_cons, hp]
    by_cases z : r.1 = t
    · rw [decide_eq_true z, if_pos rfl, if_pos rfl, List.map_cons, List.map_cons, List.map_cons, ih, hf]
    · rw [decide_eq_false z, if_neg Bool.false_ne_true, if_neg Bool.false_ne_true, ih]
def rowIs (t : Str) : D → Bool
  | .tup (.str x :: _) => decide (x = t)
  | _ => false
end FS

/-! FsU6: the walk of matches; questions. -/
namespace FS
open PySem L2
theorem cutD_suf {α : Type} (l : List α) (f : α → D) (i : Nat) : cutD (l.map f) (some ((i : Int) + 1)) none = (l.drop (i + 1)).map f := by
  rw [show ((i : Int) + 1) = ((i + 1 : Nat) : Int) from rfl, cutD_from, List.map_drop]
theorem kmerge_len : ∀ (b a : List (Key × D)), (kmerge a b).length ≤ a.length + b.length
  | [], a => Nat.le_refl _
  | kv :: b, a => by
    have := kmerge_len b (kput a kv.1 kv.2)
    have h2 := kput_len a kv.1 kv.2
    show (kmerge (kput a kv.1 kv.2) b).length ≤ _
    rw [List.length_cons]
    omega
theorem tabD_len (l : List (Key × D)) : (tabD l).length ≤ l.length := by
  have := kmerge_len l []
  rw [List.length_nil, Nat.zero_add] at this
  exact this
theorem key_ns {ns : List Str} {x : Str} : (.inr x : Key) ∈ (ns.map fun x => ((.inr x : Key), D.bl true)).map (·.1) ↔ x ∈ ns := by
  rw [List.mem_map]
  constructor
  · rintro ⟨kv, h, e⟩
    obtain ⟨y, hy, rfl⟩ := List.mem_map.mp h
    rw [← Sum.inr.inj e]
    exact hy
  · intro h
    exact ⟨_, List.mem_map.mpr ⟨x, h, rfl⟩, rfl⟩
theorem key_kept {ns : List Str} {x : Str} : (.inr x : Key) ∈ ((ns.map D.str).map fun d => (d.key.getD (.inl 0), D.bl true)).map (·.1) ↔ x ∈ ns := by
  have : ((ns.map D.str).map fun d => (d.key.getD (.inl 0), D.bl true)) = ns.map fun x => ((.inr x : Key), D.bl true) := by
    rw [List.map_map]
    rfl
  rw [this, key_ns]
theorem pow_small {n i : Nat} (h : n ≤ 10) (hi : i ≤ 5) : n ^ i ≤ 100000 :=
  Nat.le_trans (Nat.pow_le_pow_left h i) (Nat.pow_le_pow_right (by decide) hi)
section
variable {P : Program} {w : World} {K : PySem.W.Frag} {mg : Str → Option Value} {base : Heap} {cH cS cQ : Addr}
structure MatOk (rows : List Row) (atoms : List At) (b : Bnd) (kept : List Str) : Prop where
  rowsFew : rows.length ≤ 10
  atomsFew : atoms.length ≤ 5
  nodup : (b.map (·.1)).Nodup
  str : ∀ p ∈ b, PyData.strOk p.1 = true
  few : b.length ≤ 1000
  fit : ∀ a ∈ atoms, ∀ r ∈ rows, r.1 = a.1 → a.2.length = r.2.length
  wid : ∀ a ∈ atoms, a.2.length ≤ 100
  nms : ∀ a ∈ atoms, ∀ x, .inr x ∈ a.2 → PyData.strOk x = true
  kept : kept.length ≤ 1000
def sp_matches : Spc := fun ds S => ∃ (rows : List Row) (atoms : List At) (b : Bnd) (kept : List Str), ds = [.tup (rows.map dRow), .tup (atoms.map dAt), dBnd b, .lst (kept.map D.str)] ∧ MatOk rows atoms b kept ∧ ∀ out, MI rows atoms b kept atoms.length out → S (.lst (out.map dBnd))
theorem len_matches : ∀ ds S, sp_matches ds S → ds.length = 4 := by rintro _ _ ⟨_, _, _, _, rfl, _⟩; rfl
theorem sc_matches : FnScope ["rows", "atoms", "binding", "kept", "found", "at", "table", "terms", "some", "name", "numbers", "wider", "one", "wanted"] ["rows", "atoms", "binding", "kept"] (defScope (topS 44)) := ⟨rfl, rfl, rfl, by decide +kernel, rfl, by decide +kernel, by decide +kernel⟩
/-! slots: 0 rows, 1 atoms, 2 binding, 3 kept, 4 found, 5 at, 6 table, 7 terms, 8 some, 9 name, 10 numbers, 11 wider, 12 one, 13 wanted; cells: ['some', 'table', 'terms', 'wanted'] -/
theorem Txt.d_matches (T : Txt K mg cH cS cQ) : Df P w K mg base 3 "matches" ["rows", "atoms", "binding", "kept"] (List.drop 1 [.non]) sp_matches := by
  refine df_mkD (n := 4) (j := 1) T.a_matches (by simp) sc_matches rfl (fun _ _ _ _ _ _ _ us its hl hm => match us, hl, its, hm with | [_, _, _, _], _, [_], _ => ⟨_, rfl, rfl⟩) len_matches fun f cdv A outer s H E hr => ?_
  refine ⟨_,
    (pss_cons (ps_set (i := 4) sc_matches.nd rfl (by first | exact Or.inl rfl | exact Or.inr rfl) (pe_lst (pa_cons (pv 2) pa_nil)))
    (pss_cons (ps_for PassesOwn.never rfl (kPI (K := K) (w := iEnumT) (pi_enumT (by rfl) T.f_enumerate (pa_cons (pv 1) pa_nil))) (kPG (K := K) (w := gTup) (pg_tup (n := 2) rfl (pgs_cons (pg_name (i := 5) sc_matches.nd rfl (by first | exact Or.inl rfl | exact Or.inr rfl)) (pgs_cons (kPG (K := K) (w := gTup) (pg_tup (n := 2) rfl (pgs_cons (pg_name (i := 6) sc_matches.nd rfl (by first | exact Or.inl rfl | exact Or.inr rfl)) (pgs_cons (pg_name (i := 7) sc_matches.nd rfl (by first | exact Or.inl rfl | exact Or.inr rfl)) pgs_nil)))) pgs_nil))))
      (pss_cons (ps_asg (pe_lc (own := [("name", 9), ("numbers", 10)]) rfl sc_matches.nd (kPI (K := K) (w := iSeq) (pi_seq (pv 0))) (blkOk_by (own := [("name", 9), ("numbers", 10)]) (by first | (show blkC ["rows", "atoms", "binding", "kept", "found", "at", "table", "terms", "some", "name", "numbers", "wider", "one", "wanted"] (defScope (topS 44)) _ _ = true; decide +kernel) | rfl)) (fun _ _ _ _ _ => by exact (kPG (K := K) (w := gTup) (pg_tup (n := 2) rfl (pgs_cons (pg_name (i := 9) sc_matches.nd rfl (by first | exact Or.inl rfl | exact Or.inr rfl)) (pgs_cons (pg_name (i := 10) sc_matches.nd rfl (by first | exact Or.inl rfl | exact Or.inr rfl)) pgs_nil))))) (fun _ _ _ _ _ => by exact (pts_one (pt_cmpR op_eq (pv 9) (pv 6) (nomark _)))) (fun _ _ _ _ _ => by exact (pv 10))) (pg_name (i := 8) sc_matches.nd rfl (by first | exact Or.inl rfl | exact Or.inr rfl)))
      (pss_cons (ps_setLc2 (i := 11) (own := [("one", 12), ("numbers", 10)]) (vs1 := [10]) rfl sc_matches.nd rfl rfl (sw_true rfl rfl rfl (by decide +kernel)) (kPI (K := K) (w := iSeq) (pi_seq (pv 4))) (blkOk_by (own := [("one", 12), ("numbers", 10)]) (by first | (show blkC ["rows", "atoms", "binding", "kept", "found", "at", "table", "terms", "some", "name", "numbers", "wider", "one", "wanted"] (defScope (topS 44)) _ _ = true; decide +kernel) | rfl)) (by decide) (fun _ _ _ _ _ => by exact (pg_name (i := 12) sc_matches.nd rfl (by first | exact Or.inl rfl | exact Or.inr rfl))) (fun _ _ _ _ _ => by exact pts_nil) (fun _ _ _ _ _ => by exact (kPI (K := K) (w := iSeq) (pi_seq (pv 8)))) (fun _ _ _ _ _ => by exact (pg_name (i := 10) sc_matches.nd rfl (by first | exact Or.inl rfl | exact Or.inr rfl))) (fun _ _ _ _ _ => by exact pts_nil) (fun _ _ _ _ _ => by exact (pe_df T.d_extended hr (by decide) (by rfl) (pa_cons (pv 12) (pa_cons (pv 7) (pa_cons (pv 10) pa_nil))))))
      (pss_cons (ps_setLc (i := 4) (own := [("one", 12)]) rfl sc_matches.nd rfl rfl (sw_true rfl rfl rfl (by decide +kernel)) (kPI (K := K) (w := iSeq) (pi_seq (pv 11))) (blkOk_by (own := [("one", 12)]) (by first | (show blkC ["rows", "atoms", "binding", "kept", "found", "at", "table", "terms", "some", "name", "numbers", "wider", "one", "wanted"] (defScope (topS 44)) _ _ = true; decide +kernel) | rfl)) (fun _ _ _ _ _ => by exact (pg_name (i := 12) sc_matches.nd rfl (by first | exact Or.inl rfl | exact Or.inr rfl))) (fun _ _ _ _ _ => by exact (pts_one (pt_cmp (pc_notN (pv 12))))) (fun _ _ _ _ _ => by exact (pv 12)))
      (pss_one (ps_if (pt_cmp (pc_notN (pv 3)))
        (pss_cons (ps_set (i := 13) sc_matches.nd rfl (by first | exact Or.inl rfl | exact Or.inr rfl) (pe_dd (pe_df T.d_names_in hr (by decide) (by rfl) (pa_cons (pe_slice (kSl (K := K) (r := rSlA) sl_tupA) (pv 1) (po_some (pe_op op_add (pv 5) pe_int)) po_none) pa_nil)) (pe_dc (own := [("name", 9)]) rfl sc_matches.nd (kPI (K := K) (w := iSeq) (pi_seq (pv 3))) (blkOk_by (own := [("name", 9)]) (by first | (show blkC ["rows", "atoms", "binding", "kept", "found", "at", "table", "terms", "some", "name", "numbers", "wider", "one", "wanted"] (defScope (topS 44)) _ _ = true; decide +kernel) | rfl)) (fun _ _ _ _ _ => by exact (pg_name (i := 9) sc_matches.nd rfl (by first | exact Or.inl rfl | exact Or.inr rfl))) (fun _ _ _ _ _ => by exact pts_nil) (fun _ _ _ _ _ => by exact (pv 9)) (fun _ _ _ _ _ => by exact pe_bl))))
        (pss_one (ps_set (i := 4) sc_matches.nd rfl (by first | exact Or.inl rfl | exact Or.inr rfl) (pe_df T.d_each_once hr (by decide) (by rfl) (pa_cons (pe_lc (own := [("one", 12)]) rfl sc_matches.nd (kPI (K := K) (w := iSeq) (pi_seq (pv 4))) (blkOk_by (own := [("one", 12)]) (by first | (show blkC ["rows", "atoms", "binding", "kept", "found", "at", "table", "terms", "some", "name", "numbers", "wider", "one", "wanted"] (defScope (topS 44)) _ _ = true; decide +kernel) | rfl)) (fun _ _ _ _ _ => by exact (pg_name (i := 12) sc_matches.nd rfl (by first | exact Or.inl rfl | exact Or.inr rfl))) (fun _ _ _ _ _ => by exact pts_nil) (fun _ _ _ _ _ => by exact (pe_lk (pe_dc (own := [("name", 9)]) rfl sc_matches.nd (pi_keys (pv 12)) (blkOk_by (own := [("name", 9)]) (by first | (show blkC ["rows", "atoms", "binding", "kept", "found", "at", "table", "terms", "some", "name", "numbers", "wider", "one", "wanted"] (defScope (topS 44)) _ _ = true; decide +kernel) | rfl)) (fun _ _ _ _ _ => by exact (pg_name (i := 9) sc_matches.nd rfl (by first | exact Or.inl rfl | exact Or.inr rfl))) (fun _ _ _ _ _ => by exact (pts_one (pt_cmp (pc_din (rm_u hr) (pv 9) (pv 13)) rfl))) (fun _ _ _ _ _ => by exact (pv 9)) (fun _ _ _ _ _ => by exact (pe_dget (rm_u hr) (pv 12) (pv 9) (fun _ _ => rfl))))))) pa_nil)))))
        pss_nil))))))
    (pss_one (ps_ret (pv 4))))), fun B ds S h => ?_⟩
  obtain ⟨rows, atoms, b, kept, rfl, ok, hs⟩ := h
  refine ws_seq (ws_asg (wp_lst (wa_cons (wp_var rfl (wa_nil ⟨sz_le (Nat.succ_le_of_lt (by simp)), ?_⟩)))))
  refine ws_seq (ws_for (vs := [5, 6, 7]) (wi_enumT (wa_cons (wp_var rfl (wa_nil ⟨_, rfl, fun i ρ' => ∃ (bs : List Bnd) (s5 s6 s7 s8 s11 s13 : Sl), ρ' = [.d (.tup (rows.map dRow)), .d (.tup (atoms.map dAt)), .d (dBnd b), .d (.lst (kept.map D.str)), .d (.lst (bs.map dBnd)), s5, s6, s7, s8, .no, .no, s11, .no, s13] ∧ noOwn [s11, s13] = true ∧ MI rows atoms b kept i bs, ⟨[b], _, _, _, _, _, _, rfl, rfl, MI.init ok.nodup ok.str⟩, ?_, ?_⟩)))))
  · rintro i d _ hd ⟨bs, s5, s6, s7, s8, s11, s13, rfl, no, m⟩
    obtain ⟨x, hx, rfl⟩ := enumD_get hd
    rw [List.getElem?_map] at hx
    cases hai : atoms[i]? with
    | none => rw [hai] at hx; cases hx
    | some a =>
    rw [hai] at hx
    cases hx
    have am := List.mem_of_getElem? hai
    have il := (List.getElem?_eq_some_iff.mp hai).1
    have i5 : i + 1 ≤ 5 := by have := ok.atomsFew; omega
    have p1 := pow_small ok.rowsFew i5
    have lenR : (rows.map dRow).length ≤ sizeLine := by rw [List.length_map]; exact sz_le (by have := ok.rowsFew; omega)
    refine wg_tup rfl (wg_cons (wg_name (by simp) (wg_cons (wg_tup rfl (wg_cons (wg_name (by simp) (wg_cons (wg_name (by simp) (wg_nil (wg_nil ?_))))))))))
    refine ws_seq (ws_asg (wp_lcIf (wi_seqV (i := 0) rfl (.inr rfl) ⟨lenR, rowIs a.1, dSnd, fun d hd => ?_, ?_⟩)))
    · obtain ⟨r, hr, rfl⟩ := List.mem_map.mp hd
      refine wg_tup rfl (wg_cons (wg_name (by simp) (wg_cons (wg_name (by simp) (wg_nil (wt_B (wp_eq (wp_var rfl (wp_var rfl ⟨_, _, rfl, rfl, rfl, _, rfl, ?_, fun _ => wp_var rfl rfl⟩)))))))))
      show decide (V.str r.1 = V.str a.1) = decide (r.1 = a.1)
      exact decide_eq_decide.mpr ⟨V.str.inj, congrArg V.str⟩
    rw [rows_some rows a.1 _ _ (fun _ => rfl) (fun _ => rfl)]
    have sml := someOf_len rows a.1
    have big : bs.length * (someOf rows a.1).length ≤ 100000 := by
      refine Nat.le_trans (Nat.mul_le_mul m.few sml) ?_
      rw [← Nat.pow_succ]
      exact p1
    refine ws_seq (ws_asg (wp_lc2 (wi_seqV (i := 4) rfl (.inl rfl) ⟨fun j acc => acc = ((bs.take j).flatMap fun o => (someOf rows a.1).map (extB o a.2)).map dOpt ∧ acc.length = j * (someOf rows a.1).length, ⟨rfl, by simp⟩, ?_, ?_⟩)))
    · rintro j d acc hd ⟨ea, la⟩
      rw [List.getElem?_map] at hd
      cases hbj : bs[j]? with
      | none => rw [hbj] at hd; cases hd
      | some o =>
      rw [hbj] at hd
      cases hd
      have om := List.mem_of_getElem? hbj
      have jl := (List.getElem?_eq_some_iff.mp hbj).1
      have lj : (j + 1) * (someOf rows a.1).length ≤ 100000 := Nat.le_trans (Nat.mul_le_mul_right _ jl) big
      rw [Nat.succ_mul] at lj
      refine wg_name (by simp) ⟨?_, wt_yes (wi_seqV (i := 8) rfl (.inl rfl) ⟨fun k acc1 => acc1 = (((bs.take j).flatMap fun o => (someOf rows a.1).map (extB o a.2)) ++ ((someOf rows a.1).take k).map (extB o a.2)).map dOpt ∧ acc1.length = j * (someOf rows a.1).length + k, ⟨by rw [ea]; simp, la⟩, ?_, ?_⟩)⟩
      · cases s11 <;> cases s13 <;> first | rfl | cases no
      · rintro k e acc1 he ⟨ea1, la1⟩
        rw [List.getElem?_map] at he
        cases hnk : (someOf rows a.1)[k]? with
        | none => rw [hnk] at he; cases he
        | some ns =>
        rw [hnk] at he
        cases he
        have kl := (List.getElem?_eq_some_iff.mp hnk).1
        refine ⟨sz_lt (by omega), wg_name (by simp) (wt_yes (wp_call0 (wa_cons (wp_var rfl (wa_cons (wp_var rfl (wa_cons (wp_var rfl (wa_nil ⟨o, a.2, ns, .inr rfl, ?_, ok.wid a am, ?_, ?_⟩)))))))))⟩
        · have := (m.ok o om).2.2
          have := ok.few
          omega
        · rw [ea1, List.take_add_one, hnk, List.map_append, List.map_append, List.map_append, List.map_append, List.append_assoc]
          rfl
        · rw [List.length_append, la1]
          rfl
      · rintro acc1 ⟨ea1, la1⟩
        rw [List.length_map, List.take_length] at ea1
        rw [List.length_map] at la1
        refine ⟨?_, by rw [la1, Nat.succ_mul]⟩
        rw [ea1, List.take_add_one, hbj, List.flatMap_append]
        simp
    rintro acc ⟨ea, la⟩
    rw [List.length_map] at la
    rw [List.length_map, List.take_length] at ea
    have lz : acc.length ≤ sizeLine := sz_le (by omega)
    subst ea
    refine ws_seq (ws_asg (wp_lcIf (wi_seqV (i := 11) rfl (.inl rfl) ⟨lz, isDic, id, fun d hd => ?_, ?_⟩)))
    · obtain ⟨o, ho, rfl⟩ := List.mem_map.mp hd
      refine wg_name (by simp) (wt_B (wp_notN (wp_var rfl fun r hr => ⟨_, rfl, ?_, fun _ => wp_var rfl rfl⟩)))
      cases o with
      | none => rw [hr.mpr rfl]; rfl
      | some o =>
        cases r with
        | true => exact absurd (hr.mp rfl) (by intro z; cases z)
        | false => rfl
    rw [opts_D]
    generalize hb1 : (bs.flatMap fun o => (someOf rows a.1).map (extB o a.2)).filterMap id = bs1
    have mem1 : ∀ o1, o1 ∈ bs1 ↔ ∃ o ∈ bs, ∃ ns ∈ someOf rows a.1, extB o a.2 ns = some o1 := fun o1 => by
      rw [← hb1, List.mem_filterMap]
      constructor
      · rintro ⟨x, hx, e⟩
        obtain ⟨o, ho, hx⟩ := List.mem_flatMap.mp hx
        obtain ⟨ns, hn, rfl⟩ := List.mem_map.mp hx
        exact ⟨o, ho, ns, hn, e⟩
      · rintro ⟨o, ho, ns, hn, e⟩
        exact ⟨_, List.mem_flatMap.mpr ⟨o, ho, List.mem_map.mpr ⟨ns, hn, rfl⟩⟩, e⟩
    have len1 : bs1.length ≤ bs.length * (someOf rows a.1).length := by
      rw [← hb1, ← la, List.length_map]
      exact List.length_filterMap_le _ _
    refine ws_if (wt_B (wp_notN (wp_var rfl fun r hr => ⟨_, rfl, ?_⟩)))
    have er : r = false := by
      cases r with
      | true => exact absurd (hr.mp rfl) (by intro z; cases z)
      | false => rfl
    rw [er, Bool.not_false, if_pos rfl]
    refine ws_seq (ws_asg (wp_dd (wp_call0 (wa_cons (wp_slT (wp_var rfl (wo_some (wp_add (wp_var rfl (wp_int ⟨_, _, rfl, rfl, _, rfl, wo_none ⟨_, rfl, wa_nil ⟨atoms.drop (i + 1), .inr (by rw [cutD_suf]), ?_, fun c hc => ok.wid c (List.mem_of_mem_drop hc), fun ns nd hn hnl => ⟨_, rfl, ?_⟩⟩⟩⟩))))))))))
    · rw [List.length_drop]
      have := ok.atomsFew
      omega
    have lk : (kept.map D.str).length ≤ sizeLine := by rw [List.length_map]; exact sz_le (by have := ok.kept; omega)
    refine wp_dcMap (wi_seqV (i := 3) rfl (.inl rfl) ⟨lk, fun d => (d.key.getD (.inl 0), .bl true), fun d hd => ?_, ?_⟩)
    · obtain ⟨x, hx, rfl⟩ := List.mem_map.mp hd
      exact wg_name (by simp) (wp_var rfl (wp_bl ⟨rfl, rfl⟩))
    generalize hw : kmerge (kmerge [] (ns.map fun x => ((.inr x : Key), D.bl true))) (tabD ((kept.map D.str).map fun d => (d.key.getD (.inl 0), D.bl true))) = wk
    have hq : ∀ x, qOf wk x = true ↔ (InAts x (atoms.drop (i + 1)) ∨ x ∈ kept) := fun x => by
      unfold qOf
      rw [kget_isSome, ← hw, kmerge_keys, kmerge_keys, show ∀ l, tabD l = kmerge [] l from fun _ => rfl, kmerge_keys, ← hn, key_ns, key_kept]
      exact ⟨fun z => z.elim (fun z => z.elim (fun z => absurd z List.not_mem_nil) .inl) fun z => z.elim (fun z => absurd z List.not_mem_nil) .inr, fun z => z.elim (fun z => .inl (.inr z)) fun z => .inr (.inr z)⟩
    have tl : (tabD ((kept.map D.str).map fun d => (d.key.getD (.inl 0), D.bl true))).length ≤ kept.length := by
      have := tabD_len ((kept.map D.str).map fun d => (d.key.getD (.inl 0), D.bl true))
      rw [List.length_map, List.length_map] at this
      exact this
    refine ⟨_, rfl, ?_, ?_⟩
    · rw [List.length_map]
      have := ok.kept
      exact sz_le (by omega)
    show WpS K B _ _ _
    have hw' : kmerge (kmerge [] (ns.map fun x => ((.inr x : Key), D.bl true))) (tabD ((kept.map D.str).map fun d => (d.key.getD (.inl 0), D.bl true))) = wk := hw
    rw [hw']
    have l1 : (bs1.map dBnd).length ≤ sizeLine := by rw [List.length_map]; exact sz_le (by omega)
    have mem2 : ∀ r, r ∈ bs1.map (fun o1 => o1.filter fun p => qOf wk p.1) → ∃ o ∈ bs, ∃ ns ∈ someOf rows a.1, ∃ o1, extB o a.2 ns = some o1 ∧ r = o1.filter fun p => qOf wk p.1 := fun r hr => by
      obtain ⟨o1, h1, rfl⟩ := List.mem_map.mp hr
      obtain ⟨o, ho, ns, hn, e⟩ := (mem1 o1).mp h1
      exact ⟨o, ho, ns, hn, o1, e, rfl⟩
    have len2 : (bs1.map (fun o1 => o1.filter fun p => qOf wk p.1)).length ≤ bs.length * rows.length := by
      rw [List.length_map]
      exact Nat.le_trans len1 (Nat.mul_le_mul_left _ sml)
    have m2 : MI rows atoms b kept (i + 1) (bs1.map (fun o1 => o1.filter fun p => qOf wk p.1)) := m.step hai (ok.fit a am) (ok.wid a am) (ok.nms a am) hq mem2
      (fun o ho ns hn o1 e => ⟨_, List.mem_map.mpr ⟨o1, (mem1 o1).mpr ⟨o, ho, ns, hn, e⟩, rfl⟩, fun p => Iff.rfl⟩) len2
    refine ws_asg (wp_call0 (wa_cons (wp_lcMap (wi_seqV (i := 4) rfl (.inl rfl) ⟨l1, dropKeys wk, fun d hd => ?_, ?_⟩))))
    · obtain ⟨o1, h1, rfl⟩ := List.mem_map.mp hd
      have nd1 : (o1.map (·.1)).Nodup := by
        obtain ⟨o, ho, ns, hn, e⟩ := (mem1 o1).mp h1
        exact (extB_some (m.ok o ho).1 (ok.fit a am (a.1, ns) (mem_someOf.mp hn) rfl) e).nodup
      have ndk : ((o1.map bkv).map (·.1)).Nodup := by
        rw [List.map_map, show ((fun x : Key × D => x.1) ∘ bkv) = Sum.inr ∘ (fun p : Str × Int => p.1) from rfl, ← List.map_map]
        rw [List.nodup_iff_pairwise_ne] at nd1 ⊢
        exact List.Pairwise.map _ (fun a b n e => n (Sum.inr.inj e)) nd1
      have lo : ((o1.map bkv).map fun kv => kD kv.1).length ≤ sizeLine := by
        obtain ⟨o, ho, ns, hn, e⟩ := (mem1 o1).mp h1
        have h3 := (extB_some (m.ok o ho).1 (ok.fit a am (a.1, ns) (mem_someOf.mp hn) rfl) e).few
        have h4 := (m.ok o ho).2.2
        have h5 := ok.wid a am
        have h6 := ok.few
        rw [List.length_map, List.length_map]
        exact sz_le (by omega)
      refine wg_name (by simp) (wp_lk (i := 12) rfl rfl (wp_dc (wi_keys (i := 12) rfl ⟨lo, fun j acc => acc = ((o1.map bkv).take j).filter fun kv => (kget wk kv.1).isSome, rfl, ?_, ?_⟩)))
      · rintro j d acc hd ea
        rw [List.getElem?_map, List.getElem?_map] at hd
        cases hpj : o1[j]? with
        | none => rw [hpj] at hd; cases hd
        | some p =>
        rw [hpj] at hd
        cases hd
        have pm := List.mem_of_getElem? hpj
        have et : (o1.map bkv).take (j + 1) = (o1.map bkv).take j ++ [bkv p] := by rw [List.take_add_one, List.getElem?_map, hpj]; rfl
        have fr : (.inr p.1 : Key) ∉ ((o1.map bkv).take j).map (·.1) := fun z => by
          have h5 : ((((o1.map bkv).take j ++ [bkv p])).map (·.1)).Nodup := by
            rw [← et]
            exact ndk.sublist ((List.take_sublist _ _).map _)
          rw [List.map_append, List.nodup_append] at h5
          exact h5.2.2 _ z _ (List.mem_singleton.mpr rfl) rfl
        refine wg_name (by simp) (wt_B (wp_din (wp_var rfl (wp_var rfl ⟨_, .inr p.1, rfl, rfl, _, rfl, ?_⟩))))
        by_cases z : (kget wk (.inr p.1)).isSome = true
        · rw [if_pos z]
          refine wp_var rfl (wp_dgetZ (wp_var rfl (wp_var rfl ⟨_, .inr p.1, .int p.2, rfl, rfl, ?_, .inr p.1, rfl, ?_⟩)))
          · rw [kget_bnd, kget_of_mem (k := p.1) (v := p.2) nd1 pm]
            rfl
          · show kput acc (.inr p.1) (.int p.2) = ((o1.map bkv).take (j + 1)).filter fun kv => (kget wk kv.1).isSome
            have zb : (kget wk (bkv p).1).isSome = true := z
            rw [et, List.filter_append, ea, kput_fresh]
            · have : [bkv p].filter (fun kv => (kget wk kv.1).isSome) = [bkv p] := by
                rw [List.filter_cons, if_pos zb]
                rfl
              rw [this]
              rfl
            · intro h
              obtain ⟨q, hq1, hq2⟩ := List.mem_map.mp h
              exact fr (List.mem_map.mpr ⟨q, (List.mem_filter.mp hq1).1, hq2⟩)
        · rw [if_neg z]
          show acc = ((o1.map bkv).take (j + 1)).filter fun kv => (kget wk kv.1).isSome
          have zb : ¬ (kget wk (bkv p).1).isSome = true := z
          rw [et, List.filter_append, ea]
          have : [bkv p].filter (fun kv => (kget wk kv.1).isSome) = [] := by
            rw [List.filter_cons, if_neg zb]
            rfl
          rw [this, List.append_nil]
      · rintro acc ea
        rw [List.length_map, List.take_length] at ea
        subst ea
        refine ⟨_, rfl, fun q hq => ?_, rfl⟩
        obtain ⟨q', _, rfl⟩ := List.mem_map.mp (List.mem_filter.mp hq).1
        rfl
    · refine wa_nil ⟨bs1.map (fun o1 => o1.filter fun p => qOf wk p.1), ?_, ?_, fun b hb => ?_, fun rs h1 h2 h3 => ?_⟩
      · rw [List.map_map, List.map_map]
        exact congrArg (fun l => [D.lst l]) (List.map_congr_left fun o1 _ => dropKeys_bnd wk o1)
      · rw [List.length_map]
        omega
      · obtain ⟨k1, k2, k3⟩ := m2.ok b hb
        exact ⟨k1, k2, by have := ok.few; omega⟩
      · refine ⟨rs, _, _, _, _, _, _, rfl, rfl, m.step hai (ok.fit a am) (ok.wid a am) (ok.nms a am) hq (fun r hr => mem2 r (h1 r hr)) (fun o ho ns hn o1 e => ?_) (Nat.le_trans h3 len2)⟩
        obtain ⟨r, hr, hp⟩ := h2 _ (List.mem_map.mpr ⟨o1, (mem1 o1).mpr ⟨o, ho, ns, hn, e⟩, rfl⟩)
        exact ⟨r, hr, hp⟩
  · rintro _ ⟨bs, s5, s6, s7, s8, s11, s13, rfl, no, m⟩
    rw [enumD_len, List.length_map] at m
    exact ws_ret (wp_var rfl (hs bs m))
end
end FS

/-! FsU7: questions: made, numbers, answers. -/
namespace FS
open PySem L2
def memT : D → D
  | .tup [h, .lst l] => .tup [h, .tup l]
  | d => d
theorem memT_L (ms : List Mem) : (ms.map dMemL).map memT = ms.map dMemT := by
  rw [List.map_map]
  rfl
/-! ### sorted of a dict of numbers; a new dict as data -/
def rSortDI : List V → Hp → VK → Prop := fun xs H Q => ∃ (a : Addr) (kvs : List (Key × V)) (ks : List Int), xs = [.ref a] ∧ Rd H a (.dK kvs) ∧ kvs.map (·.1) = ks.map Sum.inl ∧ ks.length < 64 ∧
    ∀ (ys : List Int) (p : Addr), ys.Perm ks → ys.Pairwise (· ≤ ·) → H p = none → Q (.ref p) (upd H p (.lst (ys.map V.int)))
section
variable {K : PySem.W.Frag} {B : Addr → Prop} {ρ : Ro} {S : D → Prop}
theorem dks_fst {G : Hp} : ∀ {vs : List (Key × V)} {ds : List (Key × D)}, Dks K B G vs ds → vs.map (·.1) = ds.map (·.1)
  | _, _, .nil => rfl
  | _, _, .cons _ r => by rw [List.map_cons, List.map_cons, dks_fst r]
theorem wp_sortDI {t : TA} (h : WpA K B t ρ fun ds => ∃ xs ks, ds = [.dic xs] ∧ xs.map (·.1) = ks.map Sum.inl ∧ ks.length < 64 ∧ ∀ ys : List Int, ys.Perm ks → ys.Pairwise (· ≤ ·) → S (.lst (ys.map D.int))) : Wp K B (tCB rSortDI t) ρ S :=
  wp_cb (h.imp fun ds ⟨xs, ks, e, ek, hl, s⟩ G H vs Q gh r k => by
    subst e
    cases r with
    | cons r1 r2 =>
      cases r2
      cases r1 with
      | @dic p ys _ e r => exact ⟨p, ys, ks, rfl, gh.gh.rd e, by rw [dks_fst r, ek], hl, fun zs l hp hq hl => k _ _ _ _ (Gr.new gh hl) (.lst upd_same (ints_dts zs)) (s zs hp hq)⟩)
theorem wp_dK (s : S (.dic [])) : Wp K B tDNewK ρ S := fun H0 G H σ E Q k p hp => k _ _ _ _ (Gr.new E.gh hp) (.dic (.inl upd_same) .nil) s
end
theorem kmerge_nd : ∀ {b a : List (Key × D)}, (a.map (·.1)).Nodup → ((kmerge a b).map (·.1)).Nodup
  | [], _, h => h
  | kv :: b, a, h => kmerge_nd (b := b) (kput_nodup kv.1 kv.2 h)
theorem nodup_len {α : Type} [DecidableEq α] : ∀ {l m : List α}, l.Nodup → (∀ a ∈ l, a ∈ m) → l.length ≤ m.length
  | [], _, _, _ => Nat.zero_le _
  | a :: l, m, nd, h => by
    rw [List.nodup_cons] at nd
    have ha := h a (List.mem_cons_self ..)
    have := nodup_len (m := m.erase a) nd.2 fun b hb => (List.mem_erase_of_ne (fun e => nd.1 (by rw [← e]; exact hb))).mpr (h b (List.mem_cons_of_mem _ hb))
    rw [List.length_erase_of_mem ha] at this
    have : 0 < m.length := List.length_pos_of_mem ha
    rw [List.length_cons]
    omega
def intsOf (ts : List Tm) : List Int := ts.filterMap fun t => match t with
  | .inl i => some i
  | .inr _ => none
theorem mem_intsOf {i : Int} {ts : List Tm} : i ∈ intsOf ts ↔ .inl i ∈ ts := by
  unfold intsOf
  rw [List.mem_filterMap]
  constructor
  · rintro ⟨t, ht, e⟩
    cases t with
    | inr i => cases e
    | inl y => cases e; exact ht
  · intro h
    exact ⟨_, h, rfl⟩
theorem ints_D (ts : List Tm) : (((ts.map kD).filter fun d => !isStrD d).map id) = (intsOf ts).map D.int := by
  rw [List.map_id]
  induction ts with
  | nil => rfl
  | cons t ts ih =>
    cases t with
    | inr i =>
      show ((ts.map kD).filter _) = _
      rw [ih]
      rfl
    | inl x =>
      show D.int x :: ((ts.map kD).filter _) = _
      rw [ih]
      rfl
/-- the terms of a member, in places -/
def tssOf (m : Mem) : List (List Tm) := m.1 :: m.2.map (·.2)
def IsNum (ms : List Mem) (i : Int) : Prop := ∃ m ∈ ms, ∃ ts ∈ tssOf m, .inl i ∈ ts
structure QOk (q : Ques) : Prop where
  mems : MemsOk q.mems
  few : q.mems.length ≤ 10
  atoms : ∀ m ∈ q.mems, m.2.length ≤ 5
  told : ∀ m ∈ q.mems, q.told ≤ m.1.length
  nums : ∃ L : List Int, L.length < 64 ∧ ∀ i, IsNum q.mems i → i ∈ L
theorem tabD_ints (ns : List Int) : ∃ ks : List Int, (tabD ((ns.map D.int).map fun d => (d.key.getD (.inl 0), D.bl true))).map (·.1) = ks.map Sum.inl ∧ ks.Nodup ∧ ∀ i, i ∈ ks ↔ i ∈ ns := by
  have e : ((ns.map D.int).map fun d => (d.key.getD (.inl 0), D.bl true)) = ns.map fun i => ((.inl i : Key), D.bl true) := by
    rw [List.map_map]
    rfl
  rw [e]
  have hm : ∀ k, k ∈ (tabD (ns.map fun i => ((.inl i : Key), D.bl true))).map (·.1) ↔ ∃ i ∈ ns, k = .inl i := fun k => by
    rw [show ∀ l, tabD l = kmerge [] l from fun _ => rfl, kmerge_keys, List.map_map, List.map_nil, List.mem_map]
    constructor
    · rintro (z | ⟨i, hi, rfl⟩)
      · exact absurd z List.not_mem_nil
      · exact ⟨i, hi, rfl⟩
    · rintro ⟨i, hi, rfl⟩
      exact .inr ⟨i, hi, rfl⟩
  have nd : ((tabD (ns.map fun i => ((.inl i : Key), D.bl true))).map (·.1)).Nodup := kmerge_nd (a := []) List.nodup_nil
  generalize (tabD (ns.map fun i => ((.inl i : Key), D.bl true))).map (·.1) = kl at hm nd
  have : ∃ ks : List Int, kl = ks.map Sum.inl := by
    have h1 : ∀ k ∈ kl, ∃ i, k = .inl i := fun k hk => by
      obtain ⟨i, _, e⟩ := (hm k).mp hk
      exact ⟨i, e⟩
    clear hm nd
    induction kl with
    | nil => exact ⟨[], rfl⟩
    | cons k kl ih =>
      obtain ⟨i, rfl⟩ := h1 k (List.mem_cons_self ..)
      obtain ⟨ks, rfl⟩ := ih fun k hk => h1 k (List.mem_cons_of_mem _ hk)
      exact ⟨i :: ks, rfl⟩
  obtain ⟨ks, rfl⟩ := this
  refine ⟨ks, rfl, ?_, fun i => ?_⟩
  · rw [List.nodup_iff_pairwise_ne] at nd ⊢
    exact (List.pairwise_map.mp nd).imp fun h e => h (congrArg Sum.inl e)
  · have := hm (.inl i)
    rw [List.mem_map] at this
    constructor
    · intro h
      obtain ⟨j, hj, e⟩ := this.mp ⟨i, h, rfl⟩
      rw [Sum.inl.inj e]
      exact hj
    · intro h
      obtain ⟨j, hj, e⟩ := this.mpr ⟨i, h, rfl⟩
      rw [← Sum.inl.inj e]
      exact hj
section
variable {P : Program} {w : World} {K : PySem.W.Frag} {mg : Str → Option Value} {base : Heap} {cH cS cQ : Addr}
def sp_Question : List D → (List (Str × D) → Prop) → Prop := fun ds S => ∃ (ms : List Mem) (k : Nat), ds = [.lst (ms.map dMemL), .int (k : Nat)] ∧ MemsOk ms ∧ (∀ m ∈ ms, k ≤ m.1.length) ∧ S [("members", .tup (ms.map dMemT)), ("told", .int (k : Nat))]
theorem len_Question : ∀ ds S, sp_Question ds S → ds.length = 2 := by rintro _ _ ⟨_, _, rfl, _⟩; rfl
theorem sc_Question_init : FnScope ["self", "members", "told", "head", "atoms"] ["self", "members", "told"] (defScope (inClass (topS 45) 0)) := ⟨rfl, rfl, rfl, by decide +kernel, rfl, by decide +kernel, by decide +kernel⟩
/-! slots: 0 self, 1 members, 2 told, 3 head, 4 atoms; cells: [] -/
theorem Txt.m_Question (T : Txt K mg cH cS cQ) : Dc P w K mg base 7 "Question" cQ ["self", "members", "told"] sp_Question := by
  have ha := T.i_Question
  refine dc_mkD (n := 2) ha T.g_Question (by simp) sc_Question_init (fun _ _ _ _ _ _ _ us its hl hm => match us, hl, its, hm with | [_, _, _], _, [_], _ => ⟨_, rfl, rfl⟩) rfl len_Question fun f cdv A outer s H E hr => ?_
  refine ⟨_,
    (pss_cons (ps_if (pt_not (pt_val (pe_df T.d_are_members hr (by decide) (by rfl) (pa_cons (pv 1) pa_nil))))
      (pss_one ps_never)
      pss_nil)
    (pss_cons (ps_if (PW.pt (pw_or (pt_not (pt_val (pe_df T.d_is_number hr (by decide) (by rfl) (pa_cons (pv 2) pa_nil)))) (pw_or1 (pt_cmpR op_gt (pv 2) (pe_callB (kCR (K := K) (r := rLenS) cr_len) (by rfl) T.f_len (by decide +kernel) (pa_cons (pe_ix (kIx (K := K) (r := rIx) ix_seq) (pe_ix (kIx (K := K) (r := rIx) ix_seq) (pv 1) pe_int (fun _ _ => rfl)) pe_int (fun _ _ => rfl)) pa_nil)) (nomark _)))))
      (pss_one ps_never)
      pss_nil)
    (pss_cons (ps_fld (pv 0) (pe_callTy (kCR (K := K) (r := rTupS) cr_tup) (by rfl) T.f_tuple (by decide +kernel) (pa_cons (pe_lc (own := [("head", 3), ("atoms", 4)]) rfl sc_Question_init.nd (kPI (K := K) (w := iSeq) (pi_seq (pv 1))) (blkOk_by (own := [("head", 3), ("atoms", 4)]) (by first | (show blkC ["self", "members", "told", "head", "atoms"] (defScope (inClass (topS 45) 0)) _ _ = true; decide +kernel) | rfl)) (fun _ _ _ _ _ => by exact (kPG (K := K) (w := gTup) (pg_tup (n := 2) rfl (pgs_cons (pg_name (i := 3) sc_Question_init.nd rfl (by first | exact Or.inl rfl | exact Or.inr rfl)) (pgs_cons (pg_name (i := 4) sc_Question_init.nd rfl (by first | exact Or.inl rfl | exact Or.inr rfl)) pgs_nil))))) (fun _ _ _ _ _ => by exact pts_nil) (fun _ _ _ _ _ => by exact (pe_tup (pa_cons (pv 3) (pa_cons (pe_callTy (kCR (K := K) (r := rTupS) cr_tup) (by rfl) T.f_tuple (by decide +kernel) (pa_cons (pv 4) pa_nil)) pa_nil))))) pa_nil)) rfl)
    (pss_one (ps_fld (pv 0) (pv 2) rfl))))), fun B ds S x h => ?_⟩
  obtain ⟨ms, k, rfl, hm, hk, hs⟩ := h
  have len : (ms.map dMemL).length ≤ sizeLine := by rw [List.length_map]; exact sz_le (by have := hm.few; omega)
  refine ws_seq (ws_if (wt_not (wt_B (wp_call0 (wa_cons (wp_var rfl (wa_nil ⟨ms, rfl, hm, _, rfl, ?_⟩)))))))
  obtain ⟨m0, ms', rfl⟩ : ∃ m0 ms', ms = m0 :: ms' := by
    cases ms with
    | nil => exact absurd rfl hm.some
    | cons a l => exact ⟨a, l, rfl⟩
  have hk0 := hk m0 (List.mem_cons_self ..)
  refine ws_next (ws_seq (ws_if (wt_or (wt_not (wt_B (wp_call0 (wa_cons (wp_var rfl (wa_nil ⟨.inl (k : Nat), rfl, _, rfl, ?_⟩)))))))))
  rw [numB_nat]
  refine wt_B (wp_gt (wp_var rfl (wp_len (wa_cons (wp_ix (wp_ix (wp_var rfl (wp_int ⟨_, _, dMemL m0, .inl rfl, rfl, atI_0 rfl, wp_int ⟨[dTms m0.1, .lst (m0.2.map dAt)], _, _, .inr rfl, rfl, rfl, wa_nil ⟨m0.1.map kD, .inr rfl, _, _, rfl, rfl, _, rfl, ?_⟩⟩⟩))))))))
  rw [List.length_map, decide_eq_false (by omega)]
  refine ws_next (ws_seq (ws_fld rfl T.k_Question T.n_members (by simp) (wp_tupOf (wa_cons (wp_lcMap (wi_seqV (i := 1) rfl (.inl rfl) ⟨len, memT, fun d hd => ?_, wa_nil ⟨_, .inl rfl, ?_⟩⟩))))))
  · obtain ⟨m, hm', rfl⟩ := List.mem_map.mp hd
    refine wg_tup rfl (wg_cons (wg_name (by simp) (wg_cons (wg_name (by simp) (wg_nil (wp_tup (wa_cons (wp_var rfl (wa_cons (wp_tupOf (wa_cons (wp_var rfl (wa_nil ⟨m.2.map dAt, .inl rfl, wa_nil ⟨sz_le ?_, rfl⟩⟩)))))))))))))
    simp
  rw [memT_L]
  exact ws_fld rfl T.k_Question T.n_told (by simp [fput]) (wp_var rfl ⟨_, rfl, hs⟩)
def sp_numbers (c : Addr) : Spc := fun ds S => ∃ q : Ques, ds = [dQues c q] ∧ QOk q ∧ ∀ ns : List Int, ns.Pairwise (· ≤ ·) → ns.Nodup → (∀ i, i ∈ ns ↔ IsNum q.mems i) → S (dInts ns)
theorem len_numbers {c : Addr} : ∀ ds S, sp_numbers c ds S → ds.length = 1 := by rintro _ _ ⟨_, rfl, _⟩; rfl
theorem sc_Question_numbers : FnScope ["self", "found", "head", "atoms", "terms", "table", "some", "term", "number"] ["self"] (defScope (inClass (topS 45) 3)) := ⟨rfl, rfl, rfl, by decide +kernel, rfl, by decide +kernel, by decide +kernel⟩
/-! slots: 0 self, 1 found, 2 head, 3 atoms, 4 terms, 5 table, 6 some, 7 term, 8 number; cells: [] -/
theorem Txt.dp_numbers (T : Txt K mg cH cS cQ) : Dpr P w K mg base 1 cQ "numbers" ["self"] (sp_numbers cQ) := by
  refine dp_mk T.p_numbers T.k_Question sc_Question_numbers (fun _ _ _ _ _ _ us hl => match us, hl with | [_], _ => rfl) len_numbers fun f cdv A outer s H E hr => ?_
  refine ⟨_,
    (pss_cons (ps_set (i := 1) sc_Question_numbers.nd rfl (by first | exact Or.inl rfl | exact Or.inr rfl) (pe_lst pa_nil))
    (pss_cons (ps_for PassesOwn.never rfl (kPI (K := K) (w := iTup) (pi_tup (kPE (K := K) (w := tFld) (pe_fld (pv 0) rfl)))) (kPG (K := K) (w := gTup) (pg_tup (n := 2) rfl (pgs_cons (pg_name (i := 2) sc_Question_numbers.nd rfl (by first | exact Or.inl rfl | exact Or.inr rfl)) (pgs_cons (pg_name (i := 3) sc_Question_numbers.nd rfl (by first | exact Or.inl rfl | exact Or.inr rfl)) pgs_nil))))
      (pss_one (ps_for PassesOwn.never rfl (kPI (K := K) (w := iList) (pi_list (pe_lst (pa_cons (pv 2) (pa_star (K := K) (pe_lc (own := [("table", 5), ("some", 6)]) rfl sc_Question_numbers.nd (kPI (K := K) (w := iSeq) (pi_seq (pv 3))) (blkOk_by (own := [("table", 5), ("some", 6)]) (by first | (show blkC ["self", "found", "head", "atoms", "terms", "table", "some", "term", "number"] (defScope (inClass (topS 45) 3)) _ _ = true; decide +kernel) | rfl)) (fun _ _ _ _ _ => by exact (kPG (K := K) (w := gTup) (pg_tup (n := 2) rfl (pgs_cons (pg_name (i := 5) sc_Question_numbers.nd rfl (by first | exact Or.inl rfl | exact Or.inr rfl)) (pgs_cons (pg_name (i := 6) sc_Question_numbers.nd rfl (by first | exact Or.inl rfl | exact Or.inr rfl)) pgs_nil))))) (fun _ _ _ _ _ => by exact pts_nil) (fun _ _ _ _ _ => by exact (pv 6))) pa_nil))))) (pg_name (i := 4) sc_Question_numbers.nd rfl (by first | exact Or.inl rfl | exact Or.inr rfl))
        (pss_one (ps_expr (kBM (K := K) (pe_bm PySem.F.plainAttrs_list PySem.F.slot_list_extend PySem.F.type_list_extend (kMt (K := K) (r := rExtA) mt_extA) (pv 1) (pa_cons (pe_lc (own := [("term", 7)]) rfl sc_Question_numbers.nd (kPI (K := K) (w := iSeq) (pi_seq (pv 4))) (blkOk_by (own := [("term", 7)]) (by first | (show blkC ["self", "found", "head", "atoms", "terms", "table", "some", "term", "number"] (defScope (inClass (topS 45) 3)) _ _ = true; decide +kernel) | rfl)) (fun _ _ _ _ _ => by exact (pg_name (i := 7) sc_Question_numbers.nd rfl (by first | exact Or.inl rfl | exact Or.inr rfl))) (fun _ _ _ _ _ => by exact (pts_one (pt_not (pt_val (pe_callB (kCR (K := K) (r := rIsi) call_isi) (by rfl) T.f_isinstance (by decide +kernel) (pa_cons (pv 7) (pa_cons (pe_ty (n := "str") T.f_str) pa_nil))))))) (fun _ _ _ _ _ => by exact (pv 7))) pa_nil))))))))
    (pss_one (ps_ret (pe_callTy (kCR (K := K) (r := rTupS) cr_tup) (by rfl) T.f_tuple (by decide +kernel) (pa_cons (pe_callB (cr_sortDI rfl) (by rfl) T.f_sorted (by decide +kernel) (pa_cons (pe_dc (own := [("number", 8)]) rfl sc_Question_numbers.nd (kPI (K := K) (w := iSeq) (pi_seq (pv 1))) (blkOk_by (own := [("number", 8)]) (by first | (show blkC ["self", "found", "head", "atoms", "terms", "table", "some", "term", "number"] (defScope (inClass (topS 45) 3)) _ _ = true; decide +kernel) | rfl)) (fun _ _ _ _ _ => by exact (pg_name (i := 8) sc_Question_numbers.nd rfl (by first | exact Or.inl rfl | exact Or.inr rfl))) (fun _ _ _ _ _ => by exact pts_nil) (fun _ _ _ _ _ => by exact (pv 8)) (fun _ _ _ _ _ => by exact pe_bl)) pa_nil)) pa_nil)))))), fun B ds S h => ?_⟩
  obtain ⟨q, rfl, ok, hs⟩ := h
  refine ws_seq (ws_asgN (wn_nil ?_))
  refine ws_seq (ws_for (vs := [2, 3]) (wi_tup (wp_fld (wp_var rfl ⟨cQ, _, _, rfl, T.k_Question, T.n_members, rfl, _, rfl, fun i ρ' => ∃ (fs : List Int) (s2 s3 s4 s5 s6 s7 s8 : Sl), ρ' = [.d (dQues cQ q), .own (.lst (fs.map D.int)), s2, s3, s4, s5, s6, s7, s8] ∧ (∀ n, n ∈ fs ↔ IsNum (q.mems.take i) n) ∧ fs.length ≤ 10100 * i, ⟨[], _, _, _, _, _, _, _, rfl, fun n => by simp [IsNum], Nat.zero_le _⟩, ?_, ?_⟩))))
  · rintro i d _ hd ⟨fs, s2, s3, s4, s5, s6, s7, s8, rfl, hf, lf⟩
    rw [List.getElem?_map] at hd
    cases hmi : q.mems[i]? with
    | none => rw [hmi] at hd; cases hd
    | some m =>
    rw [hmi] at hd
    cases hd
    have mm := List.mem_of_getElem? hmi
    have mo := ok.mems.each m mm
    have il := (List.getElem?_eq_some_iff.mp hmi).1
    have i10 := ok.few
    have et : q.mems.take (i + 1) = q.mems.take i ++ [m] := by rw [List.take_add_one, hmi]; rfl
    refine wg_tup rfl (wg_cons (wg_name (by simp) (wg_cons (wg_name (by simp) (wg_nil ?_)))))
    refine ws_for (vs := [4]) (wi_list (wp_lst (wa_cons (wp_var rfl (wa_star (wp_lcMap (wi_seqV (i := 3) rfl (.inr rfl) ⟨sz_le (by rw [List.length_map]; have := mo.few2; omega), dSnd, fun d hd => ?_, ⟨(m.2.map (·.2)).map dTms, .inl (by rw [List.map_map, List.map_map]; rfl), wa_nil ⟨?_, _, rfl, ?_⟩⟩⟩)))))))
    · obtain ⟨a, ha, rfl⟩ := List.mem_map.mp hd
      exact wg_tup rfl (wg_cons (wg_name (by simp) (wg_cons (wg_name (by simp) (wg_nil (wp_var rfl rfl))))))
    · rw [List.append_nil, List.length_cons, List.length_map, List.length_map]
      exact sz_le (by have := mo.few2; omega)
    rw [List.append_nil, show dTms m.1 :: (m.2.map (·.2)).map dTms = (tssOf m).map dTms from rfl]
    have tl : (tssOf m).length ≤ 101 := by
      unfold tssOf
      rw [List.length_cons, List.length_map]
      have := mo.few2
      omega
    have tw : ∀ ts ∈ tssOf m, ts.length ≤ 100 := fun ts h => by
      rcases List.mem_cons.mp h with rfl | h
      · exact mo.few
      · obtain ⟨a, ha, rfl⟩ := List.mem_map.mp h
        exact (mo.each a ha).few
    refine ⟨fun j ρ' => ∃ (gs : List Int) (s4 s5 s6 s7 s8 : Sl), ρ' = [.d (dQues cQ q), .own (.lst (gs.map D.int)), .d (dTms m.1), .d (.tup (m.2.map dAt)), s4, s5, s6, s7, s8] ∧ (∀ n, n ∈ gs ↔ IsNum (q.mems.take i) n ∨ ∃ ts ∈ (tssOf m).take j, .inl n ∈ ts) ∧ gs.length ≤ 10100 * i + 100 * j, ⟨fs, _, _, _, _, _, rfl, fun n => by rw [hf]; simp, by omega⟩, ?_, ?_⟩
    · rintro j d _ hd ⟨gs, s4, s5, s6, s7, s8, rfl, hg, lg⟩
      rw [List.getElem?_map] at hd
      cases htj : (tssOf m)[j]? with
      | none => rw [htj] at hd; cases hd
      | some ts =>
      rw [htj] at hd
      cases hd
      have tm := List.mem_of_getElem? htj
      have jl := (List.getElem?_eq_some_iff.mp htj).1
      have et2 : (tssOf m).take (j + 1) = (tssOf m).take j ++ [ts] := by rw [List.take_add_one, htj]; rfl
      have lt := tw ts tm
      have li : (intsOf ts).length ≤ ts.length := List.length_filterMap_le _ _
      refine wg_name (by simp) (ws_ext (i := 1) rfl (wp_lcIf (wi_seqV (i := 4) rfl (.inr rfl) ⟨sz_le (by rw [List.length_map]; omega), fun d => !isStrD d, id, fun d hd => ?_, (intsOf ts).map D.int, .inl (by rw [ints_D]), ?_, gs ++ intsOf ts, _, _, _, _, _, by rw [List.map_append]; rfl, fun n => ?_, ?_⟩)))
      · obtain ⟨t, ht, rfl⟩ := List.mem_map.mp hd
        cases t with
        | inl i => exact wg_name (by simp) (wt_not (wt_B (wp_isi (wp_var rfl ⟨_, _, rfl, rfl, false, rfl, rfl, fun _ => wp_var rfl rfl⟩))))
        | inr x => exact wg_name (by simp) (wt_not (wt_B (wp_isi (wp_var rfl ⟨_, _, rfl, rfl, true, rfl, rfl, fun z => by cases z⟩))))
      · rw [List.length_map, List.length_map]
        exact sz_le (by omega)
      · rw [List.mem_append, hg, mem_intsOf, et2]
        constructor
        · rintro ((h | ⟨us, hu, h⟩) | h)
          · exact .inl h
          · exact .inr ⟨us, List.mem_append_left _ hu, h⟩
          · exact .inr ⟨ts, List.mem_append_right _ (List.mem_singleton.mpr rfl), h⟩
        · rintro (h | ⟨us, hu, h⟩)
          · exact .inl (.inl h)
          · rcases List.mem_append.mp hu with hu | hu
            · exact .inl (.inr ⟨us, hu, h⟩)
            · rw [List.mem_singleton.mp hu] at h
              exact .inr h
      · rw [List.length_append]
        omega
    · rintro _ ⟨gs, s4, s5, s6, s7, s8, rfl, hg, lg⟩
      rw [List.length_map] at hg lg
      rw [List.take_length] at hg
      refine ⟨gs, _, _, _, _, _, _, _, rfl, fun n => ?_, by omega⟩
      rw [hg, et]
      constructor
      · rintro (⟨c, hc, h⟩ | h)
        · exact ⟨c, List.mem_append_left _ hc, h⟩
        · exact ⟨m, List.mem_append_right _ (List.mem_singleton.mpr rfl), h⟩
      · rintro ⟨c, hc, h⟩
        rcases List.mem_append.mp hc with hc | hc
        · exact .inl ⟨c, hc, h⟩
        · rw [List.mem_singleton.mp hc] at h
          exact .inr h
  · rintro _ ⟨fs, s2, s3, s4, s5, s6, s7, s8, rfl, hf, lf⟩
    rw [List.length_map] at lf hf
    rw [List.take_length] at hf
    have q10 := ok.few
    obtain ⟨ks, ek, nd, hk⟩ := tabD_ints fs
    obtain ⟨L, hL, hN⟩ := ok.nums
    have l64 : ks.length < 64 := Nat.lt_of_le_of_lt (nodup_len nd fun i hi => hN i ((hf i).mp ((hk i).mp hi))) hL
    refine ws_share (i := 1) rfl (.inl ⟨_, rfl⟩) (ws_ret (wp_tupOf (wa_cons (wp_sortDI (wa_cons (wp_dcMap (wi_seqV (i := 1) rfl (.inl rfl) ⟨sz_le (by rw [List.length_map]; omega), fun d => (d.key.getD (.inl 0), .bl true), fun d hd => ?_, wa_nil ⟨_, ks, rfl, ek, l64, fun ys hy hp => wa_nil ⟨_, .inl rfl, hs ys hp (hy.nodup_iff.mpr nd) fun i => ?_⟩⟩⟩)))))))
    · obtain ⟨n, hn, rfl⟩ := List.mem_map.mp hd
      exact wg_name (by simp) (wp_var rfl (wp_bl ⟨rfl, rfl⟩))
    · rw [hy.mem_iff, hk, hf]
end
end FS

/-! FsU8: answers. -/
namespace FS
open PySem L2
/-- t is an answer of the first members -/
def IsAns (ms : List Mem) (k : Nat) (rows : List Row) (told : List Int) (t : List Int) : Prop := ∃ m ∈ ms, ∃ f, (m.1.take k).map (ev f) = told ∧ (∀ a ∈ m.2, Sat rows f a) ∧ t = m.1.map (ev f)
structure AnsOk (q : Ques) (rows : List Row) (told : List Int) : Prop where
  few : rows.length ≤ 10
  told : told.length = q.told
  fit : ∀ m ∈ q.mems, ∀ a ∈ m.2, ∀ r ∈ rows, r.1 = a.1 → a.2.length = r.2.length
def vo (o : Bnd) : Tm → Int
  | .inl i => i
  | .inr x => (kget o x).getD 0
theorem kget_inl (o : Bnd) (i : Int) : kget (o.map bkv) (.inl i) = none := by
  unfold kget
  rw [List.find?_eq_none.mpr]
  · rfl
  · intro kv h
    obtain ⟨p, _, rfl⟩ := List.mem_map.mp h
    simp [bkv]
theorem kget_dom {o : Bnd} {x : Str} (h : x ∈ o.map (·.1)) : ∃ v, kget o x = some v := by
  have := (kget_isSome (l := o) (k := x)).mpr h
  exact Option.isSome_iff_exists.mp this
theorem vo_D {o : Bnd} {t : Tm} (h : ∀ x, t = .inr x → x ∈ o.map (·.1)) : (kget (o.map bkv) t).getD (kD t) = .int (vo o t) := by
  cases t with
  | inl i => rw [kget_inl]; rfl
  | inr x =>
    obtain ⟨v, hv⟩ := kget_dom (h x rfl)
    rw [kget_bnd]
    show _ = D.int ((kget o x).getD 0)
    rw [hv]
    rfl
theorem vo_ev {o : Bnd} {f : Str → Int} {t : Tm} (ha : Agr f o) (h : ∀ x, t = .inr x → x ∈ o.map (·.1)) : vo o t = ev f t := by
  cases t with
  | inl i => rfl
  | inr x =>
    obtain ⟨v, hv⟩ := kget_dom (h x rfl)
    show (kget o x).getD 0 = f x
    rw [hv]
    exact (ha _ (mem_of_kget hv)).symm
theorem kD_k (t : Tm) : (kD t).key = some t := by cases t <;> rfl
def voD (o : Bnd) (d : D) : D := (kget (o.map bkv) (d.key.getD (.inl 0))).getD d
theorem voD_map {o : Bnd} {ts : List Tm} (h : ∀ x, .inr x ∈ ts → x ∈ o.map (·.1)) : (ts.map kD).map (voD o) = (ts.map (vo o)).map D.int := by
  rw [List.map_map, List.map_map]
  refine List.map_congr_left fun t ht => ?_
  show (kget (o.map bkv) ((kD t).key.getD (.inl 0))).getD (kD t) = D.int (vo o t)
  rw [kD_k]
  exact vo_D fun x e => h x (e ▸ ht)
theorem isAns_step {ms : List Mem} {i k : Nat} {m : Mem} {rows : List Row} {told t : List Int} (h : ms[i]? = some m) : IsAns (ms.take (i + 1)) k rows told t ↔ IsAns (ms.take i) k rows told t ∨ IsAns [m] k rows told t := by
  have et : ms.take (i + 1) = ms.take i ++ [m] := by rw [List.take_add_one, h]; rfl
  unfold IsAns
  rw [et]
  constructor
  · rintro ⟨c, hc, r⟩
    rcases List.mem_append.mp hc with hc | hc
    · exact .inl ⟨c, hc, r⟩
    · exact .inr ⟨c, hc, r⟩
  · rintro (⟨c, hc, r⟩ | ⟨c, hc, r⟩)
    · exact ⟨c, List.mem_append_left _ hc, r⟩
    · exact ⟨c, List.mem_append_right _ hc, r⟩
theorem isAns_len {ms : List Mem} {k n : Nat} {rows : List Row} {told t : List Int} (hn : ∀ m ∈ ms, m.1.length = n) (h : IsAns ms k rows told t) : t.length = n := by
  obtain ⟨m, hm, f, _, _, rfl⟩ := h
  rw [List.length_map, hn m hm]
theorem sortIn_same {n : Nat} {xs : List (List Int)} (nd : xs.Nodup) (h : ∀ x ∈ xs, x.length = n) : SortIn (pys (xs.map dInts)) := by
  refine sortIn_tup2 (fun d hd e he => ?_) (fun z d hd => ?_) (fun d hd => ?_) (fun d hd => ?_)
  · obtain ⟨x, _, rfl⟩ := List.mem_map.mp hd
    obtain ⟨y, _, rfl⟩ := List.mem_map.mp he
    rw [py_dInts, py_dInts]
    simp only [PySem.W.alike, PySem.W.alike_ints]
  · obtain ⟨x, hx, rfl⟩ := List.mem_map.mp hd
    rw [py_dInts]
    cases x with
    | cons a l => exact ⟨_, _, rfl⟩
    | nil =>
      have n0 : n = 0 := (h _ hx).symm
      exfalso
      rw [List.length_map] at z
      match xs, z, nd, h with
      | a :: b :: l, _, nd, h =>
        have ha := List.eq_nil_of_length_eq_zero ((h a (by simp)).trans n0)
        have hb := List.eq_nil_of_length_eq_zero ((h b (by simp)).trans n0)
        rw [ha, hb] at nd
        simp at nd
  · obtain ⟨x, _, rfl⟩ := List.mem_map.mp hd
    rw [py_dInts]
    simp only [PyData.depth, PySem.W.depth_ints]
    omega
  · obtain ⟨x, _, rfl⟩ := List.mem_map.mp hd
    rw [py_dInts]
    exact stay_ints x
theorem mem_kput_keys {κ α : Type} [DecidableEq κ] {l : List (κ × α)} {k x : κ} {v : α} : x ∈ (kput l k v).map (·.1) ↔ x ∈ l.map (·.1) ∨ x = k := by
  rw [kput_keys]
  split
  · rename_i z
    exact ⟨.inl, fun h => h.elim id fun e => e ▸ z⟩
  · rw [List.mem_append, List.mem_singleton]
theorem ans_none {m : Mem} {k : Nat} {rows : List Row} {told t : List Int} (h : extB [] (m.1.take k) told = none) : ¬ IsAns [m] k rows told t := by
  rintro ⟨c, hc, f, h1, _⟩
  rw [List.mem_singleton.mp hc] at h1
  obtain ⟨b, hb, _⟩ := extB_full (f := f) (ts := m.1.take k) (b := []) fun _ h => absurd h List.not_mem_nil
  rw [h1, h] at hb
  cases hb
theorem ans_some {m : Mem} {k : Nat} {rows : List Row} {told t : List Int} {b : Bnd} {out : List Bnd} (mo : MemOk m) (hl : (m.1.take k).length = told.length) (h : extB [] (m.1.take k) told = some b) (mi : MI rows m.2 b (nmsOf m.1) m.2.length out) :
    (∀ o ∈ out, ∀ x, .inr x ∈ m.1 → x ∈ o.map (·.1)) ∧ ((∃ o ∈ out, t = m.1.map (vo o)) ↔ IsAns [m] k rows told t) := by
  have ex := extB_some (b := []) List.nodup_nil hl h
  have dom : ∀ o ∈ out, ∀ x, .inr x ∈ m.1 → x ∈ o.map (·.1) := fun o ho x hx => mi.dom o ho x (.inr (by rw [List.take_length]; exact mo.names x hx)) (.inl (mem_nms.mpr hx))
  have vals : ∀ o ∈ out, ∀ f, Agr f o → m.1.map (vo o) = m.1.map (ev f) := fun o ho f hf => List.map_congr_left fun t ht => vo_ev hf fun x e => dom o ho x (e ▸ ht)
  refine ⟨dom, ?_, ?_⟩
  · rintro ⟨o, ho, rfl⟩
    obtain ⟨f, f1, f2, f3⟩ := mi.sound o ho
    rw [List.take_length] at f3
    exact ⟨m, List.mem_singleton.mpr rfl, f, ex.evs f f1, f3, vals o ho f f2⟩
  · rintro ⟨c, hc, f, h1, h2, rfl⟩
    rw [List.mem_singleton.mp hc] at h1 h2 ⊢
    obtain ⟨b', hb, ha⟩ := extB_full (f := f) (ts := m.1.take k) (b := []) fun _ h => absurd h List.not_mem_nil
    rw [h1, h] at hb
    cases hb
    obtain ⟨o, ho, hf⟩ := mi.full f ha (by rw [List.take_length]; exact h2)
    exact ⟨o, ho, (vals o ho f hf).symm⟩
section
variable {P : Program} {w : World} {K : PySem.W.Frag} {mg : Str → Option Value} {base : Heap} {cH cS cQ : Addr}
def sp_answers (c d : Addr) : Spc := fun ds S => ∃ (q : Ques) (fs : List (Str × D)) (rows : List Row) (told : List Int), (ds = [dQues d q, .ins c fs, .lst (told.map D.int)] ∨ ds = [dQues d q, .ins c fs, dInts told]) ∧ fs.lookup (Str.ofString "rows") = some (.tup (rows.map dRow)) ∧ QOk q ∧ AnsOk q rows told ∧
  ∀ xs : List (List Int), xs.Nodup → (∀ t, t ∈ xs ↔ IsAns q.mems q.told rows told t) → xs.length ≤ 1000000 → S (.tup (srt (xs.map dInts)))
theorem len_answers {c d : Addr} : ∀ ds S, sp_answers c d ds S → ds.length = 3 := by rintro _ _ ⟨_, _, _, _, rfl | rfl, _⟩ <;> rfl
theorem sc_Question_answers : FnScope ["self", "store", "told", "found", "head", "atoms", "binding", "one", "term"] ["self", "store", "told"] (defScope (inClass (topS 45) 5)) := ⟨rfl, rfl, rfl, by decide +kernel, rfl, by decide +kernel, by decide +kernel⟩
/-! slots: 0 self, 1 store, 2 told, 3 found, 4 head, 5 atoms, 6 binding, 7 one, 8 term; cells: ['one'] -/
theorem Txt.dt_answers (T : Txt K mg cH cS cQ) : Dm P w K mg base 4 cQ "answers" ["self", "store", "told"] (sp_answers cS cQ) := by
  obtain ⟨a, ha⟩ := T.t_answers
  refine dm_mkD ha (by simp) T.k_Question sc_Question_answers (fun _ _ _ _ _ _ _ us its hl hm => match us, hl, its, hm with | [_, _, _], _, [_], _ => ⟨_, rfl, rfl⟩) len_answers fun f cdv A outer s H E hr => ?_
  refine ⟨_,
    (pss_cons (ps_set (i := 3) sc_Question_answers.nd rfl (by first | exact Or.inl rfl | exact Or.inr rfl) (pe_nnew nkI))
    (pss_cons (ps_for PassesOwn.never rfl (kPI (K := K) (w := iTup) (pi_tup (kPE (K := K) (w := tFld) (pe_fld (pv 0) rfl)))) (kPG (K := K) (w := gTup) (pg_tup (n := 2) rfl (pgs_cons (pg_name (i := 4) sc_Question_answers.nd rfl (by first | exact Or.inl rfl | exact Or.inr rfl)) (pgs_cons (pg_name (i := 5) sc_Question_answers.nd rfl (by first | exact Or.inl rfl | exact Or.inr rfl)) pgs_nil))))
      (pss_cons (ps_set (i := 6) sc_Question_answers.nd rfl (by first | exact Or.inl rfl | exact Or.inr rfl) (pe_df T.d_extended hr (by decide) (by rfl) (pa_cons pe_dnewK (pa_cons (pe_slice (kSl (K := K) (r := rSlA) sl_tupA) (pv 4) po_none (po_some (kPE (K := K) (w := tFld) (pe_fld (pv 0) rfl)))) (pa_cons (pv 2) pa_nil)))))
      (pss_one (ps_for PassesOwn.never rfl (kPI (K := K) (w := iList) (pi_list (pe_ifExp (pt_cmp (pc_isN (pv 6))) (pe_lst pa_nil) (pe_df T.d_matches hr (by decide) (by rfl) (pa_cons (kPE (K := K) (w := tFld) (pe_fld (pv 1) rfl)) (pa_cons (pv 5) (pa_cons (pv 6) (pa_cons (pe_df T.d_words_in hr (by decide) (by rfl) (pa_cons (pv 4) pa_nil)) pa_nil)))))))) (pg_name (i := 7) sc_Question_answers.nd rfl (by first | exact Or.inl rfl | exact Or.inr rfl))
        (pss_one (ps_nput nkI (rm_u hr) (pv 3) (pe_callTy (kCR (K := K) (r := rTupS) cr_tup) (by rfl) T.f_tuple (by decide +kernel) (pa_cons (pe_lc (own := [("term", 8)]) rfl sc_Question_answers.nd (kPI (K := K) (w := iSeq) (pi_seq (pv 4))) (blkOk_by (own := [("term", 8)]) (by first | (show blkC ["self", "store", "told", "found", "head", "atoms", "binding", "one", "term"] (defScope (inClass (topS 45) 5)) _ _ = true; decide +kernel) | rfl)) (fun _ _ _ _ _ => by exact (pg_name (i := 8) sc_Question_answers.nd rfl (by first | exact Or.inl rfl | exact Or.inr rfl))) (fun _ _ _ _ _ => by exact pts_nil) (fun _ _ _ _ _ => by exact (pe_dget2 (rm_u hr) (pv 7) (pv 8) (pv 8) ⟨rfl, rfl, rfl, rfl⟩))) pa_nil)) pe_bl rfl))))))
    (pss_one (ps_ret (pe_callTy (kCR (K := K) (r := rTupS) cr_tup) (by rfl) T.f_tuple (by decide +kernel) (pa_cons (pe_callB (cr_sortNs nkI rfl (rm_u hr)) (by rfl) T.f_sorted (by decide +kernel) (pa_cons (pv 3) pa_nil)) pa_nil)))))), fun B ds S h => ?_⟩
  obtain ⟨q, fs, rows, told, hd, hfs, ok, ao, hs⟩ := h
  obtain ⟨dn, e0, hdn⟩ : ∃ dn, ds = [dQues cQ q, .ins cS fs, dn] ∧ (dn = .lst (told.map D.int) ∨ dn = dInts told) := by
    rcases hd with rfl | rfl
    · exact ⟨_, rfl, .inl rfl⟩
    · exact ⟨_, rfl, .inr rfl⟩
  subst e0
  clear hd
  refine ws_seq (ws_asgN (wn_nnew ?_))
  refine ws_seq (ws_for (vs := [4, 5]) (wi_tup (wp_fld (wp_var rfl ⟨cQ, _, _, rfl, T.k_Question, T.n_members, rfl, _, rfl, fun i ρ' => ∃ (acc : List (List Int × D)) (s4 s5 s6 s7 s8 : Sl), ρ' = [.d (dQues cQ q), .d (.ins cS fs), .d dn, .own (.acc (nsR nkI P w K B acc)), s4, s5, s6, s7, s8] ∧ (acc.map (·.1)).Nodup ∧ (∀ t, t ∈ acc.map (·.1) ↔ IsAns (q.mems.take i) q.told rows told t) ∧ acc.length ≤ 100000 * i, ⟨[], _, _, _, _, _, rfl, List.nodup_nil, fun n => by simp [IsAns], Nat.zero_le _⟩, ?_, ?_⟩))))
  · rintro i d _ hd ⟨acc, s4, s5, s6, s7, s8, rfl, nd, ha, la⟩
    rw [List.getElem?_map] at hd
    cases hmi : q.mems[i]? with
    | none => rw [hmi] at hd; cases hd
    | some m =>
    rw [hmi] at hd
    cases hd
    have mm := List.mem_of_getElem? hmi
    have mo := ok.mems.each m mm
    have il := (List.getElem?_eq_some_iff.mp hmi).1
    have i10 := ok.few
    have tk := ok.told m mm
    have ltk : (m.1.take q.told).length = told.length := by rw [List.length_take, ao.told]; omega
    refine wg_tup rfl (wg_cons (wg_name (by simp) (wg_cons (wg_name (by simp) (wg_nil ?_)))))
    refine ws_seq (ws_asg (wp_call0 (wa_cons (wp_dK (wa_cons (wp_slT (wp_var rfl (wo_none (wo_some (wp_fld (wp_var rfl ⟨cQ, _, _, rfl, T.k_Question, T.n_told, rfl, _, rfl, _, rfl, wa_cons (wp_var rfl (wa_nil ⟨[], m.1.take q.told, told, ?_, by simp, ?_, ?_⟩))⟩)))))))))))
    · rw [cutD_to, ← List.map_take]
      rcases hdn with z | z <;> rw [z]
      · exact .inl rfl
      · exact .inr rfl
    · rw [List.length_take]
      have := mo.few
      omega
    refine ws_for (vs := [7]) (wi_list (Wp.imp (S := fun d => ∃ out : List Bnd, d = .lst (out.map dBnd) ∧ out.length ≤ 100000 ∧ (∀ o ∈ out, ∀ x, .inr x ∈ m.1 → x ∈ o.map (·.1)) ∧ ∀ t, (∃ o ∈ out, t = m.1.map (vo o)) ↔ IsAns [m] q.told rows told t) ?_ fun d ⟨out, e, lo, dom, hout⟩ => ⟨_, e, fun j ρ' => ∃ (bcc : List (List Int × D)) (s7 s8 : Sl), ρ' = [.d (dQues cQ q), .d (.ins cS fs), .d dn, .own (.acc (nsR nkI P w K B bcc)), .d (dTms m.1), .d (.tup (m.2.map dAt)), .d (dOpt (extB [] (m.1.take q.told) told)), s7, s8] ∧ (bcc.map (·.1)).Nodup ∧ (∀ t, t ∈ bcc.map (·.1) ↔ IsAns (q.mems.take i) q.told rows told t ∨ ∃ o ∈ out.take j, t = m.1.map (vo o)) ∧ bcc.length ≤ 100000 * i + j, ⟨acc, _, _, rfl, nd, fun t => by rw [ha]; simp, by omega⟩, ?_, ?_⟩))
    · refine wp_if (wt_B (wp_isN (wp_var rfl fun r hr => ⟨_, rfl, ?_⟩)))
      cases hb : extB [] (m.1.take q.told) told with
      | none =>
        rw [hb] at hr
        rw [hr.mpr rfl, if_pos rfl]
        exact wp_lst (wa_nil ⟨Nat.zero_le _, [], rfl, Nat.zero_le _, fun o h => absurd h List.not_mem_nil, fun t => ⟨fun ⟨o, h, _⟩ => absurd h List.not_mem_nil, fun h => absurd h (ans_none hb)⟩⟩)
      | some b =>
        rw [hb] at hr
        have rf : r = false := by
          cases r with
          | true => exact absurd (hr.mp rfl) (by intro z; cases z)
          | false => rfl
        rw [rf, if_neg Bool.false_ne_true]
        have ex := extB_some (b := []) List.nodup_nil ltk hb
        have lh := mo.few
        have la5 := ok.atoms m mm
        have mat : MatOk rows m.2 b (nmsOf m.1) := by
          refine ⟨ao.few, la5, ex.nodup, fun p hp => ?_, ?_, ao.fit m mm, fun a ha => (mo.each a ha).few, fun a ha x hx => ?_, ?_⟩
          · rcases ex.org p hp with z | z
            · exact absurd z List.not_mem_nil
            · exact word_ok (mo.head _ (List.mem_of_mem_take z))
          · have := ex.few
            rw [List.length_take, List.length_nil] at this
            omega
          · exact word_ok ((mo.each a ha).each _ hx)
          · have := nms_len m.1
            omega
        refine wp_call0 (wa_cons (wp_fld (wp_var rfl ⟨cS, _, _, rfl, T.k_Store, T.n_rows, hfs, wa_cons (wp_var rfl (wa_cons (wp_var rfl (wa_cons (wp_call0 (wa_cons (wp_var rfl (wa_nil ⟨m.1, .inr rfl, by omega, wa_nil ⟨rows, m.2, b, nmsOf m.1, rfl, mat, fun out mi => ⟨out, rfl, ?_, (ans_some (t := []) mo ltk hb mi).1, fun t => (ans_some mo ltk hb mi).2⟩⟩⟩))))))))⟩)))
        exact Nat.le_trans mi.few (pow_small ao.few la5)
    · rintro j d _ hd ⟨bcc, s7, s8, rfl, nb, hb, lb⟩
      rw [List.getElem?_map] at hd
      cases hoj : out[j]? with
      | none => rw [hoj] at hd; cases hd
      | some o =>
      rw [hoj] at hd
      cases hd
      have om := List.mem_of_getElem? hoj
      have jl := (List.getElem?_eq_some_iff.mp hoj).1
      have et : out.take (j + 1) = out.take j ++ [o] := by rw [List.take_add_one, hoj]; rfl
      refine wg_name (by simp) (ws_nput (dk := dIs) (fun _ _ _ r => nki_of r) (i := 3) rfl (sz_lt (by omega)) (wp_bl ⟨rfl, wp_tupOf (wa_cons (wp_lcMap (wi_seqV (i := 4) rfl (.inr rfl) ⟨sz_le (by rw [List.length_map]; have := mo.few; omega), voD o, fun d hd => ?_, wa_nil ⟨_, .inl rfl, m.1.map (vo o), ?_, _, _, _, rfl, kput_nodup _ _ nb, fun t => ?_, kput_len2 lb⟩⟩)))⟩))
      · obtain ⟨t, ht, rfl⟩ := List.mem_map.mp hd
        refine wg_name (by simp) (wp_dget2 (wp_var rfl ⟨⟨_, rfl⟩, wp_var rfl (wp_var rfl ⟨_, t, rfl, kD_k t, ?_⟩)⟩))
        show _ = (kget (o.map bkv) ((kD t).key.getD (.inl 0))).getD (kD t)
        rw [kD_k]
        rfl
      · rw [voD_map (dom o om)]
        rfl
      · rw [mem_kput_keys, hb, et, or_assoc]
        refine or_congr Iff.rfl ⟨?_, ?_⟩
        · rintro (⟨o', h, e⟩ | e)
          · exact ⟨o', List.mem_append_left _ h, e⟩
          · exact ⟨o, List.mem_append_right _ (List.mem_singleton.mpr rfl), e⟩
        · rintro ⟨o', h, e⟩
          rcases List.mem_append.mp h with h | h
          · exact .inl ⟨o', h, e⟩
          · rw [List.mem_singleton.mp h] at e
            exact .inr e
    · rintro _ ⟨bcc, s7, s8, rfl, nb, hb, lb⟩
      rw [List.length_map] at hb lb
      rw [List.take_length] at hb
      exact ⟨bcc, _, _, _, _, _, rfl, nb, fun t => by rw [hb, hout, isAns_step hmi], by omega⟩
  · rintro _ ⟨acc, s4, s5, s6, s7, s8, rfl, nd, ha, la⟩
    rw [List.length_map] at ha la
    rw [List.take_length] at ha
    have em : (acc.map fun x => dIs x.1) = (acc.map (·.1)).map dInts := by rw [List.map_map]; rfl
    refine ws_ret (wp_tupOf (wa_cons (wp_sortNs (dk := dIs) (fun G a k e => .tup e (ints_dts k)) (i := 3) rfl (fun x _ => ⟨1, pur_ints x.1⟩) ?_ (wa_nil ⟨_, .inl rfl, ?_⟩))))
    · rw [em]
      obtain ⟨n, hn⟩ : ∃ n, ∀ m ∈ q.mems, m.1.length = n := by
        cases hq : q.mems with
        | nil => exact ⟨0, fun _ h => absurd h List.not_mem_nil⟩
        | cons m0 l => exact ⟨m0.1.length, fun m hm => ok.mems.same m (by rw [hq]; exact hm) m0 (by rw [hq]; exact List.mem_cons_self ..)⟩
      exact sortIn_same nd fun x hx => isAns_len hn ((ha x).mp hx)
    · rw [em]
      exact hs _ nd ha (by rw [List.length_map]; have := ok.few; omega)
end
end FS

/-! FsU9: unlike_terms, glued. -/
namespace FS
open PySem L2
theorem kD_inj {s t : Tm} (h : kD s = kD t) : s = t := by
  cases s <;> cases t <;> first | (cases h; rfl) | (have := D.int.inj h; rw [this]) | (have := D.str.inj h; rw [this]) | cases h
theorem kD_some (t : Tm) : (kD t).v.isSome = true := by cases t <;> rfl
theorem kD_nbl (t : Tm) : nbl (kD t) = true := by cases t <;> rfl
/-- a rule makes s and t one -/
def Forced (rs : List Rul) (as : List At) (s t : Tm) : Prop := ∃ r ∈ rs, ∃ a ∈ as, ∃ b ∈ as, a.1 = r.1 ∧ b.1 = r.1 ∧ (∀ c ∈ r.2.1, a.2[c]? = b.2[c]?) ∧ a.2[r.2.2]? = some s ∧ b.2[r.2.2]? = some t
structure AtsOk (h : House) (as : List At) : Prop where
  wid : ∀ a ∈ as, widOf h.tabs a.1 = some a.2.length
  few : as.length ≤ 1000
theorem atI_tm {l : List Tm} {c : Nat} (h : c < l.length) : atI (l.map kD) (c : Int) = some (kD (l[c]'h)) := atI_nat (by rw [List.getElem?_map, List.getElem?_eq_getElem h]; rfl)
theorem ats_some (as : List At) (t : Str) (p : D → Bool) (f : D → D) (hp : ∀ r : At, p (dAt r) = decide (r.1 = t)) (hf : ∀ r : At, f (dAt r) = dTms r.2) : (((as.map dAt).filter p).map f) = ((as.filter fun a => decide (a.1 = t)).map (·.2)).map dTms := by
  induction as with
  | nil => rfl
  | cons r rows ih =>
    rw [List.map_cons, List.filter_cons, List.filter_cons, hp]
    by_cases z : r.1 = t
    · rw [decide_eq_true z, if_pos rfl, if_pos rfl, List.map_cons, List.map_cons, List.map_cons, ih, hf]
    · rw [decide_eq_false z, if_neg Bool.false_ne_true, if_neg Bool.false_ne_true, ih]
def colT (p q : List Tm) : D → Bool
  | .int i => decide (p[i.toNat]? = q[i.toNat]?)
  | _ => false
section
variable {P : Program} {w : World} {K : PySem.W.Frag} {mg : Str → Option Value} {base : Heap} {cH cS cQ : Addr}
def sp_unlike_terms (c : Addr) : Spc := fun ds S => ∃ (h : House) (as : List At), (ds = [dHouse c h, .lst (as.map dAt)] ∨ ds = [dHouse c h, .tup (as.map dAt)]) ∧ HOk h ∧ AtsOk h as ∧ (∀ s t, s ≠ t → Forced h.ruls as s t → S (.tup [kD s, kD t])) ∧ ((∀ s t, Forced h.ruls as s t → s = t) → S .non)
theorem len_unlike_terms {c : Addr} : ∀ ds S, sp_unlike_terms c ds S → ds.length = 2 := by rintro _ _ ⟨_, _, rfl | rfl, _⟩ <;> rfl
theorem sc_unlike_terms : FnScope ["house", "atoms", "table", "columns", "column", "some", "name", "terms", "one", "other", "at"] ["house", "atoms"] (defScope (topS 50)) := ⟨rfl, rfl, rfl, by decide +kernel, rfl, by decide +kernel, by decide +kernel⟩
/-! slots: 0 house, 1 atoms, 2 table, 3 columns, 4 column, 5 some, 6 name, 7 terms, 8 one, 9 other, 10 at; cells: ['one', 'other', 'table'] -/
theorem Txt.d_unlike_terms (T : Txt K mg cH cS cQ) : Df P w K mg base 1 "unlike_terms" ["house", "atoms"] [] (sp_unlike_terms cH) := by
  refine df_mk T.a_unlike_terms sc_unlike_terms (fun _ _ _ _ _ _ us hl => match us, hl with | [_, _], _ => rfl) len_unlike_terms fun f cdv A outer s H E hr => ?_
  refine ⟨_,
    (pss_cons (ps_for PassesOwn.never rfl (kPI (K := K) (w := iTup) (pi_tup (kPE (K := K) (w := tFld) (pe_fld (pv 0) rfl)))) (kPG (K := K) (w := gTup) (pg_tup (n := 3) rfl (pgs_cons (pg_name (i := 2) sc_unlike_terms.nd rfl (by first | exact Or.inl rfl | exact Or.inr rfl)) (pgs_cons (pg_name (i := 3) sc_unlike_terms.nd rfl (by first | exact Or.inl rfl | exact Or.inr rfl)) (pgs_cons (pg_name (i := 4) sc_unlike_terms.nd rfl (by first | exact Or.inl rfl | exact Or.inr rfl)) pgs_nil)))))
      (pss_cons (ps_setLc (i := 5) (own := [("name", 6), ("terms", 7)]) rfl sc_unlike_terms.nd rfl rfl (sw_true rfl rfl rfl (by decide +kernel)) (kPI (K := K) (w := iSeq) (pi_seq (pv 1))) (blkOk_by (own := [("name", 6), ("terms", 7)]) (by first | (show blkC ["house", "atoms", "table", "columns", "column", "some", "name", "terms", "one", "other", "at"] (defScope (topS 50)) _ _ = true; decide +kernel) | rfl)) (fun _ _ _ _ _ => by exact (kPG (K := K) (w := gTup) (pg_tup (n := 2) rfl (pgs_cons (pg_name (i := 6) sc_unlike_terms.nd rfl (by first | exact Or.inl rfl | exact Or.inr rfl)) (pgs_cons (pg_name (i := 7) sc_unlike_terms.nd rfl (by first | exact Or.inl rfl | exact Or.inr rfl)) pgs_nil))))) (fun _ _ _ _ _ => by exact (pts_one (pt_cmpR op_eq (pv 6) (pv 2) (nomark _)))) (fun _ _ _ _ _ => by exact (pv 7)))
      (pss_one (ps_for PassesOwn.never rfl (kPI (K := K) (w := iSeq) (pi_seq (pv 5))) (pg_name (i := 8) sc_unlike_terms.nd rfl (by first | exact Or.inl rfl | exact Or.inr rfl))
        (pss_one (ps_for PassesOwn.never rfl (kPI (K := K) (w := iSeq) (pi_seq (pv 5))) (pg_name (i := 9) sc_unlike_terms.nd rfl (by first | exact Or.inl rfl | exact Or.inr rfl))
          (pss_one (ps_if (PW.pt (pw_and (pt_cmpR op_ne (pe_ix (kIx (K := K) (r := rIx) ix_seq) (pv 8) (pv 4) (fun _ _ => rfl)) (pe_ix (kIx (K := K) (r := rIx) ix_seq) (pv 9) (pv 4) (fun _ _ => rfl)) (nomark _)) (pw_and1 (pt_val (pe_callB (kCR (K := K) (r := rAll) (cr_all rfl)) (by rfl) T.f_all (by decide +kernel) (pa_cons (pe_lc (own := [("at", 10)]) rfl sc_unlike_terms.nd (kPI (K := K) (w := iSeq) (pi_seq (pv 3))) (blkOk_by (own := [("at", 10)]) (by first | (show blkC ["house", "atoms", "table", "columns", "column", "some", "name", "terms", "one", "other", "at"] (defScope (topS 50)) _ _ = true; decide +kernel) | rfl)) (fun _ _ _ _ _ => by exact (pg_name (i := 10) sc_unlike_terms.nd rfl (by first | exact Or.inl rfl | exact Or.inr rfl))) (fun _ _ _ _ _ => by exact pts_nil) (fun _ _ _ _ _ => by exact (pe_cmpR op_eq (pe_ix (kIx (K := K) (r := rIx) ix_seq) (pv 8) (pv 10) (fun _ _ => rfl)) (pe_ix (kIx (K := K) (r := rIx) ix_seq) (pv 9) (pv 10) (fun _ _ => rfl)) (nomark _)))) pa_nil))))))
            (pss_one (ps_ret (pe_tup (pa_cons (pe_ix (kIx (K := K) (r := rIx) ix_seq) (pv 8) (pv 4) (fun _ _ => rfl)) (pa_cons (pe_ix (kIx (K := K) (r := rIx) ix_seq) (pv 9) (pv 4) (fun _ _ => rfl)) pa_nil)))))
            pss_nil))))))))
    (pss_one (ps_ret pe_non))), fun B ds S h => ?_⟩
  obtain ⟨h, as, hd, ho, hA, hs1, hs2⟩ := h
  obtain ⟨dn, e0, hdn⟩ : ∃ dn, ds = [dHouse cH h, dn] ∧ (dn = .lst (as.map dAt) ∨ dn = .tup (as.map dAt)) := by
    rcases hd with rfl | rfl
    · exact ⟨_, rfl, .inl rfl⟩
    · exact ⟨_, rfl, .inr rfl⟩
  subst e0
  clear hd
  refine ws_seq (ws_for (vs := [2, 3, 4]) (wi_tup (wp_fld (wp_var rfl ⟨cH, _, _, rfl, T.k_House, T.n_rules, rfl, _, rfl, fun i ρ' => ∃ s2 s3 s4 s5 s6 s7 s8 s9 s10, ρ' = [.d (dHouse cH h), .d dn, s2, s3, s4, s5, s6, s7, s8, s9, s10] ∧ ∀ s t, Forced (h.ruls.take i) as s t → s = t, ⟨_, _, _, _, _, _, _, _, _, rfl, fun s t ⟨r, hr, _⟩ => absurd hr (by simp)⟩, ?_, ?_⟩))))
  · rintro i d _ hd ⟨s2, s3, s4, s5, s6, s7, s8, s9, s10, rfl, hI⟩
    rw [List.getElem?_map] at hd
    cases hri : h.ruls[i]? with
    | none => rw [hri] at hd; cases hd
    | some r =>
    rw [hri] at hd
    cases hd
    have rm := List.mem_of_getElem? hri
    have et : h.ruls.take (i + 1) = h.ruls.take i ++ [r] := by rw [List.take_add_one, hri]; rfl
    obtain ⟨wd, hw, hc, hl, hn⟩ := (ho.ruls r rm).ex
    have af := hA.few
    refine wg_tup rfl (wg_cons (wg_name (by simp) (wg_cons (wg_name (by simp) (wg_cons (wg_name (by simp) (wg_nil ?_)))))))
    refine ws_seq (ws_asg (wp_lcIf (wi_seqV (ds := as.map dAt) rfl hdn ⟨sz_le (by rw [List.length_map]; omega), rowIs r.1, dSnd, fun d hd => ?_, ?_⟩)))
    · obtain ⟨a, ha, rfl⟩ := List.mem_map.mp hd
      refine wg_tup rfl (wg_cons (wg_name (by simp) (wg_cons (wg_name (by simp) (wg_nil (wt_B (wp_eq (wp_var rfl (wp_var rfl ⟨_, _, rfl, rfl, rfl, _, rfl, ?_, fun _ => wp_var rfl rfl⟩)))))))))
      show decide (V.str a.1 = V.str r.1) = decide (a.1 = r.1)
      exact decide_eq_decide.mpr ⟨V.str.inj, congrArg V.str⟩
    rw [ats_some as r.1 _ _ (fun _ => rfl) (fun _ => rfl)]
    generalize hsm : (as.filter fun a => decide (a.1 = r.1)).map (·.2) = sm
    have mem : ∀ ts, ts ∈ sm → ∃ a ∈ as, a.1 = r.1 ∧ a.2 = ts := fun ts h => by
      rw [← hsm] at h
      obtain ⟨a, ha, rfl⟩ := List.mem_map.mp h
      obtain ⟨h1, h2⟩ := List.mem_filter.mp ha
      exact ⟨a, h1, of_decide_eq_true h2, rfl⟩
    have mem2 : ∀ a ∈ as, a.1 = r.1 → a.2 ∈ sm := fun a ha e => by
      rw [← hsm]
      exact List.mem_map.mpr ⟨a, List.mem_filter.mpr ⟨ha, decide_eq_true e⟩, rfl⟩
    have len : ∀ ts ∈ sm, ts.length = wd := fun ts h => by
      obtain ⟨a, ha, e, rfl⟩ := mem ts h
      have := hA.wid a ha
      rw [e, hw] at this
      exact (Option.some.inj this).symm
    have cl : ∀ {i : Nat} {a : List Tm}, sm[i]? = some a → sm.take (i + 1) = sm.take i ++ [a] := fun h => by rw [List.take_add_one, h]; rfl
    refine ws_for (vs := [8]) (wi_seqV (i := 5) rfl (.inl rfl) ⟨fun j ρ' => ∃ s6 s7 s8 s9 s10, ρ' = [.d (dHouse cH h), .d dn, .d (.str r.1), .d (dNats r.2.1), .d (.int (r.2.2 : Nat)), .d (.lst (sm.map dTms)), s6, s7, s8, s9, s10] ∧ ∀ a ∈ sm.take j, ∀ b ∈ sm, (∀ c ∈ r.2.1, a[c]? = b[c]?) → a[r.2.2]? = b[r.2.2]?, ⟨_, _, _, _, _, rfl, fun a ha => absurd ha (by simp)⟩, ?_, ?_⟩)
    · rintro j d _ hd ⟨s6, s7, s8, s9, s10, rfl, hJ⟩
      rw [List.getElem?_map] at hd
      cases haj : sm[j]? with
      | none => rw [haj] at hd; cases hd
      | some a =>
      rw [haj] at hd
      cases hd
      have am := List.mem_of_getElem? haj
      have la := len a am
      refine wg_name (by simp) (ws_for (vs := [9]) (wi_seqV (i := 5) rfl (.inl rfl) ⟨fun k ρ' => ∃ s6 s7 s9 s10, ρ' = [.d (dHouse cH h), .d dn, .d (.str r.1), .d (dNats r.2.1), .d (.int (r.2.2 : Nat)), .d (.lst (sm.map dTms)), s6, s7, .d (dTms a), s9, s10] ∧ ∀ b ∈ sm.take k, (∀ c ∈ r.2.1, a[c]? = b[c]?) → a[r.2.2]? = b[r.2.2]?, ⟨_, _, _, _, rfl, fun b hb => absurd hb (by simp)⟩, ?_, ?_⟩))
      · rintro k d _ hd ⟨s6, s7, s9, s10, rfl, hK⟩
        rw [List.getElem?_map] at hd
        cases hbk : sm[k]? with
        | none => rw [hbk] at hd; cases hd
        | some b =>
        rw [hbk] at hd
        cases hd
        have bm := List.mem_of_getElem? hbk
        have lb := len b bm
        have next : ((∀ c ∈ r.2.1, a[c]? = b[c]?) → a[r.2.2]? = b[r.2.2]?) → ∀ e ∈ sm.take (k + 1), (∀ c ∈ r.2.1, a[c]? = e[c]?) → a[r.2.2]? = e[r.2.2]? := fun z e he => by
          rw [cl hbk] at he
          rcases List.mem_append.mp he with he | he
          · exact hK e he
          · rw [List.mem_singleton.mp he]; exact z
        have ga : a[r.2.2]? = some a[r.2.2] := List.getElem?_eq_getElem (by omega)
        have gb : b[r.2.2]? = some b[r.2.2] := List.getElem?_eq_getElem (by omega)
        refine wg_name (by simp) (ws_if (wt_and (wt_B (wp_neF (wp_ix (wp_var rfl (wp_var rfl ⟨a.map kD, _, _, .inr rfl, rfl, atI_tm (by omega), wp_ix (wp_var rfl (wp_var rfl ⟨b.map kD, _, _, .inr rfl, rfl, atI_tm (by omega), kD_some _, kD_some _, kD_nbl _, kD_nbl _, fun r1 hr1 => ⟨_, rfl, ?_⟩⟩))⟩)))))))
        cases r1 with
        | true =>
          rw [Bool.not_true, if_neg Bool.false_ne_true, if_neg Bool.false_ne_true]
          exact ws_next ⟨_, _, _, _, rfl, next fun _ => by rw [ga, gb, kD_inj (hr1.mp rfl)]⟩
        | false =>
          rw [Bool.not_false, if_pos rfl]
          refine wt_B (wp_allP (wi_seqV (ds := r.2.1.map fun n => .int (n : Nat)) rfl (.inr rfl) ⟨by rw [List.length_map]; exact sz_le (by have := hc.few; omega), colT a b, fun d hd => ?_, _, rfl, ?_⟩))
          · obtain ⟨c, hc', rfl⟩ := List.mem_map.mp hd
            have cl := hc.lt c hc'
            refine wg_name (by simp) (wp_eqF (wp_ix (wp_var rfl (wp_var rfl ⟨a.map kD, _, _, .inr rfl, rfl, atI_tm (c := c) (by omega), wp_ix (wp_var rfl (wp_var rfl ⟨b.map kD, _, _, .inr rfl, rfl, atI_tm (c := c) (by omega), kD_some _, kD_some _, kD_nbl _, kD_nbl _, fun r2 hr2 => ?_⟩))⟩))))
            show D.bl r2 = D.bl (decide (a[((c : Nat) : Int).toNat]? = b[((c : Nat) : Int).toNat]?))
            rw [Int.toNat_natCast, List.getElem?_eq_getElem (by omega), List.getElem?_eq_getElem (by omega)]
            congr 1
            rw [Bool.eq_iff_iff, hr2, decide_eq_true_iff]
            exact ⟨fun e => by rw [kD_inj e], fun e => by rw [Option.some.inj e]⟩
          · have eqv : (r.2.1.map fun n => D.int (n : Nat)).all (colT a b) = true ↔ ∀ c ∈ r.2.1, a[c]? = b[c]? := by
              rw [List.all_eq_true]
              constructor
              · intro z c hc'
                have := of_decide_eq_true (z (.int (c : Nat)) (List.mem_map.mpr ⟨c, hc', rfl⟩))
                rwa [Int.toNat_natCast] at this
              · intro z d hd
                obtain ⟨c, hc', rfl⟩ := List.mem_map.mp hd
                exact decide_eq_true (by rw [Int.toNat_natCast]; exact z c hc')
            by_cases e3 : (r.2.1.map fun n => D.int (n : Nat)).all (colT a b) = true
            · rw [e3, if_pos rfl]
              refine ws_ret (wp_tup (wa_cons (wp_ix (wp_var rfl (wp_var rfl ⟨a.map kD, _, _, .inr rfl, rfl, atI_tm (c := r.2.2) (by omega), wa_cons (wp_ix (wp_var rfl (wp_var rfl ⟨b.map kD, _, _, .inr rfl, rfl, atI_tm (c := r.2.2) (by omega), wa_nil ⟨sz_le (Nat.succ_le_of_lt (by simp)), hs1 _ _ (fun e => ?_) ?_⟩⟩)))⟩)))))
              · exact Bool.false_ne_true (hr1.mpr (congrArg kD e))
              · obtain ⟨a', ha', e1, rfl⟩ := mem a am
                obtain ⟨b', hb', e2, rfl⟩ := mem b bm
                exact ⟨r, rm, a', ha', b', hb', e1, e2, eqv.mp e3, ga, gb⟩
            · rw [if_neg e3]
              exact ws_next ⟨_, _, _, _, rfl, next fun z => absurd (eqv.mpr z) e3⟩
      · rintro _ ⟨s6, s7, s9, s10, rfl, hK⟩
        rw [List.length_map, List.take_length] at hK
        refine ⟨_, _, _, _, _, rfl, fun e he => ?_⟩
        rw [cl haj] at he
        rcases List.mem_append.mp he with he | he
        · exact hJ e he
        · rw [List.mem_singleton.mp he]; exact hK
    · rintro _ ⟨s6, s7, s8, s9, s10, rfl, hJ⟩
      rw [List.length_map, List.take_length] at hJ
      refine ⟨_, _, _, _, _, _, _, _, _, rfl, ?_⟩
      rintro s t ⟨r', hr', a, ha, b, hb, e1, e2, e3, e4, e5⟩
      rw [et] at hr'
      rcases List.mem_append.mp hr' with hr' | hr'
      · exact hI s t ⟨r', hr', a, ha, b, hb, e1, e2, e3, e4, e5⟩
      · rw [List.mem_singleton.mp hr'] at e1 e2 e3 e4 e5
        have := hJ _ (mem2 a ha e1) _ (mem2 b hb e2) e3
        rw [e4, e5] at this
        exact Option.some.inj this
  · rintro _ ⟨s2, s3, s4, s5, s6, s7, s8, s9, s10, rfl, hI⟩
    rw [List.length_map, List.take_length] at hI
    exact ws_ret (wp_non (hs2 hI))
end
end FS

/-! FsV1: what rules make one (plain). -/
namespace FS
/-- terms that rules make one, among atoms -/
inductive Cg (rs : List Rul) (as : List At) : Tm → Tm → Prop
  | refl (s : Tm) : Cg rs as s s
  | symm {s t : Tm} : Cg rs as s t → Cg rs as t s
  | trans {s t u : Tm} : Cg rs as s t → Cg rs as t u → Cg rs as s u
  | rule {r : Rul} {a b : At} {s t : Tm} : r ∈ rs → a ∈ as → b ∈ as → a.1 = r.1 → b.1 = r.1 → a.2.length = b.2.length → (∀ c ∈ r.2.1, ∀ u v, a.2[c]? = some u → b.2[c]? = some v → Cg rs as u v) → a.2[r.2.2]? = some s → b.2[r.2.2]? = some t → Cg rs as s t
def Clash (rs : List Rul) (as : List At) : Prop := ∃ i j : Int, i ≠ j ∧ Cg rs as (.inl i) (.inl j)
def atMap (g : Tm → Tm) (a : At) : At := (a.1, a.2.map g)
/-- a map after which no rule joins unlike terms joins all that rules make one -/
theorem cg_closed {rs : List Rul} {as : List At} {g : Tm → Tm} (h : ∀ s t, Forced rs (as.map (atMap g)) s t → s = t) {s t : Tm} (c : Cg rs as s t) : g s = g t := by
  induction c with
  | refl s => rfl
  | symm _ ih => exact ih.symm
  | trans _ _ i1 i2 => exact i1.trans i2
  | @rule r a b s t hr ha hb ea eb el hc es et ih =>
    refine h _ _ ⟨r, hr, atMap g a, List.mem_map.mpr ⟨a, ha, rfl⟩, atMap g b, List.mem_map.mpr ⟨b, hb, rfl⟩, ea, eb, fun c cm => ?_, ?_, ?_⟩
    · show (a.2.map g)[c]? = (b.2.map g)[c]?
      rw [List.getElem?_map, List.getElem?_map]
      by_cases z : c < a.2.length
      · have z2 : c < b.2.length := by omega
        rw [List.getElem?_eq_getElem z, List.getElem?_eq_getElem z2]
        show some _ = some _
        rw [ih c cm _ _ (List.getElem?_eq_getElem z) (List.getElem?_eq_getElem z2)]
      · rw [List.getElem?_eq_none (by omega), List.getElem?_eq_none (by omega)]
    · show (a.2.map g)[r.2.2]? = _
      rw [List.getElem?_map, es]
      rfl
    · show (b.2.map g)[r.2.2]? = _
      rw [List.getElem?_map, et]
      rfl
/-- what is forced after a map that joins only what rules make one is made one by rules -/
theorem forced_cg {rs : List Rul} {as : List At} {g : Tm → Tm} (hg : ∀ a ∈ as, ∀ u ∈ a.2, Cg rs as u (g u)) (len : ∀ a ∈ as, ∀ b ∈ as, a.1 = b.1 → a.2.length = b.2.length) {s t : Tm} (f : Forced rs (as.map (atMap g)) s t) : Cg rs as s t := by
  obtain ⟨r, hr, a', ha', b', hb', ea, eb, hc, es, et⟩ := f
  obtain ⟨a, ha, rfl⟩ := List.mem_map.mp ha'
  obtain ⟨b, hb, rfl⟩ := List.mem_map.mp hb'
  have es' : (a.2.map g)[r.2.2]? = some s := es
  have et' : (b.2.map g)[r.2.2]? = some t := et
  rw [List.getElem?_map] at es' et'
  obtain ⟨u, hu, rfl⟩ := Option.map_eq_some_iff.mp es'
  obtain ⟨v, hv, rfl⟩ := Option.map_eq_some_iff.mp et'
  have gu := hg a ha u (List.mem_of_getElem? hu)
  have gv := hg b hb v (List.mem_of_getElem? hv)
  refine (gu.symm.trans (Cg.rule hr ha hb ea eb (len a ha b hb (ea.trans eb.symm)) (fun c cm x y hx hy => ?_) hu hv)).trans gv
  have h1 : (a.2.map g)[c]? = (b.2.map g)[c]? := hc c cm
  rw [List.getElem?_map, List.getElem?_map, hx, hy] at h1
  have h2 : g x = g y := Option.some.inj h1
  have gx := hg a ha x (List.mem_of_getElem? hx)
  have gy := hg b hb y (List.mem_of_getElem? hy)
  rw [h2] at gx
  exact gx.trans gy.symm
end FS

/-! FsV2: the map that glued makes (plain). -/
namespace FS
open PySem L2
def swp (gone kept u : Tm) : Tm := if u = gone then kept else u
structure GlInv (rs : List Rul) (as : List At) (ns : List Str) (g : Tm → Tm) : Prop where
  inl : ∀ i, g (.inl i) = .inl i
  dom : ∀ x ∈ ns, ∀ y, g (.inr x) = .inr y → y ∈ ns
  out : ∀ x, x ∉ ns → g (.inr x) = .inr x
  cg : ∀ s, Cg rs as s (g s)
  idem : ∀ s, g (g s) = g s
structure GlOk (rs : List Rul) (as : List At) (ns : List Str) (g : Tm → Tm) : Prop extends GlInv rs as ns g where
  eq : ∀ s t, Cg rs as s t → g s = g t
def fixN (ns : List Str) (g : Tm → Tm) : Nat := (ns.filter fun x => decide (g (.inr x) = .inr x)).length
theorem GlInv.id {rs : List Rul} {as : List At} {ns : List Str} : GlInv rs as ns (fun t => t) :=
  ⟨fun _ => rfl, fun x hx y e => by cases e; exact hx, fun _ _ => rfl, fun s => .refl s, fun _ => rfl⟩
theorem filter_lt {α : Type} {p q : α → Bool} : ∀ {l : List α} {y : α}, (∀ x ∈ l, p x = true → q x = true) → y ∈ l → q y = true → p y = false → (l.filter p).length < (l.filter q).length
  | [], _, _, h, _, _ => absurd h List.not_mem_nil
  | a :: l, y, h, hy, h1, h2 => by
    have le : (l.filter p).length ≤ (l.filter q).length := by
      have h' : ∀ x ∈ l, p x = true → q x = true := fun x hx => h x (List.mem_cons_of_mem _ hx)
      clear h hy h1 h2
      induction l with
      | nil => exact Nat.le_refl _
      | cons b l ih =>
        have ih' := ih fun x hx => h' x (List.mem_cons_of_mem _ hx)
        have hb := h' b (List.mem_cons_self ..)
        rw [List.filter_cons, List.filter_cons]
        by_cases z : p b = true
        · rw [if_pos z, if_pos (hb z), List.length_cons, List.length_cons]
          omega
        · rw [if_neg z]
          split
          · rw [List.length_cons]
            omega
          · exact ih'
    rw [List.filter_cons, List.filter_cons]
    rcases List.mem_cons.mp hy with rfl | hy
    · rw [if_pos h1, h2, if_neg Bool.false_ne_true, List.length_cons]
      omega
    · have ih := filter_lt (p := p) (q := q) (l := l) (fun x hx => h x (List.mem_cons_of_mem _ hx)) hy h1 h2
      have hb := h a (List.mem_cons_self ..)
      by_cases z : p a = true
      · rw [if_pos z, if_pos (hb z), List.length_cons, List.length_cons]
        omega
      · rw [if_neg z]
        split
        · rw [List.length_cons]
          omega
        · exact ih
section
variable {rs : List Rul} {as : List At} {ns : List Str} {g : Tm → Tm}
theorem GlInv.step (h : GlInv rs as ns g) {kept : Tm} {y : Str} (c : Cg rs as (.inr y) kept) (ne : (.inr y : Tm) ≠ kept) (hy : y ∈ ns) (fg : g (.inr y) = .inr y) (fk : g kept = kept) (kn : ∀ z, kept = .inr z → z ∈ ns) :
    GlInv rs as ns (fun t => swp (.inr y) kept (g t)) ∧ fixN ns (fun t => swp (.inr y) kept (g t)) < fixN ns g := by
  have sk : swp (.inr y) kept kept = kept := if_neg (Ne.symm ne)
  refine ⟨⟨fun i => ?_, fun x hx z e => ?_, fun x hx => ?_, fun s => ?_, fun s => ?_⟩, filter_lt (y := y) (fun x hx e => ?_) hy (decide_eq_true fg) ?_⟩
  · show swp _ _ (g (.inl i)) = _
    rw [h.inl]
    exact if_neg (by intro z; cases z)
  · have e' : swp (.inr y) kept (g (.inr x)) = .inr z := e
    unfold swp at e'
    split at e'
    · exact kn z e'
    · exact h.dom x hx z e'
  · show swp _ _ (g (.inr x)) = _
    rw [h.out x hx]
    exact if_neg fun z => hx (by rw [Sum.inr.inj z]; exact hy)
  · show Cg rs as s (swp (.inr y) kept (g s))
    unfold swp
    split
    · rename_i z
      have := h.cg s
      rw [z] at this
      exact this.trans c
    · exact h.cg s
  · show swp (.inr y) kept (g (swp (.inr y) kept (g s))) = swp (.inr y) kept (g s)
    by_cases z : g s = .inr y
    · have e1 : swp (.inr y) kept (g s) = kept := if_pos z
      rw [e1, fk, sk]
    · have e1 : swp (.inr y) kept (g s) = g s := if_neg z
      rw [e1, h.idem, e1]
  · have e' : swp (.inr y) kept (g (.inr x)) = .inr x := of_decide_eq_true e
    by_cases z : g (.inr x) = .inr y
    · have e1 : swp (.inr y) kept (g (.inr x)) = kept := if_pos z
      rw [e1] at e'
      rw [← e', fk, e'] at z
      exact absurd (e'.trans z).symm ne
    · have e1 : swp (.inr y) kept (g (.inr x)) = g (.inr x) := if_neg z
      rw [e1] at e'
      exact decide_eq_true e'
  · show decide (swp (.inr y) kept (g (.inr y)) = .inr y) = false
    rw [fg, show swp (.inr y) kept (.inr y) = kept from if_pos rfl]
    exact decide_eq_false (Ne.symm ne)
theorem GlInv.forced (h : GlInv rs as ns g) (hin : ∀ x, InAts x as → x ∈ ns) {s t : Tm} (f : Forced rs (as.map (atMap g)) s t) : (g s = s ∧ ∀ z, s = .inr z → z ∈ ns) ∧ (g t = t ∧ ∀ z, t = .inr z → z ∈ ns) := by
  have key : ∀ a' ∈ as.map (atMap g), ∀ s ∈ a'.2, g s = s ∧ ∀ z, s = .inr z → z ∈ ns := by
    intro a' ha' s hs
    obtain ⟨a, ha, rfl⟩ := List.mem_map.mp ha'
    obtain ⟨u, hu, rfl⟩ := List.mem_map.mp hs
    refine ⟨h.idem u, fun z e => ?_⟩
    cases u with
    | inl i => rw [h.inl] at e; cases e
    | inr x => exact h.dom x (hin x ⟨a, ha, hu⟩) z e
  obtain ⟨r, hr, a, ha, b, hb, e1, e2, e3, e4, e5⟩ := f
  exact ⟨key a ha s (List.mem_of_getElem? e4), key b hb t (List.mem_of_getElem? e5)⟩
end
end FS

/-! FsU10: glued. -/
namespace FS
open PySem L2
def goesL (ns : List Str) (g : Tm → Tm) : List (Key × D) := ns.map fun x => ((.inr x : Key), kD (g (.inr x)))
def dGoes (ns : List Str) (g : Tm → Tm) : D := .dic (goesL ns g)
theorem kget_goes {ns : List Str} {g : Tm → Tm} {x : Str} (h : x ∈ ns) : kget (goesL ns g) (.inr x) = some (kD (g (.inr x))) := by
  unfold goesL kget
  induction ns with
  | nil => exact absurd h List.not_mem_nil
  | cons y ns ih =>
    by_cases e : y = x
    · subst e
      simp
    · have e' : ¬ (Sum.inr y : Key) = Sum.inr x := fun z => e (Sum.inr.inj z)
      rcases List.mem_cons.mp h with z | z
      · exact absurd z.symm e
      · simpa [e, e'] using ih z
theorem nodup_inr {ns : List Str} (h : ns.Nodup) {v : Str → D} : ((ns.map fun x => ((.inr x : Key), v x)).map (·.1)).Nodup := by
  rw [List.map_map]
  rw [List.nodup_iff_pairwise_ne] at h ⊢
  exact List.Pairwise.map _ (fun a b n e => n (Sum.inr.inj e)) h
theorem tabD_nodup {l : List (Key × D)} (h : (l.map (·.1)).Nodup) : tabD l = l := by
  rw [show tabD l = kmerge [] l from rfl, kmerge_nodup h (fun _ _ z => absurd z List.not_mem_nil)]
  rfl
def strOf : D → Str
  | .str x => x
  | _ => ""
def pairB (s t : Tm) : D → Bool
  | .str z => decide (.inr z = s ∨ .inr z = t)
  | _ => false
theorem pair_first {ns : List Str} {s t : Tm} {x : Str} (hx : x ∈ ns) (e : .inr x = s ∨ .inr x = t) : ∃ z rest, ((ns.map D.str).filter (pairB s t)).map id = .str z :: rest ∧ z ∈ ns ∧ (.inr z = s ∨ .inr z = t) := by
  rw [List.map_id]
  induction ns with
  | nil => exact absurd hx List.not_mem_nil
  | cons y ns ih =>
    rw [List.map_cons, List.filter_cons]
    by_cases z : pairB s t (.str y) = true
    · rw [if_pos z]
      exact ⟨y, _, rfl, List.mem_cons_self .., of_decide_eq_true z⟩
    · rw [if_neg z]
      rcases List.mem_cons.mp hx with rfl | hx
      · exact absurd (decide_eq_true e) z
      · obtain ⟨w, r, h1, h2, h3⟩ := ih hx
        exact ⟨w, r, h1, List.mem_cons_of_mem _ h2, h3⟩
theorem atMap_D (as : List At) (f : Tm → Tm) : (as.map (atMap f)).map dAt = as.map fun a => .tup [.str a.1, dTms (a.2.map f)] := by
  rw [List.map_map]
  rfl
theorem ats_map {h : House} {as : List At} (A : AtsOk h as) (g : Tm → Tm) : AtsOk h (as.map (atMap g)) := by
  refine ⟨fun a ha => ?_, by rw [List.length_map]; exact A.few⟩
  obtain ⟨b, hb, rfl⟩ := List.mem_map.mp ha
  show widOf h.tabs b.1 = some (b.2.map g).length
  rw [List.length_map]
  exact A.wid b hb
def atMapD (g : D → D) : D → D
  | .tup [t, .tup ts] => .tup [t, .tup (ts.map g)]
  | d => d
def swpD (gone kept : Tm) : D → D := fun d => match d.key with
  | some k => kD (swp gone kept k)
  | none => d
theorem swpD_k (gone kept u : Tm) : swpD gone kept (kD u) = kD (swp gone kept u) := by
  unfold swpD
  rw [kD_k]
theorem swpD_ats (gone kept : Tm) (as : List At) : (as.map dAt).map (atMapD (swpD gone kept)) = (as.map (atMap (swp gone kept))).map dAt := by
  rw [List.map_map, List.map_map]
  refine List.map_congr_left fun a _ => ?_
  show D.tup [.str a.1, .tup ((a.2.map kD).map (swpD gone kept))] = D.tup [.str a.1, .tup ((a.2.map (swp gone kept)).map kD)]
  rw [List.map_map, List.map_map]
  exact congrArg (fun l => D.tup [.str a.1, .tup l]) (List.map_congr_left fun u _ => swpD_k gone kept u)
theorem atMap_comp (as : List At) (f g : Tm → Tm) : (as.map (atMap g)).map (atMap f) = as.map (atMap fun t => f (g t)) := by
  rw [List.map_map]
  refine List.map_congr_left fun a _ => ?_
  show (a.1, (a.2.map g).map f) = (a.1, a.2.map fun t => f (g t))
  rw [List.map_map]
  rfl
theorem atMap_id (as : List At) : as.map (atMap fun t => t) = as := by
  conv => rhs; rw [← List.map_id as]
  refine List.map_congr_left fun a _ => ?_
  show (a.1, a.2.map fun t => t) = a
  rw [List.map_id']
section
variable {P : Program} {w : World} {K : PySem.W.Frag} {mg : Str → Option Value} {base : Heap} {cH cS cQ : Addr}
/-- the loop of glued -/
def GlI (cH : Addr) (h : House) (ns : List Str) (as : List At) (m : Nat) (ρ' : Ro) : Prop := ∃ (g : Tm → Tm) (da dp : D) (s4 s6 s7 s8 s9 s10 s11 : Sl), ρ' = [.d (dHouse cH h), .d (.lst (ns.map D.str)), .d da, .d (dGoes ns g), s4, .d dp, s6, s7, s8, s9, s10, s11] ∧ (da = .lst ((as.map (atMap g)).map dAt) ∨ da = .tup ((as.map (atMap g)).map dAt)) ∧
    GlInv h.ruls as ns g ∧ m = fixN ns g ∧ ((∃ s t, dp = .tup [kD s, kD t] ∧ s ≠ t ∧ Forced h.ruls (as.map (atMap g)) s t) ∨ (dp = .non ∧ ∀ s t, Forced h.ruls (as.map (atMap g)) s t → s = t))
def sp_glued (c : Addr) : Spc := fun ds S => ∃ (h : House) (ns : List Str) (as : List At), ds = [dHouse c h, .lst (ns.map D.str), .tup (as.map dAt)] ∧ HOk h ∧ AtsOk h as ∧ (∀ a ∈ as, a.2.length ≤ 100) ∧ ns.Nodup ∧ ns.length ≤ 100000 ∧ (∀ x, InAts x as → x ∈ ns) ∧
  (Clash h.ruls as → S .non) ∧ ∀ g, GlOk h.ruls as ns g → S (dGoes ns g)
theorem len_glued {c : Addr} : ∀ ds S, sp_glued c ds S → ds.length = 3 := by rintro _ _ ⟨_, _, _, rfl, _⟩; rfl
theorem sc_glued : FnScope ["house", "names", "atoms", "goes", "name", "pair", "told", "term", "kept", "gone", "table", "terms"] ["house", "names", "atoms"] (defScope (topS 51)) := ⟨rfl, rfl, rfl, by decide +kernel, rfl, by decide +kernel, by decide +kernel⟩
/-! slots: 0 house, 1 names, 2 atoms, 3 goes, 4 name, 5 pair, 6 told, 7 term, 8 kept, 9 gone, 10 table, 11 terms; cells: ['goes', 'gone', 'kept', 'pair'] -/
theorem Txt.d_glued (T : Txt K mg cH cS cQ) : Df P w K mg base 2 "glued" ["house", "names", "atoms"] [] (sp_glued cH) := by
  refine df_mk T.a_glued sc_glued (fun _ _ _ _ _ _ us hl => match us, hl with | [_, _, _], _ => rfl) len_glued fun f cdv A outer s H E hr => ?_
  refine ⟨_,
    (pss_cons (ps_asg (pe_dc (own := [("name", 4)]) rfl sc_glued.nd (kPI (K := K) (w := iSeq) (pi_seq (pv 1))) (blkOk_by (own := [("name", 4)]) (by first | (show blkC ["house", "names", "atoms", "goes", "name", "pair", "told", "term", "kept", "gone", "table", "terms"] (defScope (topS 51)) _ _ = true; decide +kernel) | rfl)) (fun _ _ _ _ _ => by exact (pg_name (i := 4) sc_glued.nd rfl (by first | exact Or.inl rfl | exact Or.inr rfl))) (fun _ _ _ _ _ => by exact pts_nil) (fun _ _ _ _ _ => by exact (pv 4)) (fun _ _ _ _ _ => by exact (pv 4))) (pg_name (i := 3) sc_glued.nd rfl (by first | exact Or.inl rfl | exact Or.inr rfl)))
    (pss_cons (ps_set (i := 5) sc_glued.nd rfl (by first | exact Or.inl rfl | exact Or.inr rfl) (pe_df T.d_unlike_terms hr (by decide) (by rfl) (pa_cons (pv 0) (pa_cons (pv 2) pa_nil))))
    (pss_cons (ps_while PassesOwn.never (pt_cmp (pc_notN (pv 5)))
      (pss_cons (ps_setLc (i := 6) (own := [("term", 7)]) rfl sc_glued.nd rfl rfl (sw_true rfl rfl rfl (by decide +kernel)) (kPI (K := K) (w := iSeq) (pi_seq (pv 5))) (blkOk_by (own := [("term", 7)]) (by first | (show blkC ["house", "names", "atoms", "goes", "name", "pair", "told", "term", "kept", "gone", "table", "terms"] (defScope (topS 51)) _ _ = true; decide +kernel) | rfl)) (fun _ _ _ _ _ => by exact (pg_name (i := 7) sc_glued.nd rfl (by first | exact Or.inl rfl | exact Or.inr rfl))) (fun _ _ _ _ _ => by exact (pts_one (pt_not (pt_val (pe_callB (kCR (K := K) (r := rIsi) call_isi) (by rfl) T.f_isinstance (by decide +kernel) (pa_cons (pv 7) (pa_cons (pe_ty (n := "str") T.f_str) pa_nil))))))) (fun _ _ _ _ _ => by exact (pv 7)))
      (pss_cons (ps_if (pt_cmpR op_eq (pe_callB (kCR (K := K) (r := rLenS) cr_len) (by rfl) T.f_len (by decide +kernel) (pa_cons (pv 6) pa_nil)) pe_int (nomark _))
        (pss_one (ps_ret pe_non))
        pss_nil)
      (pss_cons (ps_set (i := 8) sc_glued.nd rfl (by first | exact Or.inl rfl | exact Or.inr rfl) (pe_ifExp (pt_cmpR op_gt (pe_callB (kCR (K := K) (r := rLenS) cr_len) (by rfl) T.f_len (by decide +kernel) (pa_cons (pv 6) pa_nil)) pe_int (nomark _)) (pe_ix (kIx (K := K) (r := rIx) ix_seq) (pv 6) pe_int (fun _ _ => rfl)) (pe_ix (kIx (K := K) (r := rIx) ix_seq) (pe_lc (own := [("name", 4)]) rfl sc_glued.nd (kPI (K := K) (w := iSeq) (pi_seq (pv 1))) (blkOk_by (own := [("name", 4)]) (by first | (show blkC ["house", "names", "atoms", "goes", "name", "pair", "told", "term", "kept", "gone", "table", "terms"] (defScope (topS 51)) _ _ = true; decide +kernel) | rfl)) (fun _ _ _ _ _ => by exact (pg_name (i := 4) sc_glued.nd rfl (by first | exact Or.inl rfl | exact Or.inr rfl))) (fun _ _ _ _ _ => by exact (pts_one (pt_cmpR (kOp (K := K) (r := fun K => rIn K false) op_in_seq) (pv 4) (pv 5) rfl))) (fun _ _ _ _ _ => by exact (pv 4))) pe_int (fun _ _ => rfl))))
      (pss_cons (ps_set (i := 9) sc_glued.nd rfl (by first | exact Or.inl rfl | exact Or.inr rfl) (pe_ifExp (pt_cmpR op_eq (pe_ix (kIx (K := K) (r := rIx) ix_seq) (pv 5) pe_int (fun _ _ => rfl)) (pv 8) (nomark _)) (pe_ix (kIx (K := K) (r := rIx) ix_seq) (pv 5) pe_int (fun _ _ => rfl)) (pe_ix (kIx (K := K) (r := rIx) ix_seq) (pv 5) pe_int (fun _ _ => rfl))))
      (pss_cons (ps_asg (pe_dc (own := [("name", 4)]) rfl sc_glued.nd (kPI (K := K) (w := iSeq) (pi_seq (pv 1))) (blkOk_by (own := [("name", 4)]) (by first | (show blkC ["house", "names", "atoms", "goes", "name", "pair", "told", "term", "kept", "gone", "table", "terms"] (defScope (topS 51)) _ _ = true; decide +kernel) | rfl)) (fun _ _ _ _ _ => by exact (pg_name (i := 4) sc_glued.nd rfl (by first | exact Or.inl rfl | exact Or.inr rfl))) (fun _ _ _ _ _ => by exact pts_nil) (fun _ _ _ _ _ => by exact (pv 4)) (fun _ _ _ _ _ => by exact (pe_ifExp (pt_cmpR op_eq (pe_dget (rm_u hr) (pv 3) (pv 4) (fun _ _ => rfl)) (pv 9) (nomark _)) (pv 8) (pe_dget (rm_u hr) (pv 3) (pv 4) (fun _ _ => rfl))))) (pg_name (i := 3) sc_glued.nd rfl (by first | exact Or.inl rfl | exact Or.inr rfl)))
      (pss_cons (ps_setLc (i := 2) (own := [("table", 10), ("terms", 11)]) rfl sc_glued.nd rfl rfl (sw_true rfl rfl rfl (by decide +kernel)) (kPI (K := K) (w := iSeq) (pi_seq (pv 2))) (blkOk_by (own := [("table", 10), ("terms", 11)]) (by first | (show blkC ["house", "names", "atoms", "goes", "name", "pair", "told", "term", "kept", "gone", "table", "terms"] (defScope (topS 51)) _ _ = true; decide +kernel) | rfl)) (fun _ _ _ _ _ => by exact (kPG (K := K) (w := gTup) (pg_tup (n := 2) rfl (pgs_cons (pg_name (i := 10) sc_glued.nd rfl (by first | exact Or.inl rfl | exact Or.inr rfl)) (pgs_cons (pg_name (i := 11) sc_glued.nd rfl (by first | exact Or.inl rfl | exact Or.inr rfl)) pgs_nil))))) (fun _ _ _ _ _ => by exact pts_nil) (fun _ _ _ _ _ => by exact (pe_tup (pa_cons (pv 10) (pa_cons (pe_callTy (kCR (K := K) (r := rTupS) cr_tup) (by rfl) T.f_tuple (by decide +kernel) (pa_cons (pe_lc (own := [("term", 7)]) rfl sc_glued.nd (kPI (K := K) (w := iSeq) (pi_seq (pv 11))) (blkOk_by (own := [("term", 7)]) (by first | (show blkC ["house", "names", "atoms", "goes", "name", "pair", "told", "term", "kept", "gone", "table", "terms"] (defScope (topS 51)) _ _ = true; decide +kernel) | rfl)) (fun _ _ _ _ _ => by exact (pg_name (i := 7) sc_glued.nd rfl (by first | exact Or.inl rfl | exact Or.inr rfl))) (fun _ _ _ _ _ => by exact pts_nil) (fun _ _ _ _ _ => by exact (pe_ifExp (pt_cmpR op_eq (pv 7) (pv 9) (nomark _)) (pv 8) (pv 7)))) pa_nil)) pa_nil)))))
      (pss_one (ps_set (i := 5) sc_glued.nd rfl (by first | exact Or.inl rfl | exact Or.inr rfl) (pe_df T.d_unlike_terms hr (by decide) (by rfl) (pa_cons (pv 0) (pa_cons (pv 2) pa_nil))))))))))))
    (pss_one (ps_ret (pv 3)))))), fun B ds S h => ?_⟩
  obtain ⟨h, ns, as, rfl, ho, hA, h100, nd, nl, hin, hs1, hs2⟩ := h
  have lns : (ns.map D.str).length ≤ sizeLine := by rw [List.length_map]; exact sz_le (by omega)
  have len : ∀ a ∈ as, ∀ b ∈ as, a.1 = b.1 → a.2.length = b.2.length := fun a ha b hb e => by
    have h1 := hA.wid a ha
    have h2 := hA.wid b hb
    rw [e, h2] at h1
    exact (Option.some.inj h1).symm
  have e0 : tabD ((ns.map D.str).map fun d => ((.inr (strOf d) : Key), d)) = goesL ns fun t => t := by
    rw [List.map_map]
    exact tabD_nodup (nodup_inr (v := fun x => kD (.inr x)) nd)
  refine ws_seq (ws_asg (wp_dcMap (wi_seqV (i := 1) rfl (.inl rfl) ⟨lns, fun d => (.inr (strOf d), d), fun d hd => ?_, ?_⟩)))
  · obtain ⟨x, hx, rfl⟩ := List.mem_map.mp hd
    exact wg_name (by simp) (wp_var rfl (wp_var rfl ⟨rfl, rfl⟩))
  rw [e0]
  have enter : ∀ (g : Tm → Tm) (da : D) (S' : D → Prop), (da = .lst ((as.map (atMap g)).map dAt) ∨ da = .tup ((as.map (atMap g)).map dAt)) → (∀ dp, ((∃ s t, dp = .tup [kD s, kD t] ∧ s ≠ t ∧ Forced h.ruls (as.map (atMap g)) s t) ∨ (dp = .non ∧ ∀ s t, Forced h.ruls (as.map (atMap g)) s t → s = t)) → S' dp) →
      sp_unlike_terms cH [dHouse cH h, da] S' := fun g da S' e k => by
    refine ⟨h, as.map (atMap g), ?_, ho, ats_map hA g, fun s t ne f => k _ (.inl ⟨s, t, rfl, ne, f⟩), fun z => k _ (.inr ⟨rfl, z⟩)⟩
    rcases e with rfl | rfl
    · exact .inl rfl
    · exact .inr rfl
  refine ws_seq (ws_asg (wp_call0 (wa_cons (wp_var rfl (wa_cons (wp_var rfl (wa_nil (enter (fun t => t) _ _ (.inr (by rw [atMap_id])) fun dp hdp => ?_))))))))
  refine ws_seq (ws_while (GlI cH h ns as) (fixN ns fun t => t) ⟨_, _, dp, _, _, _, _, _, _, _, rfl, .inr (by rw [atMap_id]), .id, rfl, hdp⟩ ?_)
  rintro m _ ⟨g, da, dp, s4, s6, s7, s8, s9, s10, s11, rfl, hda, inv, em, hdp⟩
  refine wt_B (wp_notN (wp_var rfl fun r hr => ⟨_, rfl, ?_⟩))
  rcases hdp with ⟨s, t, rfl, ne, fo⟩ | ⟨rfl, hno⟩
  · have er : r = false := by
      cases r with
      | true => exact absurd (hr.mp rfl) (by intro z; cases z)
      | false => rfl
    rw [er, Bool.not_false, if_pos rfl]
    have cst : Cg h.ruls as s t := forced_cg (fun a _ u _ => inv.cg u) len fo
    obtain ⟨⟨fs, ks⟩, ft, kt⟩ := inv.forced hin fo
    refine ws_seq (ws_asg (wp_lcIf (wi_seqV (i := 5) (ds := [s, t].map kD) rfl (.inr rfl) ⟨sz_le (Nat.succ_le_of_lt (by simp)), fun d => !isStrD d, id, fun d hd => ?_, ?_⟩)))
    · obtain ⟨t, ht, rfl⟩ := List.mem_map.mp hd
      cases t with
      | inl i => exact wg_name (by simp) (wt_not (wt_B (wp_isi (wp_var rfl ⟨_, _, rfl, rfl, false, rfl, rfl, fun _ => wp_var rfl rfl⟩))))
      | inr x => exact wg_name (by simp) (wt_not (wt_B (wp_isi (wp_var rfl ⟨_, _, rfl, rfl, true, rfl, rfl, fun z => by cases z⟩))))
    rw [ints_D]
    refine ws_seq (ws_if (wt_B (wp_eqF (wp_len (wa_cons (wp_var rfl (wa_nil ⟨_, .inl rfl, wp_int ⟨rfl, rfl, rfl, rfl, fun r2 hr2 => ⟨_, rfl, ?_⟩⟩⟩)))))))
    have two : r2 = true → ∃ i j, s = .inl i ∧ t = .inl j := fun z => by
      have := D.int.inj (hr2.mp z)
      cases s <;> cases t <;> first | exact ⟨_, _, rfl, rfl⟩ | cases this
    have one : ∀ i j, s = .inl i → t = .inl j → r2 = true := fun i j e1 e2 => by
      subst e1 e2
      exact hr2.mpr rfl
    cases r2 with
    | true =>
      rw [if_pos rfl]
      obtain ⟨i, j, rfl, rfl⟩ := two rfl
      exact ws_ret (wp_non (hs1 ⟨i, j, fun e => ne (congrArg Sum.inl e), cst⟩))
    | false =>
    rw [if_neg Bool.false_ne_true]
    refine ws_next (ws_seq (ws_asg (Wp.imp (S := fun d => ∃ (k : Tm) (y : Str), d = kD k ∧ (s = k ∧ t = .inr y ∨ s = .inr y ∧ t = k)) ?_ fun d ⟨k, y, e1, e2⟩ => ?_)))
    · refine wp_if (wt_B (wp_gt (wp_len (wa_cons (wp_var rfl (wa_nil ⟨_, .inl rfl, wp_int ⟨_, _, rfl, rfl, _, rfl, ?_⟩⟩))))))
      cases s with
      | inl i =>
        cases t with
        | inl j => exact absurd (one i j rfl rfl) Bool.false_ne_true
        | inr y => exact wp_ix (wp_var rfl (wp_int ⟨_, _, .int i, .inl rfl, rfl, rfl, .inl i, y, rfl, .inl ⟨rfl, rfl⟩⟩))
      | inr x =>
        cases t with
        | inl j => exact wp_ix (wp_var rfl (wp_int ⟨_, _, .int j, .inl rfl, rfl, rfl, .inl j, x, rfl, .inr ⟨rfl, rfl⟩⟩))
        | inr y =>
          obtain ⟨z, rest, e3, hz, e4⟩ := pair_first (ks x rfl) (.inl rfl : _ ∨ (.inr x : Tm) = .inr y)
          refine wp_ix (wp_lcIf (wi_seqV (i := 1) rfl (.inl rfl) ⟨lns, pairB (.inr x) (.inr y), id, fun d hd => ?_, wp_int ⟨_, _, .str z, .inl rfl, rfl, ?_, .inr z, ?_⟩⟩))
          · obtain ⟨x', hx', rfl⟩ := List.mem_map.mp hd
            refine wg_name (by simp) (wt_B (wp_in (wp_var rfl (wp_var rfl ⟨_, .inr rfl, rfl, rfl, fun d hd => ?_, fun r3 hr3 => ⟨_, rfl, ?_, fun _ => wp_var rfl rfl⟩⟩))))
            · rcases List.mem_cons.mp hd with rfl | hd
              · exact ⟨rfl, rfl⟩
              · rw [List.mem_singleton.mp hd]
                exact ⟨rfl, rfl⟩
            · show r3 = decide _
              rw [Bool.eq_iff_iff, hr3, decide_eq_true_iff, List.mem_cons, List.mem_singleton]
              exact or_congr ⟨fun e => congrArg Sum.inr (D.str.inj e), fun e => congrArg D.str (Sum.inr.inj e)⟩ ⟨fun e => congrArg Sum.inr (D.str.inj e), fun e => congrArg D.str (Sum.inr.inj e)⟩
          · rw [e3]
            exact atI_0 rfl
          · rcases e4 with e4 | e4
            · exact ⟨y, rfl, .inl ⟨e4.symm, rfl⟩⟩
            · exact ⟨x, rfl, .inr ⟨rfl, e4.symm⟩⟩
    subst e1
    have nk : (.inr y : Tm) ≠ k := fun e => by
      rcases e2 with ⟨e3, e4⟩ | ⟨e3, e4⟩
      · exact ne (by rw [e3, e4, e])
      · exact ne (by rw [e3, e4, e])
    have cyk : Cg h.ruls as (.inr y) k := by
      rcases e2 with ⟨rfl, rfl⟩ | ⟨rfl, rfl⟩
      · exact cst.symm
      · exact cst
    have fg : g (.inr y) = .inr y := by
      rcases e2 with ⟨rfl, rfl⟩ | ⟨rfl, rfl⟩
      · exact ft
      · exact fs
    have hy : y ∈ ns := by
      rcases e2 with ⟨rfl, rfl⟩ | ⟨rfl, rfl⟩
      · exact kt y rfl
      · exact ks y rfl
    have fk : g k = k := by
      rcases e2 with ⟨rfl, rfl⟩ | ⟨rfl, rfl⟩
      · exact fs
      · exact ft
    have kn : ∀ z, k = .inr z → z ∈ ns := by
      rcases e2 with ⟨rfl, rfl⟩ | ⟨rfl, rfl⟩
      · exact ks
      · exact kt
    obtain ⟨inv', lt'⟩ := inv.step cyk nk hy fg fk kn
    refine ws_seq (ws_asg (Wp.imp (S := fun d => d = .str y) ?_ fun d e3 => ?_))
    · refine wp_if (wt_B (wp_eqF (wp_ix (wp_var rfl (wp_int ⟨[kD s, kD t], _, kD t, .inr rfl, rfl, rfl, wp_var rfl ⟨kD_some _, kD_some _, kD_nbl _, kD_nbl _, fun r3 hr3 => ⟨_, rfl, ?_⟩⟩⟩)))))
      cases r3 with
      | true =>
        rw [if_pos rfl]
        have e5 := kD_inj (hr3.mp rfl)
        refine wp_ix (wp_var rfl (wp_int ⟨[kD s, kD t], _, kD s, .inr rfl, rfl, rfl, ?_⟩))
        rcases e2 with ⟨e6, e7⟩ | ⟨e6, e7⟩
        · exact absurd (e7.symm.trans e5) nk
        · rw [e6]; rfl
      | false =>
        rw [if_neg Bool.false_ne_true]
        refine wp_ix (wp_var rfl (wp_int ⟨[kD s, kD t], _, kD t, .inr rfl, rfl, rfl, ?_⟩))
        rcases e2 with ⟨e6, e7⟩ | ⟨e6, e7⟩
        · rw [e7]; rfl
        · exact absurd (hr3.mpr (by rw [e7])) Bool.false_ne_true
    subst e3
    have eg : tabD ((ns.map D.str).map fun d => ((.inr (strOf d) : Key), swpD (.inr y) k (kD (g (.inr (strOf d)))))) = goesL ns fun t => swp (.inr y) k (g t) := by
      rw [List.map_map]
      rw [show ((fun d => ((.inr (strOf d) : Key), swpD (.inr y) k (kD (g (.inr (strOf d)))))) ∘ D.str) = fun x : Str => ((.inr x : Key), kD (swp (.inr y) k (g (.inr x)))) from funext fun x => Prod.ext rfl (swpD_k ..)]
      exact tabD_nodup (nodup_inr (v := fun x => kD (swp (.inr y) k (g (.inr x)))) nd)
    refine ws_seq (ws_asg (wp_dcMap (wi_seqV (i := 1) rfl (.inl rfl) ⟨lns, fun d => (.inr (strOf d), swpD (.inr y) k (kD (g (.inr (strOf d))))), fun d hd => ?_, ?_⟩)))
    · obtain ⟨x, hx, rfl⟩ := List.mem_map.mp hd
      refine wg_name (by simp) (wp_var rfl (wp_if (wt_B (wp_eqF (wp_dget (wp_var rfl (wp_var rfl ⟨_, .inr x, _, rfl, rfl, kget_goes hx, wp_var rfl ⟨kD_some _, rfl, kD_nbl _, rfl, fun r3 hr3 => ⟨_, rfl, ?_⟩⟩⟩)))))))
      show if r3 = true then Wp K B _ _ _ else Wp K B _ _ _
      cases r3 with
      | true =>
        rw [if_pos rfl]
        have e5 : g (.inr x) = .inr y := kD_inj (hr3.mp rfl)
        refine wp_var rfl ⟨rfl, ?_⟩
        show kD k = swpD (.inr y) k (kD (g (.inr x)))
        rw [swpD_k, e5]
        exact congrArg kD (if_pos rfl).symm
      | false =>
        rw [if_neg Bool.false_ne_true]
        have e5 : g (.inr x) ≠ .inr y := fun e => Bool.false_ne_true (hr3.mpr (by rw [e]; rfl))
        refine wp_dget (wp_var rfl (wp_var rfl ⟨_, .inr x, _, rfl, rfl, kget_goes hx, rfl, ?_⟩))
        show kD (g (.inr x)) = swpD (.inr y) k (kD (g (.inr x)))
        rw [swpD_k]
        exact congrArg kD (if_neg e5).symm
    rw [eg]
    have la : ((as.map (atMap g)).map dAt).length ≤ sizeLine := by
      rw [List.length_map, List.length_map]
      exact sz_le (by have := hA.few; omega)
    refine ws_seq (ws_asg (wp_lcMap (wi_seqV (i := 2) rfl hda ⟨la, atMapD (swpD (.inr y) k), fun d hd => ?_, ?_⟩)))
    · obtain ⟨a', ha', rfl⟩ := List.mem_map.mp hd
      obtain ⟨a, ha, rfl⟩ := List.mem_map.mp ha'
      have l1 : ((atMap g a).2.map kD).length ≤ sizeLine := by
        show ((a.2.map g).map kD).length ≤ _
        rw [List.length_map, List.length_map]
        exact sz_le (by have := h100 a ha; omega)
      refine wg_tup rfl (wg_cons (wg_name (by simp) (wg_cons (wg_name (by simp) (wg_nil (wp_tup (wa_cons (wp_var rfl (wa_cons (wp_tupOf (wa_cons (wp_lcMap (wi_seqV (i := 11) rfl (.inr rfl) ⟨l1, swpD (.inr y) k, fun d hd => ?_, wa_nil ⟨_, .inl rfl, wa_nil ⟨sz_le (Nat.succ_le_of_lt (by simp)), rfl⟩⟩⟩)))))))))))))
      obtain ⟨u, hu, rfl⟩ := List.mem_map.mp hd
      refine wg_name (by simp) (wp_if (wt_B (wp_eqF (wp_var rfl (wp_var rfl ⟨kD_some _, rfl, kD_nbl _, rfl, fun r3 hr3 => ⟨_, rfl, ?_⟩⟩)))))
      rw [swpD_k]
      cases r3 with
      | true =>
        rw [if_pos rfl]
        have e5 : u = .inr y := kD_inj (hr3.mp rfl)
        exact wp_var rfl (congrArg kD (by rw [e5]; exact (if_pos rfl).symm))
      | false =>
        rw [if_neg Bool.false_ne_true]
        have e5 : u ≠ .inr y := fun e => Bool.false_ne_true (hr3.mpr (by rw [e]; rfl))
        exact wp_var rfl (congrArg kD (if_neg e5).symm)
    rw [swpD_ats, atMap_comp]
    refine ws_asg (wp_call0 (wa_cons (wp_var rfl (wa_cons (wp_var rfl (wa_nil (enter (fun t => swp (.inr y) k (g t)) _ _ (.inl rfl) fun dp hdp => ?_)))))))
    exact ⟨_, by rw [em]; exact lt', _, _, dp, _, _, _, _, _, _, _, rfl, .inl rfl, inv', rfl, hdp⟩
  · rw [hr.mpr rfl, Bool.not_true, if_neg Bool.false_ne_true]
    exact ws_ret (wp_var rfl (hs2 g ⟨inv, fun s t c => cg_closed hno c⟩))
end
end FS

/-! FsV3: what frozen makes of terms (plain). -/
namespace FS
open PySem L2
def ixS : List Str → Str → Nat
  | [], _ => 0
  | a :: l, x => if a = x then 0 else ixS l x + 1
theorem ixS_ok : ∀ {l : List Str} {x : Str}, x ∈ l → l[ixS l x]? = some x ∧ ∀ m, m < ixS l x → l[m]? ≠ some x
  | [], _, h => absurd h List.not_mem_nil
  | a :: l, x, h => by
    by_cases e : a = x
    · have e2 : ixS (a :: l) x = 0 := if_pos e
      rw [e2, e]
      exact ⟨rfl, fun m hm => absurd hm (Nat.not_lt_zero m)⟩
    · have e2 : ixS (a :: l) x = ixS l x + 1 := if_neg e
      rw [e2]
      obtain ⟨h1, h2⟩ := ixS_ok (l := l) (x := x) ((List.mem_cons.mp h).resolve_left (Ne.symm e))
      refine ⟨by rw [List.getElem?_cons_succ]; exact h1, fun m hm => ?_⟩
      cases m with
      | zero => rw [List.getElem?_cons_zero]; exact fun z => e (Option.some.inj z)
      | succ m => rw [List.getElem?_cons_succ]; exact h2 m (by omega)
theorem ixS_inj {l : List Str} {x y : Str} (hx : x ∈ l) (hy : y ∈ l) (e : ixS l x = ixS l y) : x = y := by
  have h1 := (ixS_ok hx).1
  rw [e, (ixS_ok hy).1] at h1
  exact (Option.some.inj h1).symm
def InT (as : List At) (t : Tm) : Prop := ∃ a ∈ as, t ∈ a.2
theorem cg_in {rs : List Rul} {as : List At} {s t : Tm} (c : Cg rs as s t) : s = t ∨ (InT as s ∧ InT as t) := by
  induction c with
  | refl s => exact .inl rfl
  | symm _ ih => exact ih.elim (fun e => .inl e.symm) fun ⟨h1, h2⟩ => .inr ⟨h2, h1⟩
  | trans _ _ i1 i2 =>
    rcases i1 with rfl | ⟨h1, h2⟩
    · exact i2
    · rcases i2 with rfl | ⟨h3, h4⟩
      · exact .inr ⟨h1, h2⟩
      · exact .inr ⟨h1, h4⟩
  | @rule r a b s t hr ha hb _ _ _ _ es et _ => exact .inr ⟨⟨a, ha, List.mem_of_getElem? es⟩, ⟨b, hb, List.mem_of_getElem? et⟩⟩
def frzC (g : Tm → Tm) (ns : List Str) (base : Int) (t : Tm) : Int := match g t with
  | .inl i => i
  | .inr y => base + (ixS ns y : Int)
def Tin (as : List At) (N : Int) (t : Tm) : Prop := InT as t ∨ ∃ i, t = .inl i ∧ i ≤ N
structure Frz (rs : List Rul) (as : List At) (N : Int) (c : Tm → Int) : Prop where
  inl : ∀ i, c (.inl i) = i
  eq : ∀ s t, Tin as N s → Tin as N t → (c s = c t ↔ Cg rs as s t)
section
variable {rs : List Rul} {as : List At} {ns : List Str} {g : Tm → Tm} {base N : Int}
theorem frz_ok (h : GlOk rs as ns g) (hin : ∀ x, InAts x as → x ∈ ns) (hN : N < base) (num : ∀ i, InT as (.inl i) → i ≤ N) : Frz rs as N (frzC g ns base) := by
  have small : ∀ s i, Tin as N s → g s = .inl i → i ≤ N := fun s i hs e => by
    have c := h.cg s
    rw [e] at c
    rcases cg_in c with e2 | ⟨_, h2⟩
    · rcases hs with hs | ⟨j, e3, hj⟩
      · rw [e2] at hs
        exact num i hs
      · rw [e2] at e3
        rw [Sum.inl.inj e3]
        exact hj
    · exact num i h2
  have nam : ∀ s y, Tin as N s → g s = .inr y → y ∈ ns := fun s y hs e => by
    rcases hs with ⟨a, ha, hs⟩ | ⟨j, e3, hj⟩
    · cases s with
      | inl i => rw [h.inl] at e; cases e
      | inr x => exact h.dom x (hin x ⟨a, ha, hs⟩) y e
    · rw [e3, h.inl] at e
      cases e
  refine ⟨fun i => ?_, fun s t hs ht => ?_⟩
  · unfold frzC
    rw [h.inl]
  · have cg : Cg rs as s t ↔ g s = g t := ⟨h.eq s t, fun e => (h.cg s).trans (by rw [e]; exact (h.cg t).symm)⟩
    rw [cg]
    unfold frzC
    cases e1 : g s with
    | inl i =>
      cases e2 : g t with
      | inl j => exact ⟨fun e => congrArg Sum.inl e, fun e => Sum.inl.inj e⟩
      | inr y =>
        have := small s i hs e1
        refine ⟨fun e => ?_, fun e => by cases e⟩
        have e' : i = base + (ixS ns y : Int) := e
        omega
    | inr x =>
      cases e2 : g t with
      | inl j =>
        have := small t j ht e2
        refine ⟨fun e => ?_, fun e => by cases e⟩
        have e' : base + (ixS ns x : Int) = j := e
        omega
      | inr y =>
        refine ⟨fun e => ?_, fun e => by cases e; rfl⟩
        have e' : base + (ixS ns x : Int) = base + (ixS ns y : Int) := e
        rw [ixS_inj (nam s x hs e1) (nam t y ht e2) (by omega)]
theorem frz_nn (h : GlOk rs as ns g) (b0 : 0 ≤ base) (num : ∀ i, InT as (.inl i) → 0 ≤ i) {s : Tm} (hs : InT as s) : 0 ≤ frzC g ns base s := by
  unfold frzC
  cases e : g s with
  | inl i =>
    have c := h.cg s
    rw [e] at c
    rcases cg_in c with e2 | ⟨_, h2⟩
    · rw [e2] at hs
      exact num i hs
    · exact num i h2
  | inr y =>
    show 0 ≤ base + (ixS ns y : Int)
    omega
/-- an atom as a row -/
def atRow (c : Tm → Int) (a : At) : Row := (a.1, a.2.map c)
theorem frz_rows {h : House} {c : Tm → Int} (hA : AtsOk h as) (ho : HOk h) (h100 : ∀ a ∈ as, a.2.length ≤ 100) (f : Frz h.ruls as N c) (nn : ∀ s, InT as s → 0 ≤ c s) : RowsOk h (as.map (atRow c)) := by
  refine ⟨fun r hr => ?_, fun p hp q hq r hr e1 e2 hc => ?_, by rw [List.length_map]; exact hA.few⟩
  · obtain ⟨a, ha, rfl⟩ := List.mem_map.mp hr
    refine ⟨?_, fun n hn => ?_, ?_⟩
    · show widOf h.tabs a.1 = some (a.2.map c).length
      rw [List.length_map]
      exact hA.wid a ha
    · obtain ⟨s, hs, rfl⟩ := List.mem_map.mp hn
      exact nn s ⟨a, ha, hs⟩
    · show (a.2.map c).length ≤ 100
      rw [List.length_map]
      exact h100 a ha
  · obtain ⟨a, ha, rfl⟩ := List.mem_map.mp hp
    obtain ⟨b, hb, rfl⟩ := List.mem_map.mp hq
    have ea : a.1 = r.1 := e1
    have eb : b.1 = r.1 := e2
    obtain ⟨w, hw, hcols, hlt, _⟩ := (ho.ruls r hr).ex
    have la := hA.wid a ha
    have lb := hA.wid b hb
    rw [ea, hw] at la
    rw [eb, hw] at lb
    have la' := Option.some.inj la
    have lb' := Option.some.inj lb
    have get : ∀ (l : List Tm) (k : Nat) (z : k < l.length), (l.map c)[k]? = some (c l[k]) := fun l k z => by rw [List.getElem?_map, List.getElem?_eq_getElem z]; rfl
    show (a.2.map c)[r.2.2]? = (b.2.map c)[r.2.2]?
    rw [get a.2 r.2.2 (by omega), get b.2 r.2.2 (by omega)]
    refine congrArg some ((f.eq _ _ (.inl ⟨a, ha, List.getElem_mem _⟩) (.inl ⟨b, hb, List.getElem_mem _⟩)).mpr (Cg.rule hr ha hb ea eb (by omega) (fun k hk u v hu hv => ?_) (List.getElem?_eq_getElem (by omega)) (List.getElem?_eq_getElem (by omega))))
    have h2 : (a.2.map c)[k]? = (b.2.map c)[k]? := hc k hk
    rw [List.getElem?_map, List.getElem?_map, hu, hv] at h2
    exact (f.eq u v (.inl ⟨a, ha, List.mem_of_getElem? hu⟩) (.inl ⟨b, hb, List.mem_of_getElem? hv⟩)).mp (Option.some.inj h2)
end
end FS

/-! FsU11: frozen. -/
namespace FS
open PySem L2
/-- what an at-th member, frozen, gives -/
structure FrzOut (h : House) (m : Mem) (N : Int) (c : Tm → Int) (rows : List Row) : Prop where
  frz : Frz h.ruls m.2 N c
  mem : ∀ r, r ∈ rows ↔ ∃ a ∈ m.2, r = atRow c a
  few : rows.length ≤ m.2.length
theorem keys_names {l : List Key} {Pn : Str → Prop} (nd : l.Nodup) (h : ∀ k, k ∈ l ↔ ∃ x, Pn x ∧ k = .inr x) : ∃ ns : List Str, l = ns.map Sum.inr ∧ ns.Nodup ∧ ∀ x, x ∈ ns ↔ Pn x := by
  have : ∃ ns : List Str, l = ns.map Sum.inr := by
    have h1 : ∀ k ∈ l, ∃ i, k = .inr i := fun k hk => by
      obtain ⟨i, _, e⟩ := (h k).mp hk
      exact ⟨i, e⟩
    clear h nd
    induction l with
    | nil => exact ⟨[], rfl⟩
    | cons k kl ih =>
      obtain ⟨i, rfl⟩ := h1 k (List.mem_cons_self ..)
      obtain ⟨ks, rfl⟩ := ih fun k hk => h1 k (List.mem_cons_of_mem _ hk)
      exact ⟨i :: ks, rfl⟩
  obtain ⟨ns, rfl⟩ := this
  refine ⟨ns, rfl, ?_, fun x => ?_⟩
  · rw [List.nodup_iff_pairwise_ne] at nd ⊢
    exact (List.pairwise_map.mp nd).imp fun h e => h (congrArg Sum.inr e)
  · have := h (.inr x)
    rw [List.mem_map] at this
    constructor
    · intro hx
      obtain ⟨y, hy, e⟩ := this.mp ⟨x, hx, rfl⟩
      rw [Sum.inr.inj e]
      exact hy
    · intro hx
      obtain ⟨y, hy, e⟩ := this.mpr ⟨x, hx, rfl⟩
      rw [← Sum.inr.inj e]
      exact hy
theorem key_nsG {ns : List Str} {k : Key} : k ∈ (ns.map fun x => ((.inr x : Key), D.bl true)).map (·.1) ↔ ∃ x ∈ ns, k = .inr x := by
  rw [List.map_map, List.mem_map]
  exact ⟨fun ⟨x, h, e⟩ => ⟨x, h, e.symm⟩, fun ⟨x, h, e⟩ => ⟨x, h, e.symm⟩⟩
theorem key_keptG {ns : List Str} {k : Key} : k ∈ ((ns.map D.str).map fun d => (d.key.getD (.inl 0), D.bl true)).map (·.1) ↔ ∃ x ∈ ns, k = .inr x := by
  rw [List.map_map, List.map_map, List.mem_map]
  exact ⟨fun ⟨x, h, e⟩ => ⟨x, h, e.symm⟩, fun ⟨x, h, e⟩ => ⟨x, h, e.symm⟩⟩
def becL (ns : List Str) (c : Tm → Int) : List (Key × D) := ns.map fun x => ((.inr x : Key), .int (c (.inr x)))
theorem kget_bec_none {ns : List Str} {c : Tm → Int} (i : Int) : kget (becL ns c) (.inl i) = none := by
  unfold kget
  rw [List.find?_eq_none.mpr]
  · rfl
  · intro kv h
    obtain ⟨p, _, rfl⟩ := List.mem_map.mp h
    simp
theorem kget_bec {ns : List Str} {c : Tm → Int} {x : Str} (h : x ∈ ns) : kget (becL ns c) (.inr x) = some (.int (c (.inr x))) := by
  unfold becL kget
  induction ns with
  | nil => exact absurd h List.not_mem_nil
  | cons y ns ih =>
    by_cases e : y = x
    · subst e
      simp
    · have e' : ¬ (Sum.inr y : Key) = Sum.inr x := fun z => e (Sum.inr.inj z)
      rcases List.mem_cons.mp h with z | z
      · exact absurd z.symm e
      · simpa [e, e'] using ih z
def becD (ns : List Str) (c : Tm → Int) (d : D) : D := (kget (becL ns c) (d.key.getD (.inl 0))).getD d
theorem becD_map {ns : List Str} {c : Tm → Int} (hc : ∀ i, c (.inl i) = i) {ts : List Tm} (h : ∀ x, .inr x ∈ ts → x ∈ ns) : (ts.map kD).map (becD ns c) = (ts.map c).map D.int := by
  rw [List.map_map, List.map_map]
  refine List.map_congr_left fun t ht => ?_
  show (kget (becL ns c) ((kD t).key.getD (.inl 0))).getD (kD t) = D.int (c t)
  rw [kD_k]
  cases t with
  | inl i => rw [Option.getD_some, kget_bec_none, hc]; rfl
  | inr x => rw [Option.getD_some, kget_bec (h x ht)]; rfl
def rowD (ns : List Str) (c : Tm → Int) : D → D
  | .tup [t, .tup ts] => .tup [t, .tup (ts.map (becD ns c))]
  | d => d
theorem rowD_ats {ns : List Str} {c : Tm → Int} (hc : ∀ i, c (.inl i) = i) {as : List At} (h : ∀ x, InAts x as → x ∈ ns) : (as.map dAt).map (rowD ns c) = (as.map (atRow c)).map dRow := by
  rw [List.map_map, List.map_map]
  refine List.map_congr_left fun a ha => ?_
  show D.tup [.str a.1, .tup ((a.2.map kD).map (becD ns c))] = D.tup [.str a.1, .tup ((a.2.map c).map D.int)]
  rw [becD_map hc fun x hx => h x ⟨a, ha, hx⟩]
section
variable {P : Program} {w : World} {K : PySem.W.Frag} {mg : Str → Option Value} {base : Heap} {cH cS cQ : Addr}
def sp_frozen (c d e : Addr) : Spc := fun ds S => ∃ (h : House) (q : Ques) (i : Nat) (m : Mem) (above : Int), ds = [dHouse c h, dQues e q, .int (i : Nat), .int above] ∧ HOk h ∧ QOk q ∧ q.mems[i]? = some m ∧ AtsOk h m.2 ∧ 0 ≤ above ∧
  (Clash h.ruls m.2 → S .non) ∧ ∀ (N : Int) (f : Tm → Int) (rows : List Row) (fs : List (Str × D)), above ≤ N → (∀ i, IsNum q.mems i → i ≤ N) → FrzOut h m N f rows → fs.lookup (Str.ofString "rows") = some (.tup (rows.map dRow)) → S (.tup [.ins d fs, dInts ((m.1.map f).take q.told), dInts (m.1.map f)])
theorem len_frozen {c d e : Addr} : ∀ ds S, sp_frozen c d e ds S → ds.length = 4 := by rintro _ _ ⟨_, _, _, _, _, rfl, _⟩; rfl
theorem sc_frozen : FnScope ["house", "question", "at", "above", "head", "atoms", "names", "name", "goes", "base", "number", "becomes", "rows", "term", "table", "terms", "whole"] ["house", "question", "at", "above"] (defScope (topS 52)) := ⟨rfl, rfl, rfl, by decide +kernel, rfl, by decide +kernel, by decide +kernel⟩
/-! slots: 0 house, 1 question, 2 at, 3 above, 4 head, 5 atoms, 6 names, 7 name, 8 goes, 9 base, 10 number, 11 becomes, 12 rows, 13 term, 14 table, 15 terms, 16 whole; cells: ['becomes'] -/
theorem Txt.b_frozen (T : Txt K mg cH cS cQ) : Body P w K mg base 6 ["house", "question", "at", "above", "head", "atoms", "names", "name", "goes", "base", "number", "becomes", "rows", "term", "table", "terms", "whole"] "frozen" (topS 52) (Rds K ["house", "question", "at", "above", "head", "atoms", "names", "name", "goes", "base", "number", "becomes", "rows", "term", "table", "terms", "whole"] (sp_frozen cH cS cQ)) := by
  refine fun f cdv A outer s H E hr => ?_
  refine ⟨_,
    (pss_cons (ps_asg (pe_ix (kIx (K := K) (r := rIx) ix_seq) (kPE (K := K) (w := tFld) (pe_fld (pv 1) rfl)) (pv 2) (fun _ _ => rfl)) (kPG (K := K) (w := gTup) (pg_tup (n := 2) rfl (pgs_cons (pg_name (i := 4) sc_frozen.nd rfl (by first | exact Or.inl rfl | exact Or.inr rfl)) (pgs_cons (pg_name (i := 5) sc_frozen.nd rfl (by first | exact Or.inl rfl | exact Or.inr rfl)) pgs_nil)))))
    (pss_cons (ps_set (i := 6) sc_frozen.nd rfl (by first | exact Or.inl rfl | exact Or.inr rfl) (pe_callTy (cr_listDk rfl) (by rfl) T.f_list (by decide +kernel) (pa_cons (pe_dd (pe_dc (own := [("name", 7)]) rfl sc_frozen.nd (kPI (K := K) (w := iList) (pi_list (pe_df T.d_words_in hr (by decide) (by rfl) (pa_cons (pv 4) pa_nil)))) (blkOk_by (own := [("name", 7)]) (by first | (show blkC ["house", "question", "at", "above", "head", "atoms", "names", "name", "goes", "base", "number", "becomes", "rows", "term", "table", "terms", "whole"] (defScope (topS 52)) _ _ = true; decide +kernel) | rfl)) (fun _ _ _ _ _ => by exact (pg_name (i := 7) sc_frozen.nd rfl (by first | exact Or.inl rfl | exact Or.inr rfl))) (fun _ _ _ _ _ => by exact pts_nil) (fun _ _ _ _ _ => by exact (pv 7)) (fun _ _ _ _ _ => by exact pe_bl)) (pe_df T.d_names_in hr (by decide) (by rfl) (pa_cons (pv 5) pa_nil))) pa_nil)))
    (pss_cons (ps_set (i := 8) sc_frozen.nd rfl (by first | exact Or.inl rfl | exact Or.inr rfl) (pe_df T.d_glued hr (by decide) (by rfl) (pa_cons (pv 0) (pa_cons (pv 6) (pa_cons (pv 5) pa_nil)))))
    (pss_cons (ps_if (pt_cmp (pc_isN (pv 8)))
      (pss_one (ps_ret pe_non))
      pss_nil)
    (pss_cons (ps_set (i := 9) sc_frozen.nd rfl (by first | exact Or.inl rfl | exact Or.inr rfl) (pe_op op_add pe_int (pe_callB (kCR (K := K) (r := rMax) (cr_max rfl)) (by rfl) T.f_max (by decide +kernel) (pa_cons (pe_lc (own := [("number", 10)]) rfl sc_frozen.nd (kPI (K := K) (w := iTup) (pi_tup (pe_tup (pa_cons (pv 3) (pa_star (K := K) (pe_prp (pv 1) T.dp_numbers hr (by decide)) pa_nil))))) (blkOk_by (own := [("number", 10)]) (by first | (show blkC ["house", "question", "at", "above", "head", "atoms", "names", "name", "goes", "base", "number", "becomes", "rows", "term", "table", "terms", "whole"] (defScope (topS 52)) _ _ = true; decide +kernel) | rfl)) (fun _ _ _ _ _ => by exact (pg_name (i := 10) sc_frozen.nd rfl (by first | exact Or.inl rfl | exact Or.inr rfl))) (fun _ _ _ _ _ => by exact pts_nil) (fun _ _ _ _ _ => by exact (pe_callTy cr_int1 (by rfl) T.f_int (by decide +kernel) (pa_cons (pv 10) pa_nil)))) pa_nil))))
    (pss_cons (ps_set (i := 11) sc_frozen.nd rfl (by first | exact Or.inl rfl | exact Or.inr rfl) pe_dnewK)
    (pss_cons (ps_for PassesOwn.never rfl (kPI (K := K) (w := iSeq) (pi_seq (pv 6))) (pg_name (i := 7) sc_frozen.nd rfl (by first | exact Or.inl rfl | exact Or.inr rfl))
      (pss_one (ps_dput (rm_u hr) (pv 11) (pv 7) (pe_ifExp (pt_val (pe_callB (kCR (K := K) (r := rIsi) call_isi) (by rfl) T.f_isinstance (by decide +kernel) (pa_cons (pe_dget (rm_u hr) (pv 8) (pv 7) (fun _ _ => rfl)) (pa_cons (pe_ty (n := "str") T.f_str) pa_nil)))) (pe_op op_add (pv 9) (kBM (K := K) (pe_bm PySem.F.plainAttrs_list PySem.F.slot_list_index PySem.F.type_list_index (kMt (K := K) (r := rIndex) mt_index) (pv 6) (pa_cons (pe_dget (rm_u hr) (pv 8) (pv 7) (fun _ _ => rfl)) pa_nil)))) (pe_dget (rm_u hr) (pv 8) (pv 7) (fun _ _ => rfl))) rfl)))
    (pss_cons (ps_setLc (i := 12) (own := [("table", 14), ("terms", 15)]) rfl sc_frozen.nd rfl rfl (sw_true rfl rfl rfl (by decide +kernel)) (kPI (K := K) (w := iSeq) (pi_seq (pv 5))) (blkOk_by (own := [("table", 14), ("terms", 15)]) (by first | (show blkC ["house", "question", "at", "above", "head", "atoms", "names", "name", "goes", "base", "number", "becomes", "rows", "term", "table", "terms", "whole"] (defScope (topS 52)) _ _ = true; decide +kernel) | rfl)) (fun _ _ _ _ _ => by exact (kPG (K := K) (w := gTup) (pg_tup (n := 2) rfl (pgs_cons (pg_name (i := 14) sc_frozen.nd rfl (by first | exact Or.inl rfl | exact Or.inr rfl)) (pgs_cons (pg_name (i := 15) sc_frozen.nd rfl (by first | exact Or.inl rfl | exact Or.inr rfl)) pgs_nil))))) (fun _ _ _ _ _ => by exact pts_nil) (fun _ _ _ _ _ => by exact (pe_tup (pa_cons (pv 14) (pa_cons (pe_callTy (kCR (K := K) (r := rTupS) cr_tup) (by rfl) T.f_tuple (by decide +kernel) (pa_cons (pe_lc (own := [("term", 13)]) rfl sc_frozen.nd (kPI (K := K) (w := iSeq) (pi_seq (pv 15))) (blkOk_by (own := [("term", 13)]) (by first | (show blkC ["house", "question", "at", "above", "head", "atoms", "names", "name", "goes", "base", "number", "becomes", "rows", "term", "table", "terms", "whole"] (defScope (topS 52)) _ _ = true; decide +kernel) | rfl)) (fun _ _ _ _ _ => by exact (pg_name (i := 13) sc_frozen.nd rfl (by first | exact Or.inl rfl | exact Or.inr rfl))) (fun _ _ _ _ _ => by exact pts_nil) (fun _ _ _ _ _ => by exact (pe_dget2 (rm_u hr) (pv 11) (pv 13) (pv 13) ⟨rfl, rfl, rfl, rfl⟩))) pa_nil)) pa_nil)))))
    (pss_cons (ps_set (i := 16) sc_frozen.nd rfl (by first | exact Or.inl rfl | exact Or.inr rfl) (pe_callTy (kCR (K := K) (r := rTupS) cr_tup) (by rfl) T.f_tuple (by decide +kernel) (pa_cons (pe_lc (own := [("term", 13)]) rfl sc_frozen.nd (kPI (K := K) (w := iSeq) (pi_seq (pv 4))) (blkOk_by (own := [("term", 13)]) (by first | (show blkC ["house", "question", "at", "above", "head", "atoms", "names", "name", "goes", "base", "number", "becomes", "rows", "term", "table", "terms", "whole"] (defScope (topS 52)) _ _ = true; decide +kernel) | rfl)) (fun _ _ _ _ _ => by exact (pg_name (i := 13) sc_frozen.nd rfl (by first | exact Or.inl rfl | exact Or.inr rfl))) (fun _ _ _ _ _ => by exact pts_nil) (fun _ _ _ _ _ => by exact (pe_dget2 (rm_u hr) (pv 11) (pv 13) (pv 13) ⟨rfl, rfl, rfl, rfl⟩))) pa_nil)))
    (pss_one (ps_ret (pe_tup (pa_cons (pe_mk T.m_Store hr (by decide) (by rfl) (pa_cons (pv 0) (pa_cons (pv 12) pa_nil))) (pa_cons (pe_slice (kSl (K := K) (r := rSlA) sl_tupA) (pv 16) po_none (po_some (kPE (K := K) (w := tFld) (pe_fld (pv 1) rfl)))) (pa_cons (pv 16) pa_nil))))))))))))))), fun B ds S h => ?_⟩
  obtain ⟨h, q, i, m, above, rfl, ho, ok, hmi, hA, ab0, hs1, hs2⟩ := h
  have mm := List.mem_of_getElem? hmi
  have mo := ok.mems.each m mm
  have h100 : ∀ a ∈ m.2, a.2.length ≤ 100 := fun a ha => (mo.each a ha).few
  refine ws_seq (ws_asgG (vs := [4, 5]) (wp_ix (wp_fld (wp_var rfl ⟨cQ, _, _, rfl, T.k_Question, T.n_members, rfl, wp_var rfl ⟨_, _, dMemT m, .inr rfl, rfl, atI_nat (by rw [List.getElem?_map, hmi]; rfl), wg_tup rfl (wg_cons (wg_name (by simp) (wg_cons (wg_name (by simp) (wg_nil ?_)))))⟩⟩))))
  have lh := mo.few
  have la5 := ok.atoms m mm
  have lnm : ((nmsOf m.1).map D.str).length ≤ sizeLine := by rw [List.length_map]; exact sz_le (by have := nms_len m.1; omega)
  refine ws_seq (ws_asg (wp_listDk (wa_cons (wp_dd (wp_dcMap (wi_list (wp_call0 (wa_cons (wp_var rfl (wa_nil ⟨m.1, .inr rfl, by omega, _, rfl, lnm, fun d => (d.key.getD (.inl 0), .bl true), fun d hd => ?_, ?_⟩))))))))))
  · obtain ⟨x, hx, rfl⟩ := List.mem_map.mp hd
    exact wg_name (by simp) (wp_var rfl (wp_bl ⟨rfl, rfl⟩))
  have tl : (tabD (((nmsOf m.1).map D.str).map fun d => (d.key.getD (.inl 0), D.bl true))).length ≤ 100 := by
    have := tabD_len (((nmsOf m.1).map D.str).map fun d => (d.key.getD (.inl 0), D.bl true))
    rw [List.length_map, List.length_map] at this
    have := nms_len m.1
    omega
  refine ⟨_, rfl, wp_call0 (wa_cons (wp_var rfl (wa_nil ⟨m.2, .inr rfl, by omega, h100, fun ns0 nd0 hn0 hl0 => ⟨_, rfl, by rw [List.length_map]; exact sz_le (by omega), wa_nil ⟨_, rfl, ?_⟩⟩⟩)))⟩
  obtain ⟨ns, ek, nd, hn⟩ := keys_names (l := (kmerge (kmerge [] (tabD (((nmsOf m.1).map D.str).map fun d => (d.key.getD (.inl 0), D.bl true)))) (ns0.map fun x => ((.inr x : Key), D.bl true))).map (·.1)) (Pn := fun x => InAts x m.2)
    (kmerge_nd (kmerge_nd (a := []) List.nodup_nil)) fun k => by
      rw [kmerge_keys, kmerge_keys, show ∀ l, tabD l = kmerge [] l from fun _ => rfl, kmerge_keys, key_nsG, key_keptG]
      constructor
      · rintro ((z | z | z) | z)
        · exact absurd z List.not_mem_nil
        · exact absurd z List.not_mem_nil
        · obtain ⟨x, hx, rfl⟩ := z
          exact ⟨x, mo.names x (mem_nms.mp hx), rfl⟩
        · obtain ⟨x, hx, rfl⟩ := z
          exact ⟨x, (hn0 x).mp hx, rfl⟩
      · rintro ⟨x, hx, rfl⟩
        exact .inr ⟨x, (hn0 x).mpr hx, rfl⟩
  have en : (kmerge (kmerge [] (tabD (((nmsOf m.1).map D.str).map fun d => (d.key.getD (.inl 0), D.bl true)))) (ns0.map fun x => ((.inr x : Key), D.bl true))).map (fun kv => kD kv.1) = ns.map D.str := by
    have e2 : ∀ l : List (Key × D), l.map (fun kv => kD kv.1) = (l.map (·.1)).map kD := fun l => by rw [List.map_map]; rfl
    rw [e2, ek, List.map_map]
    rfl
  rw [en]
  have nl : ns.length ≤ 100000 := Nat.le_trans (nodup_len nd fun x hx => (hn0 x).mpr ((hn x).mp hx)) hl0
  have hin : ∀ x, InAts x m.2 → x ∈ ns := fun x hx => (hn x).mpr hx
  have inhead : ∀ x, .inr x ∈ m.1 → x ∈ ns := fun x hx => hin x (mo.names x hx)
  refine ws_seq (ws_asg (wp_call0 (wa_cons (wp_var rfl (wa_cons (wp_var rfl (wa_cons (wp_var rfl (wa_nil ⟨h, ns, m.2, rfl, ho, hA, h100, nd, nl, hin, fun cl => ?_, fun g hg => ?_⟩)))))))))
  · refine ws_seq (ws_if (wt_B (wp_isN (wp_var rfl fun r hr => ⟨_, rfl, ?_⟩))))
    rw [hr.mpr rfl, if_pos rfl]
    exact ws_ret (wp_non (hs1 cl))
  refine ws_seq (ws_if (wt_B (wp_isN (wp_var rfl fun r hr => ⟨_, rfl, ?_⟩))))
  have er : r = false := by
    cases r with
    | true => exact absurd (hr.mp rfl) (by intro z; cases z)
    | false => rfl
  rw [er, if_neg Bool.false_ne_true]
  have num64 : ∀ {nums : List Int}, nums.Nodup → (∀ i, i ∈ nums ↔ IsNum q.mems i) → nums.length < 64 := fun ndn hnum => by
    obtain ⟨L, hL, hN⟩ := ok.nums
    exact Nat.lt_of_le_of_lt (nodup_len ndn fun i hi => hN i ((hnum i).mp hi)) hL
  refine ws_next (ws_seq (ws_asg (wp_add (wp_int (wp_maxL (wa_cons (wp_lcMap (wi_tup (wp_tup (wa_cons (wp_var rfl (wa_star (wp_prop (wp_var rfl ⟨_, rfl, q, rfl, ok, fun nums up ndn hnum => ⟨_, .inr rfl, wa_nil ⟨?_, _, rfl, ?_, fun d => d, fun d hd => ?_, wa_nil ⟨above :: nums, ?_, Nat.succ_pos _, fun M hM hle => ⟨1, M, rfl, rfl, ?_⟩⟩⟩⟩⟩))))))))))))))
  · rw [List.append_nil, List.length_cons, List.length_map]
    have := num64 ndn hnum
    exact sz_le (by omega)
  · rw [List.append_nil, List.length_cons, List.length_map]
    have := num64 ndn hnum
    exact sz_le (by omega)
  · have hd' : d ∈ D.int above :: (nums.map D.int ++ []) := hd
    rw [List.append_nil] at hd'
    obtain ⟨n, _, rfl⟩ := List.mem_map.mp (show d ∈ (above :: nums).map D.int from hd')
    exact wg_name (by simp) (wp_int1 (wa_cons (wp_var rfl (wa_nil ⟨n, rfl, rfl⟩))))
  · rw [List.map_id', List.append_nil]
    rfl
  have hMa : above ≤ M := hle above (List.mem_cons_self ..)
  have hMq : ∀ i, IsNum q.mems i → i ≤ M := fun i hi => hle i (List.mem_cons_of_mem _ ((hnum i).mpr hi))
  have inum : ∀ i, InT m.2 (.inl i) → IsNum q.mems i := fun i ⟨a, ha, hi⟩ => ⟨m, mm, a.2, List.mem_cons_of_mem _ (List.mem_map.mpr ⟨a, ha, rfl⟩), hi⟩
  have fz : Frz h.ruls m.2 M (frzC g ns (1 + M)) := frz_ok hg hin (by omega) fun i hi => hMq i (inum i hi)
  have rok : RowsOk h (m.2.map (atRow (frzC g ns (1 + M)))) := frz_rows hA ho h100 fz fun s hs => frz_nn hg (by omega) (fun i ⟨a, ha, hi⟩ => of_decide_eq_true ((mo.each a ha).each _ hi)) hs
  generalize hc : frzC g ns (1 + M) = c at fz rok
  have lns : (ns.map D.str).length ≤ 100000 := by rw [List.length_map]; exact nl
  refine ws_seq (ws_asgN (wn_dK ?_))
  refine ws_seq (ws_for (vs := [7]) (wi_seqV (i := 6) rfl (.inl rfl) ⟨fun j ρ' => ∃ (s7 s10 s12 s13 s14 s15 s16 : Sl), ρ' = [.d (dHouse cH h), .d (dQues cQ q), .d (.int (i : Nat)), .d (.int above), .d (dTms m.1), .d (.tup (m.2.map dAt)), .d (.lst (ns.map D.str)), s7, .d (dGoes ns g), .d (.int (1 + M)), s10, .own (.dic (becL (ns.take j) c)), s12, s13, s14, s15, s16], ⟨_, _, _, _, _, _, _, rfl⟩, ?_, ?_⟩))
  · rintro j d _ hd ⟨s7, s10, s12, s13, s14, s15, s16, rfl⟩
    rw [List.getElem?_map] at hd
    cases hxj : ns[j]? with
    | none => rw [hxj] at hd; cases hd
    | some x =>
    rw [hxj] at hd
    cases hd
    have xm := List.mem_of_getElem? hxj
    have jl := (List.getElem?_eq_some_iff.mp hxj).1
    have et : ns.take (j + 1) = ns.take j ++ [x] := by rw [List.take_add_one, hxj]; rfl
    have put : kput (becL (ns.take j) c) (.inr x) (.int (c (.inr x))) = becL (ns.take (j + 1)) c := by
      rw [kput_fresh]
      · unfold becL
        rw [et, List.map_append]
        rfl
      · unfold becL
        rw [List.map_map]
        rintro z
        obtain ⟨y, hy, e⟩ := List.mem_map.mp z
        have e' : y = x := Sum.inr.inj e
        rw [e'] at hy
        rw [← List.take_append_drop (j + 1) ns, et, List.append_assoc, List.nodup_append] at nd
        exact nd.2.2 x hy x (List.mem_append_left _ (List.mem_singleton.mpr rfl)) rfl
    refine wg_name (by simp) (ws_put (i := 11) rfl (by unfold becL; rw [List.length_map, List.length_take]; exact sz_lt (by omega)) (Wp.imp (S := fun d => d = .int (c (.inr x))) ?_ fun d e => wp_var rfl ⟨.inr x, rfl, ?_⟩))
    · cases hgx : g (.inr x) with
      | inl n =>
        refine wp_if (wt_B (wp_isi (wp_dget (wp_var rfl (wp_var rfl ⟨_, .inr x, _, rfl, rfl, kget_goes xm, _, _, by rw [hgx]; rfl, rfl, false, rfl, ?_⟩)))))
        rw [if_neg Bool.false_ne_true]
        refine wp_dget (wp_var rfl (wp_var rfl ⟨_, .inr x, _, rfl, rfl, kget_goes xm, ?_⟩))
        rw [hgx, ← hc]
        show D.int n = D.int (frzC g ns (1 + M) (.inr x))
        unfold frzC
        rw [hgx]
      | inr y =>
        have ym := hg.dom x xm y hgx
        obtain ⟨i1, i2⟩ := ixS_ok ym
        refine wp_if (wt_B (wp_isi (wp_dget (wp_var rfl (wp_var rfl ⟨_, .inr x, _, rfl, rfl, kget_goes xm, _, _, by rw [hgx]; rfl, rfl, true, rfl, ?_⟩)))))
        rw [if_pos rfl]
        refine wp_add (wp_var rfl (wp_index (wp_var rfl ⟨ns, rfl, wp_dget (wp_var rfl (wp_var rfl ⟨_, .inr x, _, rfl, rfl, kget_goes xm, y, ixS ns y, by rw [hgx]; rfl, i1, i2, _, _, rfl, rfl, ?_⟩))⟩)))
        rw [← hc]
        show _ = D.int (frzC g ns (1 + M) (.inr x))
        unfold frzC
        rw [hgx]
    · rw [e, put]
      exact ⟨_, _, _, _, _, _, _, rfl⟩
  rintro _ ⟨s7, s10, s12, s13, s14, s15, s16, rfl⟩
  rw [List.length_map, List.take_length]
  have getv : ∀ ρ2 S2, ∀ j k (t : Tm), ρ2[j]? = some (.d (.dic (becL ns c))) → ρ2[k]? = some (.d (kD t)) → S2 (becD ns c (kD t)) → Wp K B (tDGet2 (tVar j) (tVar k) (tVar k)) ρ2 S2 := fun ρ2 S2 j k t h1 h2 h3 => by
    refine wp_dget2 (wp_var h1 ⟨⟨_, rfl⟩, wp_var h2 (wp_var h2 ⟨_, t, rfl, kD_k t, ?_⟩)⟩)
    unfold becD at h3
    rw [kD_k] at h3
    exact h3
  refine ws_share (i := 11) rfl (.inr ⟨_, rfl⟩) ?_
  refine ws_seq (ws_asg (wp_lcMap (wi_seqV (i := 5) rfl (.inr rfl) ⟨sz_le (by rw [List.length_map]; omega), rowD ns c, fun d hd => ?_, ?_⟩)))
  · obtain ⟨a, ha, rfl⟩ := List.mem_map.mp hd
    have := h100 a ha
    refine wg_tup rfl (wg_cons (wg_name (by simp) (wg_cons (wg_name (by simp) (wg_nil (wp_tup (wa_cons (wp_var rfl (wa_cons (wp_tupOf (wa_cons (wp_lcMap (wi_seqV (i := 15) rfl (.inr rfl) ⟨sz_le (by rw [List.length_map]; omega), becD ns c, fun d hd => ?_, wa_nil ⟨_, .inl rfl, wa_nil ⟨sz_le (Nat.succ_le_of_lt (by simp)), rfl⟩⟩⟩)))))))))))))
    obtain ⟨u, hu, rfl⟩ := List.mem_map.mp hd
    exact wg_name (by simp) (getv _ _ 11 13 u rfl rfl rfl)
  rw [rowD_ats fz.inl hin]
  refine ws_seq (ws_asg (wp_tupOf (wa_cons (wp_lcMap (wi_seqV (i := 4) rfl (.inr rfl) ⟨sz_le (by rw [List.length_map]; omega), becD ns c, fun d hd => ?_, wa_nil ⟨_, .inl rfl, ?_⟩⟩)))))
  · obtain ⟨u, hu, rfl⟩ := List.mem_map.mp hd
    exact wg_name (by simp) (getv _ _ 11 13 u rfl rfl rfl)
  rw [becD_map fz.inl inhead]
  refine ws_ret (wp_tup (wa_cons (wp_make (wa_cons (wp_var rfl (wa_cons (wp_var rfl (wa_nil ⟨h, m.2.map (atRow c), rfl, ho, rok, fun rs' nums' hr' hl' => wa_cons (wp_slT (wp_var rfl (wo_none (wo_some (wp_fld (wp_var rfl ⟨cQ, _, _, rfl, T.k_Question, T.n_told, rfl, _, rfl, _, rfl, wa_cons (wp_var rfl (wa_nil ⟨sz_le (Nat.succ_le_of_lt (by simp)), ?_⟩))⟩))))))⟩))))))))
  rw [cutD_to, ← List.map_take]
  refine hs2 M c rs' _ hMa hMq ⟨fz, fun r => ?_, ?_⟩ rfl
  · rw [hr', List.mem_map]
    exact ⟨fun ⟨a, h1, h2⟩ => ⟨a, h1, h2.symm⟩, fun ⟨a, h1, h2⟩ => ⟨a, h1, h2.symm⟩⟩
  · rw [List.length_map] at hl'
    exact hl'
theorem Txt.d_frozen3 (T : Txt K mg cH cS cQ) : Df P w K mg base 7 "frozen" ["house", "question", "at", "above"] (List.drop 0 [.int 0]) (sp_frozen cH cS cQ) :=
  df_mkD (n := 3) (j := 0) T.a_frozen (by simp) sc_frozen rfl (fun _ _ _ _ _ _ _ us its hl hm => match us, hl, its, hm with | [_, _, _], _, [_], _ => ⟨_, rfl, rfl⟩) len_frozen T.b_frozen
theorem Txt.d_frozen4 (T : Txt K mg cH cS cQ) : Df P w K mg base 7 "frozen" ["house", "question", "at", "above"] (List.drop 1 [.int 0]) (sp_frozen cH cS cQ) :=
  df_mkD (n := 4) (j := 1) T.a_frozen (by simp) sc_frozen rfl (fun _ _ _ _ _ _ _ us its hl hm => match us, hl, its, hm with | [_, _, _, _], _, [_], _ => ⟨_, rfl, rfl⟩) len_frozen T.b_frozen
end
end FS

/-! FsV4: when a question lies within another one (plain). -/
namespace FS
open PySem L2
/-- terms for names -/
def subT (φ : Str → Tm) : Tm → Tm
  | .inl i => .inl i
  | .inr x => φ x
def Cgs (rs : List Rul) (as : List At) (l m : List Tm) : Prop := l.length = m.length ∧ ∀ (i : Nat) (s t : Tm), l[i]? = some s → m[i]? = some t → Cg rs as s t
/-- the other member's atoms and head go into the one -/
def Hom (rs : List Rul) (m m' : Mem) : Prop := ∃ φ : Str → Tm, (∀ a' ∈ m'.2, ∃ a ∈ m.2, a.1 = a'.1 ∧ Cgs rs m.2 (a'.2.map (subT φ)) a.2) ∧ Cgs rs m.2 (m'.1.map (subT φ)) m.1
def Within (rs : List Rul) (ms ms' : List Mem) : Prop := ∀ m ∈ ms, Clash rs m.2 ∨ ∃ m' ∈ ms', Hom rs m m'
theorem map_place {α β : Type} {f : α → Int} {g : β → Int} {l : List α} {m : List β} : l.map f = m.map g ↔ l.length = m.length ∧ ∀ (i : Nat) (s : α) (t : β), l[i]? = some s → m[i]? = some t → f s = g t := by
  constructor
  · intro h
    refine ⟨by have := congrArg List.length h; rwa [List.length_map, List.length_map] at this, fun i s t h1 h2 => ?_⟩
    have h3 : (l.map f)[i]? = (m.map g)[i]? := by rw [h]
    rw [List.getElem?_map, List.getElem?_map, h1, h2] at h3
    exact Option.some.inj h3
  · rintro ⟨hl, h⟩
    apply List.ext_getElem?
    intro i
    rw [List.getElem?_map, List.getElem?_map]
    by_cases z : i < l.length
    · have z2 : i < m.length := by omega
      rw [List.getElem?_eq_getElem z, List.getElem?_eq_getElem z2]
      exact congrArg some (h i _ _ (List.getElem?_eq_getElem z) (List.getElem?_eq_getElem z2))
    · rw [List.getElem?_eq_none (by omega), List.getElem?_eq_none (by omega)]
      rfl
section
variable {h : House} {m : Mem} {N : Int} {c : Tm → Int} {rows : List Row} {ms' : List Mem} {k : Nat}
theorem within_one (F : FrzOut h m N c rows) (mo : MemOk m) (numM : ∀ i, .inl i ∈ m.1 → i ≤ N) (mo' : ∀ m' ∈ ms', MemOk m') (num' : ∀ i, IsNum ms' i → i ≤ N) :
    IsAns ms' k rows ((m.1.map c).take k) (m.1.map c) ↔ ∃ m' ∈ ms', Hom h.ruls m m' := by
  have tin : ∀ t ∈ m.1, Tin m.2 N t := fun t ht => by
    cases t with
    | inl i => exact .inr ⟨i, rfl, numM i ht⟩
    | inr x => exact .inl (mo.names x ht)
  constructor
  · rintro ⟨m', hm', f, _, hs, hw⟩
    have onum : ∀ ts ∈ tssOf m', ∀ i, .inl i ∈ ts → Tin m.2 N (.inl i) := fun ts ht i hi => .inr ⟨i, rfl, num' i ⟨m', hm', ts, ht, hi⟩⟩
    have rep : ∀ x, ∃ t : Tm, InAts x m'.2 → InT m.2 t ∧ c t = f x := fun x => by
      by_cases z : InAts x m'.2
      · obtain ⟨a', ha', hx⟩ := z
        obtain ⟨a, ha, e⟩ := (F.mem _).mp (hs a' ha')
        have e2 : a'.2.map (ev f) = a.2.map c := congrArg Prod.snd e
        obtain ⟨hl, hp⟩ := map_place.mp e2
        obtain ⟨i, hi⟩ := List.getElem?_of_mem hx
        have il : i < a.2.length := by
          have := (List.getElem?_eq_some_iff.mp hi).1
          omega
        exact ⟨a.2[i], fun _ => ⟨⟨a, ha, List.getElem_mem _⟩, (hp i _ _ hi (List.getElem?_eq_getElem il)).symm⟩⟩
      · exact ⟨.inl 0, fun h => absurd h z⟩
    let φ : Str → Tm := fun x => Classical.choose (rep x)
    have hφ : ∀ x, InAts x m'.2 → InT m.2 (φ x) ∧ c (φ x) = f x := fun x => Classical.choose_spec (rep x)
    have one : ∀ ts ∈ tssOf m', ∀ s ∈ ts, ∀ t, Tin m.2 N t → ev f s = c t → (∀ x, s = .inr x → InAts x m'.2) → Cg h.ruls m.2 (subT φ s) t := fun ts hts s hs' t ht e hx => by
      cases s with
      | inl i => exact (F.frz.eq _ _ (onum ts hts i hs') ht).mp (by rw [F.frz.inl]; exact e)
      | inr x =>
        obtain ⟨h1, h2⟩ := hφ x (hx x rfl)
        exact (F.frz.eq _ _ (.inl h1) ht).mp (h2.trans e)
    refine ⟨m', hm', φ, fun a' ha' => ?_, ?_⟩
    · obtain ⟨a, ha, e⟩ := (F.mem _).mp (hs a' ha')
      have e2 : a'.2.map (ev f) = a.2.map c := congrArg Prod.snd e
      obtain ⟨hl, hp⟩ := map_place.mp e2
      refine ⟨a, ha, (congrArg Prod.fst e).symm, by rw [List.length_map]; exact hl, fun i s t h1 h2 => ?_⟩
      rw [List.getElem?_map] at h1
      obtain ⟨s', h3, rfl⟩ := Option.map_eq_some_iff.mp h1
      exact one a'.2 (List.mem_cons_of_mem _ (List.mem_map.mpr ⟨a', ha', rfl⟩)) s' (List.mem_of_getElem? h3) t (.inl ⟨a, ha, List.mem_of_getElem? h2⟩) (hp i s' t h3 h2) fun x e => ⟨a', ha', e ▸ List.mem_of_getElem? h3⟩
    · obtain ⟨hl, hp⟩ := map_place.mp hw.symm
      refine ⟨by rw [List.length_map]; exact hl, fun i s t h1 h2 => ?_⟩
      rw [List.getElem?_map] at h1
      obtain ⟨s', h3, rfl⟩ := Option.map_eq_some_iff.mp h1
      exact one m'.1 (List.mem_cons_self ..) s' (List.mem_of_getElem? h3) t (tin t (List.mem_of_getElem? h2)) (hp i s' t h3 h2) fun x e => (mo' m' hm').names x (e ▸ List.mem_of_getElem? h3)
  · rintro ⟨m', hm', φ, hA, hH⟩
    have one : ∀ s t, Tin m.2 N t → Cg h.ruls m.2 (subT φ s) t → ev (fun x => c (φ x)) s = c t := fun s t ht e => by
      have e1 : ev (fun x => c (φ x)) s = c (subT φ s) := by
        cases s with
        | inl i => exact (F.frz.inl i).symm
        | inr x => rfl
      rw [e1]
      have hs : Tin m.2 N (subT φ s) := by
        rcases cg_in e with z | ⟨z, _⟩
        · rw [z]; exact ht
        · exact .inl z
      exact (F.frz.eq _ _ hs ht).mpr e
    have hw : m'.1.map (ev fun x => c (φ x)) = m.1.map c := by
      obtain ⟨hl, hp⟩ := hH
      rw [List.length_map] at hl
      refine map_place.mpr ⟨hl, fun i s t h1 h2 => one s t (tin t (List.mem_of_getElem? h2)) (hp i _ _ (by rw [List.getElem?_map, h1]; rfl) h2)⟩
    refine ⟨m', hm', fun x => c (φ x), ?_, fun a' ha' => ?_, hw.symm⟩
    · rw [List.map_take, hw]
    · obtain ⟨a, ha, e, hl, hp⟩ := hA a' ha'
      rw [List.length_map] at hl
      refine (F.mem _).mpr ⟨a, ha, Prod.ext e.symm (map_place.mpr ⟨hl, fun i s t h1 h2 => one s t (.inl ⟨a, ha, List.mem_of_getElem? h2⟩) (hp i _ _ (by rw [List.getElem?_map, h1]; rfl) h2)⟩)⟩
end
end FS

/-! FsU12: parting, is_within, alike. -/
namespace FS
open PySem L2
/-- a question of a house -/
structure WOk (h : House) (q : Ques) : Prop where
  ok : QOk q
  fit : ∀ m ∈ q.mems, AtsOk h m.2
theorem within_step {rs : List Rul} {ms ms' : List Mem} {i : Nat} {m : Mem} (h : ms[i]? = some m) (a : Within rs (ms.take i) ms') (b : Clash rs m.2 ∨ ∃ m' ∈ ms', Hom rs m m') : Within rs (ms.take (i + 1)) ms' := fun x hx => by
  rw [show ms.take (i + 1) = ms.take i ++ [m] by rw [List.take_add_one, h]; rfl] at hx
  rcases List.mem_append.mp hx with hx | hx
  · exact a x hx
  · rw [List.mem_singleton.mp hx]
    exact b
section
variable {P : Program} {w : World} {K : PySem.W.Frag} {mg : Str → Option Value} {base : Heap} {cH cS cQ : Addr}
def sp_parting (c d e : Addr) : Spc := fun ds S => ∃ (h : House) (p q : Ques), ds = [dHouse c h, dQues e p, dQues e q] ∧ HOk h ∧ WOk h p ∧ WOk h q ∧ p.told = q.told ∧ (Within h.ruls p.mems q.mems → S .non) ∧ (¬ Within h.ruls p.mems q.mems → ∀ xs, S (.tup xs))
theorem len_parting {c d e : Addr} : ∀ ds S, sp_parting c d e ds S → ds.length = 3 := by rintro _ _ ⟨_, _, _, rfl, _⟩; rfl
theorem sc_parting : FnScope ["house", "one", "other", "above", "number", "at", "made"] ["house", "one", "other"] (defScope (topS 53)) := ⟨rfl, rfl, rfl, by decide +kernel, rfl, by decide +kernel, by decide +kernel⟩
/-! slots: 0 house, 1 one, 2 other, 3 above, 4 number, 5 at, 6 made; cells: [] -/
theorem Txt.d_parting (T : Txt K mg cH cS cQ) : Df P w K mg base 8 "parting" ["house", "one", "other"] [] (sp_parting cH cS cQ) := by
  refine df_mk T.a_parting sc_parting (fun _ _ _ _ _ _ us hl => match us, hl with | [_, _, _], _ => rfl) len_parting fun f cdv A outer s H E hr => ?_
  refine ⟨_,
    (pss_cons (ps_set (i := 3) sc_parting.nd rfl (by first | exact Or.inl rfl | exact Or.inr rfl) (pe_callB (kCR (K := K) (r := rMax) (cr_max rfl)) (by rfl) T.f_max (by decide +kernel) (pa_cons (pe_lst (pa_cons pe_int (pa_star (K := K) (pe_lc (own := [("number", 4)]) rfl sc_parting.nd (kPI (K := K) (w := iTup) (pi_tup (pe_tup (pa_star (K := K) (pe_prp (pv 1) T.dp_numbers hr (by decide)) (pa_star (K := K) (pe_prp (pv 2) T.dp_numbers hr (by decide)) pa_nil))))) (blkOk_by (own := [("number", 4)]) (by first | (show blkC ["house", "one", "other", "above", "number", "at", "made"] (defScope (topS 53)) _ _ = true; decide +kernel) | rfl)) (fun _ _ _ _ _ => by exact (pg_name (i := 4) sc_parting.nd rfl (by first | exact Or.inl rfl | exact Or.inr rfl))) (fun _ _ _ _ _ => by exact pts_nil) (fun _ _ _ _ _ => by exact (pe_callTy cr_int1 (by rfl) T.f_int (by decide +kernel) (pa_cons (pv 4) pa_nil)))) pa_nil))) pa_nil)))
    (pss_cons (ps_for PassesOwn.never rfl (pi_range1 (by rfl) T.f_range (pa_cons (pe_callB (kCR (K := K) (r := rLenS) cr_len) (by rfl) T.f_len (by decide +kernel) (pa_cons (kPE (K := K) (w := tFld) (pe_fld (pv 1) rfl)) pa_nil)) pa_nil)) (pg_name (i := 5) sc_parting.nd rfl (by first | exact Or.inl rfl | exact Or.inr rfl))
      (pss_cons (ps_set (i := 6) sc_parting.nd rfl (by first | exact Or.inl rfl | exact Or.inr rfl) (pe_df T.d_frozen4 hr (by decide) (by rfl) (pa_cons (pv 0) (pa_cons (pv 1) (pa_cons (pv 5) (pa_cons (pv 3) pa_nil))))))
      (pss_one (ps_if (PW.pt (pw_and (pt_cmp (pc_notN (pv 6))) (pw_and1 (pt_cmpR (kOp (K := K) (r := rNotInDT) (op_notInDT (rm_u hr))) (pe_ix (kIx (K := K) (r := rIx) ix_seq) (pv 6) pe_int (fun _ _ => rfl)) (pe_mth (pl := _) (pv 2) T.dt_answers hr (by decide) (pa_cons (pe_ix (kIx (K := K) (r := rIx) ix_seq) (pv 6) pe_int (fun _ _ => rfl)) (pa_cons (pe_ix (kIx (K := K) (r := rIx) ix_seq) (pv 6) pe_int (fun _ _ => rfl)) pa_nil))) rfl))))
        (pss_one (ps_ret (pv 6)))
        pss_nil))))
    (pss_one (ps_ret pe_non)))), fun B ds S h => ?_⟩
  obtain ⟨h, p, q, rfl, ho, wp, wq, tq, hs1, hs2⟩ := h
  have num64 : ∀ {r : Ques} {nums : List Int}, QOk r → nums.Nodup → (∀ i, i ∈ nums ↔ IsNum r.mems i) → nums.length < 64 := fun ok ndn hnum => by
    obtain ⟨L, hL, hN⟩ := ok.nums
    exact Nat.lt_of_le_of_lt (nodup_len ndn fun i hi => hN i ((hnum i).mp hi)) hL
  refine ws_seq (ws_asg (wp_maxL (wa_cons (wp_lst (wa_cons (wp_int (wa_star (wp_lcMap (wi_tup (wp_tup (wa_star (wp_prop (wp_var rfl ⟨_, rfl, p, rfl, wp.ok, fun n1 _ nd1 hn1 => ⟨_, .inr rfl, wa_star (wp_prop (wp_var rfl ⟨_, rfl, q, rfl, wq.ok, fun n2 _ nd2 hn2 => ⟨_, .inr rfl, wa_nil ⟨?_, _, rfl, ?_, fun d => d, fun d hd => ?_, ⟨_, .inl rfl, wa_nil ⟨?_, wa_nil ⟨0 :: (n1 ++ n2), ?_, Nat.succ_pos _, fun M hM hle => ?_⟩⟩⟩⟩⟩⟩))⟩⟩)))))))))))))
  · rw [List.append_nil, List.length_append, List.length_map, List.length_map]
    have := num64 wp.ok nd1 hn1
    have := num64 wq.ok nd2 hn2
    exact sz_le (by omega)
  · rw [List.append_nil, List.length_append, List.length_map, List.length_map]
    have := num64 wp.ok nd1 hn1
    have := num64 wq.ok nd2 hn2
    exact sz_le (by omega)
  · rw [List.append_nil, ← List.map_append] at hd
    obtain ⟨n, _, rfl⟩ := List.mem_map.mp hd
    exact wg_name (by simp) (wp_int1 (wa_cons (wp_var rfl (wa_nil ⟨n, rfl, rfl⟩))))
  · rw [List.map_id', List.append_nil, List.append_nil, List.length_cons, List.length_append, List.length_map, List.length_map]
    have := num64 wp.ok nd1 hn1
    have := num64 wq.ok nd2 hn2
    exact sz_le (by omega)
  · rw [List.map_id', List.append_nil, List.append_nil, List.map_cons, List.map_append]
  have hM0 : 0 ≤ M := hle 0 (List.mem_cons_self ..)
  have hM1 : ∀ i, IsNum p.mems i → i ≤ M := fun i hi => hle i (List.mem_cons_of_mem _ (List.mem_append_left _ ((hn1 i).mpr hi)))
  have hM2 : ∀ i, IsNum q.mems i → i ≤ M := fun i hi => hle i (List.mem_cons_of_mem _ (List.mem_append_right _ ((hn2 i).mpr hi)))
  have p10 := wp.ok.few
  refine ws_seq (ws_for (vs := [5]) (wi_rng1 (wa_cons (wp_len (wa_cons (wp_fld (wp_var rfl ⟨cQ, _, _, rfl, T.k_Question, T.n_members, rfl, wa_nil ⟨_, .inr rfl, wa_nil ⟨_, rfl, by omega, ?_, fun i ρ' => ∃ (s5 s6 : Sl), ρ' = [.d (dHouse cH h), .d (dQues cQ p), .d (dQues cQ q), .d (.int M), .no, s5, s6] ∧ Within h.ruls (p.mems.take i) q.mems, ⟨_, _, rfl, fun m hm => absurd hm (by simp)⟩, ?_, ?_⟩⟩⟩)))))))
  · rw [List.length_map]
    omega
  · rintro i d _ hd ⟨s5, s6, rfl, hI⟩
    obtain ⟨hi, rfl⟩ := dRange_get hd
    rw [List.length_map, Int.toNat_natCast] at hi
    have hmi : p.mems[i]? = some p.mems[i] := List.getElem?_eq_getElem hi
    generalize p.mems[i] = m at hmi
    have mm := List.mem_of_getElem? hmi
    have mo := wp.ok.mems.each m mm
    have hA := wp.fit m mm
    refine wg_name (by simp) (ws_seq (ws_asg (wp_call0 (wa_cons (wp_var rfl (wa_cons (wp_var rfl (wa_cons (wp_var rfl (wa_cons (wp_var rfl (wa_nil ⟨h, p, i, m, M, rfl, ho, wp.ok, hmi, hA, hM0, fun cl => ?_, fun N c rows fs h1 h2 F hfs => ?_⟩))))))))))))
    · refine ws_if (wt_and (wt_B (wp_notN (wp_var rfl fun r hr => ⟨_, rfl, ?_⟩))))
      rw [hr.mpr rfl, Bool.not_true, if_neg Bool.false_ne_true, if_neg Bool.false_ne_true]
      exact ws_next ⟨_, _, rfl, within_step hmi hI (.inl cl)⟩
    have key : IsAns q.mems p.told rows ((m.1.map c).take p.told) (m.1.map c) ↔ ∃ m' ∈ q.mems, Hom h.ruls m m' := within_one F mo (fun i hi => h2 i ⟨m, mm, m.1, List.mem_cons_self .., hi⟩) (fun m' hm' => wq.ok.mems.each m' hm') fun i hi => Int.le_trans (hM2 i hi) h1
    have ao : AnsOk q rows ((m.1.map c).take p.told) := by
      refine ⟨Nat.le_trans F.few (Nat.le_trans (wp.ok.atoms m mm) (by omega)), ?_, fun m' hm' a' ha' r hr e => ?_⟩
      · rw [List.length_take, List.length_map, ← tq]
        have := wp.ok.told m mm
        omega
      · obtain ⟨a, ha, rfl⟩ := (F.mem r).mp hr
        have e1 := hA.wid a ha
        have e2 := (wq.fit m' hm').wid a' ha'
        have e' : a.1 = a'.1 := e
        rw [e', e2] at e1
        show a'.2.length = (a.2.map c).length
        rw [List.length_map]
        exact Option.some.inj e1
    refine ws_if (wt_and (wt_B (wp_notN (wp_var rfl fun r hr => ⟨_, rfl, ?_⟩))))
    have er : r = false := by
      cases r with
      | true => exact absurd (hr.mp rfl) (by intro z; cases z)
      | false => rfl
    rw [er, Bool.not_false, if_pos rfl]
    refine wt_B (wp_notInDT (wp_ix (wp_var rfl (wp_int ⟨_, _, dInts (m.1.map c), .inr rfl, rfl, rfl, wp_meth .nil (wp_var rfl ⟨_, rfl, rfl, wa_cons (wp_ix (wp_var rfl (wp_int ⟨_, _, .ins cS fs, .inr rfl, rfl, rfl, wa_cons (wp_ix (wp_var rfl (wp_int ⟨_, _, dInts ((m.1.map c).take p.told), .inr rfl, rfl, rfl, wa_nil ⟨q, fs, rows, (m.1.map c).take p.told, .inr rfl, hfs, wq.ok, ao, fun xs ndx hx _ => ⟨1, _, by omega, rfl, pur_ints _, fun d hd => ?_, fun r3 hr3 => ⟨_, rfl, ?_⟩⟩⟩⟩)))⟩)))⟩)⟩))))
    · obtain ⟨y, _, rfl⟩ := List.mem_map.mp (srt_mem.mp hd)
      exact pur_ints y
    have mem : r3 = true ↔ ∃ m' ∈ q.mems, Hom h.ruls m m' := by
      have k2 := hx (m.1.map c)
      rw [← tq] at k2
      rw [hr3, srt_mem, List.mem_map, ← key, ← k2]
      exact ⟨fun ⟨y, hy, e⟩ => by rw [← dInts_inj e]; exact hy, fun z => ⟨_, z, rfl⟩⟩
    cases r3 with
    | true =>
      rw [Bool.not_true, if_neg Bool.false_ne_true]
      exact ws_next ⟨_, _, rfl, within_step hmi hI (.inr (mem.mp rfl))⟩
    | false =>
      rw [Bool.not_false, if_pos rfl]
      refine ws_ret (wp_var rfl (hs2 (fun W => ?_) _))
      rcases W m mm with cl | z
      · obtain ⟨i1, i2, ne, e⟩ := cl
        have e2 := (F.frz.eq (.inl i1) (.inl i2) ?_ ?_).mpr e
        · rw [F.frz.inl, F.frz.inl] at e2
          exact ne e2
        all_goals
          rcases cg_in e with z | ⟨z1, z2⟩
          · exact absurd (Sum.inl.inj z) ne
          · first | exact .inl z1 | exact .inl z2
      · exact Bool.false_ne_true (mem.mpr z)
  · rintro _ ⟨s5, s6, rfl, hI⟩
    rw [dRange_len, List.length_map, Int.toNat_natCast, List.take_length] at hI
    exact ws_ret (wp_non (hs1 hI))
def sp_is_within (c e : Addr) : Spc := fun ds S => ∃ (h : House) (p q : Ques), ds = [dHouse c h, dQues e p, dQues e q] ∧ HOk h ∧ WOk h p ∧ WOk h q ∧ p.told = q.told ∧ ∀ r : Bool, (r = true ↔ Within h.ruls p.mems q.mems) → S (.bl r)
theorem len_is_within {c e : Addr} : ∀ ds S, sp_is_within c e ds S → ds.length = 3 := by rintro _ _ ⟨_, _, _, rfl, _⟩; rfl
theorem sc_is_within : FnScope ["house", "one", "other"] ["house", "one", "other"] (defScope (topS 54)) := ⟨rfl, rfl, rfl, by decide +kernel, rfl, by decide +kernel, by decide +kernel⟩
/-! slots: 0 house, 1 one, 2 other; cells: [] -/
theorem Txt.d_is_within (T : Txt K mg cH cS cQ) : Df P w K mg base 9 "is_within" ["house", "one", "other"] [] (sp_is_within cH cQ) := by
  refine df_mk T.a_is_within sc_is_within (fun _ _ _ _ _ _ us hl => match us, hl with | [_, _, _], _ => rfl) len_is_within fun f cdv A outer s H E hr => ?_
  refine ⟨_,
    (pss_one (ps_ret (pe_cmp (pc_isN (pe_df T.d_parting hr (by decide) (by rfl) (pa_cons (pv 0) (pa_cons (pv 1) (pa_cons (pv 2) pa_nil)))))))), fun B ds S h => ?_⟩
  obtain ⟨h, p, q, rfl, ho, wp, wq, tq, hs⟩ := h
  refine ws_ret (wp_isN (wp_call0 (wa_cons (wp_var rfl (wa_cons (wp_var rfl (wa_cons (wp_var rfl (wa_nil ⟨h, p, q, rfl, ho, wp, wq, tq, fun W r hr => ?_, fun W xs r hr => ?_⟩)))))))))
  · exact hs r ⟨fun _ => W, fun _ => hr.mpr rfl⟩
  · exact hs r ⟨fun z => (nomatch (hr.mp z)), fun z => absurd z W⟩
def sp_alike (c e : Addr) : Spc := fun ds S => ∃ (h : House) (p q : Ques), ds = [dHouse c h, dQues e p, dQues e q] ∧ HOk h ∧ WOk h p ∧ WOk h q ∧ p.told = q.told ∧ ∀ r : Bool, (r = true ↔ (Within h.ruls p.mems q.mems ∧ Within h.ruls q.mems p.mems)) → S (.bl r)
theorem len_alike {c e : Addr} : ∀ ds S, sp_alike c e ds S → ds.length = 3 := by rintro _ _ ⟨_, _, _, rfl, _⟩; rfl
theorem sc_alike : FnScope ["house", "one", "other"] ["house", "one", "other"] (defScope (topS 55)) := ⟨rfl, rfl, rfl, by decide +kernel, rfl, by decide +kernel, by decide +kernel⟩
/-! slots: 0 house, 1 one, 2 other; cells: [] -/
theorem Txt.d_alike (T : Txt K mg cH cS cQ) : Df P w K mg base 10 "alike" ["house", "one", "other"] [] (sp_alike cH cQ) := by
  refine df_mk T.a_alike sc_alike (fun _ _ _ _ _ _ us hl => match us, hl with | [_, _, _], _ => rfl) len_alike fun f cdv A outer s H E hr => ?_
  refine ⟨_,
    (pss_one (ps_ret (pe_and (pe_df T.d_is_within hr (by decide) (by rfl) (pa_cons (pv 0) (pa_cons (pv 1) (pa_cons (pv 2) pa_nil)))) (pe_one (pe_df T.d_is_within hr (by decide) (by rfl) (pa_cons (pv 0) (pa_cons (pv 2) (pa_cons (pv 1) pa_nil)))))))), fun B ds S h => ?_⟩
  obtain ⟨h, p, q, rfl, ho, wp, wq, tq, hs⟩ := h
  refine ws_ret (wp_andV (wp_call0 (wa_cons (wp_var rfl (wa_cons (wp_var rfl (wa_cons (wp_var rfl (wa_nil ⟨h, p, q, rfl, ho, wp, wq, tq, fun r hr => ⟨r, rfl, ?_⟩⟩)))))))))
  cases r with
  | false =>
    rw [if_neg Bool.false_ne_true]
    exact hs false ⟨fun z => absurd z Bool.false_ne_true, fun z => hr.mpr z.1⟩
  | true =>
    rw [if_pos rfl]
    exact wp_call0 (wa_cons (wp_var rfl (wa_cons (wp_var rfl (wa_cons (wp_var rfl (wa_nil ⟨h, q, p, rfl, ho, wq, wp, tq.symm, fun r2 hr2 => hs r2 ⟨fun z => ⟨hr.mp rfl, hr2.mp z⟩, fun z => hr2.mpr z.2⟩⟩)))))))
end
end FS

/-! FsW0: a def that answers with a new list of its own (WpSN, FnB, DfB), that list as a box from now on (ws_boxed); reads of boxes and of the script; displays of dicts; list(range(n)). -/
namespace FS
open PySem L2
section
variable {K : PySem.W.Frag} {B : Addr → Prop} {ρ : Ro} {te ta tb : TE} {S : D → Prop} {P : Po}
def WpSN (K : PySem.W.Frag) (B : Addr → Prop) (ts : TS) (ρ : Ro) (S : List D → Prop) : Prop :=
  ∀ F G0 H0 G H σ Dn, EnvS K B H0 G H σ ρ → Gr B G0 H0 G H → Ex F G → (∀ l ds G' H', Gr B G0 H0 G' H' → G' l = none → ¬ B l → H0 l = none → (∃ vs, H' l = some (.lst vs) ∧ Dts K B G' vs ds) → S ds → Dn.rt (.ref l) H') → ts Dn σ H
theorem wsn_ret {S : List D → Prop} (h : WpN K B te ρ fun o => ∃ ds, o = .lst ds ∧ S ds) : WpSN K B (tRet te) ρ S := fun F G0 H0 G H σ Dn E g f k =>
  h H0 G H σ E _ fun l o G' H' g' gl nb hl ow ⟨ds, e, s⟩ => by
    subst e
    obtain ⟨_, vs, h1, h2⟩ := ow
    exact k l ds G' H' (g.trans g') gl nb (g.back l hl nb) ⟨vs, h1, h2⟩ s
theorem wsn_seq {t u : TS} {S : List D → Prop} (h : WpS K B t ρ { nx := fun ρ' => WpSN K B u ρ' S, rt := fun _ => False }) : WpSN K B (tSeq t u) ρ S := fun F G0 H0 G H σ Dn E g f k =>
  h F G0 H0 G H σ _ E g f ⟨fun ρ' G' H' σ' E' g' f' p => p F G0 H0 G' H' σ' Dn E' g' f' k, fun v d G' H' _ _ z => z.elim, fun _ _ _ _ _ _ _ z => z.elim, fun _ _ _ _ _ _ _ z => z.elim⟩
/-- a def that answers with a new list -/
def FnB (K : PySem.W.Frag) (F : List D → (List D → Prop) → Prop) : Sp := fun vs H Q _ => ∃ (B : Addr → Prop) (G : Hp) (ds : List D) (S : List D → Prop), GH B G H ∧ Dts K B G vs ds ∧ F ds S ∧
  ∀ l es G' H', Gr B G H G' H' → G' l = none → ¬ B l → H l = none → (∃ vs', H' l = some (.lst vs') ∧ Dts K B G' vs' es) → S es → Q (.ref l) H'
theorem fnb_len {F : List D → (List D → Prop) → Prop} {n : Nat} (h : ∀ ds S, F ds S → ds.length = n) : ∀ vs H Q E, FnB K F vs H Q E → vs.length = n := fun vs H Q E ⟨B, G, ds, S, gh, r, f, k⟩ => by rw [r.length]; exact h ds S f
theorem fnb_body {F : List D → (List D → Prop) → Prop} {t : TS} {N : List Str} {vs : List V} {H : Hp} {Q : VK} {E : XK} (h : ∀ B ds S, F ds S → WpSN K B t (ds.map Sl.d ++ List.replicate (N.length - ds.length) Sl.no) S) (q : FnB K F vs H Q E) :
    t { nx := fun _ H' => Q .non H', rt := Q } (start N vs) H := by
  obtain ⟨B, G, ds, S, gh, r, f, k⟩ := q
  exact h B ds S f G G H G H _ _ (start_env gh r) gh.refl (Ex.refl _) fun l es G' H' g' gl nb hl hh s => k l es G' H' g' gl nb hl hh s
/-! ### more boxes -/
section
variable {B' : Addr → Prop} {H : Hp}
mutual
theorem Dt.monoB (e : ∀ a, B a → B' a) : ∀ {v : V} {d : D}, Dt K B H v d → Dt K B' H v d
  | _, _, .non => .non
  | _, _, .bl b => .bl b
  | _, _, .int i => .int i
  | _, _, .str x => .str x
  | _, _, .tup h r => .tup h (Dts.monoB e r)
  | _, _, .ftup h n r => .ftup h n (Dts.monoB e r)
  | _, _, .fz h r => .fz h (Dks.monoB e r)
  | _, _, .lst h r => .lst h (Dts.monoB e r)
  | _, _, .dic h r => .dic h (Dks.monoB e r)
  | _, _, .ins h r => .ins h (Dfs.monoB e r)
  | _, _, .box h => .box (e _ h)
  | _, _, .scr h => .scr h
theorem Dts.monoB (e : ∀ a, B a → B' a) : ∀ {v : List V} {d : List D}, Dts K B H v d → Dts K B' H v d
  | _, _, .nil => .nil
  | _, _, .cons h r => .cons (Dt.monoB e h) (Dts.monoB e r)
theorem Dks.monoB (e : ∀ a, B a → B' a) : ∀ {v : List (Key × V)} {d : List (Key × D)}, Dks K B H v d → Dks K B' H v d
  | _, _, .nil => .nil
  | _, _, .cons h r => .cons (Dt.monoB e h) (Dks.monoB e r)
theorem Dfs.monoB (e : ∀ a, B a → B' a) : ∀ {v : List (Str × V)} {d : List (Str × D)}, Dfs K B H v d → Dfs K B' H v d
  | _, _, .nil => .nil
  | _, _, .cons h r => .cons (Dt.monoB e h) (Dfs.monoB e r)
end
end
/-- a box is made; behind it the statements t, in which it is one of the boxes; of what they leave the script alone is kept -/
theorem ws_boxed {F : List D → (List D → Prop) → Prop} {ns : List Int} {i : Nat} {t : TS} {a : TA} {E : XK} (hno : noOwn ρ = true)
    (ha : WpA K B a ρ fun ds => F ds fun es => ∃ x y z : Int, es = [.int x, .int y, .int z])
    (h : ∀ B', WpS K B' t (ρ.set i (.d .box)) { nx := fun ρ' => ρ'.length = ρ.length ∧ ρ'[0]? = some (.d (.scr ns)), rt := fun d => d.v.isSome = true ∧ P.rt d })
    (hn : P.nx (.d (.scr ns) :: List.replicate (ρ.length - 1) .no)) : WpS K B (tSeq (tAsg (tCall (FnB K F) [] E a) (gName i)) t) ρ P := fun F0 G0 H0 G H σ Dn En g f e => by
  refine ha H0 G H σ En _ fun vs ds G1 H1 g1 r1 f1 => ?_
  rw [List.append_nil]
  refine ⟨B, G1, ds, _, g1.gH, r1, f1, fun l es G2 H2 g2 gl nb hl hh ⟨x, y, z, ee⟩ => ?_⟩
  subst ee
  obtain ⟨vs', hl', dts⟩ := hh
  have hbx : BoxAt H2 l := by
    cases dts with
    | cons d1 r =>
      cases r with
      | cons d2 r =>
        cases r with
        | cons d3 r =>
          cases r
          cases d1
          cases d2
          cases d3
          exact ⟨x, y, z, hl'⟩
  have gt := (g.trans g1).trans g2
  have h0l : H0 l = none := (g.trans g1).back l hl nb
  have E2 := (En.step g1).step g2
  let B' : Addr → Prop := fun a => B a ∨ a = l
  have gh' : GH B' G2 H2 := ⟨E2.gh.gh, fun a ha => ha.elim (E2.gh.box a) fun e => e ▸ hbx, fun a ha => ha.elim (E2.gh.nob a) fun e => e ▸ gl⟩
  have E3 : EnvS K B' H0 G2 H2 σ ρ := by
    refine ⟨gh', E2.len, fun j d hj => ?_, fun j o hj => absurd hj (noOwn_ok hno), fun j k l o o' _ hj => absurd hj (noOwn_ok hno)⟩
    obtain ⟨v, e1, r⟩ := E2.at_ j d hj
    exact ⟨v, e1, r.monoB fun a ha => .inl ha⟩
  have g3 : Gr B' G0 H0 G2 H2 := ⟨gt.b, gt.g, gt.gh, fun a o nba ea => gt.keep a o (fun z => nba (.inl z)) ea, gh'.box, gh'.nob, gt.own⟩
  refine h B' F0 G0 H0 G2 H2 _ Dn (E3.setD i (.box (.inr rfl))) g3 ((f.trans g1.g).trans g2.g) ⟨fun ρ' G' H' σ' E' g' f' ⟨hlen, h0'⟩ => ?_, fun v d G' H' g' r ⟨fl, p⟩ => ?_, fun _ _ _ _ _ _ _ z => z.elim, fun _ _ _ _ _ _ _ z => z.elim⟩
  all_goals
    have g4 : Gr B G0 H0 G' H' := ⟨g'.b, g'.g, g'.gh, fun a o nba ea => g'.keep a o (fun z => z.elim nba fun e => by rw [e, h0l] at ea; cases ea) ea, fun a ha => g'.box a (.inl ha), fun a ha => g'.nob a (.inl ha), g'.own⟩
  · refine e.nx _ G' H' σ' ⟨g4.gH, ?_, fun j d hj => ?_, fun j o hj => ?_, fun j k l o o' _ hj => ?_⟩ g4 f' hn
    · have hp : 0 < ρ'.length := (List.getElem?_eq_some_iff.mp h0').1
      rw [E'.len, List.length_cons, List.length_replicate]
      omega
    · cases j with
      | zero =>
        rw [List.getElem?_cons_zero] at hj
        cases hj
        obtain ⟨v, e1, r⟩ := E'.at_ 0 _ h0'
        cases r with
        | scr q => exact ⟨_, e1, .scr q⟩
      | succ j =>
        rw [List.getElem?_cons_succ, List.getElem?_replicate] at hj
        split at hj <;> cases hj
    · cases j with
      | zero =>
        rw [List.getElem?_cons_zero] at hj
        cases hj
      | succ j =>
        rw [List.getElem?_cons_succ, List.getElem?_replicate] at hj
        split at hj <;> cases hj
    · cases j with
      | zero =>
        rw [List.getElem?_cons_zero] at hj
        cases hj
      | succ j =>
        rw [List.getElem?_cons_succ, List.getElem?_replicate] at hj
        split at hj <;> cases hj
  · obtain ⟨w, hw⟩ := Option.isSome_iff_exists.mp fl
    refine e.rt v d G' H' g4 ?_ p
    rw [r.flat hw]
    cases d <;> cases hw
    · exact .non
    · exact .bl _
    · exact .int _
    · exact .str _
/-! ### reads -/
theorem wp_ixScrR (h : Wp K B ta ρ fun a => Wp K B tb ρ fun b => ∃ ns i n, a = .scr ns ∧ b = .int i ∧ atI ns i = some n ∧ S (.int n)) : Wp K B (tOp (rIx K) ta tb) ρ S :=
  wp_op (h.imp fun a ha => ha.imp fun b ⟨ns, i, n, ea, eb, hd, s⟩ G H x y Q gh rx ry k => by
    subst ea eb
    cases ry
    cases rx with
    | @scr p _ e =>
      refine .inl ⟨p, _, i, .int n, rfl, rfl, gh.gh.sql e, ?_, k _ _ G H gh.refl (.int n) s⟩
      unfold atI at hd ⊢
      rw [List.length_map]
      cases q : ixN ns.length i with
      | none =>
        rw [q] at hd
        cases hd
      | some j =>
        rw [q] at hd
        show (ns.map V.int)[j]? = _
        rw [List.getElem?_map, show ns[j]? = some n from hd] <;> rfl)
theorem wp_ixBoxR {i : Nat} (hi : i < 3) (h : Wp K B ta ρ fun a => Wp K B tb ρ fun b => a = .box ∧ b = .int (i : Int) ∧ ∀ n : Int, S (.int n)) : Wp K B (tOp (rIx K) ta tb) ρ S :=
  wp_op (h.imp fun a ha => ha.imp fun b ⟨ea, eb, s⟩ G H x y Q gh rx ry k => by
    subst ea eb
    cases ry
    cases rx with
    | @box p hb =>
      obtain ⟨n0, n1, n2, e⟩ := gh.box p hb
      obtain ⟨n, hn⟩ : ∃ n, ([.int n0, .int n1, .int n2] : List V)[i]? = some (.int n) := by
        match i, hi with
        | 0, _ => exact ⟨n0, rfl⟩
        | 1, _ => exact ⟨n1, rfl⟩
        | 2, _ => exact ⟨n2, rfl⟩
      exact .inl ⟨p, _, (i : Int), .int n, rfl, rfl, .inl (.inl e), L2.atI_nat hn, k _ _ G H gh.refl (.int n) (s n)⟩)
/-! ### a display of two texts -/
theorem wp_disp2 {a b c d : Str} (hne : a ≠ c) (s : S (.dic [(.inr a, .str b), (.inr c, .str d)])) : Wp K B (tDisp [(tC (.str a), tC (.str b)), (tC (.str c), tC (.str d))]) ρ S := fun H0 G H σ E Q k => by
  intro p hp
  show _ ∧ _
  refine ⟨upd_same, [(.inr a, .str b), (.inr c, .str d)], rfl, by simp, ?_⟩
  have hm : mergeK [] [((.inr a : Key), V.str b), (.inr c, .str d)] = [(.inr a, .str b), (.inr c, .str d)] := by
    have e : ¬ (Sum.inr a : Key) = Sum.inr c := fun z => hne (Sum.inr.inj z)
    simp [mergeK, putK, e]
  rw [hm]
  have eu : upd (upd H p (.dK [])) p (.dK [((.inr a : Key), V.str b), (.inr c, .str d)]) = upd H p (.dK [((.inr a : Key), V.str b), (.inr c, .str d)]) := by
    funext x
    by_cases e : x = p
    · subst e
      rw [upd_same, upd_same]
    · rw [upd_ne e, upd_ne e, upd_ne e]
  rw [eu]
  exact k _ _ _ _ (Gr.new E.gh hp) (.dic (.inl upd_same) (.cons (.str b) (.cons (.str d) .nil))) s
/-! ### list(range(n)) -/
theorem wp_listRg (h : Wp K B te ρ fun a => ∃ n : Nat, a = .int (n : Nat) ∧ n ≤ 1000000 ∧ S (.lst (dRange n))) : Wp K B (tLstRg (tRg1 te)) ρ S := fun H0 G H σ E Q k =>
  h H0 G H σ E _ fun v d G1 H1 g1 r1 ⟨n, ed, hn, s⟩ => by
    subst ed
    cases r1
    refine ⟨n, rfl, RgOk.of_le (Int.le_refl _) (by omega) (by omega) (by omega), fun p hp => k _ _ _ _ (g1.trans (Gr.new g1.gH hp)) (.lst upd_same ?_) s⟩
    have e : rgV 0 (n : Nat) = (List.range n).map fun (i : Nat) => V.int (i : Int) := by
      unfold rgV
      rw [Int.sub_zero, Int.toNat_natCast]
      exact List.map_congr_left fun i _ => by rw [Int.zero_add]
    rw [e]
    unfold dRange
    have : ∀ l : List Nat, Dts K B (upd G1 p (.lst ((List.range n).map fun (i : Nat) => V.int (i : Int)))) (l.map fun (i : Nat) => V.int (i : Int)) (l.map fun (i : Nat) => D.int (i : Int)) := fun l => by
      induction l with
      | nil => exact .nil
      | cons a l ih => exact .cons (.int _) ih
    exact this _
end
/-! ### the def -/
section
variable (P : Program) (w : World) (K : PySem.W.Frag) (mg : Str → Option Value) (base : Heap)
structure DfB (j : Nat) (x : Str) (ps : List Str) (F : List D → (List D → Prop) → Prop) : Prop where
  ex : ∃ (f : Addr) (fd : FuncData), FnOk P w K mg base CX0 j f fd ps (FnB K F) ∧ mg x = some (.ref f) ∧ PySem.W.keepIn K (.ref f) = true ∧ Binds K fd ps []
end
section
variable {P : Program} {w : World} {K : PySem.W.Frag} {mg : Str → Option Value} {base : Heap}
def RdsB (K : PySem.W.Frag) (N : List Str) (F : List D → (List D → Prop) → Prop) (t : TS) : Prop := ∀ B ds S, F ds S → WpSN K B t (ds.map Sl.d ++ List.replicate (N.length - ds.length) Sl.no) S
theorem dfb_mk {x : Str} {st : Stmt} {N ps : List Str} {k : Nat} {F : List D → (List D → Prop) → Prop} (A : DefAt K mg x st []) (S : FnScope N ps (defScope st)) (hb : Bnd0 x x st ps) (hl : ∀ ds S, F ds S → ds.length = ps.length)
    (h : Body P w K mg base k N x st (RdsB K N F)) : DfB P w K mg base (k + 1) x ps F := by
  obtain ⟨f, fd, FD, hm⟩ := A
  refine ⟨f, fd, FD.ok S (fnb_len hl) fun cdv A outer s H vs Q E hr q => ?_, hm, FD.kp, binds_all FD hb⟩
  obtain ⟨t, hp, hw⟩ := h f cdv A outer s H E hr
  exact ⟨t, hp.nox, fnb_body hw q⟩
end
section
variable {X : Cx} {j k : Nat} {x : Str} {ps : List Str} {F : List D → (List D → Prop) → Prop} {e : Expr} {es : List Expr} {t : TA} {p pos : Pos}
theorem pe_dfB {K : PySem.W.Frag} (d : DfB X.prog X.w K X.mg X.base j x ps F) (hr : Room k X.A) (hj : j ≤ k) (hg : Gl X x) (ha : PA X (e :: es) t) (hdb : (x == ("__debug__" : Str)) = false := by decide)
    (he : starEach (e :: es) X.env = (false, eval e X.env) :: starEach es X.env := by rfl) (hpl : (backTo pos (starEach es X.env)).any (·.1) = false := by rfl) (hK : X.K = K := by rfl) : PE X (.Call (.Name x p) (e :: es) [] pos) (tCall (FnB K F) [] E0 t) := by
  subst hK
  obtain ⟨f, fd, G, hm, kp, b⟩ := d.ex
  exact pe_call G (hr.mono hj) hg hm kp b .nil pass0 ha hdb he hpl
end
end FS

/-! FsV5: what sorting numbers and rows of numbers gives (plain). -/
namespace FS
open PySem L2
def upI (ns : List Int) : List Int := ns.mergeSort fun a b => decide (a ≤ b)
def upR (xs : List (List Int)) : List (List Int) := xs.mergeSort fun a b => decide (a ≤ b)
theorem upI_perm (ns : List Int) : (upI ns).Perm ns := List.mergeSort_perm _ _
theorem upR_perm (ns : List (List Int)) : (upR ns).Perm ns := List.mergeSort_perm _ _
theorem upI_le (ns : List Int) : (upI ns).Pairwise (· ≤ ·) := by
  have := List.pairwise_mergeSort (le := fun a b : Int => decide (a ≤ b)) (fun a b c h1 h2 => decide_eq_true (Int.le_trans (of_decide_eq_true h1) (of_decide_eq_true h2))) (fun a b => by
    rcases Int.le_total a b with h | h
    · simp [h]
    · simp [h]) ns
  exact this.imp fun h => of_decide_eq_true h
theorem upR_le (ns : List (List Int)) : (upR ns).Pairwise (· ≤ ·) := by
  have := List.pairwise_mergeSort (le := fun a b : List Int => decide (a ≤ b)) (fun a b c h1 h2 => decide_eq_true (List.le_trans (of_decide_eq_true h1) (of_decide_eq_true h2))) (fun a b => by
    rcases List.le_total a b with h | h
    · simp [h]
    · simp [h]) ns
  exact this.imp fun h => of_decide_eq_true h
theorem perm_sorted {α : Type} {r : α → α → Prop} (anti : ∀ a b, r a b → r b a → a = b) : ∀ {l m : List α}, l.Perm m → l.Pairwise r → m.Pairwise r → l = m
  | [], m, h, _, _ => (List.Perm.nil_eq h)
  | a :: l, [], h, _, _ => absurd h.length_eq (by simp)
  | a :: l, b :: m, h, h1, h2 => by
    rw [List.pairwise_cons] at h1 h2
    have e : a = b := by
      have ha : a ∈ b :: m := h.mem_iff.mp (List.mem_cons_self ..)
      have hb : b ∈ a :: l := h.mem_iff.mpr (List.mem_cons_self ..)
      rcases List.mem_cons.mp ha with e | ha
      · exact e
      · rcases List.mem_cons.mp hb with e | hb
        · exact e.symm
        · exact anti a b (h1.1 b hb) (h2.1 a ha)
    subst e
    rw [perm_sorted anti (List.Perm.cons_inv h) h1.2 h2.2]
theorem upR_eq {xs ys : List (List Int)} (h : xs.Perm ys) : upR xs = upR ys := perm_sorted (fun a b h1 h2 => List.le_antisymm h1 h2) ((upR_perm xs).trans (h.trans (upR_perm ys).symm)) (upR_le xs) (upR_le ys)
theorem upI_eq {xs ys : List Int} (h : xs.Perm ys) : upI xs = upI ys := perm_sorted (fun a b h1 h2 => Int.le_antisymm h1 h2) ((upI_perm xs).trans (h.trans (upI_perm ys).symm)) (upI_le xs) (upI_le ys)
theorem srt_ints (ns : List Int) : srt (ns.map D.int) = (upI ns).map D.int := by
  unfold srt upI
  rw [List.map_mergeSort]
  intro a _ b _
  have := congrFun (congrFun (PySem.W.dataLe_int (β := Int) fun i => i) a) b
  exact this.symm
theorem srt_rows (xs : List (List Int)) : srt (xs.map dInts) = (upR xs).map dInts := by
  unfold srt upR
  rw [List.map_mergeSort]
  intro a _ b _
  show decide (a ≤ b) = (!PySem.W.dataLt (dInts b).py (dInts a).py)
  rw [py_dInts, py_dInts, PySem.W.dataLt_tuple]
  show _ = (!PySem.W.rowLt (b.map .int) (a.map .int))
  rw [PySem.W.dataLt_ints]
  by_cases h : b < a
  · have h' : ¬ a ≤ b := fun r => List.not_lt.mpr r h
    simp [h, h']
  · have h' : a ≤ b := List.not_lt.mp h
    simp [h, h']
theorem nodup_mem_perm {α : Type} [DecidableEq α] {xs ys : List α} (h1 : xs.Nodup) (h2 : ys.Nodup) (h : ∀ a, a ∈ xs ↔ a ∈ ys) : xs.Perm ys := (List.perm_ext_iff_of_nodup h1 h2).mpr h
theorem le_nodup_lt {ns : List Int} (h : ns.Pairwise (· ≤ ·)) (nd : ns.Nodup) : ns.Pairwise (· < ·) := by
  rw [List.nodup_iff_pairwise_ne] at nd
  exact (h.and nd).imp fun ⟨h1, h2⟩ => by omega
end FS

/-! FsW1: the law's draws: _law_box, _law_take, _law_pick, _law_mixed. -/
namespace FS
open PySem L2
section
variable {P : Program} {w : World} {K : PySem.W.Frag} {mg : Str → Option Value} {base : Heap} {cH cS cQ : Addr}
theorem cmul_r {i j : Int} (h : -(2 ^ 64) < j ∧ j < 2 ^ 64) : CMul i j := .inr h
theorem cmul_l {i j : Int} (h : -(2 ^ 64) < i ∧ i < 2 ^ 64) : CMul i j := .inl h
def sp_law_box : List D → (List D → Prop) → Prop := fun ds S => ∃ (ns : List Int) (k : Nat), ds = [.scr ns, .int (k : Nat)] ∧ ∀ x y z : Int, S [.int x, .int y, .int z]
theorem len_law_box : ∀ ds S, sp_law_box ds S → ds.length = 2 := by rintro _ _ ⟨_, _, rfl, _⟩; rfl
theorem sc__law_box : FnScope ["_law_script", "_law_k", "_law_cell", "_law_seed"] ["_law_script", "_law_k"] (defScope (topS 57)) := ⟨rfl, rfl, rfl, by decide +kernel, rfl, by decide +kernel, by decide +kernel⟩
/-! slots: 0 _law_script, 1 _law_k, 2 _law_cell, 3 _law_seed; cells: [] -/
theorem Txt.d_law_box (T : Txt K mg cH cS cQ) : DfB P w K mg base 1 "_law_box" ["_law_script", "_law_k"] sp_law_box := by
  refine dfb_mk T.a_law_box sc__law_box (fun _ _ _ _ _ _ us hl => match us, hl with | [_, _], _ => rfl) len_law_box fun f cdv A outer s H E hr => ?_
  refine ⟨_,
    (pss_cons (ps_set (i := 2) sc__law_box.nd rfl (by first | exact Or.inl rfl | exact Or.inr rfl) (pe_op op_add (pe_op op_mul pe_int (pv 1)) pe_int))
    (pss_cons (ps_if (pt_cmpR op_lt (pv 1) (pe_callB (kCR (K := K) (r := rLenS) cr_len) (by rfl) T.f_len (by decide +kernel) (pa_cons (pv 0) pa_nil)) (nomark _))
      (pss_one (ps_set (i := 2) sc__law_box.nd rfl (by first | exact Or.inl rfl | exact Or.inr rfl) (pe_callB cr_abs (by rfl) T.f_abs (by decide +kernel) (pa_cons (pe_ix (kIx (K := K) (r := rIx) ix_seq) (pv 0) (pv 1) (fun _ _ => rfl)) pa_nil))))
      (pss_one (ps_if (pt_cmpR op_gt (pe_callB (kCR (K := K) (r := rLenS) cr_len) (by rfl) T.f_len (by decide +kernel) (pa_cons (pv 0) pa_nil)) pe_int (nomark _))
        (pss_one (ps_set (i := 2) sc__law_box.nd rfl (by first | exact Or.inl rfl | exact Or.inr rfl) (pe_op op_add (pv 2) (pe_op op_mul (pe_op op_mod (pe_callTy cr_int1 (by rfl) T.f_int (by decide +kernel) (pa_cons (pe_callB cr_abs (by rfl) T.f_abs (by decide +kernel) (pa_cons (pe_ix (kIx (K := K) (r := rIx) ix_seq) (pv 0) (pe_op op_mod (pe_callTy cr_int1 (by rfl) T.f_int (by decide +kernel) (pa_cons (pv 1) pa_nil)) (pe_callB (kCR (K := K) (r := rLenS) cr_len) (by rfl) T.f_len (by decide +kernel) (pa_cons (pv 0) pa_nil))) (fun _ _ => rfl)) pa_nil)) pa_nil)) pe_int) pe_int))))
        pss_nil)))
    (pss_cons (ps_set (i := 3) sc__law_box.nd rfl (by first | exact Or.inl rfl | exact Or.inr rfl) (pe_op op_add (pe_op op_mod (pe_callTy cr_int1 (by rfl) T.f_int (by decide +kernel) (pa_cons (pe_op op_add (pe_op op_mul (pe_op op_mod (pe_callTy cr_int1 (by rfl) T.f_int (by decide +kernel) (pa_cons (pv 2) pa_nil)) pe_int) pe_int) (pe_op op_mul pe_int (pv 1))) pa_nil)) pe_int) pe_int))
    (pss_one (ps_ret (pe_lst (pa_cons (pe_ix (kIx (K := K) (r := rIx) ix_seq) (pe_lst (pa_cons pe_int (pa_cons (pv 2) pa_nil))) (pe_callTy cr_int1 (by rfl) T.f_int (by decide +kernel) (pa_cons (pe_cmpR op_ge (pv 2) (pe_op op_pow pe_int pe_int) (nomark _)) pa_nil)) (fun _ _ => rfl)) (pa_cons (pv 3) (pa_cons pe_int pa_nil))))))))), fun B ds S h => ?_⟩
  obtain ⟨ns, k, rfl, hs⟩ := h
  refine wsn_seq (ws_asg (wp_add (wp_mul (wp_int (wp_var rfl ⟨_, _, rfl, rfl, cmul_l (by decide), wp_int ⟨_, _, rfl, rfl, ?_⟩⟩)))))
  refine wsn_seq (WpS.imp (P := { nx := fun ρ' => ∃ n : Int, ρ' = [.d (.scr ns), .d (.int (k : Nat)), .d (.int n), .no], rt := fun _ => False }) ?_ (fun ρ' ⟨n, e⟩ => ?_) (fun _ z => z) (fun _ z => z) (fun _ z => z))
  · refine ws_if (wt_B (wp_lt (wp_var rfl (wp_lenScr (wa_cons (wp_var rfl (wa_nil ⟨ns, rfl, _, _, rfl, rfl, _, rfl, ?_⟩)))))))
    by_cases z : k < ns.length
    · rw [decide_eq_true (Int.ofNat_lt.mpr z), if_pos rfl]
      exact ws_asg (wp_abs (wa_cons (wp_ixScrR (wp_var rfl (wp_var rfl ⟨ns, _, _, rfl, rfl, L2.atI_nat (List.getElem?_eq_getElem z), wa_nil ⟨_, rfl, _, rfl⟩⟩)))))
    · rw [decide_eq_false (fun h => z (Int.ofNat_lt.mp h)), if_neg Bool.false_ne_true]
      refine ws_if (wt_B (wp_gt (wp_lenScr (wa_cons (wp_var rfl (wa_nil ⟨ns, rfl, wp_int ⟨_, _, rfl, rfl, _, rfl, ?_⟩⟩))))))
      by_cases z2 : 0 < ns.length
      · rw [decide_eq_true (show (0 : Int) < (ns.length : Int) from Int.ofNat_lt.mpr z2), if_pos rfl]
        have hm : k % ns.length < ns.length := Nat.mod_lt _ z2
        refine ws_asg (wp_add (wp_var rfl (wp_mul (wp_mod (wp_int1 (wa_cons (wp_abs (wa_cons (wp_ixScrR (wp_var rfl (wp_mod (wp_int1 (wa_cons (wp_var rfl (wa_nil ⟨_, rfl, wp_lenScr (wa_cons (wp_var rfl (wa_nil ⟨ns, rfl, _, _, rfl, rfl, Int.ofNat_lt.mpr z2, ns, _, ns[k % ns.length], rfl, rfl, ?_, wa_nil ⟨_, rfl, wa_nil ⟨_, rfl, wp_int ⟨_, _, rfl, rfl, by decide, wp_int ⟨_, _, rfl, rfl, cmul_r (by decide), _, _, rfl, rfl, _, rfl⟩⟩⟩⟩⟩)))⟩)))))))))))))))
        · exact L2.atI_nat (j := k % ns.length) (List.getElem?_eq_getElem hm)
      · rw [decide_eq_false (show ¬ (0 : Int) < (ns.length : Int) from fun h => z2 (Int.ofNat_lt.mp h)), if_neg Bool.false_ne_true]
        exact ws_next ⟨_, rfl⟩
  subst e
  refine wsn_seq (ws_asg (wp_add (wp_mod (wp_int1 (wa_cons (wp_add (wp_mul (wp_mod (wp_int1 (wa_cons (wp_var rfl (wa_nil ⟨_, rfl, wp_int ⟨_, _, rfl, rfl, by decide, wp_int ⟨_, _, rfl, rfl, cmul_r (by decide), wp_mul (wp_int (wp_var rfl ⟨_, _, rfl, rfl, cmul_l (by decide), _, _, rfl, rfl, wa_nil ⟨_, rfl, wp_int ⟨_, _, rfl, rfl, by decide, wp_int ⟨_, _, rfl, rfl, ?_⟩⟩⟩⟩))⟩⟩⟩))))))))))))
  refine wsn_ret (wn_lst (wa_cons (wp_ix (wp_lst (wa_cons (wp_int (wa_cons (wp_var rfl (wa_nil ⟨sz_le (Nat.succ_le_of_lt (by simp)), wp_intB (wa_cons (wp_ge (wp_var rfl (wp_pow (wp_int (wp_int ⟨_, _, rfl, rfl, ⟨by decide, by decide, by decide⟩, _, _, rfl, rfl, wa_nil ⟨_, rfl, ?_⟩⟩))))))⟩)))))))))
  by_cases z : (10 : Int) ^ 18 ≤ n
  · refine ⟨_, _, .int n, .inl rfl, rfl, ?_, wa_cons (wp_var rfl (wa_cons (wp_int (wa_nil ⟨sz_le (Nat.succ_le_of_lt (by simp)), _, rfl, hs _ _ _⟩))))⟩
    rw [decide_eq_true (by exact z)]
    rfl
  · refine ⟨_, _, .int 0, .inl rfl, rfl, ?_, wa_cons (wp_var rfl (wa_cons (wp_int (wa_nil ⟨sz_le (Nat.succ_le_of_lt (by simp)), _, rfl, hs _ _ _⟩))))⟩
    rw [decide_eq_false (by exact z)]
    rfl
def sp_law_take : Spc := fun ds S => ∃ n : Nat, ds = [.box, .int (n : Nat)] ∧ 0 < n ∧ n < 1000000 ∧ ∀ i : Nat, i < n → S (.int (i : Nat))
theorem len_law_take : ∀ ds S, sp_law_take ds S → ds.length = 2 := by rintro _ _ ⟨_, rfl, _⟩; rfl
theorem mod_nat {S : D → Prop} {n : Nat} (h0 : 0 < n) (hs : ∀ i : Nat, i < n → S (.int (i : Nat))) (a : Int) : S (.int (a % (n : Nat))) := by
  have h1 : 0 ≤ a % (n : Nat) := Int.emod_nonneg _ (by omega)
  have h2 : a % (n : Nat) < (n : Nat) := Int.emod_lt_of_pos _ (by omega)
  have e : a % (n : Nat) = ((a % (n : Nat)).toNat : Nat) := (Int.toNat_of_nonneg h1).symm
  rw [e]
  exact hs _ (by omega)
theorem sc__law_take : FnScope ["_law_box_here", "_law_many", "_law_digit", "_law_first"] ["_law_box_here", "_law_many"] (defScope (topS 58)) := ⟨rfl, rfl, rfl, by decide +kernel, rfl, by decide +kernel, by decide +kernel⟩
/-! slots: 0 _law_box_here, 1 _law_many, 2 _law_digit, 3 _law_first; cells: [] -/
theorem Txt.d_law_take (T : Txt K mg cH cS cQ) : Df P w K mg base 1 "_law_take" ["_law_box_here", "_law_many"] [] sp_law_take := by
  refine df_mk T.a_law_take sc__law_take (fun _ _ _ _ _ _ us hl => match us, hl with | [_, _], _ => rfl) len_law_take fun f cdv A outer s H E hr => ?_
  refine ⟨_,
    (pss_cons (ps_if (pt_cmpR op_gt (pe_ix (kIx (K := K) (r := rIx) ix_seq) (pv 0) pe_int (fun _ _ => rfl)) pe_int (nomark _))
      (pss_cons (ps_set (i := 2) sc__law_take.nd rfl (by first | exact Or.inl rfl | exact Or.inr rfl) (pe_op op_mod (pe_callTy cr_int1 (by rfl) T.f_int (by decide +kernel) (pa_cons (pe_ix (kIx (K := K) (r := rIx) ix_seq) (pv 0) pe_int (fun _ _ => rfl)) pa_nil)) (pv 1)))
      (pss_cons (ps_asg (pe_op op_fdiv (pe_ix (kIx (K := K) (r := rIx) ix_seq) (pv 0) pe_int (fun _ _ => rfl)) (pv 1)) (pg_sub (pv 0) pe_int set_list))
      (pss_one (ps_ret (pv 2)))))
      pss_nil)
    (pss_cons (ps_asg (pe_op op_add (pe_ix (kIx (K := K) (r := rIx) ix_seq) (pv 0) pe_int (fun _ _ => rfl)) pe_int) (pg_sub (pv 0) pe_int set_list))
    (pss_cons (ps_set (i := 3) sc__law_take.nd rfl (by first | exact Or.inl rfl | exact Or.inr rfl) (pe_op op_mod (pe_callTy cr_int1 (by rfl) T.f_int (by decide +kernel) (pa_cons (pe_op op_mul (pe_op op_add (pe_ix (kIx (K := K) (r := rIx) ix_seq) (pv 0) pe_int (fun _ _ => rfl)) (pe_op op_mul pe_int (pe_ix (kIx (K := K) (r := rIx) ix_seq) (pv 0) pe_int (fun _ _ => rfl)))) pe_int) pa_nil)) pe_int))
    (pss_cons (ps_asg (pe_op op_add (pe_op op_mod (pe_callTy cr_int1 (by rfl) T.f_int (by decide +kernel) (pa_cons (pe_op op_add (pe_op op_mul (pv 3) pe_int) pe_int) pa_nil)) pe_int) pe_int) (pg_sub (pv 0) pe_int set_list))
    (pss_one (ps_ret (pe_op op_mod (pe_callTy cr_int1 (by rfl) T.f_int (by decide +kernel) (pa_cons (pe_op op_fdiv (pe_op op_add (pe_op op_mul (pv 3) pe_int) (pe_ix (kIx (K := K) (r := rIx) ix_seq) (pv 0) pe_int (fun _ _ => rfl))) pe_int) pa_nil)) (pv 1)))))))), fun B ds S h => ?_⟩
  obtain ⟨n, rfl, h0, hb, hs⟩ := h
  have hj : (0 : Int) < (n : Nat) := by omega
  refine ws_seq (ws_if (wt_B (wp_gt (wp_ixBoxR (i := 0) (by decide) (wp_var rfl (wp_int ⟨rfl, rfl, fun m => wp_int ⟨_, _, rfl, rfl, _, rfl, ?_⟩⟩))))))
  by_cases z : (0 : Int) < m
  · rw [decide_eq_true z, if_pos rfl]
    refine ws_seq (ws_asg (wp_mod (wp_int1 (wa_cons (wp_ixBoxR (i := 0) (by decide) (wp_var rfl (wp_int ⟨rfl, rfl, fun m => wa_nil ⟨_, rfl, wp_var rfl ⟨_, _, rfl, rfl, hj, ?_⟩⟩⟩)))))))
    refine ws_seq (ws_setBox (i := 0) (j := 0) rfl (by decide) (wp_fdiv (wp_ixBoxR (i := 0) (by decide) (wp_var rfl (wp_int ⟨rfl, rfl, fun m => wp_var rfl ⟨_, _, rfl, rfl, ⟨hj, by omega⟩, wp_int ⟨rfl, ⟨_, rfl⟩, ?_⟩⟩⟩)))))
    exact ws_ret (wp_var rfl (mod_nat h0 hs _))
  · rw [decide_eq_false z, if_neg Bool.false_ne_true]
    refine ws_next ?_
    refine ws_seq (ws_setBox (i := 0) (j := 2) rfl (by decide) (wp_add (wp_ixBoxR (i := 2) (by decide) (wp_var rfl (wp_int ⟨rfl, rfl, fun m => wp_int ⟨_, _, rfl, rfl, wp_int ⟨rfl, ⟨_, rfl⟩, ?_⟩⟩⟩)))))
    refine ws_seq (ws_asg (wp_mod (wp_int1 (wa_cons (wp_mul (wp_add (wp_ixBoxR (i := 1) (by decide) (wp_var rfl (wp_int ⟨rfl, rfl, fun m => wp_mul (wp_int (wp_ixBoxR (i := 2) (by decide) (wp_var rfl (wp_int ⟨rfl, rfl, fun m2 => ⟨_, _, rfl, rfl, cmul_l (by decide), _, _, rfl, rfl, wp_int ⟨_, _, rfl, rfl, cmul_r (by decide), wa_nil ⟨_, rfl, wp_int ⟨_, _, rfl, rfl, by decide, ?_⟩⟩⟩⟩⟩))))⟩)))))))))
    refine ws_seq (ws_setBox (i := 0) (j := 1) rfl (by decide) (wp_add (wp_mod (wp_int1 (wa_cons (wp_add (wp_mul (wp_var rfl (wp_int ⟨_, _, rfl, rfl, cmul_r (by decide), wp_int ⟨_, _, rfl, rfl, wa_nil ⟨_, rfl, wp_int ⟨_, _, rfl, rfl, by decide, wp_int ⟨_, _, rfl, rfl, wp_int ⟨rfl, ⟨_, rfl⟩, ?_⟩⟩⟩⟩⟩⟩)))))))))
    exact ws_ret (wp_mod (wp_int1 (wa_cons (wp_fdiv (wp_add (wp_mul (wp_var rfl (wp_int ⟨_, _, rfl, rfl, cmul_r (by decide), wp_ixBoxR (i := 1) (by decide) (wp_var rfl (wp_int ⟨rfl, rfl, fun m => ⟨_, _, rfl, rfl, wp_int ⟨_, _, rfl, rfl, ⟨by decide, by decide⟩, wa_nil ⟨_, rfl, wp_var rfl ⟨_, _, rfl, rfl, hj, mod_nat h0 hs _⟩⟩⟩⟩⟩))⟩))))))))
def sp_law_pick : Spc := fun ds S => ∃ xs : List D, ds = [.box, .lst xs] ∧ 0 < xs.length ∧ xs.length < 1000000 ∧ ∀ x ∈ xs, S x
theorem len_law_pick : ∀ ds S, sp_law_pick ds S → ds.length = 2 := by rintro _ _ ⟨_, rfl, _⟩; rfl
theorem sc__law_pick : FnScope ["_law_box_here", "_law_some"] ["_law_box_here", "_law_some"] (defScope (topS 59)) := ⟨rfl, rfl, rfl, by decide +kernel, rfl, by decide +kernel, by decide +kernel⟩
/-! slots: 0 _law_box_here, 1 _law_some; cells: [] -/
theorem Txt.d_law_pick (T : Txt K mg cH cS cQ) : Df P w K mg base 2 "_law_pick" ["_law_box_here", "_law_some"] [] sp_law_pick := by
  refine df_mk T.a_law_pick sc__law_pick (fun _ _ _ _ _ _ us hl => match us, hl with | [_, _], _ => rfl) len_law_pick fun f cdv A outer s H E hr => ?_
  refine ⟨_,
    (pss_one (ps_ret (pe_ix (kIx (K := K) (r := rIx) ix_seq) (pv 1) (pe_df T.d_law_take hr (by decide) (by rfl) (pa_cons (pv 0) (pa_cons (pe_callB (kCR (K := K) (r := rLenS) cr_len) (by rfl) T.f_len (by decide +kernel) (pa_cons (pv 1) pa_nil)) pa_nil))) (fun _ _ => rfl)))), fun B ds S h => ?_⟩
  obtain ⟨xs, rfl, h0, hb, hs⟩ := h
  exact ws_ret (wp_ix (wp_var rfl (wp_call0 (wa_cons (wp_var rfl (wa_cons (wp_len (wa_cons (wp_var rfl (wa_nil ⟨xs, .inl rfl, wa_nil ⟨_, rfl, h0, hb, fun i hi => ⟨xs, _, _, .inl rfl, rfl, L2.atI_nat (List.getElem?_eq_getElem hi), hs _ (List.getElem_mem _)⟩⟩⟩))))))))))
def sp_law_mixed : Spc := fun ds S => ∃ xs : List D, ds = [.box, .lst xs] ∧ xs.length < 1000000 ∧ (∀ x ∈ xs, Pur 60 x) ∧ ∀ ys : List D, ys.Perm xs → S (.lst ys)
theorem len_law_mixed : ∀ ds S, sp_law_mixed ds S → ds.length = 2 := by rintro _ _ ⟨_, rfl, _⟩; rfl
theorem sc__law_mixed : FnScope ["_law_box_here", "_law_some", "_law_left", "_law_found"] ["_law_box_here", "_law_some"] (defScope (topS 60)) := ⟨rfl, rfl, rfl, by decide +kernel, rfl, by decide +kernel, by decide +kernel⟩
/-! slots: 0 _law_box_here, 1 _law_some, 2 _law_left, 3 _law_found; cells: [] -/
theorem Txt.d_law_mixed (T : Txt K mg cH cS cQ) : Df P w K mg base 2 "_law_mixed" ["_law_box_here", "_law_some"] [] sp_law_mixed := by
  refine df_mk T.a_law_mixed sc__law_mixed (fun _ _ _ _ _ _ us hl => match us, hl with | [_, _], _ => rfl) len_law_mixed fun f cdv A outer s H E hr => ?_
  refine ⟨_,
    (pss_cons (ps_par (i := 2) (j := 3) (by rfl) sc__law_mixed.nd rfl rfl (by decide) rfl rfl (pa_cons (pe_callTy (kCR (K := K) (r := rListS) cr_list) (by rfl) T.f_list (by decide +kernel) (pa_cons (pv 1) pa_nil)) (pa_cons (pe_lst pa_nil) pa_nil)) (by rfl))
    (pss_cons (ps_while PassesOwn.never (pt_cmpR (kOp (K := K) (r := rNeD) (op_neD (rm_u hr))) (pv 2) (pe_lst pa_nil) (nomark _))
      (pss_one (ps_expr (kBM (K := K) (pe_bm PySem.F.plainAttrs_list PySem.F.slot_list_append PySem.F.type_list_append mt_append (pv 3) (pa_cons (kBM (K := K) (pe_bm PySem.F.plainAttrs_list PySem.F.slot_list_pop PySem.F.type_list_pop mt_popAt (pv 2) (pa_cons (pe_df T.d_law_take hr (by decide) (by rfl) (pa_cons (pv 0) (pa_cons (pe_callB (kCR (K := K) (r := rLenS) cr_len) (by rfl) T.f_len (by decide +kernel) (pa_cons (pv 2) pa_nil)) pa_nil))) pa_nil))) pa_nil))))))
    (pss_one (ps_ret (pv 3))))), fun B ds S h => ?_⟩
  obtain ⟨xs, rfl, hb, hp, hs⟩ := h
  refine ws_seq (ws_parNN (by decide) (wn_listOf (wa_cons (wp_var rfl (wa_nil ⟨xs, .inl rfl, wn_nil ?_⟩)))))
  refine ws_seq (ws_while (fun m ρ' => ∃ left found : List D, ρ' = [.d .box, .d (.lst xs), .own (.lst left), .own (.lst found)] ∧ m = left.length ∧ (left ++ found).Perm xs) xs.length ⟨xs, [], rfl, rfl, by rw [List.append_nil]⟩ ?_)
  rintro m _ ⟨left, found, rfl, rfl, hperm⟩
  have len : left.length + found.length = xs.length := by rw [← List.length_append]; exact hperm.length_eq
  have hpl : ∀ x ∈ left, Pur 60 x := fun x hx => hp x (hperm.mem_iff.mp (List.mem_append_left _ hx))
  refine wt_peek (i := 2) rfl (.inl ⟨_, rfl⟩) (wt_B (wp_neD (wp_var rfl (wp_lst (wa_nil ⟨Nat.zero_le _, 61, by omega, .lst 60 _ hpl, .lst 60 _ (fun _ h => absurd h List.not_mem_nil), fun r hr => ⟨_, rfl, ?_⟩⟩)))))
  have er : r = true ↔ left = [] := hr.trans ⟨fun e => D.lst.inj e, fun e => congrArg D.lst e⟩
  cases r with
  | true =>
    rw [Bool.not_true, if_neg Bool.false_ne_true]
    have e0 := er.mp rfl
    subst e0
    exact ws_share (i := 3) rfl (.inl ⟨_, rfl⟩) (ws_ret (wp_var rfl (hs _ hperm)))
  | false =>
    rw [Bool.not_false, if_pos rfl]
    have l0 : 0 < left.length := by
      cases left with
      | nil => exact absurd (er.mpr rfl) Bool.false_ne_true
      | cons a l => exact Nat.succ_pos _
    refine ws_apPop (i := 3) (j := 2) (by decide) rfl rfl (sz_lt (by omega)) (by omega) (wp_call0 (wa_cons (wp_var rfl (wa_cons (wp_peek (i := 2) rfl (.inl ⟨_, rfl⟩) (wp_len (wa_cons (wp_var rfl (wa_nil ⟨left, .inl rfl, rfl, wa_nil ⟨_, rfl, l0, by omega, fun k hk => ⟨k, rfl, left[k], List.getElem?_eq_getElem hk, ?_⟩⟩⟩)))))))))
    have le : (left.eraseIdx k).length = left.length - 1 := List.length_eraseIdx_of_lt hk
    refine ⟨_, by omega, _, _, rfl, rfl, ?_⟩
    refine List.Perm.trans ?_ hperm
    have h1 : left.Perm (left[k] :: left.eraseIdx k) := by
      rw [List.eraseIdx_eq_take_drop_succ]
      refine List.Perm.trans ?_ List.perm_middle
      rw [List.getElem_cons_drop, List.take_append_drop]
    exact ((List.Perm.append_left _ List.perm_append_comm).trans List.perm_middle).trans (h1.symm.append_right found)
end
end FS

/-! FsW2: the law's houses and rows: _law_house, _law_keeps, _law_rows. -/
namespace FS
open PySem L2
theorem perm_map {α β : Type} {f : α → β} : ∀ {l : List β} {m : List α}, l.Perm (m.map f) → ∃ l' : List α, l = l'.map f ∧ l'.Perm m
  | [], m, h => by
    have : m = [] := by
      cases m with
      | nil => rfl
      | cons a m => exact absurd h.length_eq (by simp)
    subst this
    exact ⟨[], rfl, .nil⟩
  | b :: l, m, h => by
    obtain ⟨a, ha, e⟩ := List.mem_map.mp (h.mem_iff.mp (List.mem_cons_self ..))
    obtain ⟨s, t, rfl⟩ := List.append_of_mem ha
    subst e
    rw [List.map_append, List.map_cons] at h
    have h2 := List.Perm.cons_inv (h.trans List.perm_middle)
    rw [← List.map_append] at h2
    obtain ⟨l', rfl, h3⟩ := perm_map h2
    exact ⟨a :: l', rfl, (h3.cons a).trans List.perm_middle.symm⟩
def baseW : List Str := ["works", "sits", "t", "table", "limit"]
def dPlan (h : House) : D := .tup [.lst (h.tabs.map dTab), .lst (h.ruls.map dRul)]
structure PlanOk (h : House) : Prop where
  ok : HOk h
  wide : ∀ t ∈ h.tabs, 1 ≤ t.2 ∧ t.2 ≤ 3
  few : h.tabs.length ≤ 5
  few2 : h.ruls.length ≤ 3
  base : ∀ t ∈ h.tabs, t.1 ∈ baseW
theorem base_word {x : Str} (h : x ∈ baseW) : wordB x = true := by
  have : baseW.all wordB = true := by decide +kernel
  exact List.all_eq_true.mp this x h
theorem base_nodup : baseW.Nodup := by decide +kernel
theorem tabs_ok {l : List Tab} (h0 : l ≠ []) (hw : ∀ t ∈ l, 1 ≤ t.2 ∧ t.2 ≤ 3) (hb : ∀ t ∈ l, t.1 ∈ baseW) (nd : (l.map (·.1)).Nodup) (hf : l.length ≤ 5) : TabsOk l := by
  refine ⟨h0, by omega, fun t ht => ?_, nd⟩
  unfold tabB
  obtain ⟨h1, h2⟩ := hw t ht
  rw [base_word (hb t ht), Bool.true_and, Bool.and_eq_true]
  exact ⟨decide_eq_true h1, decide_eq_true (by omega)⟩
theorem upI_nat {ns : List Int} (h : ∀ n ∈ ns, 0 ≤ n) : ∃ cols : List Nat, upI ns = cols.map (fun n : Nat => (n : Int)) ∧ (∀ c : Nat, c ∈ cols ↔ (c : Int) ∈ ns) ∧ cols.length = ns.length ∧ (ns.Nodup → cols.Pairwise (· < ·)) := by
  refine ⟨(upI ns).map Int.toNat, ?_, fun c => ?_, ?_, fun nd => ?_⟩
  · rw [List.map_map]
    conv => lhs; rw [← List.map_id (upI ns)]
    refine List.map_congr_left fun n hn => ?_
    exact (Int.toNat_of_nonneg (h n ((upI_perm ns).mem_iff.mp hn))).symm
  · rw [List.mem_map]
    constructor
    · rintro ⟨n, hn, rfl⟩
      have hn' := (upI_perm ns).mem_iff.mp hn
      rw [Int.toNat_of_nonneg (h n hn')]
      exact hn'
    · intro hc
      exact ⟨(c : Int), (upI_perm ns).mem_iff.mpr hc, Int.toNat_natCast c⟩
  · rw [List.length_map, (upI_perm ns).length_eq]
  · have := le_nodup_lt (upI_le ns) ((upI_perm ns).nodup_iff.mpr nd)
    refine List.pairwise_map.mpr (this.imp_of_mem fun {a b} ha hb hab => ?_)
    have h1 := h a ((upI_perm ns).mem_iff.mp ha)
    have h2 := h b ((upI_perm ns).mem_iff.mp hb)
    omega
theorem pairs_tabs : ∀ {ws : List Str} {ys : List D}, Paired (fun d y => ∃ k : Nat, 1 ≤ k ∧ k ≤ 3 ∧ y = .tup [d, .int (k : Nat)]) (ws.map D.str) ys → ∃ l : List Tab, ys = l.map dTab ∧ l.map (·.1) = ws ∧ ∀ t ∈ l, 1 ≤ t.2 ∧ t.2 ≤ 3
  | [], _, h => by
    cases h
    exact ⟨[], rfl, rfl, fun _ h => absurd h List.not_mem_nil⟩
  | x :: ws, _, h => by
    rw [List.map_cons] at h
    cases h with
    | cons h r =>
      obtain ⟨k, h1, h2, rfl⟩ := h
      obtain ⟨l, rfl, e, hl⟩ := pairs_tabs r
      exact ⟨(x, k) :: l, rfl, by rw [List.map_cons, e], fun t ht => by
        rcases List.mem_cons.mp ht with rfl | ht
        · exact ⟨h1, h2⟩
        · exact hl t ht⟩
def notI (c : Nat) : D → Bool
  | .int i => !decide (i = (c : Int))
  | _ => false
theorem range_not (w c : Nat) : (((dRange w).filter (notI c)).map id) = ((List.range w).filter fun i => !decide (i = c)).map fun i : Nat => D.int (i : Int) := by
  rw [List.map_id]
  unfold dRange
  rw [List.filter_map]
  congr 1
  refine List.filter_congr fun i _ => ?_
  show (!decide ((i : Int) = (c : Int))) = _
  congr 1
  exact decide_eq_decide.mpr ⟨fun h => by omega, fun h => by omega⟩
section
variable {P : Program} {w : World} {K : PySem.W.Frag} {mg : Str → Option Value} {base : Heap} {cH cS cQ : Addr}
def sp_law_house : Spc := fun ds S => ∃ n : Nat, ds = [.box, .int (n : Nat)] ∧ 0 < n ∧ n ≤ 5 ∧ ∀ h, PlanOk h → S (dPlan h)
theorem len_law_house : ∀ ds S, sp_law_house ds S → ds.length = 2 := by rintro _ _ ⟨_, rfl, _⟩; rfl
theorem sc__law_house : FnScope ["_law_box_here", "_law_many", "_law_words", "_law_tables", "_law_bonds", "_law_word", "_law_turn", "_law_wide", "_law_column", "_law_others", "_law_at"] ["_law_box_here", "_law_many"] (defScope (topS 61)) := ⟨rfl, rfl, rfl, by decide +kernel, rfl, by decide +kernel, by decide +kernel⟩
/-! slots: 0 _law_box_here, 1 _law_many, 2 _law_words, 3 _law_tables, 4 _law_bonds, 5 _law_word, 6 _law_turn, 7 _law_wide, 8 _law_column, 9 _law_others, 10 _law_at; cells: ['_law_box_here', '_law_column'] -/
theorem Txt.d_law_house (T : Txt K mg cH cS cQ) : Df P w K mg base 3 "_law_house" ["_law_box_here", "_law_many"] [] sp_law_house := by
  refine df_mk T.a_law_house sc__law_house (fun _ _ _ _ _ _ us hl => match us, hl with | [_, _], _ => rfl) len_law_house fun f cdv A outer s H E hr => ?_
  refine ⟨_,
    (pss_cons (ps_set (i := 2) sc__law_house.nd rfl (by first | exact Or.inl rfl | exact Or.inr rfl) (pe_slice (kSl (K := K) (r := rSlL) sl_list) (pe_df T.d_law_mixed hr (by decide) (by rfl) (pa_cons (pv 0) (pa_cons (pe_lst (pa_cons pe_str (pa_cons pe_str (pa_cons pe_str (pa_cons pe_str (pa_cons pe_str pa_nil)))))) pa_nil))) po_none (po_some (pe_op op_add pe_int (pe_df T.d_law_take hr (by decide) (by rfl) (pa_cons (pv 0) (pa_cons (pv 1) pa_nil)))))))
    (pss_cons (ps_par (i := 3) (j := 4) (by rfl) sc__law_house.nd rfl rfl (by decide) rfl rfl (pa_cons (pe_lc (own := [("_law_word", 5)]) rfl sc__law_house.nd (kPI (K := K) (w := iSeq) (pi_seq (pv 2))) (blkOk_by (own := [("_law_word", 5)]) (by first | (show blkC ["_law_box_here", "_law_many", "_law_words", "_law_tables", "_law_bonds", "_law_word", "_law_turn", "_law_wide", "_law_column", "_law_others", "_law_at"] (defScope (topS 61)) _ _ = true; decide +kernel) | rfl)) (fun _ _ _ _ _ => by exact (pg_name (i := 5) sc__law_house.nd rfl (by first | exact Or.inl rfl | exact Or.inr rfl))) (fun _ _ _ _ _ => by exact pts_nil) (fun _ _ _ _ _ => by exact (pe_tup (pa_cons (pv 5) (pa_cons (pe_op op_add pe_int (pe_df T.d_law_take hr (by decide) (by rfl) (pa_cons (pv 0) (pa_cons pe_int pa_nil)))) pa_nil))))) (pa_cons (pe_lst pa_nil) pa_nil)) (by rfl))
    (pss_cons (ps_for PassesOwn.never rfl (pi_range1 (by rfl) T.f_range (pa_cons (pe_df T.d_law_take hr (by decide) (by rfl) (pa_cons (pv 0) (pa_cons pe_int pa_nil))) pa_nil)) (pg_name (i := 6) sc__law_house.nd rfl (by first | exact Or.inl rfl | exact Or.inr rfl))
      (pss_cons (ps_asg (pe_df T.d_law_pick hr (by decide) (by rfl) (pa_cons (pv 0) (pa_cons (pv 3) pa_nil))) (kPG (K := K) (w := gTup) (pg_tup (n := 2) rfl (pgs_cons (pg_name (i := 5) sc__law_house.nd rfl (by first | exact Or.inl rfl | exact Or.inr rfl)) (pgs_cons (pg_name (i := 7) sc__law_house.nd rfl (by first | exact Or.inl rfl | exact Or.inr rfl)) pgs_nil)))))
      (pss_cons (ps_set (i := 8) sc__law_house.nd rfl (by first | exact Or.inl rfl | exact Or.inr rfl) (pe_df T.d_law_take hr (by decide) (by rfl) (pa_cons (pv 0) (pa_cons (pv 7) pa_nil))))
      (pss_cons (ps_set (i := 9) sc__law_house.nd rfl (by first | exact Or.inl rfl | exact Or.inr rfl) (pe_slice (kSl (K := K) (r := rSlL) sl_list) (pe_df T.d_law_mixed hr (by decide) (by rfl) (pa_cons (pv 0) (pa_cons (pe_lc (own := [("_law_at", 10)]) rfl sc__law_house.nd (pi_range1 (by rfl) T.f_range (pa_cons (pv 7) pa_nil)) (blkOk_by (own := [("_law_at", 10)]) (by first | (show blkC ["_law_box_here", "_law_many", "_law_words", "_law_tables", "_law_bonds", "_law_word", "_law_turn", "_law_wide", "_law_column", "_law_others", "_law_at"] (defScope (topS 61)) _ _ = true; decide +kernel) | rfl)) (fun _ _ _ _ _ => by exact (pg_name (i := 10) sc__law_house.nd rfl (by first | exact Or.inl rfl | exact Or.inr rfl))) (fun _ _ _ _ _ => by exact (pts_one (pt_cmpR op_ne (pv 10) (pv 8) (nomark _)))) (fun _ _ _ _ _ => by exact (pv 10))) pa_nil))) po_none (po_some (pe_df T.d_law_take hr (by decide) (by rfl) (pa_cons (pv 0) (pa_cons (pv 7) pa_nil))))))
      (pss_one (ps_expr (kBM (K := K) (pe_bm PySem.F.plainAttrs_list PySem.F.slot_list_append PySem.F.type_list_append mt_append (pv 4) (pa_cons (pe_tup (pa_cons (pv 5) (pa_cons (pe_callTy (kCR (K := K) (r := rTupS) cr_tup) (by rfl) T.f_tuple (by decide +kernel) (pa_cons (pe_callB (kCR (K := K) (r := rSortDt) (cr_sortDt (rm_u hr))) (by rfl) T.f_sorted (by decide +kernel) (pa_cons (pe_lc (own := [("_law_at", 10)]) rfl sc__law_house.nd (kPI (K := K) (w := iSeq) (pi_seq (pv 9))) (blkOk_by (own := [("_law_at", 10)]) (by first | (show blkC ["_law_box_here", "_law_many", "_law_words", "_law_tables", "_law_bonds", "_law_word", "_law_turn", "_law_wide", "_law_column", "_law_others", "_law_at"] (defScope (topS 61)) _ _ = true; decide +kernel) | rfl)) (fun _ _ _ _ _ => by exact (pg_name (i := 10) sc__law_house.nd rfl (by first | exact Or.inl rfl | exact Or.inr rfl))) (fun _ _ _ _ _ => by exact pts_nil) (fun _ _ _ _ _ => by exact (pe_callTy cr_int1 (by rfl) T.f_int (by decide +kernel) (pa_cons (pv 10) pa_nil)))) pa_nil)) pa_nil)) (pa_cons (pv 8) pa_nil)))) pa_nil)))))))))
    (pss_one (ps_ret (pe_tup (pa_cons (pv 3) (pa_cons (pv 4) pa_nil)))))))), fun B ds S h => ?_⟩
  obtain ⟨n, rfl, n0, n5, hs⟩ := h
  refine ws_seq (ws_asg (wp_slL (wp_call0 (wa_cons (wp_var rfl (wa_cons (wp_lst (wa_cons (wp_str (wa_cons (wp_str (wa_cons (wp_str (wa_cons (wp_str (wa_cons (wp_str (wa_nil ⟨sz_le (by simp), wa_nil ⟨baseW.map D.str, rfl, by rw [List.length_map]; decide, fun x hx => ?_, fun ys hy => wo_none (wo_some (wp_add (wp_int (wp_call0 (wa_cons (wp_var rfl (wa_cons (wp_var rfl (wa_nil ⟨n, rfl, n0, by omega, fun i hi => ⟨_, _, rfl, rfl, _, rfl, ys, rfl, ?_⟩⟩)))))))))⟩⟩))))))))))))))))))
  · obtain ⟨z, hz, rfl⟩ := List.mem_map.mp hx
    exact .str _ _ (word_ok (base_word hz))
  obtain ⟨ws, rfl, hws⟩ := perm_map hy
  rw [show (1 : Int) + (i : Nat) = ((1 + i : Nat) : Int) by omega, cutD_to, ← List.map_take]
  have wb : ∀ x ∈ ws.take (1 + i), x ∈ baseW := fun x hx => hws.mem_iff.mp (List.mem_of_mem_take hx)
  have wnd : (ws.take (1 + i)).Nodup := (hws.nodup_iff.mpr base_nodup).sublist (List.take_sublist _ _)
  have wl : (ws.take (1 + i)).length ≤ 5 ∧ 1 ≤ (ws.take (1 + i)).length := by
    have : ws.length = 5 := hws.length_eq
    rw [List.length_take]
    omega
  generalize ws.take (1 + i) = vs at wb wnd wl
  refine ws_seq (ws_parDN (by decide) (wp_lcAll (wi_seqV (i := 2) rfl (.inl rfl) ⟨sz_le (by rw [List.length_map]; omega), fun d y => ∃ k : Nat, 1 ≤ k ∧ k ≤ 3 ∧ y = .tup [d, .int (k : Nat)], fun d hd => ?_, fun ys hp => ?_⟩)))
  · obtain ⟨x, hx, rfl⟩ := List.mem_map.mp hd
    refine wg_name (by simp) (wp_tup (wa_cons (wp_var rfl (wa_cons (wp_add (wp_int (wp_call0 (wa_cons (wp_var rfl (wa_cons (wp_int (wa_nil ⟨3, rfl, by omega, by omega, fun j hj => ⟨_, _, rfl, rfl, wa_nil ⟨sz_le (by simp), 1 + j, by omega, by omega, ?_⟩⟩⟩))))))))))))
    rw [show (1 : Int) + (j : Nat) = ((1 + j : Nat) : Int) by omega]
  obtain ⟨tabs, rfl, et, hw⟩ := pairs_tabs hp
  have tl : tabs.length = vs.length := by rw [← et, List.length_map]
  have hb : ∀ t ∈ tabs, t.1 ∈ baseW := fun t ht => wb _ (by rw [← et]; exact List.mem_map.mpr ⟨t, ht, rfl⟩)
  have t0 : tabs ≠ [] := fun e => by rw [e] at tl; simp at tl; omega
  have tok : TabsOk tabs := tabs_ok t0 hw hb (by rw [et]; exact wnd) (by omega)
  refine wn_nil ?_
  refine ws_seq (ws_for (vs := [6]) (wi_rng1 (wa_cons (wp_call0 (wa_cons (wp_var rfl (wa_cons (wp_int (wa_nil ⟨4, rfl, by omega, by omega, fun m hm => wa_nil ⟨_, rfl, by omega, by omega, fun i ρ' => ∃ (bonds : List Rul) (s5 s6 s7 s8 s9 s10 : Sl), ρ' = [.d .box, .d (.int (n : Nat)), .d (.lst (vs.map D.str)), .d (.lst (tabs.map dTab)), .own (.lst (bonds.map dRul)), s5, s6, s7, s8, s9, .no] ∧ bonds.length ≤ i ∧ ∀ r ∈ bonds, RulOk tabs r, ⟨[], _, _, _, _, _, .no, rfl, Nat.zero_le _, fun _ h => absurd h List.not_mem_nil⟩, ?_, ?_⟩⟩)))))))))
  · rintro i d _ hd ⟨bonds, s5, s6, s7, s8, s9, s10, rfl, lb, hr⟩
    obtain ⟨hi, rfl⟩ := dRange_get hd
    rw [Int.toNat_natCast] at hi
    refine wg_name (by simp) (ws_seq (ws_asgG (vs := [5, 7]) (wp_call0 (wa_cons (wp_var rfl (wa_cons (wp_var rfl (wa_nil ⟨_, rfl, by rw [List.length_map]; omega, by rw [List.length_map]; omega, fun x hx => ?_⟩))))))))
    obtain ⟨t, ht, rfl⟩ := List.mem_map.mp hx
    obtain ⟨w1, w3⟩ := hw t ht
    refine wg_tup rfl (wg_cons (wg_name (by simp) (wg_cons (wg_name (by simp) (wg_nil ?_)))))
    refine ws_seq (ws_asg (wp_call0 (wa_cons (wp_var rfl (wa_cons (wp_var rfl (wa_nil ⟨t.2, rfl, by omega, by omega, fun c hc => ?_⟩)))))))
    refine ws_seq (ws_asg (wp_slL (wp_call0 (wa_cons (wp_var rfl (wa_cons (wp_lcIf (wi_rng1 (wa_cons (wp_var rfl (wa_nil ⟨_, rfl, by omega, by omega, ?_, notI c, id, fun d hd => ?_, wa_nil ⟨_, rfl, ?_, fun x hx => ?_, fun ys hy => wo_none (wo_some (wp_call0 (wa_cons (wp_var rfl (wa_cons (wp_var rfl (wa_nil ⟨t.2, rfl, by omega, by omega, fun j hj => ⟨_, rfl, ys, rfl, ?_⟩⟩)))))))⟩⟩)))))))))))
    · rw [Int.toNat_natCast, dRange_len]
      exact sz_le (by omega)
    · rw [Int.toNat_natCast] at hd
      obtain ⟨k, hk⟩ := List.getElem?_of_mem hd
      obtain ⟨hk2, rfl⟩ := dRange_get hk
      refine wg_name (by simp) (wt_B (wp_neF (wp_var rfl (wp_var rfl ⟨rfl, rfl, rfl, rfl, fun r hr => ⟨_, rfl, ?_, fun _ => wp_var rfl rfl⟩⟩))))
      show (!r) = !decide _
      congr 1
      rw [Bool.eq_iff_iff, hr, decide_eq_true_iff]
      exact ⟨fun e => D.int.inj e, fun e => congrArg D.int e⟩
    · rw [Int.toNat_natCast, range_not, List.length_map]
      have := List.length_filter_le (fun i => !decide (i = c)) (List.range t.2)
      rw [List.length_range] at this
      omega
    · rw [Int.toNat_natCast, range_not] at hx
      obtain ⟨k, _, rfl⟩ := List.mem_map.mp hx
      exact .int _ _
    rw [Int.toNat_natCast, range_not] at hy
    obtain ⟨os, rfl, ho⟩ := perm_map hy
    rw [cutD_to, ← List.map_take]
    have ond : (os.take j).Nodup := ((ho.nodup_iff.mpr (List.nodup_range.filter _)).sublist (List.take_sublist _ _))
    have omem : ∀ k ∈ os.take j, k < t.2 ∧ k ≠ c := fun k hk => by
      have := List.mem_filter.mp (ho.mem_iff.mp (List.mem_of_mem_take hk))
      exact ⟨List.mem_range.mp this.1, by simpa using this.2⟩
    have olen : (os.take j).length ≤ 3 := by
      rw [List.length_take]
      omega
    generalize os.take j = ks at ond omem olen
    have ei : (ks.map fun i : Nat => D.int (i : Int)) = (ks.map fun i : Nat => (i : Int)).map D.int := by rw [List.map_map]; rfl
    rw [ei]
    obtain ⟨cols, e1, e2, e3, e4⟩ := upI_nat (ns := ks.map fun i : Nat => (i : Int)) fun n hn => by
      obtain ⟨k, _, rfl⟩ := List.mem_map.mp hn
      omega
    have cm : ∀ k ∈ cols, k < t.2 ∧ k ≠ c := fun k hk => by
      obtain ⟨k', hk', e⟩ := List.mem_map.mp ((e2 k).mp hk)
      have : k' = k := by omega
      rw [← this]
      exact omem k' hk'
    have rok : RulOk tabs (t.1, cols, c) := by
      refine ⟨t.2, kget_of_mem (by rw [et]; exact wnd) ht, ⟨fun k hk => (cm k hk).1, e4 ?_, ?_⟩, hc, fun h => (cm c h).2 rfl⟩
      · rw [List.nodup_iff_pairwise_ne] at ond ⊢
        exact List.Pairwise.map _ (fun a b n e => n (by omega)) ond
      · rw [List.length_map] at e3
        show cols.length ≤ 100
        omega
    refine ws_append (i := 4) rfl (sz_lt (by rw [List.length_map]; omega)) (wp_tup (wa_cons (wp_var rfl (wa_cons (wp_tupOf (wa_cons (wp_sortDt (wa_cons (wp_lcMap (wi_seqV (i := 9) rfl (.inl rfl) ⟨sz_le (by rw [List.length_map, List.length_map]; omega), fun d => d, fun d hd => ?_, wa_nil ⟨_, rfl, fun d hd => ?_, ?_, wa_nil ⟨_, .inl rfl, wa_cons (wp_var rfl (wa_nil ⟨sz_le (by simp), ?_⟩))⟩⟩⟩))))))))))
    · obtain ⟨n, _, rfl⟩ := List.mem_map.mp hd
      exact wg_name (by simp) (wp_int1 (wa_cons (wp_var rfl (wa_nil ⟨_, rfl, rfl⟩))))
    · rw [List.map_id'] at hd
      obtain ⟨n, _, rfl⟩ := List.mem_map.mp hd
      exact ⟨0, .int _ _⟩
    · rw [List.map_id']
      exact sortIn_ints _
    · have e5 : D.tup ((cols.map fun n : Nat => (n : Int)).map D.int) = dNats cols := by
        unfold dNats
        rw [List.map_map]
        rfl
      have e6 : bonds.map dRul ++ [D.tup [.str t.1, dNats cols, .int (c : Nat)]] = (bonds ++ [(t.1, cols, c)]).map dRul := by
        rw [List.map_append]
        rfl
      rw [List.map_id', srt_ints, e1, e5, e6]
      refine ⟨_, _, _, _, _, _, .no, rfl, ?_, ?_⟩
      · rw [List.length_append]
        show bonds.length + 1 ≤ _
        omega
      · intro r hr'
        rcases List.mem_append.mp hr' with h | h
        · exact hr r h
        · rw [List.mem_singleton.mp h]
          exact rok
  rintro _ ⟨bonds, s5, s6, s7, s8, s9, s10, rfl, lb, hr⟩
  rw [dRange_len, Int.toNat_natCast] at lb
  refine ws_share (i := 4) rfl (.inl ⟨_, rfl⟩) (ws_ret (wp_tup (wa_cons (wp_var rfl (wa_cons (wp_var rfl (wa_nil ⟨sz_le (by simp), hs ⟨tabs, bonds⟩ ⟨⟨tok, hr, ?_⟩, hw, ?_, ?_, hb⟩⟩)))))))
  · show bonds.length ≤ 1000
    omega
  · show tabs.length ≤ 5
    omega
  · show bonds.length ≤ 3
    omega
def neC (p q : List Int) : D → Bool
  | .int i => !decide (p[i.toNat]? = q[i.toNat]?)
  | _ => false
def sp_law_keeps : Spc := fun ds S => ∃ (h : House) (rs : List Row), ds = [dPlan h, .lst (rs.map dRow)] ∧ HOk h ∧ (∀ r ∈ rs, RowOk h.tabs r) ∧ rs.length ≤ 1000 ∧ ∀ r : Bool, (r = true → ∀ p ∈ rs, ∀ q ∈ rs, Agree h.ruls p q) → S (.bl r)
theorem len_law_keeps : ∀ ds S, sp_law_keeps ds S → ds.length = 2 := by rintro _ _ ⟨_, _, rfl, _⟩; rfl
theorem sc__law_keeps : FnScope ["_law_plan", "_law_rows_here", "_law_word", "_law_columns", "_law_column", "_law_some", "_law_name", "_law_numbers", "_law_one", "_law_other", "_law_apart", "_law_at"] ["_law_plan", "_law_rows_here"] (defScope (topS 62)) := ⟨rfl, rfl, rfl, by decide +kernel, rfl, by decide +kernel, by decide +kernel⟩
/-! slots: 0 _law_plan, 1 _law_rows_here, 2 _law_word, 3 _law_columns, 4 _law_column, 5 _law_some, 6 _law_name, 7 _law_numbers, 8 _law_one, 9 _law_other, 10 _law_apart, 11 _law_at; cells: ['_law_one', '_law_other', '_law_word'] -/
theorem Txt.d_law_keeps (T : Txt K mg cH cS cQ) : Df P w K mg base 1 "_law_keeps" ["_law_plan", "_law_rows_here"] [] sp_law_keeps := by
  refine df_mk T.a_law_keeps sc__law_keeps (fun _ _ _ _ _ _ us hl => match us, hl with | [_, _], _ => rfl) len_law_keeps fun f cdv A outer s H E hr => ?_
  refine ⟨_,
    (pss_cons (ps_for PassesOwn.never rfl (kPI (K := K) (w := iList) (pi_list (pe_ix (kIx (K := K) (r := rIx) ix_seq) (pv 0) pe_int (fun _ _ => rfl)))) (kPG (K := K) (w := gTup) (pg_tup (n := 3) rfl (pgs_cons (pg_name (i := 2) sc__law_keeps.nd rfl (by first | exact Or.inl rfl | exact Or.inr rfl)) (pgs_cons (pg_name (i := 3) sc__law_keeps.nd rfl (by first | exact Or.inl rfl | exact Or.inr rfl)) (pgs_cons (pg_name (i := 4) sc__law_keeps.nd rfl (by first | exact Or.inl rfl | exact Or.inr rfl)) pgs_nil)))))
      (pss_cons (ps_setLc (i := 5) (own := [("_law_name", 6), ("_law_numbers", 7)]) rfl sc__law_keeps.nd rfl rfl (sw_true rfl rfl rfl (by decide +kernel)) (kPI (K := K) (w := iSeq) (pi_seq (pv 1))) (blkOk_by (own := [("_law_name", 6), ("_law_numbers", 7)]) (by first | (show blkC ["_law_plan", "_law_rows_here", "_law_word", "_law_columns", "_law_column", "_law_some", "_law_name", "_law_numbers", "_law_one", "_law_other", "_law_apart", "_law_at"] (defScope (topS 62)) _ _ = true; decide +kernel) | rfl)) (fun _ _ _ _ _ => by exact (kPG (K := K) (w := gTup) (pg_tup (n := 2) rfl (pgs_cons (pg_name (i := 6) sc__law_keeps.nd rfl (by first | exact Or.inl rfl | exact Or.inr rfl)) (pgs_cons (pg_name (i := 7) sc__law_keeps.nd rfl (by first | exact Or.inl rfl | exact Or.inr rfl)) pgs_nil))))) (fun _ _ _ _ _ => by exact (pts_one (pt_cmpR op_eq (pv 6) (pv 2) (nomark _)))) (fun _ _ _ _ _ => by exact (pv 7)))
      (pss_one (ps_for PassesOwn.never rfl (kPI (K := K) (w := iSeq) (pi_seq (pv 5))) (pg_name (i := 8) sc__law_keeps.nd rfl (by first | exact Or.inl rfl | exact Or.inr rfl))
        (pss_one (ps_for PassesOwn.never rfl (kPI (K := K) (w := iSeq) (pi_seq (pv 5))) (pg_name (i := 9) sc__law_keeps.nd rfl (by first | exact Or.inl rfl | exact Or.inr rfl))
          (pss_cons (ps_setLc (i := 10) (own := [("_law_at", 11)]) rfl sc__law_keeps.nd rfl rfl (sw_true rfl rfl rfl (by decide +kernel)) (kPI (K := K) (w := iSeq) (pi_seq (pv 3))) (blkOk_by (own := [("_law_at", 11)]) (by first | (show blkC ["_law_plan", "_law_rows_here", "_law_word", "_law_columns", "_law_column", "_law_some", "_law_name", "_law_numbers", "_law_one", "_law_other", "_law_apart", "_law_at"] (defScope (topS 62)) _ _ = true; decide +kernel) | rfl)) (fun _ _ _ _ _ => by exact (pg_name (i := 11) sc__law_keeps.nd rfl (by first | exact Or.inl rfl | exact Or.inr rfl))) (fun _ _ _ _ _ => by exact (pts_one (pt_cmpR op_ne (pe_ix (kIx (K := K) (r := rIx) ix_seq) (pv 8) (pv 11) (fun _ _ => rfl)) (pe_ix (kIx (K := K) (r := rIx) ix_seq) (pv 9) (pv 11) (fun _ _ => rfl)) (nomark _)))) (fun _ _ _ _ _ => by exact (pv 11)))
          (pss_one (ps_if (PW.pt (pw_and (pt_cmpR (kOp (K := K) (r := rEqD) (op_eqD (rm_u hr))) (pv 10) (pe_lst pa_nil) (nomark _)) (pw_and1 (pt_cmpR op_ne (pe_ix (kIx (K := K) (r := rIx) ix_seq) (pv 8) (pv 4) (fun _ _ => rfl)) (pe_ix (kIx (K := K) (r := rIx) ix_seq) (pv 9) (pv 4) (fun _ _ => rfl)) (nomark _)))))
            (pss_one (ps_ret pe_bl))
            pss_nil)))))))))
    (pss_one (ps_ret pe_bl))), fun B ds S h => ?_⟩
  obtain ⟨h, rs, rfl, ho, hrs, lr, hs⟩ := h
  refine ws_seq (ws_for (vs := [2, 3, 4]) (wi_list (wp_ix (wp_var rfl (wp_int ⟨_, _, .lst (h.ruls.map dRul), .inr rfl, rfl, rfl, _, rfl, fun i ρ' => ∃ s2 s3 s4 s5 s8 s9 s10, ρ' = [.d (dPlan h), .d (.lst (rs.map dRow)), s2, s3, s4, s5, .no, .no, s8, s9, s10, .no] ∧ ∀ p ∈ rs, ∀ q ∈ rs, Agree (h.ruls.take i) p q, ⟨_, _, _, _, _, _, _, rfl, fun p _ q _ r hr => absurd hr (by simp)⟩, ?_, ?_⟩)))))
  · rintro i d _ hd ⟨s2, s3, s4, s5, s8, s9, s10, rfl, hI⟩
    rw [List.getElem?_map] at hd
    cases hri : h.ruls[i]? with
    | none => rw [hri] at hd; cases hd
    | some r =>
    rw [hri] at hd
    cases hd
    have rm := List.mem_of_getElem? hri
    have et : h.ruls.take (i + 1) = h.ruls.take i ++ [r] := by rw [List.take_add_one, hri]; rfl
    obtain ⟨wd, hw, hc, hl, hn⟩ := (ho.ruls r rm).ex
    refine wg_tup rfl (wg_cons (wg_name (by simp) (wg_cons (wg_name (by simp) (wg_cons (wg_name (by simp) (wg_nil ?_)))))))
    refine ws_seq (ws_asg (wp_lcIf (wi_seqV (i := 1) rfl (.inl rfl) ⟨sz_le (by rw [List.length_map]; omega), rowIs r.1, dSnd, fun d hd => ?_, ?_⟩)))
    · obtain ⟨a, ha, rfl⟩ := List.mem_map.mp hd
      refine wg_tup rfl (wg_cons (wg_name (by simp) (wg_cons (wg_name (by simp) (wg_nil (wt_B (wp_eq (wp_var rfl (wp_var rfl ⟨_, _, rfl, rfl, rfl, _, rfl, ?_, fun _ => wp_var rfl rfl⟩)))))))))
      show decide (V.str a.1 = V.str r.1) = decide (a.1 = r.1)
      exact decide_eq_decide.mpr ⟨V.str.inj, congrArg V.str⟩
    rw [rows_some rs r.1 _ _ (fun _ => rfl) (fun _ => rfl)]
    have sml := someOf_len rs r.1
    have mem : ∀ ns, ns ∈ someOf rs r.1 ↔ (r.1, ns) ∈ rs := fun ns => mem_someOf
    generalize someOf rs r.1 = sm at mem sml
    have len : ∀ ns ∈ sm, ns.length = wd := fun ns hn => by
      have := (hrs _ ((mem ns).mp hn)).wid
      rw [show (r.1, ns).1 = r.1 from rfl, hw] at this
      exact (Option.some.inj this).symm
    have cl : ∀ {i : Nat} {a : List Int}, sm[i]? = some a → sm.take (i + 1) = sm.take i ++ [a] := fun h => by rw [List.take_add_one, h]; rfl
    refine ws_for (vs := [8]) (wi_seqV (i := 5) rfl (.inl rfl) ⟨fun j ρ' => ∃ s8 s9 s10, ρ' = [.d (dPlan h), .d (.lst (rs.map dRow)), .d (.str r.1), .d (dNats r.2.1), .d (.int (r.2.2 : Nat)), .d (.lst (sm.map dInts)), .no, .no, s8, s9, s10, .no] ∧ ∀ a ∈ sm.take j, ∀ b ∈ sm, (∀ c ∈ r.2.1, a[c]? = b[c]?) → a[r.2.2]? = b[r.2.2]?, ⟨_, _, _, rfl, fun a ha => absurd ha (by simp)⟩, ?_, ?_⟩)
    · rintro j d _ hd ⟨s8, s9, s10, rfl, hJ⟩
      rw [List.getElem?_map] at hd
      cases haj : sm[j]? with
      | none => rw [haj] at hd; cases hd
      | some a =>
      rw [haj] at hd
      cases hd
      have am := List.mem_of_getElem? haj
      have la := len a am
      refine wg_name (by simp) (ws_for (vs := [9]) (wi_seqV (i := 5) rfl (.inl rfl) ⟨fun k ρ' => ∃ s9 s10, ρ' = [.d (dPlan h), .d (.lst (rs.map dRow)), .d (.str r.1), .d (dNats r.2.1), .d (.int (r.2.2 : Nat)), .d (.lst (sm.map dInts)), .no, .no, .d (dInts a), s9, s10, .no] ∧ ∀ b ∈ sm.take k, (∀ c ∈ r.2.1, a[c]? = b[c]?) → a[r.2.2]? = b[r.2.2]?, ⟨_, _, rfl, fun b hb => absurd hb (by simp)⟩, ?_, ?_⟩))
      · rintro k d _ hd ⟨s9, s10, rfl, hK⟩
        rw [List.getElem?_map] at hd
        cases hbk : sm[k]? with
        | none => rw [hbk] at hd; cases hd
        | some b =>
        rw [hbk] at hd
        cases hd
        have bm := List.mem_of_getElem? hbk
        have lb := len b bm
        have next : ((∀ c ∈ r.2.1, a[c]? = b[c]?) → a[r.2.2]? = b[r.2.2]?) → ∀ e ∈ sm.take (k + 1), (∀ c ∈ r.2.1, a[c]? = e[c]?) → a[r.2.2]? = e[r.2.2]? := fun z e he => by
          rw [cl hbk] at he
          rcases List.mem_append.mp he with he | he
          · exact hK e he
          · rw [List.mem_singleton.mp he]; exact z
        refine wg_name (by simp) (ws_seq (ws_asg (wp_lcIf (wi_seqV (i := 3) (ds := r.2.1.map fun n => .int (n : Nat)) rfl (.inr rfl) ⟨by rw [List.length_map]; exact sz_le (by have := hc.few; omega), neC a b, id, fun d hd => ?_, ?_⟩))))
        · obtain ⟨c, hc', rfl⟩ := List.mem_map.mp hd
          have cl := hc.lt c hc'
          refine wg_name (by simp) (wt_B (wp_neF (wp_ix (wp_var rfl (wp_var rfl ⟨a.map D.int, _, _, .inr rfl, rfl, atI_int (c := c) (by omega), wp_ix (wp_var rfl (wp_var rfl ⟨b.map D.int, _, _, .inr rfl, rfl, atI_int (c := c) (by omega), rfl, rfl, rfl, rfl, fun r2 hr2 => ⟨_, rfl, ?_, fun _ => wp_var rfl rfl⟩⟩))⟩)))))
          show (!r2) = !decide (a[((c : Nat) : Int).toNat]? = b[((c : Nat) : Int).toNat]?)
          rw [Int.toNat_natCast, List.getElem?_eq_getElem (by omega), List.getElem?_eq_getElem (by omega)]
          congr 1
          rw [Bool.eq_iff_iff, hr2, decide_eq_true_iff]
          exact ⟨fun e => congrArg some (D.int.inj e), fun e => congrArg D.int (Option.some.inj e)⟩
        have emp : ((r.2.1.map fun n => D.int (n : Nat)).filter (neC a b)).map id = [] ↔ ∀ c ∈ r.2.1, a[c]? = b[c]? := by
          rw [List.map_id, List.filter_eq_nil_iff]
          constructor
          · intro z c hc'
            have := z (.int (c : Nat)) (List.mem_map.mpr ⟨c, hc', rfl⟩)
            have t : ¬ (!decide (a[((c : Nat) : Int).toNat]? = b[((c : Nat) : Int).toNat]?)) = true := this
            rw [Int.toNat_natCast] at t
            by_cases w : a[c]? = b[c]?
            · exact w
            · rw [decide_eq_false w] at t
              exact absurd rfl t
          · intro z d hd
            obtain ⟨c, hc', rfl⟩ := List.mem_map.mp hd
            show ¬ (!decide (a[((c : Nat) : Int).toNat]? = b[((c : Nat) : Int).toNat]?)) = true
            rw [Int.toNat_natCast, decide_eq_true (z c hc')]
            exact Bool.false_ne_true
        have pur : ∀ d ∈ ((r.2.1.map fun n => D.int (n : Nat)).filter (neC a b)).map id, Pur 1 d := fun d hd => by
          rw [List.map_id] at hd
          obtain ⟨c, _, rfl⟩ := List.mem_map.mp (List.mem_filter.mp hd).1
          exact .int _ _
        generalize ((r.2.1.map fun n => D.int (n : Nat)).filter (neC a b)).map id = ap at emp pur
        have ga : a[r.2.2]? = some a[r.2.2] := List.getElem?_eq_getElem (by omega)
        have gb : b[r.2.2]? = some b[r.2.2] := List.getElem?_eq_getElem (by omega)
        refine ws_if (wt_and (wt_B (wp_eqD (wp_var rfl (wp_lst (wa_nil ⟨Nat.zero_le _, 2, by omega, .lst 1 _ pur, .lst 1 _ (fun _ h => absurd h List.not_mem_nil), fun r1 hr1 => ⟨_, rfl, ?_⟩⟩))))))
        have e1 : r1 = true ↔ ap = [] := hr1.trans ⟨fun e => D.lst.inj e, fun e => congrArg D.lst e⟩
        cases r1 with
        | false =>
          rw [if_neg Bool.false_ne_true, if_neg Bool.false_ne_true]
          exact ws_next ⟨_, _, rfl, next fun z => absurd (e1.mpr (emp.mpr z)) Bool.false_ne_true⟩
        | true =>
          rw [if_pos rfl]
          refine wt_B (wp_neF (wp_ix (wp_var rfl (wp_var rfl ⟨a.map D.int, _, _, .inr rfl, rfl, atI_int (c := r.2.2) (by omega), wp_ix (wp_var rfl (wp_var rfl ⟨b.map D.int, _, _, .inr rfl, rfl, atI_int (c := r.2.2) (by omega), rfl, rfl, rfl, rfl, fun r2 hr2 => ⟨_, rfl, ?_⟩⟩))⟩))))
          cases r2 with
          | true =>
            rw [Bool.not_true, if_neg Bool.false_ne_true]
            exact ws_next ⟨_, _, rfl, next fun _ => by rw [ga, gb, D.int.inj (hr2.mp rfl)]⟩
          | false =>
            rw [Bool.not_false, if_pos rfl]
            exact ws_ret (wp_bl (hs false fun z => absurd z Bool.false_ne_true))
      · rintro _ ⟨s9, s10, rfl, hK⟩
        rw [List.length_map, List.take_length] at hK
        refine ⟨_, _, _, rfl, fun e he => ?_⟩
        rw [cl haj] at he
        rcases List.mem_append.mp he with he | he
        · exact hJ e he
        · rw [List.mem_singleton.mp he]; exact hK
    · rintro _ ⟨s8, s9, s10, rfl, hJ⟩
      rw [List.length_map, List.take_length] at hJ
      refine ⟨_, _, _, _, _, _, _, rfl, fun p hp q hq r' hr' e1 e2 e3 => ?_⟩
      rw [et] at hr'
      rcases List.mem_append.mp hr' with hr' | hr'
      · exact hI p hp q hq r' hr' e1 e2 e3
      · rw [List.mem_singleton.mp hr'] at e1 e2 e3 ⊢
        exact hJ _ ((mem _).mpr (by rw [← e1]; exact hp)) _ ((mem _).mpr (by rw [← e2]; exact hq)) e3
  · rintro _ ⟨s2, s3, s4, s5, s8, s9, s10, rfl, hI⟩
    rw [List.length_map, List.take_length] at hI
    exact ws_ret (wp_bl (hs true fun _ => hI))
theorem paired_ints {n : Nat} : ∀ {ds ys : List D}, Paired (fun _ y => ∃ j : Nat, j < n ∧ y = .int (j : Nat)) ds ys → ∃ ns : List Int, ys = ns.map D.int ∧ ns.length = ds.length ∧ ∀ k ∈ ns, 0 ≤ k ∧ k < n
  | [], _, h => by
    cases h
    exact ⟨[], rfl, rfl, fun _ h => absurd h List.not_mem_nil⟩
  | d :: ds, _, h => by
    cases h with
    | cons h r =>
      obtain ⟨j, hj, rfl⟩ := h
      obtain ⟨ns, rfl, e, hl⟩ := paired_ints r
      exact ⟨(j : Int) :: ns, rfl, by rw [List.length_cons, List.length_cons, e], fun t ht => by
        rcases List.mem_cons.mp ht with rfl | ht
        · omega
        · exact hl t ht⟩
def sp_law_rows : Spc := fun ds S => ∃ (h : House) (many top : Nat), ds = [.box, dPlan h, .int (many : Nat), .int (top : Nat)] ∧ PlanOk h ∧ many ≤ 10 ∧ 0 < top ∧ top ≤ 10 ∧ ∀ rs : List Row, RowsOk h rs → rs.length ≤ many → (∀ r ∈ rs, ∀ n ∈ r.2, n < top) → S (.lst (rs.map dRow))
theorem len_law_rows : ∀ ds S, sp_law_rows ds S → ds.length = 4 := by rintro _ _ ⟨_, _, _, rfl, _⟩; rfl
theorem sc__law_rows : FnScope ["_law_box_here", "_law_plan", "_law_many", "_law_top", "_law_found", "_law_turn", "_law_word", "_law_wide", "_law_row", "_law_at"] ["_law_box_here", "_law_plan", "_law_many", "_law_top"] (defScope (topS 63)) := ⟨rfl, rfl, rfl, by decide +kernel, rfl, by decide +kernel, by decide +kernel⟩
/-! slots: 0 _law_box_here, 1 _law_plan, 2 _law_many, 3 _law_top, 4 _law_found, 5 _law_turn, 6 _law_word, 7 _law_wide, 8 _law_row, 9 _law_at; cells: ['_law_box_here', '_law_top'] -/
theorem Txt.d_law_rows (T : Txt K mg cH cS cQ) : Df P w K mg base 3 "_law_rows" ["_law_box_here", "_law_plan", "_law_many", "_law_top"] [] sp_law_rows := by
  refine df_mk T.a_law_rows sc__law_rows (fun _ _ _ _ _ _ us hl => match us, hl with | [_, _, _, _], _ => rfl) len_law_rows fun f cdv A outer s H E hr => ?_
  refine ⟨_,
    (pss_cons (ps_set (i := 4) sc__law_rows.nd rfl (by first | exact Or.inl rfl | exact Or.inr rfl) (pe_lst pa_nil))
    (pss_cons (ps_for PassesOwn.never rfl (pi_range1 (by rfl) T.f_range (pa_cons (pe_df T.d_law_take hr (by decide) (by rfl) (pa_cons (pv 0) (pa_cons (pe_op op_add (pv 2) pe_int) pa_nil))) pa_nil)) (pg_name (i := 5) sc__law_rows.nd rfl (by first | exact Or.inl rfl | exact Or.inr rfl))
      (pss_cons (ps_asg (pe_df T.d_law_pick hr (by decide) (by rfl) (pa_cons (pv 0) (pa_cons (pe_ix (kIx (K := K) (r := rIx) ix_seq) (pv 1) pe_int (fun _ _ => rfl)) pa_nil))) (kPG (K := K) (w := gTup) (pg_tup (n := 2) rfl (pgs_cons (pg_name (i := 6) sc__law_rows.nd rfl (by first | exact Or.inl rfl | exact Or.inr rfl)) (pgs_cons (pg_name (i := 7) sc__law_rows.nd rfl (by first | exact Or.inl rfl | exact Or.inr rfl)) pgs_nil)))))
      (pss_cons (ps_set (i := 8) sc__law_rows.nd rfl (by first | exact Or.inl rfl | exact Or.inr rfl) (pe_tup (pa_cons (pv 6) (pa_cons (pe_callTy (kCR (K := K) (r := rTupS) cr_tup) (by rfl) T.f_tuple (by decide +kernel) (pa_cons (pe_lc (own := [("_law_at", 9)]) rfl sc__law_rows.nd (pi_range1 (by rfl) T.f_range (pa_cons (pv 7) pa_nil)) (blkOk_by (own := [("_law_at", 9)]) (by first | (show blkC ["_law_box_here", "_law_plan", "_law_many", "_law_top", "_law_found", "_law_turn", "_law_word", "_law_wide", "_law_row", "_law_at"] (defScope (topS 63)) _ _ = true; decide +kernel) | rfl)) (fun _ _ _ _ _ => by exact (pg_name (i := 9) sc__law_rows.nd rfl (by first | exact Or.inl rfl | exact Or.inr rfl))) (fun _ _ _ _ _ => by exact pts_nil) (fun _ _ _ _ _ => by exact (pe_df T.d_law_take hr (by decide) (by rfl) (pa_cons (pv 0) (pa_cons (pv 3) pa_nil))))) pa_nil)) pa_nil))))
      (pss_one (ps_if (PW.pt (pw_and (pt_cmpR (kOp (K := K) (r := rNotInD) (op_notInD (rm_u hr))) (pv 8) (pv 4) rfl) (pw_and1 (pt_val (pe_df T.d_law_keeps hr (by decide) (by rfl) (pa_cons (pv 1) (pa_cons (pe_op op_cat (pv 4) (pe_lst (pa_cons (pv 8) pa_nil))) pa_nil)))))))
        (pss_one (ps_expr (kBM (K := K) (pe_bm PySem.F.plainAttrs_list PySem.F.slot_list_append PySem.F.type_list_append mt_append (pv 4) (pa_cons (pv 8) pa_nil)))))
        pss_nil)))))
    (pss_one (ps_ret (pv 4))))), fun B ds S h => ?_⟩
  obtain ⟨h, many, top, rfl, po, m10, t0, t10, hs⟩ := h
  have tl := po.few
  have t1 : 0 < h.tabs.length := List.length_pos_iff.mpr po.ok.tabs.some
  refine ws_seq (ws_asgN (wn_nil ?_))
  refine ws_seq (ws_for (vs := [5]) (wi_rng1 (wa_cons (wp_call0 (wa_cons (wp_var rfl (wa_cons (wp_add (wp_var rfl (wp_int ⟨_, _, rfl, rfl, wa_nil ⟨many + 1, rfl, by omega, by omega, fun m hm => wa_nil ⟨_, rfl, by omega, by omega, fun i ρ' => ∃ (rs : List Row) (s5 s6 s7 s8 : Sl), ρ' = [.d .box, .d (dPlan h), .d (.int (many : Nat)), .d (.int (top : Nat)), .own (.lst (rs.map dRow)), s5, s6, s7, s8, .no] ∧ RowsOk h rs ∧ rs.length ≤ i ∧ ∀ r ∈ rs, ∀ n ∈ r.2, n < top, ⟨[], _, _, _, _, rfl, ⟨fun _ h => absurd h List.not_mem_nil, fun _ h => absurd h List.not_mem_nil, Nat.zero_le _⟩, Nat.zero_le _, fun _ h => absurd h List.not_mem_nil⟩, ?_, ?_⟩⟩⟩))))))))))
  · rintro i d _ hd ⟨rs, s5, s6, s7, s8, rfl, ok, lr, lt⟩
    obtain ⟨hi, rfl⟩ := dRange_get hd
    rw [Int.toNat_natCast] at hi
    refine wg_name (by simp) (ws_seq (ws_asgG (vs := [6, 7]) (wp_call0 (wa_cons (wp_var rfl (wa_cons (wp_ix (wp_var rfl (wp_int ⟨_, _, .lst (h.tabs.map dTab), .inr rfl, rfl, rfl, wa_nil ⟨_, rfl, by rw [List.length_map]; omega, by rw [List.length_map]; omega, fun x hx => ?_⟩⟩)))))))))
    obtain ⟨t, ht, rfl⟩ := List.mem_map.mp hx
    obtain ⟨w1, w3⟩ := po.wide t ht
    refine wg_tup rfl (wg_cons (wg_name (by simp) (wg_cons (wg_name (by simp) (wg_nil ?_)))))
    refine ws_seq (ws_asg (wp_tup (wa_cons (wp_var rfl (wa_cons (wp_tupOf (wa_cons (wp_lcAll (wi_rng1 (wa_cons (wp_var rfl (wa_nil ⟨_, rfl, by omega, by omega, ?_, fun _ y => ∃ j : Nat, j < top ∧ y = .int (j : Nat), fun d hd => ?_, fun ys hp => wa_nil ⟨_, .inl rfl, wa_nil ⟨sz_le (by simp), ?_⟩⟩⟩))))))))))))
    · rw [Int.toNat_natCast, dRange_len]
      exact sz_le (by omega)
    · exact wg_name (by simp) (wp_call0 (wa_cons (wp_var rfl (wa_cons (wp_var rfl (wa_nil ⟨top, rfl, t0, by omega, fun j hj => ⟨j, hj, rfl⟩⟩))))))
    obtain ⟨ns, rfl, ln, hn⟩ := paired_ints hp
    rw [Int.toNat_natCast, dRange_len] at ln
    have rok : RowOk h.tabs (t.1, ns) := ⟨by
      show widOf h.tabs t.1 = some ns.length
      rw [ln]
      exact kget_of_mem po.ok.tabs.nodup ht, fun k hk => (hn k hk).1, by show ns.length ≤ 100; omega⟩
    have e6 : rs.map dRow ++ [dRow (t.1, ns)] = (rs ++ [(t.1, ns)]).map dRow := by
      rw [List.map_append]
      rfl
    have all : ∀ r ∈ rs ++ [(t.1, ns)], RowOk h.tabs r := fun r hr => by
      rcases List.mem_append.mp hr with hr | hr
      · exact ok.each r hr
      · rw [List.mem_singleton.mp hr]
        exact rok
    have stay : ∃ (rs : List Row) (s5 s6 s7 s8 : Sl), _ = [.d .box, .d (dPlan h), .d (.int (many : Nat)), .d (.int (top : Nat)), .own (.lst (rs.map dRow)), s5, s6, s7, s8, .no] ∧ RowsOk h rs ∧ rs.length ≤ i + 1 ∧ ∀ r ∈ rs, ∀ n ∈ r.2, n < top := ⟨rs, .d (.int (i : Nat)), .d (.str t.1), .d (.int (t.2 : Nat)), .d (dRow (t.1, ns)), rfl, ok, by omega, lt⟩
    refine ws_if (wt_peek (i := 4) rfl (.inl ⟨_, rfl⟩) (wt_and (wt_B (wp_notInD (wp_var rfl (wp_var rfl ⟨2, _, by omega, rfl, pur_row (row_str po.ok.tabs rok), fun d hd => ?_, fun r hr => ⟨_, rfl, ?_⟩⟩))))))
    · obtain ⟨q, hq, rfl⟩ := List.mem_map.mp hd
      exact pur_row (row_str po.ok.tabs (ok.each q hq))
    cases r with
    | true =>
      rw [Bool.not_true, if_neg Bool.false_ne_true, if_neg Bool.false_ne_true]
      exact ws_next stay
    | false =>
      rw [Bool.not_false, if_pos rfl]
      refine wt_B (wp_call0 (wa_cons (wp_var rfl (wa_cons (wp_cat (wp_var rfl (wp_lst (wa_cons (wp_var rfl (wa_nil ⟨sz_le (by simp), rs.map dRow, _, rfl, rfl, ?_, wa_nil ⟨h, rs ++ [(t.1, ns)], ?_, po.ok, all, ?_, fun r2 hr2 => ⟨_, rfl, ?_⟩⟩⟩))))))))))
      · rw [List.length_map]
        exact sz_le (by simp; omega)
      · rw [← e6]
        rfl
      · rw [List.length_append]
        show rs.length + 1 ≤ 1000
        omega
      cases r2 with
      | false =>
        rw [if_neg Bool.false_ne_true]
        exact ws_next stay
      | true =>
        rw [if_pos rfl]
        refine ws_append (i := 4) rfl (sz_lt (by rw [List.length_map]; omega)) (wp_var rfl ?_)
        refine ⟨rs ++ [(t.1, ns)], .d (.int (i : Nat)), .d (.str t.1), .d (.int (t.2 : Nat)), .d (dRow (t.1, ns)), ?_, ⟨all, hr2 rfl, ?_⟩, ?_, ?_⟩
        · rw [← e6]
          rfl
        · rw [List.length_append]
          show rs.length + 1 ≤ 1000
          omega
        · rw [List.length_append]
          show rs.length + 1 ≤ _
          omega
        · intro q hq n hn'
          rcases List.mem_append.mp hq with hq | hq
          · exact lt q hq n hn'
          · rw [List.mem_singleton.mp hq] at hn'
            exact (hn n hn').2
  rintro _ ⟨rs, s5, s6, s7, s8, rfl, ok, lr, lt⟩
  rw [dRange_len, Int.toNat_natCast] at lr
  exact ws_share (i := 4) rfl (.inl ⟨_, rfl⟩) (ws_ret (wp_var rfl (hs rs ok (by omega) lt)))
end
end FS

/-! FsW3: the law's members and questions: _law_names, _law_member, _law_question. -/
namespace FS
open PySem L2
def nameW : List Str := ["p", "f", "b", "told"]
theorem name_word {x : Str} (h : x ∈ nameW) : wordB x = true := by
  have : nameW.all wordB = true := by decide +kernel
  exact List.all_eq_true.mp this x h
/-- a drawn term -/
def LTm (t : Tm) : Prop := (∃ i : Int, t = .inl i ∧ 0 ≤ i ∧ i ≤ 3) ∨ ∃ x ∈ nameW, t = .inr x
theorem ltm_tmB {t : Tm} (h : LTm t) : tmB t = true := by
  rcases h with ⟨i, rfl, h1, _⟩ | ⟨x, hx, rfl⟩
  · exact decide_eq_true h1
  · exact name_word hx
/-- a drawn member -/
structure LMem (h : House) (m : Mem) : Prop where
  head : ∀ t ∈ m.1, LTm t
  some : m.2 ≠ []
  wid : ∀ a ∈ m.2, widOf h.tabs a.1 = Option.some a.2.length
  each : ∀ a ∈ m.2, ∀ t ∈ a.2, LTm t
  names : ∀ x, .inr x ∈ m.1 → InAts x m.2
  name : ∃ x, InAts x m.2
/-- a drawn question -/
structure LQ (h : House) (n : Nat) (k : Nat) (q : Ques) : Prop where
  each : ∀ m ∈ q.mems, LMem h m
  some : q.mems ≠ []
  few : q.mems.length ≤ n
  atoms : ∀ m ∈ q.mems, m.2.length ≤ k
  size : ∃ s, s ≤ 2 ∧ q.told ≤ s ∧ ∀ m ∈ q.mems, m.1.length = s
def dAsked (q : Ques) : D := .tup [.lst (q.mems.map dMemL), .int (q.told : Nat)]
theorem kD_flat (t : Tm) : (kD t).v.isSome = true ∧ nbl (kD t) = true := by cases t <;> exact ⟨rfl, rfl⟩
section
variable {K : PySem.W.Frag} {B : Addr → Prop} {ρ : Ro} {te ta tb : TE} {S : D → Prop}
/-- an item of one's own list -/
theorem wp_ixO {i : Nat} {ds : List D} (hi : ρ[i]? = some (.own (.lst ds))) (h : Wp K B tb ρ fun b => ∃ j d, b = .int j ∧ atI ds j = some d ∧ S d) : Wp K B (tOp (rIx K) (tVar i) tb) ρ S := fun H0 G H σ E Q k => by
  obtain ⟨l, e, gl, nb, n0, vs, h1, h2⟩ := E.ow i _ hi
  refine ⟨.ref l, e, h H0 G H σ E _ fun v b G1 H1 g1 r1 ⟨j, d, eb, hd, s⟩ => ?_⟩
  subst eb
  cases r1
  obtain ⟨u, hu, q⟩ := dts_at (h2.mono g1.g) hd
  exact .inl ⟨l, vs, j, u, rfl, rfl, .inl (.inl (g1.keep _ _ nb h1)), hu, k u d G1 H1 g1 q s⟩
end
section
variable {P : Program} {w : World} {K : PySem.W.Frag} {mg : Str → Option Value} {base : Heap} {cH cS cQ : Addr}
def sp_law_names : Spc := fun ds S => ∃ (hd : List Tm) (as : List At), ds = [dTms hd, .lst (as.map dAt)] ∧ hd.length ≤ 1000 ∧ as.length ≤ 1000 ∧ (∀ a ∈ as, a.2.length ≤ 100) ∧ ∀ ns : List Str, ns.Nodup → (∀ x, x ∈ ns ↔ (.inr x ∈ hd ∨ InAts x as)) → ns.length ≤ 200000 → S (.lst (ns.map D.str))
theorem len_law_names : ∀ ds S, sp_law_names ds S → ds.length = 2 := by rintro _ _ ⟨_, _, rfl, _⟩; rfl
theorem sc__law_names : FnScope ["_law_head", "_law_atoms", "_law_found", "_law_every", "_law_word", "_law_terms", "_law_term"] ["_law_head", "_law_atoms"] (defScope (topS 64)) := ⟨rfl, rfl, rfl, by decide +kernel, rfl, by decide +kernel, by decide +kernel⟩
/-! slots: 0 _law_head, 1 _law_atoms, 2 _law_found, 3 _law_every, 4 _law_word, 5 _law_terms, 6 _law_term; cells: [] -/
theorem Txt.d_law_names (T : Txt K mg cH cS cQ) : Df P w K mg base 1 "_law_names" ["_law_head", "_law_atoms"] [] sp_law_names := by
  refine df_mk T.a_law_names sc__law_names (fun _ _ _ _ _ _ us hl => match us, hl with | [_, _], _ => rfl) len_law_names fun f cdv A outer s H E hr => ?_
  refine ⟨_,
    (pss_cons (ps_par (i := 2) (j := 3) (by rfl) sc__law_names.nd rfl rfl (by decide) rfl rfl (pa_cons (pe_lst pa_nil) (pa_cons (pe_callTy (kCR (K := K) (r := rListS) cr_list) (by rfl) T.f_list (by decide +kernel) (pa_cons (pv 0) pa_nil)) pa_nil)) (by rfl))
    (pss_cons (ps_for PassesOwn.never rfl (kPI (K := K) (w := iSeq) (pi_seq (pv 1))) (kPG (K := K) (w := gTup) (pg_tup (n := 2) rfl (pgs_cons (pg_name (i := 4) sc__law_names.nd rfl (by first | exact Or.inl rfl | exact Or.inr rfl)) (pgs_cons (pg_name (i := 5) sc__law_names.nd rfl (by first | exact Or.inl rfl | exact Or.inr rfl)) pgs_nil))))
      (pss_one (ps_expr (kBM (K := K) (pe_bm PySem.F.plainAttrs_list PySem.F.slot_list_extend PySem.F.type_list_extend (kMt (K := K) (r := rExtA) mt_extA) (pv 3) (pa_cons (pv 5) pa_nil))))))
    (pss_cons (ps_for PassesOwn.never rfl (kPI (K := K) (w := iSeq) (pi_seq (pv 3))) (pg_name (i := 6) sc__law_names.nd rfl (by first | exact Or.inl rfl | exact Or.inr rfl))
      (pss_one (ps_if (PW.pt (pw_and (pt_val (pe_callB (kCR (K := K) (r := rIsi) call_isi) (by rfl) T.f_isinstance (by decide +kernel) (pa_cons (pv 6) (pa_cons (pe_ty (n := "str") T.f_str) pa_nil)))) (pw_and1 (pt_cmpR (kOp (K := K) (r := fun K => rIn K true) op_notIn_seq) (pv 6) (pv 2) rfl))))
        (pss_one (ps_expr (kBM (K := K) (pe_bm PySem.F.plainAttrs_list PySem.F.slot_list_append PySem.F.type_list_append mt_append (pv 2) (pa_cons (pv 6) pa_nil)))))
        pss_nil)))
    (pss_one (ps_ret (pv 2)))))), fun B ds S h => ?_⟩
  obtain ⟨hd0, as, rfl, lh, la, l100, hs⟩ := h
  refine ws_seq (ws_parNN (by decide) (wn_nil (wn_listOf (wa_cons (wp_var rfl (wa_nil ⟨hd0.map kD, .inr rfl, ?_⟩))))))
  refine ws_seq (ws_for (vs := [4, 5]) (wi_seqV (i := 1) rfl (.inl rfl) ⟨fun i ρ' => ∃ (ts : List Tm) (s4 s5 : Sl), ρ' = [.d (dTms hd0), .d (.lst (as.map dAt)), .own (.lst []), .own (.lst (ts.map kD)), s4, s5, .no] ∧ (∀ t, t ∈ ts ↔ t ∈ hd0 ∨ ∃ a ∈ as.take i, t ∈ a.2) ∧ ts.length ≤ 1000 + 100 * i, ⟨hd0, _, _, rfl, fun t => by simp, by omega⟩, ?_, ?_⟩))
  · rintro i d _ hd ⟨ts, s4, s5, rfl, ht, lt⟩
    rw [List.getElem?_map] at hd
    cases hai : as[i]? with
    | none => rw [hai] at hd; cases hd
    | some a =>
    rw [hai] at hd
    cases hd
    have am := List.mem_of_getElem? hai
    have il := (List.getElem?_eq_some_iff.mp hai).1
    have et : as.take (i + 1) = as.take i ++ [a] := by rw [List.take_add_one, hai]; rfl
    have l1 := l100 a am
    refine wg_tup rfl (wg_cons (wg_name (by simp) (wg_cons (wg_name (by simp) (wg_nil ?_)))))
    refine ws_ext (i := 3) rfl (wp_var rfl ⟨a.2.map kD, .inr rfl, by rw [List.length_map, List.length_map]; exact sz_le (by omega), ts ++ a.2, _, _, by rw [List.map_append]; rfl, fun t => ?_, by rw [List.length_append]; omega⟩)
    rw [List.mem_append, ht, et]
    constructor
    · rintro ((h | ⟨c, hc, h⟩) | h)
      · exact .inl h
      · exact .inr ⟨c, List.mem_append_left _ hc, h⟩
      · exact .inr ⟨a, List.mem_append_right _ (List.mem_singleton.mpr rfl), h⟩
    · rintro (h | ⟨c, hc, h⟩)
      · exact .inl (.inl h)
      · rcases List.mem_append.mp hc with hc | hc
        · exact .inl (.inr ⟨c, hc, h⟩)
        · rw [List.mem_singleton.mp hc] at h
          exact .inr h
  rintro _ ⟨ts, s4, s5, rfl, ht, lt⟩
  rw [List.length_map, List.take_length] at ht
  rw [List.length_map] at lt
  refine ws_share (i := 3) rfl (.inl ⟨_, rfl⟩) ?_
  refine ws_seq (ws_for (vs := [6]) (wi_seqV (i := 3) rfl (.inl rfl) ⟨fun i ρ' => ∃ (ns : List Str) (s6 : Sl), ρ' = [.d (dTms hd0), .d (.lst (as.map dAt)), .own (.lst (ns.map D.str)), .d (.lst (ts.map kD)), s4, s5, s6] ∧ ns.Nodup ∧ (∀ x, x ∈ ns ↔ .inr x ∈ ts.take i) ∧ ns.length ≤ i, ⟨[], _, rfl, List.nodup_nil, fun x => by simp, Nat.le_refl _⟩, ?_, ?_⟩))
  · rintro i d _ hd ⟨ns, s6, rfl, nd, hn, ln⟩
    rw [List.getElem?_map] at hd
    cases hti : ts[i]? with
    | none => rw [hti] at hd; cases hd
    | some t =>
    rw [hti] at hd
    cases hd
    have il := (List.getElem?_eq_some_iff.mp hti).1
    have et : ts.take (i + 1) = ts.take i ++ [t] := by rw [List.take_add_one, hti]; rfl
    refine wg_name (by simp) (ws_if (wt_peek (i := 2) rfl (.inl ⟨_, rfl⟩) ?_))
    cases t with
    | inl j =>
      refine wt_and (wt_B (wp_isi (wp_var rfl ⟨_, _, rfl, rfl, false, rfl, ?_⟩)))
      rw [if_neg Bool.false_ne_true, if_neg Bool.false_ne_true]
      refine ws_next ⟨ns, _, rfl, nd, fun x => ?_, by omega⟩
      rw [hn, et, List.mem_append, List.mem_singleton]
      exact ⟨.inl, fun z => z.elim id fun e => by cases e⟩
    | inr x =>
      refine wt_and (wt_B (wp_isi (wp_var rfl ⟨_, _, rfl, rfl, true, rfl, ?_⟩)))
      rw [if_pos rfl]
      refine wt_B (wp_in (neg := true) (wp_var rfl (wp_var rfl ⟨_, .inl rfl, rfl, rfl, fun d hd => ?_, fun r hr => ⟨_, rfl, ?_⟩⟩)))
      · obtain ⟨y, _, rfl⟩ := List.mem_map.mp hd
        exact ⟨rfl, rfl⟩
      have er : r = true ↔ x ∈ ns := hr.trans ⟨fun z => by
        obtain ⟨y, hy, e⟩ := List.mem_map.mp z
        rw [← D.str.inj e]
        exact hy, fun z => List.mem_map.mpr ⟨x, z, rfl⟩⟩
      rw [if_pos rfl]
      cases r with
      | true =>
        rw [Bool.not_true, if_neg Bool.false_ne_true]
        refine ws_next ⟨ns, _, rfl, nd, fun y => ?_, by omega⟩
        rw [hn, et, List.mem_append, List.mem_singleton]
        exact ⟨.inl, fun z => z.elim id fun e => by cases e; exact (hn x).mp (er.mp rfl)⟩
      | false =>
        rw [Bool.not_false, if_pos rfl]
        have nx : x ∉ ns := fun z => Bool.false_ne_true (er.mpr z)
        refine ws_append (i := 2) rfl (sz_lt (by rw [List.length_map]; omega)) (wp_var rfl ⟨ns ++ [x], _, by rw [List.map_append]; rfl, ?_, fun y => ?_, by rw [List.length_append]; show ns.length + 1 ≤ _; omega⟩)
        · rw [List.nodup_append]
          exact ⟨nd, List.nodup_cons.mpr ⟨List.not_mem_nil, List.nodup_nil⟩, fun a ha b hb e => nx (by rw [List.mem_singleton.mp hb] at e; rw [← e]; exact ha)⟩
        · rw [List.mem_append, List.mem_singleton, hn, et, List.mem_append, List.mem_singleton]
          exact or_congr Iff.rfl ⟨fun e => congrArg Sum.inr e, fun e => Sum.inr.inj e⟩
  rintro _ ⟨ns, s6, rfl, nd, hn, ln⟩
  rw [List.length_map, List.take_length] at hn
  rw [List.length_map] at ln
  refine ws_share (i := 2) rfl (.inl ⟨_, rfl⟩) (ws_ret (wp_var rfl (hs ns nd (fun x => ?_) (by omega))))
  rw [hn, ht]
  exact Iff.rfl
/-- drawn atoms -/
def LAts (h : House) (as : List At) : Prop := ∀ a ∈ as, widOf h.tabs a.1 = some a.2.length ∧ ∀ t ∈ a.2, LTm t
def sp_law_member : Spc := fun ds S => ∃ (h : House) (many size : Nat), ds = [.box, dPlan h, .int (many : Nat), .int (size : Nat)] ∧ PlanOk h ∧ 0 < many ∧ many ≤ 5 ∧ size ≤ 5 ∧ ∀ m : Mem, LMem h m → m.1.length = size → m.2.length ≤ many → S (dMemL m)
theorem len_law_member : ∀ ds S, sp_law_member ds S → ds.length = 4 := by rintro _ _ ⟨_, _, _, rfl, _⟩; rfl
theorem sc__law_member : FnScope ["_law_box_here", "_law_plan", "_law_many", "_law_size", "_law_atoms", "_law_turn", "_law_word", "_law_wide", "_law_terms", "_law_at", "_law_number", "_law_name", "_law_head", "_law_place"] ["_law_box_here", "_law_plan", "_law_many", "_law_size"] (defScope (topS 65)) := ⟨rfl, rfl, rfl, by decide +kernel, rfl, by decide +kernel, by decide +kernel⟩
/-! slots: 0 _law_box_here, 1 _law_plan, 2 _law_many, 3 _law_size, 4 _law_atoms, 5 _law_turn, 6 _law_word, 7 _law_wide, 8 _law_terms, 9 _law_at, 10 _law_number, 11 _law_name, 12 _law_head, 13 _law_place; cells: [] -/
theorem Txt.d_law_member (T : Txt K mg cH cS cQ) : Df P w K mg base 3 "_law_member" ["_law_box_here", "_law_plan", "_law_many", "_law_size"] [] sp_law_member := by
  refine df_mk T.a_law_member sc__law_member (fun _ _ _ _ _ _ us hl => match us, hl with | [_, _, _, _], _ => rfl) len_law_member fun f cdv A outer s H E hr => ?_
  refine ⟨_,
    (pss_cons (ps_set (i := 4) sc__law_member.nd rfl (by first | exact Or.inl rfl | exact Or.inr rfl) (pe_lst pa_nil))
    (pss_cons (ps_for PassesOwn.never rfl (pi_range1 (by rfl) T.f_range (pa_cons (pe_op op_add pe_int (pe_df T.d_law_take hr (by decide) (by rfl) (pa_cons (pv 0) (pa_cons (pv 2) pa_nil)))) pa_nil)) (pg_name (i := 5) sc__law_member.nd rfl (by first | exact Or.inl rfl | exact Or.inr rfl))
      (pss_cons (ps_asg (pe_df T.d_law_pick hr (by decide) (by rfl) (pa_cons (pv 0) (pa_cons (pe_ix (kIx (K := K) (r := rIx) ix_seq) (pv 1) pe_int (fun _ _ => rfl)) pa_nil))) (kPG (K := K) (w := gTup) (pg_tup (n := 2) rfl (pgs_cons (pg_name (i := 6) sc__law_member.nd rfl (by first | exact Or.inl rfl | exact Or.inr rfl)) (pgs_cons (pg_name (i := 7) sc__law_member.nd rfl (by first | exact Or.inl rfl | exact Or.inr rfl)) pgs_nil)))))
      (pss_cons (ps_set (i := 8) sc__law_member.nd rfl (by first | exact Or.inl rfl | exact Or.inr rfl) (pe_lst pa_nil))
      (pss_cons (ps_for PassesOwn.never rfl (pi_range1 (by rfl) T.f_range (pa_cons (pv 7) pa_nil)) (pg_name (i := 9) sc__law_member.nd rfl (by first | exact Or.inl rfl | exact Or.inr rfl))
        (pss_cons (ps_par (i := 10) (j := 11) (by rfl) sc__law_member.nd rfl rfl (by decide) rfl rfl (pa_cons (pe_op op_add pe_int (pe_df T.d_law_take hr (by decide) (by rfl) (pa_cons (pv 0) (pa_cons pe_int pa_nil)))) (pa_cons (pe_df T.d_law_pick hr (by decide) (by rfl) (pa_cons (pv 0) (pa_cons (pe_lst (pa_cons pe_str (pa_cons pe_str (pa_cons pe_str (pa_cons pe_str pa_nil))))) pa_nil))) pa_nil)) (by rfl))
        (pss_one (ps_expr (kBM (K := K) (pe_bm PySem.F.plainAttrs_list PySem.F.slot_list_append PySem.F.type_list_append mt_append (pv 8) (pa_cons (pe_ifExp (pt_cmpR op_eq (pe_df T.d_law_take hr (by decide) (by rfl) (pa_cons (pv 0) (pa_cons pe_int pa_nil))) pe_int (nomark _)) (pv 10) (pv 11)) pa_nil)))))))
      (pss_one (ps_expr (kBM (K := K) (pe_bm PySem.F.plainAttrs_list PySem.F.slot_list_append PySem.F.type_list_append mt_append (pv 4) (pa_cons (pe_tup (pa_cons (pv 6) (pa_cons (pe_callTy (kCR (K := K) (r := rTupS) cr_tup) (by rfl) T.f_tuple (by decide +kernel) (pa_cons (pv 8) pa_nil)) pa_nil))) pa_nil)))))))))
    (pss_cons (ps_if (pt_cmpR (kOp (K := K) (r := rEqD) (op_eqD (rm_u hr))) (pe_df T.d_law_names hr (by decide) (by rfl) (pa_cons (pe_tup pa_nil) (pa_cons (pv 4) pa_nil))) (pe_lst pa_nil) (nomark _))
      (pss_one (ps_asg (pe_tup (pa_cons (pe_ix (kIx (K := K) (r := rIx) ix_seq) (pe_ix (kIx (K := K) (r := rIx) ix_seq) (pv 4) pe_int (fun _ _ => rfl)) pe_int (fun _ _ => rfl)) (pa_cons (pe_op (kOp (K := K) (r := rCatA) op_catA) (pe_tup (pa_cons pe_str pa_nil)) (pe_slice (kSl (K := K) (r := rSlA) sl_tupA) (pe_ix (kIx (K := K) (r := rIx) ix_seq) (pe_ix (kIx (K := K) (r := rIx) ix_seq) (pv 4) pe_int (fun _ _ => rfl)) pe_int (fun _ _ => rfl)) (po_some pe_int) po_none)) pa_nil))) (pg_sub (pv 4) pe_int set_list)))
      pss_nil)
    (pss_cons (ps_set (i := 12) sc__law_member.nd rfl (by first | exact Or.inl rfl | exact Or.inr rfl) (pe_lst pa_nil))
    (pss_cons (ps_for PassesOwn.never rfl (pi_range1 (by rfl) T.f_range (pa_cons (pv 3) pa_nil)) (pg_name (i := 13) sc__law_member.nd rfl (by first | exact Or.inl rfl | exact Or.inr rfl))
      (pss_one (ps_expr (kBM (K := K) (pe_bm PySem.F.plainAttrs_list PySem.F.slot_list_append PySem.F.type_list_append mt_append (pv 12) (pa_cons (pe_ifExp (pt_cmpR op_eq (pe_df T.d_law_take hr (by decide) (by rfl) (pa_cons (pv 0) (pa_cons pe_int pa_nil))) pe_int (nomark _)) (pe_df T.d_law_take hr (by decide) (by rfl) (pa_cons (pv 0) (pa_cons pe_int pa_nil))) (pe_df T.d_law_pick hr (by decide) (by rfl) (pa_cons (pv 0) (pa_cons (pe_df T.d_law_names hr (by decide) (by rfl) (pa_cons (pe_tup pa_nil) (pa_cons (pv 4) pa_nil))) pa_nil)))) pa_nil))))))
    (pss_one (ps_ret (pe_tup (pa_cons (pe_callTy (kCR (K := K) (r := rTupS) cr_tup) (by rfl) T.f_tuple (by decide +kernel) (pa_cons (pv 12) pa_nil)) (pa_cons (pv 4) pa_nil)))))))))), fun B ds S h => ?_⟩
  obtain ⟨h, many, size, rfl, po, m0, m5, s5', hs⟩ := h
  have tl := po.few
  have t1 : 0 < h.tabs.length := List.length_pos_iff.mpr po.ok.tabs.some
  have wd3 : ∀ {a : At}, widOf h.tabs a.1 = some a.2.length → 1 ≤ a.2.length ∧ a.2.length ≤ 3 := fun {a} e => po.wide (a.1, a.2.length) (mem_of_kget e)
  refine ws_seq (ws_asgN (wn_nil ?_))
  refine ws_seq (ws_for (vs := [5]) (wi_rng1 (wa_cons (wp_add (wp_int (wp_call0 (wa_cons (wp_var rfl (wa_cons (wp_var rfl (wa_nil ⟨many, rfl, m0, by omega, fun m hm => ⟨_, _, rfl, rfl, wa_nil ⟨_, rfl, by omega, by omega, fun i ρ' => ∃ (as : List At) (s5 s6 s7 s8 s9 s10 s11 s12 s13 : Sl), ρ' = [.d .box, .d (dPlan h), .d (.int (many : Nat)), .d (.int (size : Nat)), .own (.lst (as.map dAt)), s5, s6, s7, s8, s9, s10, s11, s12, s13] ∧ LAts h as ∧ as.length = i, ⟨[], _, _, _, _, _, _, _, _, _, rfl, fun _ h => absurd h List.not_mem_nil, rfl⟩, ?_, ?_⟩⟩⟩)))))))))))
  · rintro i d _ hd ⟨as, s5, s6, s7, s8, s9, s10, s11, s12, s13, rfl, hA, la⟩
    obtain ⟨hi, rfl⟩ := dRange_get hd
    have hi' : i < 6 := by
      have : ((1 : Int) + (m : Nat)).toNat = 1 + m := by omega
      omega
    refine wg_name (by simp) (ws_seq (ws_asgG (vs := [6, 7]) (wp_call0 (wa_cons (wp_var rfl (wa_cons (wp_ix (wp_var rfl (wp_int ⟨_, _, .lst (h.tabs.map dTab), .inr rfl, rfl, rfl, wa_nil ⟨_, rfl, by rw [List.length_map]; omega, by rw [List.length_map]; omega, fun x hx => ?_⟩⟩)))))))))
    obtain ⟨t, ht, rfl⟩ := List.mem_map.mp hx
    obtain ⟨w1, w3⟩ := po.wide t ht
    refine wg_tup rfl (wg_cons (wg_name (by simp) (wg_cons (wg_name (by simp) (wg_nil ?_)))))
    refine ws_seq (ws_asgN (wn_nil ?_))
    refine ws_seq (ws_for (vs := [9]) (wi_rng1 (wa_cons (wp_var rfl (wa_nil ⟨_, rfl, by omega, by omega, fun j ρ' => ∃ (ts : List Tm) (s9 s10 s11 : Sl), ρ' = [.d .box, .d (dPlan h), .d (.int (many : Nat)), .d (.int (size : Nat)), .own (.lst (as.map dAt)), .d (.int (i : Nat)), .d (.str t.1), .d (.int (t.2 : Nat)), .own (.lst (ts.map kD)), s9, s10, s11, s12, s13] ∧ ts.length = j ∧ ∀ t ∈ ts, LTm t, ⟨[], _, _, _, rfl, rfl, fun _ h => absurd h List.not_mem_nil⟩, ?_, ?_⟩)))))
    · rintro j d _ hd ⟨ts, s9, s10, s11, rfl, lt, hts⟩
      obtain ⟨hj, rfl⟩ := dRange_get hd
      rw [Int.toNat_natCast] at hj
      refine wg_name (by simp) (ws_seq (ws_parDD (wp_add (wp_int (wp_call0 (wa_cons (wp_var rfl (wa_cons (wp_int (wa_nil ⟨3, rfl, by omega, by omega, fun k hk => ⟨_, _, rfl, rfl, wp_call0 (wa_cons (wp_var rfl (wa_cons (wp_lst (wa_cons (wp_str (wa_cons (wp_str (wa_cons (wp_str (wa_cons (wp_str (wa_nil ⟨sz_le (by simp), wa_nil ⟨nameW.map D.str, rfl, by decide, by decide, fun x hx => ?_⟩⟩)))))))))))))⟩⟩))))))))))
      obtain ⟨x, hxw, rfl⟩ := List.mem_map.mp hx
      refine ws_append (i := 8) rfl (sz_lt (by rw [List.length_map]; omega)) (Wp.imp (S := fun d => ∃ t, d = kD t ∧ LTm t) ?_ fun d ⟨t', e, ht'⟩ => ⟨ts ++ [t'], .d (.int (j : Nat)), .d (.int (1 + (k : Nat))), .d (.str x), ?_, by rw [List.length_append]; show ts.length + 1 = _; omega, fun u hu => ?_⟩)
      · refine wp_if (wt_B (wp_eqF (wp_call0 (wa_cons (wp_var rfl (wa_cons (wp_int (wa_nil ⟨6, rfl, by omega, by omega, fun q hq => wp_int ⟨rfl, rfl, rfl, rfl, fun r hr => ⟨_, rfl, ?_⟩⟩⟩))))))))
        cases r with
        | true =>
          rw [if_pos rfl]
          exact wp_var rfl ⟨.inl (1 + (k : Nat)), rfl, .inl ⟨_, rfl, by omega, by omega⟩⟩
        | false =>
          rw [if_neg Bool.false_ne_true]
          exact wp_var rfl ⟨.inr x, rfl, .inr ⟨x, hxw, rfl⟩⟩
      · rw [e, List.map_append]
        rfl
      · rcases List.mem_append.mp hu with hu | hu
        · exact hts u hu
        · rw [List.mem_singleton.mp hu]
          exact ht'
    rintro _ ⟨ts, s9, s10, s11, rfl, lt, hts⟩
    rw [dRange_len, Int.toNat_natCast] at lt
    refine ws_share (i := 8) rfl (.inl ⟨_, rfl⟩) (ws_append (i := 4) rfl (sz_lt (by rw [List.length_map]; omega)) (wp_tup (wa_cons (wp_var rfl (wa_cons (wp_tupOf (wa_cons (wp_var rfl (wa_nil ⟨_, .inl rfl, wa_nil ⟨sz_le (by simp), ?_⟩⟩)))))))))
    have e6 : as.map dAt ++ [D.tup [.str t.1, .tup (ts.map kD)]] = (as ++ [(t.1, ts)]).map dAt := by
      rw [List.map_append]
      rfl
    rw [e6]
    refine ⟨as ++ [(t.1, ts)], _, _, _, _, _, _, _, _, _, rfl, fun a ha => ?_, by rw [List.length_append]; show as.length + 1 = _; omega⟩
    rcases List.mem_append.mp ha with ha | ha
    · exact hA a ha
    · rw [List.mem_singleton.mp ha]
      refine ⟨?_, hts⟩
      show widOf h.tabs t.1 = some ts.length
      rw [lt]
      exact kget_of_mem po.ok.tabs.nodup ht
  rintro _ ⟨as, s5, s6, s7, s8, s9, s10, s11, s12, s13, rfl, hA, la⟩
  rw [dRange_len, show ((1 : Int) + (m : Nat)).toNat = 1 + m by omega] at la
  have a100 : ∀ {as : List At}, LAts h as → ∀ a ∈ as, a.2.length ≤ 100 := fun hA a ha => by
    have := wd3 (hA a ha).1
    omega
  have nstr : ∀ {as : List At}, LAts h as → ∀ x, InAts x as → PyData.strOk x = true := fun hA x ⟨a, ha, hx⟩ => by
    rcases (hA a ha).2 _ hx with ⟨i, e, _⟩ | ⟨y, hy, e⟩
    · cases e
    · cases e
      exact word_ok (name_word hy)
  refine ws_seq (WpS.imp (P := { nx := fun ρ' => ∃ (as : List At) (s5 s6 s7 s8 s9 s10 s11 s12 s13 : Sl), ρ' = [.d .box, .d (dPlan h), .d (.int (many : Nat)), .d (.int (size : Nat)), .own (.lst (as.map dAt)), s5, s6, s7, s8, s9, s10, s11, s12, s13] ∧ LAts h as ∧ as.length = 1 + m ∧ ∃ x, InAts x as, rt := fun _ => False }) ?_ (fun ρ' ⟨as, s5, s6, s7, s8, s9, s10, s11, s12, s13, e, hA, la, hx⟩ => ?_) (fun _ z => z.elim) (fun _ z => z) (fun _ z => z))
  · refine ws_if (wt_peek (i := 4) rfl (.inl ⟨_, rfl⟩) (wt_B (wp_eqD (wp_call0 (wa_cons (wp_tup (wa_nil ⟨sz_le (by simp), wa_cons (wp_var rfl (wa_nil ⟨[], as, rfl, by simp, by omega, a100 hA, fun ns nd hn ln => wp_lst (wa_nil ⟨Nat.zero_le _, 2, by omega, .lst 1 _ (fun d hd => ?_), .lst 1 _ (fun _ h => absurd h List.not_mem_nil), fun r hr => ⟨_, rfl, ?_⟩⟩)⟩))⟩)))))))
    · obtain ⟨x, hx, rfl⟩ := List.mem_map.mp hd
      exact .str _ _ (nstr hA x (((hn x).mp hx).resolve_left List.not_mem_nil))
    cases r with
    | false =>
      rw [if_neg Bool.false_ne_true]
      refine ws_next ⟨as, _, _, _, _, _, _, _, _, _, rfl, hA, la, ?_⟩
      cases ns with
      | nil => exact absurd (hr.mpr rfl) Bool.false_ne_true
      | cons x l => exact ⟨x, ((hn x).mp (List.mem_cons_self ..)).resolve_left List.not_mem_nil⟩
    | true =>
      rw [if_pos rfl]
      obtain ⟨a0, rest, rfl⟩ : ∃ a0 rest, as = a0 :: rest := by
        cases as with
        | nil => simp at la; omega
        | cons a l => exact ⟨a, l, rfl⟩
      obtain ⟨w0, t0⟩ := hA a0 (List.mem_cons_self ..)
      have w13 := wd3 w0
      have at0 : ∀ (a : At) (l : List At), atI ((a :: l).map dAt) 0 = some (dAt a) := fun a l => atI_0 rfl
      have p0 : LAts h ((a0.1, .inr ("p" : Str) :: a0.2.drop 1) :: rest) := fun a ha => by
        rcases List.mem_cons.mp ha with rfl | ha
        · refine ⟨?_, fun t ht => ?_⟩
          · show widOf h.tabs a0.1 = some (a0.2.drop 1).length.succ
            rw [w0, List.length_drop]
            congr 1
            omega
          · rcases List.mem_cons.mp ht with rfl | ht
            · exact .inr ⟨_, by decide, rfl⟩
            · exact t0 t (List.mem_of_mem_drop ht)
        · exact hA a (List.mem_cons_of_mem _ ha)
      refine ws_setL (i := 4) (j := 0) rfl (by rw [List.length_map]; simp) (wp_tup (wa_cons (wp_ix (wp_ixO (i := 4) rfl (wp_int ⟨_, dAt a0, rfl, at0 _ _, wp_int ⟨[.str a0.1, dTms a0.2], _, .str a0.1, .inr rfl, rfl, rfl, wa_cons (wp_catT (wp_tup (wa_cons (wp_str (wa_nil ⟨sz_le (by simp), wp_slT (wp_ix (wp_ixO (i := 4) rfl (wp_int ⟨_, dAt a0, rfl, at0 _ _, wp_int ⟨[.str a0.1, dTms a0.2], _, dTms a0.2, .inr rfl, rfl, rfl, wo_some (wp_int ⟨_, rfl, wo_none ⟨a0.2.map kD, rfl, [.str "p"], _, rfl, rfl, ?_, wa_nil ⟨sz_le (by simp), wp_int ⟨rfl, ?_⟩⟩⟩⟩)⟩⟩)))⟩)))))⟩⟩)))))
      · rw [cutD_drop1, List.length_drop, List.length_map]
        exact sz_le (by simp; omega)
      · rw [cutD_drop1, ← List.map_drop]
        exact ⟨(a0.1, .inr ("p" : Str) :: a0.2.drop 1) :: rest, _, _, _, _, _, _, _, _, _, rfl, p0, la, _, _, List.mem_cons_self .., List.mem_cons_self ..⟩
  subst e
  obtain ⟨x0, hx0⟩ := hx
  refine ws_seq (ws_asgN (wn_nil ?_))
  refine ws_seq (ws_for (vs := [13]) (wi_rng1 (wa_cons (wp_var rfl (wa_nil ⟨_, rfl, by omega, by omega, fun j ρ' => ∃ (ts : List Tm) (s13 : Sl), ρ' = [.d .box, .d (dPlan h), .d (.int (many : Nat)), .d (.int (size : Nat)), .own (.lst (as.map dAt)), s5, s6, s7, s8, s9, s10, s11, .own (.lst (ts.map kD)), s13] ∧ ts.length = j ∧ ∀ t ∈ ts, LTm t ∧ ∀ x, t = .inr x → InAts x as, ⟨[], _, rfl, rfl, fun _ h => absurd h List.not_mem_nil⟩, ?_, ?_⟩)))))
  · rintro j d _ hd ⟨ts, s13, rfl, lt, hts⟩
    obtain ⟨hj, rfl⟩ := dRange_get hd
    rw [Int.toNat_natCast] at hj
    refine wg_name (by simp) (ws_append (i := 12) rfl (sz_lt (by rw [List.length_map]; omega)) (Wp.imp (S := fun d => ∃ t, d = kD t ∧ LTm t ∧ ∀ x, t = .inr x → InAts x as) ?_ fun d ⟨t', e, ht'⟩ => ⟨ts ++ [t'], .d (.int (j : Nat)), ?_, by rw [List.length_append]; show ts.length + 1 = _; omega, fun u hu => ?_⟩))
    · refine wp_if (wt_B (wp_eqF (wp_call0 (wa_cons (wp_var rfl (wa_cons (wp_int (wa_nil ⟨8, rfl, by omega, by omega, fun q hq => wp_int ⟨rfl, rfl, rfl, rfl, fun r hr => ⟨_, rfl, ?_⟩⟩⟩))))))))
      cases r with
      | true =>
        rw [if_pos rfl]
        exact wp_call0 (wa_cons (wp_var rfl (wa_cons (wp_int (wa_nil ⟨4, rfl, by omega, by omega, fun q hq => ⟨.inl (q : Nat), rfl, .inl ⟨_, rfl, by omega, by omega⟩, fun x e => by cases e⟩⟩)))))
      | false =>
        rw [if_neg Bool.false_ne_true]
        refine wp_peek (i := 4) rfl (.inl ⟨_, rfl⟩) (wp_call0 (wa_cons (wp_var rfl (wa_cons (wp_call0 (wa_cons (wp_tup (wa_nil ⟨sz_le (by simp), wa_cons (wp_var rfl (wa_nil ⟨[], as, rfl, by simp, by omega, a100 hA, fun ns nd hn ln => wa_nil ⟨_, rfl, ?_, by rw [List.length_map]; omega, fun y hy => ?_⟩⟩))⟩))))))))
        · rw [List.length_map]
          exact List.length_pos_of_mem ((hn x0).mpr (.inr hx0))
        · obtain ⟨x, hx, rfl⟩ := List.mem_map.mp hy
          have hxa := ((hn x).mp hx).resolve_left List.not_mem_nil
          refine ⟨rfl, .inr x, rfl, ?_, fun y e => by cases e; exact hxa⟩
          obtain ⟨a, ha, hxm⟩ := hxa
          exact (hA a ha).2 _ hxm
    · rw [e, List.map_append]
      rfl
    · rcases List.mem_append.mp hu with hu | hu
      · exact hts u hu
      · rw [List.mem_singleton.mp hu]
        exact ht'
  rintro _ ⟨ts, s13, rfl, lt, hts⟩
  rw [dRange_len, Int.toNat_natCast] at lt
  refine ws_share (i := 12) rfl (.inl ⟨_, rfl⟩) (ws_share (i := 4) rfl (.inl ⟨_, rfl⟩) (ws_ret (wp_tup (wa_cons (wp_tupOf (wa_cons (wp_var rfl (wa_nil ⟨_, .inl rfl, wa_cons (wp_var rfl (wa_nil ⟨sz_le (by simp), hs (ts, as) ⟨fun t ht => (hts t ht).1, ?_, fun a ha => (hA a ha).1, fun a ha => (hA a ha).2, fun x hx => (hts _ hx).2 x rfl, x0, hx0⟩ lt ?_⟩))⟩))))))))
  · intro e
    have : as.length = 0 := by rw [show as = [] from e]; rfl
    omega
  · show as.length ≤ many
    omega
theorem paired_map {α : Type} {f : α → D} {Pa : α → Prop} : ∀ {ds ys : List D}, Paired (fun _ y => ∃ a, y = f a ∧ Pa a) ds ys → ∃ l : List α, ys = l.map f ∧ (∀ a ∈ l, Pa a) ∧ l.length = ds.length
  | [], _, h => by
    cases h
    exact ⟨[], rfl, fun _ h => absurd h List.not_mem_nil, rfl⟩
  | d :: ds, _, h => by
    cases h with
    | cons h r =>
      obtain ⟨a, rfl, ha⟩ := h
      obtain ⟨l, rfl, hl, e⟩ := paired_map r
      exact ⟨a :: l, rfl, fun t ht => by
        rcases List.mem_cons.mp ht with rfl | ht
        · exact ha
        · exact hl t ht, by rw [List.length_cons, List.length_cons, e]⟩
def sp_law_question : Spc := fun ds S => ∃ (h : House) (most many : Nat), ds = [.box, dPlan h, .int (most : Nat), .int (many : Nat)] ∧ PlanOk h ∧ 0 < most ∧ most ≤ 5 ∧ 0 < many ∧ many ≤ 5 ∧ ∀ q : Ques, LQ h most many q → S (dAsked q)
theorem len_law_question : ∀ ds S, sp_law_question ds S → ds.length = 4 := by rintro _ _ ⟨_, _, _, rfl, _⟩; rfl
theorem sc__law_question : FnScope ["_law_box_here", "_law_plan", "_law_most", "_law_many", "_law_size", "_law_members", "_law_turn"] ["_law_box_here", "_law_plan", "_law_most", "_law_many"] (defScope (topS 66)) := ⟨rfl, rfl, rfl, by decide +kernel, rfl, by decide +kernel, by decide +kernel⟩
/-! slots: 0 _law_box_here, 1 _law_plan, 2 _law_most, 3 _law_many, 4 _law_size, 5 _law_members, 6 _law_turn; cells: ['_law_box_here', '_law_many', '_law_plan', '_law_size'] -/
theorem Txt.d_law_question (T : Txt K mg cH cS cQ) : Df P w K mg base 4 "_law_question" ["_law_box_here", "_law_plan", "_law_most", "_law_many"] [] sp_law_question := by
  refine df_mk T.a_law_question sc__law_question (fun _ _ _ _ _ _ us hl => match us, hl with | [_, _, _, _], _ => rfl) len_law_question fun f cdv A outer s H E hr => ?_
  refine ⟨_,
    (pss_cons (ps_set (i := 4) sc__law_question.nd rfl (by first | exact Or.inl rfl | exact Or.inr rfl) (pe_df T.d_law_take hr (by decide) (by rfl) (pa_cons (pv 0) (pa_cons pe_int pa_nil))))
    (pss_cons (ps_setLc (i := 5) (own := [("_law_turn", 6)]) rfl sc__law_question.nd rfl rfl (sw_true rfl rfl rfl (by decide +kernel)) (pi_range1 (by rfl) T.f_range (pa_cons (pe_op op_add pe_int (pe_df T.d_law_take hr (by decide) (by rfl) (pa_cons (pv 0) (pa_cons (pv 2) pa_nil)))) pa_nil)) (blkOk_by (own := [("_law_turn", 6)]) (by first | (show blkC ["_law_box_here", "_law_plan", "_law_most", "_law_many", "_law_size", "_law_members", "_law_turn"] (defScope (topS 66)) _ _ = true; decide +kernel) | rfl)) (fun _ _ _ _ _ => by exact (pg_name (i := 6) sc__law_question.nd rfl (by first | exact Or.inl rfl | exact Or.inr rfl))) (fun _ _ _ _ _ => by exact pts_nil) (fun _ _ _ _ _ => by exact (pe_df T.d_law_member hr (by decide) (by rfl) (pa_cons (pv 0) (pa_cons (pv 1) (pa_cons (pv 3) (pa_cons (pv 4) pa_nil)))))))
    (pss_one (ps_ret (pe_tup (pa_cons (pv 5) (pa_cons (pe_df T.d_law_take hr (by decide) (by rfl) (pa_cons (pv 0) (pa_cons (pe_op op_add (pv 4) pe_int) pa_nil))) pa_nil))))))), fun B ds S h => ?_⟩
  obtain ⟨h, most, many, rfl, po, k0, k5, m0, m5, hs⟩ := h
  refine ws_seq (ws_asg (wp_call0 (wa_cons (wp_var rfl (wa_cons (wp_int (wa_nil ⟨3, rfl, by omega, by omega, fun size hz => ?_⟩)))))))
  refine ws_seq (ws_asg (wp_lcAll (wi_rng1 (wa_cons (wp_add (wp_int (wp_call0 (wa_cons (wp_var rfl (wa_cons (wp_var rfl (wa_nil ⟨most, rfl, k0, by omega, fun t ht => ⟨_, _, rfl, rfl, wa_nil ⟨_, rfl, by omega, by omega, ?_, fun _ y => ∃ m : Mem, y = dMemL m ∧ LMem h m ∧ m.1.length = size ∧ m.2.length ≤ many, fun d hd => ?_, fun ys hp => ?_⟩⟩⟩))))))))))))
  · rw [dRange_len]
    exact sz_le (by omega)
  · exact wg_name (by simp) (wp_call0 (wa_cons (wp_var rfl (wa_cons (wp_var rfl (wa_cons (wp_var rfl (wa_cons (wp_var rfl (wa_nil ⟨h, many, size, rfl, po, m0, m5, by omega, fun m h1 h2 h3 => ⟨m, rfl, h1, h2, h3⟩⟩))))))))))
  obtain ⟨ms, rfl, hms, lm⟩ := paired_map hp
  rw [dRange_len, show ((1 : Int) + (t : Nat)).toNat = 1 + t by omega] at lm
  refine ws_ret (wp_tup (wa_cons (wp_var rfl (wa_cons (wp_call0 (wa_cons (wp_var rfl (wa_cons (wp_add (wp_var rfl (wp_int ⟨_, _, rfl, rfl, wa_nil ⟨size + 1, rfl, by omega, by omega, fun told ht' => wa_nil ⟨sz_le (by simp), hs ⟨ms, told⟩ ⟨fun m hm => (hms m hm).1, ?_, ?_, fun m hm => (hms m hm).2.2, size, by omega, by show told ≤ size; omega, fun m hm => (hms m hm).2.1⟩⟩⟩⟩)))))))))))
  · intro e
    have : ms.length = 0 := by rw [show ms = [] from e]; rfl
    omega
  · show ms.length ≤ most
    omega
end
end FS

/-! FsW4: _law_house_of, _law_asked, _law_with_names, _law_by_words. -/
namespace FS
open PySem L2
def memMap (g : Tm → Tm) (m : Mem) : Mem := (m.1.map g, m.2.map (atMap g))
def memW (τ : Str → Str) (m : Mem) : Mem := (m.1, m.2.map fun a => (τ a.1, a.2))
def houMap (τ : Str → Str) (h : House) : House := ⟨h.tabs.map fun t => (τ t.1, t.2), h.ruls.map fun r => (τ r.1, r.2)⟩
/-- a dict of terms -/
def tmL (l : List (Key × Tm)) : List (Key × D) := l.map fun p => (p.1, kD p.2)
def getT (l : List (Key × Tm)) (t : Tm) : Tm := (kget l t).getD t
theorem kget_tm (l : List (Key × Tm)) (k : Key) : kget (tmL l) k = (kget l k).map kD := by
  unfold tmL kget
  induction l with
  | nil => rfl
  | cons p l ih =>
    by_cases e : p.1 = k
    · simp [e]
    · simpa [e] using ih
def getD' (l : List (Key × Tm)) (d : D) : D := (kget (tmL l) (d.key.getD (.inl 0))).getD d
theorem getD_k (l : List (Key × Tm)) (t : Tm) : getD' l (kD t) = kD (getT l t) := by
  unfold getD' getT
  rw [kD_k, Option.getD_some, kget_tm]
  cases kget l t <;> rfl
theorem getD_map (l : List (Key × Tm)) (ts : List Tm) : (ts.map kD).map (getD' l) = (ts.map (getT l)).map kD := by
  rw [List.map_map, List.map_map]
  exact List.map_congr_left fun t _ => getD_k l t
theorem atMapD_map (l : List (Key × Tm)) (as : List At) : (as.map dAt).map (atMapD (getD' l)) = (as.map (atMap (getT l))).map dAt := by
  rw [List.map_map, List.map_map]
  refine List.map_congr_left fun a _ => ?_
  show D.tup [.str a.1, .tup ((a.2.map kD).map (getD' l))] = D.tup [.str a.1, .tup ((a.2.map (getT l)).map kD)]
  rw [getD_map]
section
variable {K : PySem.W.Frag} {B : Addr → Prop} {ρ : Ro} {te ta tb : TE} {S : D → Prop}
theorem wp_getT {i j : Nat} {l : List (Key × Tm)} {t : Tm} (h1 : ρ[i]? = some (.d (.dic (tmL l)))) (h2 : ρ[j]? = some (.d (kD t))) (h3 : S (getD' l (kD t))) : Wp K B (tDGet2 (tVar i) (tVar j) (tVar j)) ρ S := by
  refine wp_dget2 (wp_var h1 ⟨⟨_, rfl⟩, wp_var h2 (wp_var h2 ⟨_, t, rfl, kD_k t, ?_⟩)⟩)
  unfold getD' at h3
  rw [kD_k] at h3
  exact h3
end
section
variable {P : Program} {w : World} {K : PySem.W.Frag} {mg : Str → Option Value} {base : Heap} {cH cS cQ : Addr}
def sp_law_house_of (c : Addr) : Spc := fun ds S => ∃ h : House, ds = [dPlan h] ∧ HOk h ∧ ∀ rs : List Rul, (∀ r, r ∈ rs ↔ r ∈ h.ruls) → rs.length ≤ h.ruls.length → S (dHouse c ⟨h.tabs, rs⟩)
theorem len_law_house_of {c : Addr} : ∀ ds S, sp_law_house_of c ds S → ds.length = 1 := by rintro _ _ ⟨_, rfl, _⟩; rfl
theorem sc__law_house_of : FnScope ["_law_plan"] ["_law_plan"] (defScope (topS 68)) := ⟨rfl, rfl, rfl, by decide +kernel, rfl, by decide +kernel, by decide +kernel⟩
/-! slots: 0 _law_plan; cells: [] -/
theorem Txt.d_law_house_of (T : Txt K mg cH cS cQ) : Df P w K mg base 7 "_law_house_of" ["_law_plan"] [] (sp_law_house_of cH) := by
  refine df_mk T.a_law_house_of sc__law_house_of (fun _ _ _ _ _ _ us hl => match us, hl with | [_], _ => rfl) len_law_house_of fun f cdv A outer s H E hr => ?_
  refine ⟨_,
    (pss_one (ps_ret (pe_mk T.m_House hr (by decide) (by rfl) (pa_cons (pe_ix (kIx (K := K) (r := rIx) ix_seq) (pv 0) pe_int (fun _ _ => rfl)) (pa_cons (pe_ix (kIx (K := K) (r := rIx) ix_seq) (pv 0) pe_int (fun _ _ => rfl)) pa_nil))))), fun B ds S h => ?_⟩
  obtain ⟨h, rfl, ho, hs⟩ := h
  exact ws_ret (wp_make (wa_cons (wp_ix (wp_var rfl (wp_int ⟨_, _, .lst (h.tabs.map dTab), .inr rfl, rfl, rfl, wa_cons (wp_ix (wp_var rfl (wp_int ⟨_, _, .lst (h.ruls.map dRul), .inr rfl, rfl, rfl, wa_nil ⟨h.tabs, h.ruls, rfl, ho.tabs, ho.few, fun r hr => ⟨ho.ruls r hr, rul_str ho.tabs (ho.ruls r hr)⟩, fun rs h1 h2 => hs rs h1 h2⟩⟩)))⟩)))))
def sp_law_asked (c : Addr) : Spc := fun ds S => ∃ q : Ques, ds = [dAsked q] ∧ MemsOk q.mems ∧ (∀ m ∈ q.mems, q.told ≤ m.1.length) ∧ S (dQues c q)
theorem len_law_asked {c : Addr} : ∀ ds S, sp_law_asked c ds S → ds.length = 1 := by rintro _ _ ⟨_, rfl, _⟩; rfl
theorem sc__law_asked : FnScope ["_law_asked_here"] ["_law_asked_here"] (defScope (topS 69)) := ⟨rfl, rfl, rfl, by decide +kernel, rfl, by decide +kernel, by decide +kernel⟩
/-! slots: 0 _law_asked_here; cells: [] -/
theorem Txt.d_law_asked (T : Txt K mg cH cS cQ) : Df P w K mg base 9 "_law_asked" ["_law_asked_here"] [] (sp_law_asked cQ) := by
  refine df_mk T.a_law_asked sc__law_asked (fun _ _ _ _ _ _ us hl => match us, hl with | [_], _ => rfl) len_law_asked fun f cdv A outer s H E hr => ?_
  refine ⟨_,
    (pss_one (ps_ret (pe_mk T.m_Question hr (by decide) (by rfl) (pa_cons (pe_ix (kIx (K := K) (r := rIx) ix_seq) (pv 0) pe_int (fun _ _ => rfl)) (pa_cons (pe_ix (kIx (K := K) (r := rIx) ix_seq) (pv 0) pe_int (fun _ _ => rfl)) pa_nil))))), fun B ds S h => ?_⟩
  obtain ⟨q, rfl, hm, ht, hs⟩ := h
  exact ws_ret (wp_make (wa_cons (wp_ix (wp_var rfl (wp_int ⟨_, _, .lst (q.mems.map dMemL), .inr rfl, rfl, rfl, wa_cons (wp_ix (wp_var rfl (wp_int ⟨_, _, .int (q.told : Nat), .inr rfl, rfl, rfl, wa_nil ⟨q.mems, q.told, rfl, hm, ht, hs⟩⟩)))⟩)))))
def sp_law_with_names : Spc := fun ds S => ∃ (q : Ques) (l : List (Key × Tm)), ds = [dAsked q, .dic (tmL l)] ∧ q.mems.length ≤ 100 ∧ (∀ m ∈ q.mems, m.1.length ≤ 100 ∧ m.2.length ≤ 100 ∧ ∀ a ∈ m.2, a.2.length ≤ 100) ∧ S (dAsked ⟨q.mems.map (memMap (getT l)), q.told⟩)
theorem len_law_with_names : ∀ ds S, sp_law_with_names ds S → ds.length = 2 := by rintro _ _ ⟨_, _, rfl, _⟩; rfl
theorem sc__law_with_names : FnScope ["_law_asked_here", "_law_goes", "_law_members", "_law_head", "_law_atoms", "_law_some", "_law_term", "_law_word", "_law_terms"] ["_law_asked_here", "_law_goes"] (defScope (topS 70)) := ⟨rfl, rfl, rfl, by decide +kernel, rfl, by decide +kernel, by decide +kernel⟩
/-! slots: 0 _law_asked_here, 1 _law_goes, 2 _law_members, 3 _law_head, 4 _law_atoms, 5 _law_some, 6 _law_term, 7 _law_word, 8 _law_terms; cells: ['_law_goes'] -/
theorem Txt.d_law_with_names (T : Txt K mg cH cS cQ) : Df P w K mg base 1 "_law_with_names" ["_law_asked_here", "_law_goes"] [] sp_law_with_names := by
  refine df_mk T.a_law_with_names sc__law_with_names (fun _ _ _ _ _ _ us hl => match us, hl with | [_, _], _ => rfl) len_law_with_names fun f cdv A outer s H E hr => ?_
  refine ⟨_,
    (pss_cons (ps_set (i := 2) sc__law_with_names.nd rfl (by first | exact Or.inl rfl | exact Or.inr rfl) (pe_lst pa_nil))
    (pss_cons (ps_for PassesOwn.never rfl (kPI (K := K) (w := iList) (pi_list (pe_ix (kIx (K := K) (r := rIx) ix_seq) (pv 0) pe_int (fun _ _ => rfl)))) (kPG (K := K) (w := gTup) (pg_tup (n := 2) rfl (pgs_cons (pg_name (i := 3) sc__law_with_names.nd rfl (by first | exact Or.inl rfl | exact Or.inr rfl)) (pgs_cons (pg_name (i := 4) sc__law_with_names.nd rfl (by first | exact Or.inl rfl | exact Or.inr rfl)) pgs_nil))))
      (pss_cons (ps_setLc (i := 5) (own := [("_law_word", 7), ("_law_terms", 8)]) rfl sc__law_with_names.nd rfl rfl (sw_true rfl rfl rfl (by decide +kernel)) (kPI (K := K) (w := iSeq) (pi_seq (pv 4))) (blkOk_by (own := [("_law_word", 7), ("_law_terms", 8)]) (by first | (show blkC ["_law_asked_here", "_law_goes", "_law_members", "_law_head", "_law_atoms", "_law_some", "_law_term", "_law_word", "_law_terms"] (defScope (topS 70)) _ _ = true; decide +kernel) | rfl)) (fun _ _ _ _ _ => by exact (kPG (K := K) (w := gTup) (pg_tup (n := 2) rfl (pgs_cons (pg_name (i := 7) sc__law_with_names.nd rfl (by first | exact Or.inl rfl | exact Or.inr rfl)) (pgs_cons (pg_name (i := 8) sc__law_with_names.nd rfl (by first | exact Or.inl rfl | exact Or.inr rfl)) pgs_nil))))) (fun _ _ _ _ _ => by exact pts_nil) (fun _ _ _ _ _ => by exact (pe_tup (pa_cons (pv 7) (pa_cons (pe_callTy (kCR (K := K) (r := rTupS) cr_tup) (by rfl) T.f_tuple (by decide +kernel) (pa_cons (pe_lc (own := [("_law_term", 6)]) rfl sc__law_with_names.nd (kPI (K := K) (w := iSeq) (pi_seq (pv 8))) (blkOk_by (own := [("_law_term", 6)]) (by first | (show blkC ["_law_asked_here", "_law_goes", "_law_members", "_law_head", "_law_atoms", "_law_some", "_law_term", "_law_word", "_law_terms"] (defScope (topS 70)) _ _ = true; decide +kernel) | rfl)) (fun _ _ _ _ _ => by exact (pg_name (i := 6) sc__law_with_names.nd rfl (by first | exact Or.inl rfl | exact Or.inr rfl))) (fun _ _ _ _ _ => by exact pts_nil) (fun _ _ _ _ _ => by exact (pe_dget2 (rm_u hr) (pv 1) (pv 6) (pv 6) ⟨rfl, rfl, rfl, rfl⟩))) pa_nil)) pa_nil)))))
      (pss_one (ps_expr (kBM (K := K) (pe_bm PySem.F.plainAttrs_list PySem.F.slot_list_append PySem.F.type_list_append mt_append (pv 2) (pa_cons (pe_tup (pa_cons (pe_callTy (kCR (K := K) (r := rTupS) cr_tup) (by rfl) T.f_tuple (by decide +kernel) (pa_cons (pe_lc (own := [("_law_term", 6)]) rfl sc__law_with_names.nd (kPI (K := K) (w := iSeq) (pi_seq (pv 3))) (blkOk_by (own := [("_law_term", 6)]) (by first | (show blkC ["_law_asked_here", "_law_goes", "_law_members", "_law_head", "_law_atoms", "_law_some", "_law_term", "_law_word", "_law_terms"] (defScope (topS 70)) _ _ = true; decide +kernel) | rfl)) (fun _ _ _ _ _ => by exact (pg_name (i := 6) sc__law_with_names.nd rfl (by first | exact Or.inl rfl | exact Or.inr rfl))) (fun _ _ _ _ _ => by exact pts_nil) (fun _ _ _ _ _ => by exact (pe_dget2 (rm_u hr) (pv 1) (pv 6) (pv 6) ⟨rfl, rfl, rfl, rfl⟩))) pa_nil)) (pa_cons (pv 5) pa_nil))) pa_nil)))))))
    (pss_one (ps_ret (pe_tup (pa_cons (pv 2) (pa_cons (pe_ix (kIx (K := K) (r := rIx) ix_seq) (pv 0) pe_int (fun _ _ => rfl)) pa_nil))))))), fun B ds S h => ?_⟩
  obtain ⟨q, l, rfl, lq, lm, hs⟩ := h
  refine ws_seq (ws_asgN (wn_nil ?_))
  refine ws_seq (ws_for (vs := [3, 4]) (wi_list (wp_ix (wp_var rfl (wp_int ⟨_, _, .lst (q.mems.map dMemL), .inr rfl, rfl, rfl, _, rfl, fun i ρ' => ∃ (s3 s4 s5 : Sl), ρ' = [.d (dAsked q), .d (.dic (tmL l)), .own (.lst (((q.mems.take i).map (memMap (getT l))).map dMemL)), s3, s4, s5, .no, .no, .no], ⟨_, _, _, rfl⟩, ?_, ?_⟩)))))
  · rintro i d _ hd ⟨s3, s4, s5, rfl⟩
    rw [List.getElem?_map] at hd
    cases hmi : q.mems[i]? with
    | none => rw [hmi] at hd; cases hd
    | some m =>
    rw [hmi] at hd
    cases hd
    have mm := List.mem_of_getElem? hmi
    obtain ⟨l1, l2, l3⟩ := lm m mm
    have et : q.mems.take (i + 1) = q.mems.take i ++ [m] := by rw [List.take_add_one, hmi]; rfl
    have lt : (q.mems.take i).length ≤ q.mems.length := by rw [List.length_take]; omega
    refine wg_tup rfl (wg_cons (wg_name (by simp) (wg_cons (wg_name (by simp) (wg_nil ?_)))))
    refine ws_seq (ws_asg (wp_lcMap (wi_seqV (i := 4) rfl (.inl rfl) ⟨sz_le (by rw [List.length_map]; omega), atMapD (getD' l), fun d hd => ?_, ?_⟩)))
    · obtain ⟨a, ha, rfl⟩ := List.mem_map.mp hd
      have := l3 a ha
      refine wg_tup rfl (wg_cons (wg_name (by simp) (wg_cons (wg_name (by simp) (wg_nil (wp_tup (wa_cons (wp_var rfl (wa_cons (wp_tupOf (wa_cons (wp_lcMap (wi_seqV (i := 8) rfl (.inr rfl) ⟨sz_le (by rw [List.length_map]; omega), getD' l, fun d hd => ?_, wa_nil ⟨_, .inl rfl, wa_nil ⟨sz_le (Nat.succ_le_of_lt (by simp)), rfl⟩⟩⟩)))))))))))))
      obtain ⟨u, hu, rfl⟩ := List.mem_map.mp hd
      exact wg_name (by simp) (wp_getT rfl rfl rfl)
    rw [atMapD_map]
    refine ws_append (i := 2) rfl (sz_lt (by rw [List.length_map, List.length_map]; omega)) (wp_tup (wa_cons (wp_tupOf (wa_cons (wp_lcMap (wi_seqV (i := 3) rfl (.inr rfl) ⟨sz_le (by rw [List.length_map]; omega), getD' l, fun d hd => ?_, wa_nil ⟨_, .inl rfl, wa_cons (wp_var rfl (wa_nil ⟨sz_le (Nat.succ_le_of_lt (by simp)), ?_⟩))⟩⟩))))))
    · obtain ⟨u, hu, rfl⟩ := List.mem_map.mp hd
      exact wg_name (by simp) (wp_getT rfl rfl rfl)
    have e8 : ((q.mems.take i).map (memMap (getT l))).map dMemL ++ [D.tup [.tup ((m.1.map (getT l)).map kD), .lst ((m.2.map (atMap (getT l))).map dAt)]] = ((q.mems.take (i + 1)).map (memMap (getT l))).map dMemL := by
      rw [et, List.map_append, List.map_append]
      rfl
    rw [getD_map, e8]
    exact ⟨_, _, _, rfl⟩
  rintro _ ⟨s3, s4, s5, rfl⟩
  rw [List.length_map, List.take_length]
  exact ws_share (i := 2) rfl (.inl ⟨_, rfl⟩) (ws_ret (wp_tup (wa_cons (wp_var rfl (wa_cons (wp_ix (wp_var rfl (wp_int ⟨_, _, .int (q.told : Nat), .inr rfl, rfl, rfl, wa_nil ⟨sz_le (Nat.succ_le_of_lt (by simp)), hs⟩⟩))))))))
def tabWD (τ : Str → Str) : D → D
  | .tup (.str x :: r) => .tup (.str (τ x) :: r)
  | d => d
def memWD (τ : Str → Str) : D → D
  | .tup [h, .lst l] => .tup [h, .lst (l.map (tabWD τ))]
  | d => d
def sp_law_by_words : Spc := fun ds S => ∃ (h : House) (q : Ques) (kvs : List (Key × D)) (τ : Str → Str), ds = [dPlan h, dAsked q, .dic kvs] ∧ h.tabs.length ≤ 100 ∧ h.ruls.length ≤ 100 ∧ q.mems.length ≤ 100 ∧ (∀ m ∈ q.mems, m.2.length ≤ 100) ∧
  (∀ t ∈ h.tabs, kget kvs (.inr t.1) = some (.str (τ t.1))) ∧ (∀ r ∈ h.ruls, kget kvs (.inr r.1) = some (.str (τ r.1))) ∧ (∀ m ∈ q.mems, ∀ a ∈ m.2, kget kvs (.inr a.1) = some (.str (τ a.1))) ∧ S (.tup [dPlan (houMap τ h), dAsked ⟨q.mems.map (memW τ), q.told⟩])
theorem len_law_by_words : ∀ ds S, sp_law_by_words ds S → ds.length = 3 := by rintro _ _ ⟨_, _, _, _, rfl, _⟩; rfl
theorem sc__law_by_words : FnScope ["_law_plan", "_law_asked_here", "_law_words", "_law_tables", "_law_word", "_law_wide", "_law_bonds", "_law_columns", "_law_column", "_law_members", "_law_terms", "_law_head", "_law_atoms"] ["_law_plan", "_law_asked_here", "_law_words"] (defScope (topS 71)) := ⟨rfl, rfl, rfl, by decide +kernel, rfl, by decide +kernel, by decide +kernel⟩
/-! slots: 0 _law_plan, 1 _law_asked_here, 2 _law_words, 3 _law_tables, 4 _law_word, 5 _law_wide, 6 _law_bonds, 7 _law_columns, 8 _law_column, 9 _law_members, 10 _law_terms, 11 _law_head, 12 _law_atoms; cells: ['_law_words'] -/
theorem Txt.d_law_by_words (T : Txt K mg cH cS cQ) : Df P w K mg base 1 "_law_by_words" ["_law_plan", "_law_asked_here", "_law_words"] [] sp_law_by_words := by
  refine df_mk T.a_law_by_words sc__law_by_words (fun _ _ _ _ _ _ us hl => match us, hl with | [_, _, _], _ => rfl) len_law_by_words fun f cdv A outer s H E hr => ?_
  refine ⟨_,
    (pss_cons (ps_setLc (i := 3) (own := [("_law_word", 4), ("_law_wide", 5)]) rfl sc__law_by_words.nd rfl rfl (sw_true rfl rfl rfl (by decide +kernel)) (kPI (K := K) (w := iList) (pi_list (pe_ix (kIx (K := K) (r := rIx) ix_seq) (pv 0) pe_int (fun _ _ => rfl)))) (blkOk_by (own := [("_law_word", 4), ("_law_wide", 5)]) (by first | (show blkC ["_law_plan", "_law_asked_here", "_law_words", "_law_tables", "_law_word", "_law_wide", "_law_bonds", "_law_columns", "_law_column", "_law_members", "_law_terms", "_law_head", "_law_atoms"] (defScope (topS 71)) _ _ = true; decide +kernel) | rfl)) (fun _ _ _ _ _ => by exact (kPG (K := K) (w := gTup) (pg_tup (n := 2) rfl (pgs_cons (pg_name (i := 4) sc__law_by_words.nd rfl (by first | exact Or.inl rfl | exact Or.inr rfl)) (pgs_cons (pg_name (i := 5) sc__law_by_words.nd rfl (by first | exact Or.inl rfl | exact Or.inr rfl)) pgs_nil))))) (fun _ _ _ _ _ => by exact pts_nil) (fun _ _ _ _ _ => by exact (pe_tup (pa_cons (pe_dget (rm_u hr) (pv 2) (pv 4) (fun _ _ => rfl)) (pa_cons (pv 5) pa_nil)))))
    (pss_cons (ps_setLc (i := 6) (own := [("_law_word", 4), ("_law_columns", 7), ("_law_column", 8)]) rfl sc__law_by_words.nd rfl rfl (sw_true rfl rfl rfl (by decide +kernel)) (kPI (K := K) (w := iList) (pi_list (pe_ix (kIx (K := K) (r := rIx) ix_seq) (pv 0) pe_int (fun _ _ => rfl)))) (blkOk_by (own := [("_law_word", 4), ("_law_columns", 7), ("_law_column", 8)]) (by first | (show blkC ["_law_plan", "_law_asked_here", "_law_words", "_law_tables", "_law_word", "_law_wide", "_law_bonds", "_law_columns", "_law_column", "_law_members", "_law_terms", "_law_head", "_law_atoms"] (defScope (topS 71)) _ _ = true; decide +kernel) | rfl)) (fun _ _ _ _ _ => by exact (kPG (K := K) (w := gTup) (pg_tup (n := 3) rfl (pgs_cons (pg_name (i := 4) sc__law_by_words.nd rfl (by first | exact Or.inl rfl | exact Or.inr rfl)) (pgs_cons (pg_name (i := 7) sc__law_by_words.nd rfl (by first | exact Or.inl rfl | exact Or.inr rfl)) (pgs_cons (pg_name (i := 8) sc__law_by_words.nd rfl (by first | exact Or.inl rfl | exact Or.inr rfl)) pgs_nil)))))) (fun _ _ _ _ _ => by exact pts_nil) (fun _ _ _ _ _ => by exact (pe_tup (pa_cons (pe_dget (rm_u hr) (pv 2) (pv 4) (fun _ _ => rfl)) (pa_cons (pv 7) (pa_cons (pv 8) pa_nil))))))
    (pss_cons (ps_setLc (i := 9) (own := [("_law_head", 11), ("_law_atoms", 12)]) rfl sc__law_by_words.nd rfl rfl (sw_true rfl rfl rfl (by decide +kernel)) (kPI (K := K) (w := iList) (pi_list (pe_ix (kIx (K := K) (r := rIx) ix_seq) (pv 1) pe_int (fun _ _ => rfl)))) (blkOk_by (own := [("_law_head", 11), ("_law_atoms", 12)]) (by first | (show blkC ["_law_plan", "_law_asked_here", "_law_words", "_law_tables", "_law_word", "_law_wide", "_law_bonds", "_law_columns", "_law_column", "_law_members", "_law_terms", "_law_head", "_law_atoms"] (defScope (topS 71)) _ _ = true; decide +kernel) | rfl)) (fun _ _ _ _ _ => by exact (kPG (K := K) (w := gTup) (pg_tup (n := 2) rfl (pgs_cons (pg_name (i := 11) sc__law_by_words.nd rfl (by first | exact Or.inl rfl | exact Or.inr rfl)) (pgs_cons (pg_name (i := 12) sc__law_by_words.nd rfl (by first | exact Or.inl rfl | exact Or.inr rfl)) pgs_nil))))) (fun _ _ _ _ _ => by exact pts_nil) (fun _ _ _ _ _ => by exact (pe_tup (pa_cons (pv 11) (pa_cons (pe_lc (own := [("_law_word", 4), ("_law_terms", 10)]) rfl sc__law_by_words.nd (kPI (K := K) (w := iSeq) (pi_seq (pv 12))) (blkOk_by (own := [("_law_word", 4), ("_law_terms", 10)]) (by first | (show blkC ["_law_plan", "_law_asked_here", "_law_words", "_law_tables", "_law_word", "_law_wide", "_law_bonds", "_law_columns", "_law_column", "_law_members", "_law_terms", "_law_head", "_law_atoms"] (defScope (topS 71)) _ _ = true; decide +kernel) | rfl)) (fun _ _ _ _ _ => by exact (kPG (K := K) (w := gTup) (pg_tup (n := 2) rfl (pgs_cons (pg_name (i := 4) sc__law_by_words.nd rfl (by first | exact Or.inl rfl | exact Or.inr rfl)) (pgs_cons (pg_name (i := 10) sc__law_by_words.nd rfl (by first | exact Or.inl rfl | exact Or.inr rfl)) pgs_nil))))) (fun _ _ _ _ _ => by exact pts_nil) (fun _ _ _ _ _ => by exact (pe_tup (pa_cons (pe_dget (rm_u hr) (pv 2) (pv 4) (fun _ _ => rfl)) (pa_cons (pv 10) pa_nil))))) pa_nil)))))
    (pss_one (ps_ret (pe_tup (pa_cons (pe_tup (pa_cons (pv 3) (pa_cons (pv 6) pa_nil))) (pa_cons (pe_tup (pa_cons (pv 9) (pa_cons (pe_ix (kIx (K := K) (r := rIx) ix_seq) (pv 1) pe_int (fun _ _ => rfl)) pa_nil))) pa_nil)))))))), fun B ds S h => ?_⟩
  obtain ⟨h, q, kvs, τ, rfl, l1, l2, l3, l4, k1, k2, k3, hs⟩ := h
  have e1 : (h.tabs.map dTab).map (tabWD τ) = (houMap τ h).tabs.map dTab := by
    show _ = (h.tabs.map _).map dTab
    rw [List.map_map, List.map_map]
    rfl
  have e2 : (h.ruls.map dRul).map (tabWD τ) = (houMap τ h).ruls.map dRul := by
    show _ = (h.ruls.map _).map dRul
    rw [List.map_map, List.map_map]
    rfl
  have e3 : ∀ as : List At, (as.map dAt).map (tabWD τ) = (as.map fun a => (τ a.1, a.2)).map dAt := fun as => by
    rw [List.map_map, List.map_map]
    rfl
  have e4 : (q.mems.map dMemL).map (memWD τ) = (q.mems.map (memW τ)).map dMemL := by
    rw [List.map_map, List.map_map]
    refine List.map_congr_left fun m _ => ?_
    show D.tup [dTms m.1, .lst ((m.2.map dAt).map (tabWD τ))] = _
    rw [e3]
    rfl
  refine ws_seq (ws_asg (wp_lcMap (wi_list (wp_ix (wp_var rfl (wp_int ⟨_, _, .lst (h.tabs.map dTab), .inr rfl, rfl, rfl, _, rfl, sz_le (by rw [List.length_map]; omega), tabWD τ, fun d hd => ?_, ?_⟩))))))
  · obtain ⟨t, ht, rfl⟩ := List.mem_map.mp hd
    exact wg_tup rfl (wg_cons (wg_name (by simp) (wg_cons (wg_name (by simp) (wg_nil (wp_tup (wa_cons (wp_dget (wp_var rfl (wp_var rfl ⟨_, .inr t.1, _, rfl, rfl, k1 t ht, wa_cons (wp_var rfl (wa_nil ⟨sz_le (Nat.succ_le_of_lt (by simp)), rfl⟩))⟩))))))))))
  rw [e1]
  refine ws_seq (ws_asg (wp_lcMap (wi_list (wp_ix (wp_var rfl (wp_int ⟨_, _, .lst (h.ruls.map dRul), .inr rfl, rfl, rfl, _, rfl, sz_le (by rw [List.length_map]; omega), tabWD τ, fun d hd => ?_, ?_⟩))))))
  · obtain ⟨r, hr', rfl⟩ := List.mem_map.mp hd
    exact wg_tup rfl (wg_cons (wg_name (by simp) (wg_cons (wg_name (by simp) (wg_cons (wg_name (by simp) (wg_nil (wp_tup (wa_cons (wp_dget (wp_var rfl (wp_var rfl ⟨_, .inr r.1, _, rfl, rfl, k2 r hr', wa_cons (wp_var rfl (wa_cons (wp_var rfl (wa_nil ⟨sz_le (Nat.succ_le_of_lt (by simp)), rfl⟩))))⟩))))))))))))
  rw [e2]
  refine ws_seq (ws_asg (wp_lcMap (wi_list (wp_ix (wp_var rfl (wp_int ⟨_, _, .lst (q.mems.map dMemL), .inr rfl, rfl, rfl, _, rfl, sz_le (by rw [List.length_map]; omega), memWD τ, fun d hd => ?_, ?_⟩))))))
  · obtain ⟨m, hm, rfl⟩ := List.mem_map.mp hd
    have := l4 m hm
    refine wg_tup rfl (wg_cons (wg_name (by simp) (wg_cons (wg_name (by simp) (wg_nil (wp_tup (wa_cons (wp_var rfl (wa_cons (wp_lcMap (wi_seqV (i := 12) rfl (.inl rfl) ⟨sz_le (by rw [List.length_map]; omega), tabWD τ, fun d hd => ?_, wa_nil ⟨sz_le (Nat.succ_le_of_lt (by simp)), rfl⟩⟩)))))))))))
    obtain ⟨a, ha, rfl⟩ := List.mem_map.mp hd
    exact wg_tup rfl (wg_cons (wg_name (by simp) (wg_cons (wg_name (by simp) (wg_nil (wp_tup (wa_cons (wp_dget (wp_var rfl (wp_var rfl ⟨_, .inr a.1, _, rfl, rfl, k3 m hm a ha, wa_cons (wp_var rfl (wa_nil ⟨sz_le (Nat.succ_le_of_lt (by simp)), rfl⟩))⟩))))))))))
  rw [e4]
  exact ws_ret (wp_tup (wa_cons (wp_tup (wa_cons (wp_var rfl (wa_cons (wp_var rfl (wa_nil ⟨sz_le (Nat.succ_le_of_lt (by simp)), wa_cons (wp_tup (wa_cons (wp_var rfl (wa_cons (wp_ix (wp_var rfl (wp_int ⟨_, _, .int (q.told : Nat), .inr rfl, rfl, rfl, wa_nil ⟨sz_le (Nat.succ_le_of_lt (by simp)), wa_nil ⟨sz_le (Nat.succ_le_of_lt (by simp)), hs⟩⟩⟩)))))))⟩))))))))
end
end FS

/-! FsW5: _law_near. -/
namespace FS
open PySem L2
theorem pur_tms {n : Nat} {ts : List Tm} (h : ∀ x, .inr x ∈ ts → PyData.strOk x = true) : Pur (n + 1) (dTms ts) := .tup n _ fun d hd => by
  obtain ⟨t, ht, rfl⟩ := List.mem_map.mp hd
  cases t with
  | inl i => exact .int _ _
  | inr x => exact .str _ _ (h x ht)
theorem pur_at {n : Nat} {a : At} (h1 : PyData.strOk a.1 = true) (h2 : ∀ x, .inr x ∈ a.2 → PyData.strOk x = true) : Pur (n + 2) (dAt a) := .tup (n + 1) _ fun d hd => by
  rcases List.mem_cons.mp hd with rfl | hd
  · exact .str _ _ h1
  · rw [List.mem_singleton.mp hd]
    exact pur_tms h2
theorem pur_mem {n : Nat} {m : Mem} (h0 : ∀ x, .inr x ∈ m.1 → PyData.strOk x = true) (h1 : ∀ a ∈ m.2, PyData.strOk a.1 = true) (h2 : ∀ a ∈ m.2, ∀ x, .inr x ∈ a.2 → PyData.strOk x = true) : Pur (n + 4) (dMemL m) := .tup (n + 3) _ fun d hd => by
  rcases List.mem_cons.mp hd with rfl | hd
  · exact pur_tms h0
  · rw [List.mem_singleton.mp hd]
    refine .lst (n + 2) _ fun d hd => ?_
    obtain ⟨a, ha, rfl⟩ := List.mem_map.mp hd
    exact pur_at (h1 a ha) (h2 a ha)
theorem ltm_str {t : Tm} (h : LTm t) : ∀ x, t = .inr x → PyData.strOk x = true := fun x e => by
  rcases h with ⟨i, e2, _⟩ | ⟨y, hy, e2⟩
  · rw [e2] at e; cases e
  · rw [e2] at e
    cases e
    exact word_ok (name_word hy)
theorem lats_wid {h : House} {as : List At} (po : PlanOk h) (hA : LAts h as) : ∀ a ∈ as, 1 ≤ a.2.length ∧ a.2.length ≤ 3 := fun a ha => po.wide (a.1, a.2.length) (mem_of_kget (hA a ha).1)
theorem lats_str {h : House} {as : List At} (po : PlanOk h) (hA : LAts h as) : ∀ a ∈ as, PyData.strOk a.1 = true := fun a ha => word_ok (base_word (po.base (a.1, a.2.length) (mem_of_kget (hA a ha).1)))
theorem lmem_ats {h : House} {m : Mem} (M : LMem h m) : LAts h m.2 := fun a ha => ⟨M.wid a ha, M.each a ha⟩
def pf : List (Key × Tm) := [(.inr "p", .inr "f"), (.inr "f", .inr "p")]
theorem pf_ltm {t : Tm} (h : LTm t) : LTm (getT pf t) := by
  rcases h with ⟨i, rfl, h1, h2⟩ | ⟨x, hx, rfl⟩
  · exact .inl ⟨i, rfl, h1, h2⟩
  · have e : ∀ y ∈ nameW, ∃ z ∈ nameW, getT pf (.inr y) = .inr z := by
      intro y hy
      simp only [nameW, List.mem_cons, List.not_mem_nil, or_false] at hy
      rcases hy with rfl | rfl | rfl | rfl
      · exact ⟨"f", by decide +kernel, by decide +kernel⟩
      · exact ⟨"p", by decide +kernel, by decide +kernel⟩
      · exact ⟨"b", by decide +kernel, by decide +kernel⟩
      · exact ⟨"told", by decide +kernel, by decide +kernel⟩
    obtain ⟨z, hz, ez⟩ := e x hx
    exact .inr ⟨z, hz, ez⟩
section
variable {P : Program} {w : World} {K : PySem.W.Frag} {mg : Str → Option Value} {base : Heap} {cH cS cQ : Addr}
def sp_law_near : Spc := fun ds S => ∃ (h : House) (q : Ques), ds = [.box, dPlan h, dAsked q] ∧ PlanOk h ∧ LQ h 2 3 q ∧ ∀ q' : Ques, LQ h 3 4 q' → q'.told = q.told → S (dAsked q')
theorem len_law_near : ∀ ds S, sp_law_near ds S → ds.length = 3 := by rintro _ _ ⟨_, _, rfl, _⟩; rfl
theorem sc__law_near : FnScope ["_law_box_here", "_law_plan", "_law_asked_here", "_law_members", "_law_head", "_law_atoms", "_law_form", "_law_some", "_law_goes", "_law_term", "_law_word", "_law_terms", "_law_names_here", "_law_whole"] ["_law_box_here", "_law_plan", "_law_asked_here"] (defScope (topS 67)) := ⟨rfl, rfl, rfl, by decide +kernel, rfl, by decide +kernel, by decide +kernel⟩
/-! slots: 0 _law_box_here, 1 _law_plan, 2 _law_asked_here, 3 _law_members, 4 _law_head, 5 _law_atoms, 6 _law_form, 7 _law_some, 8 _law_goes, 9 _law_term, 10 _law_word, 11 _law_terms, 12 _law_names_here, 13 _law_whole; cells: ['_law_goes', '_law_names_here'] -/
theorem Txt.d_law_near (T : Txt K mg cH cS cQ) : Df P w K mg base 4 "_law_near" ["_law_box_here", "_law_plan", "_law_asked_here"] [] sp_law_near := by
  refine df_mk T.a_law_near sc__law_near (fun _ _ _ _ _ _ us hl => match us, hl with | [_, _, _], _ => rfl) len_law_near fun f cdv A outer s H E hr => ?_
  refine ⟨_,
    (pss_cons (ps_set (i := 3) sc__law_near.nd rfl (by first | exact Or.inl rfl | exact Or.inr rfl) (pe_lst pa_nil))
    (pss_cons (ps_for PassesOwn.never rfl (kPI (K := K) (w := iList) (pi_list (pe_ix (kIx (K := K) (r := rIx) ix_seq) (pv 2) pe_int (fun _ _ => rfl)))) (kPG (K := K) (w := gTup) (pg_tup (n := 2) rfl (pgs_cons (pg_name (i := 4) sc__law_near.nd rfl (by first | exact Or.inl rfl | exact Or.inr rfl)) (pgs_cons (pg_name (i := 5) sc__law_near.nd rfl (by first | exact Or.inl rfl | exact Or.inr rfl)) pgs_nil))))
      (pss_cons (ps_par (i := 6) (j := 7) (by rfl) sc__law_near.nd rfl rfl (by decide) rfl rfl (pa_cons (pe_df T.d_law_take hr (by decide) (by rfl) (pa_cons (pv 0) (pa_cons pe_int pa_nil))) (pa_cons (pe_callTy (kCR (K := K) (r := rListS) cr_list) (by rfl) T.f_list (by decide +kernel) (pa_cons (pv 5) pa_nil)) pa_nil)) (by rfl))
      (pss_cons (ps_if (pt_cmpR op_eq (pv 6) pe_int (nomark _))
        (pss_one (ps_set (i := 7) sc__law_near.nd rfl (by first | exact Or.inl rfl | exact Or.inr rfl) (pe_op op_cat (pv 7) (pe_lst (pa_cons (pe_df T.d_law_pick hr (by decide) (by rfl) (pa_cons (pv 0) (pa_cons (pe_ix (kIx (K := K) (r := rIx) ix_seq) (pe_df T.d_law_member hr (by decide) (by rfl) (pa_cons (pv 0) (pa_cons (pv 1) (pa_cons pe_int (pa_cons pe_int pa_nil))))) pe_int (fun _ _ => rfl)) pa_nil))) pa_nil)))))
        (pss_one (ps_if (PW.pt (pw_and (pt_cmpR op_eq (pv 6) pe_int (nomark _)) (pw_and1 (pt_cmpR op_gt (pe_callB (kCR (K := K) (r := rLenS) cr_len) (by rfl) T.f_len (by decide +kernel) (pa_cons (pv 7) pa_nil)) pe_int (nomark _)))))
          (pss_one (ps_set (i := 7) sc__law_near.nd rfl (by first | exact Or.inl rfl | exact Or.inr rfl) (pe_slice (kSl (K := K) (r := rSlL) sl_list) (pv 7) (po_some pe_int) po_none)))
          (pss_one (ps_if (pt_cmpR op_eq (pv 6) pe_int (nomark _))
            (pss_cons (ps_set (i := 8) sc__law_near.nd rfl (by first | exact Or.inl rfl | exact Or.inr rfl) (pe_disp (pps_cons pe_str pe_str (pps_cons pe_str pe_str pps_nil)) (by rfl) (by rfl) (fun z => by cases z) (by decide)))
            (pss_one (ps_setLc (i := 7) (own := [("_law_word", 10), ("_law_terms", 11)]) rfl sc__law_near.nd rfl rfl (sw_true rfl rfl rfl (by decide +kernel)) (kPI (K := K) (w := iSeq) (pi_seq (pv 7))) (blkOk_by (own := [("_law_word", 10), ("_law_terms", 11)]) (by first | (show blkC ["_law_box_here", "_law_plan", "_law_asked_here", "_law_members", "_law_head", "_law_atoms", "_law_form", "_law_some", "_law_goes", "_law_term", "_law_word", "_law_terms", "_law_names_here", "_law_whole"] (defScope (topS 67)) _ _ = true; decide +kernel) | rfl)) (fun _ _ _ _ _ => by exact (kPG (K := K) (w := gTup) (pg_tup (n := 2) rfl (pgs_cons (pg_name (i := 10) sc__law_near.nd rfl (by first | exact Or.inl rfl | exact Or.inr rfl)) (pgs_cons (pg_name (i := 11) sc__law_near.nd rfl (by first | exact Or.inl rfl | exact Or.inr rfl)) pgs_nil))))) (fun _ _ _ _ _ => by exact pts_nil) (fun _ _ _ _ _ => by exact (pe_tup (pa_cons (pv 10) (pa_cons (pe_callTy (kCR (K := K) (r := rTupS) cr_tup) (by rfl) T.f_tuple (by decide +kernel) (pa_cons (pe_lc (own := [("_law_term", 9)]) rfl sc__law_near.nd (kPI (K := K) (w := iSeq) (pi_seq (pv 11))) (blkOk_by (own := [("_law_term", 9)]) (by first | (show blkC ["_law_box_here", "_law_plan", "_law_asked_here", "_law_members", "_law_head", "_law_atoms", "_law_form", "_law_some", "_law_goes", "_law_term", "_law_word", "_law_terms", "_law_names_here", "_law_whole"] (defScope (topS 67)) _ _ = true; decide +kernel) | rfl)) (fun _ _ _ _ _ => by exact (pg_name (i := 9) sc__law_near.nd rfl (by first | exact Or.inl rfl | exact Or.inr rfl))) (fun _ _ _ _ _ => by exact pts_nil) (fun _ _ _ _ _ => by exact (pe_dget2 (rm_u hr) (pv 8) (pv 9) (pv 9) ⟨rfl, rfl, rfl, rfl⟩))) pa_nil)) pa_nil)))))))
            (pss_one (ps_if (pt_cmpR op_eq (pv 6) pe_int (nomark _))
              (pss_one (ps_set (i := 7) sc__law_near.nd rfl (by first | exact Or.inl rfl | exact Or.inr rfl) (pe_op op_cat (pe_df T.d_law_mixed hr (by decide) (by rfl) (pa_cons (pv 0) (pa_cons (pv 7) pa_nil))) (pe_slice (kSl (K := K) (r := rSlL) sl_list) (pv 7) po_none (po_some pe_int)))))
              pss_nil)))))))
      (pss_cons (ps_set (i := 12) sc__law_near.nd rfl (by first | exact Or.inl rfl | exact Or.inr rfl) (pe_df T.d_law_names hr (by decide) (by rfl) (pa_cons (pe_tup pa_nil) (pa_cons (pv 7) pa_nil))))
      (pss_cons (ps_if (pt_cmpR (kOp (K := K) (r := rEqD) (op_eqD (rm_u hr))) (pv 12) (pe_lst pa_nil) (nomark _))
        (pss_one (ps_asg (pe_tup (pa_cons (pe_callTy (kCR (K := K) (r := rListS) cr_list) (by rfl) T.f_list (by decide +kernel) (pa_cons (pv 5) pa_nil)) (pa_cons (pe_df T.d_law_names hr (by decide) (by rfl) (pa_cons (pe_tup pa_nil) (pa_cons (pv 5) pa_nil))) pa_nil))) (kPG (K := K) (w := gTup) (pg_tup (n := 2) rfl (pgs_cons (pg_name (i := 7) sc__law_near.nd rfl (by first | exact Or.inl rfl | exact Or.inr rfl)) (pgs_cons (pg_name (i := 12) sc__law_near.nd rfl (by first | exact Or.inl rfl | exact Or.inr rfl)) pgs_nil))))))
        pss_nil)
      (pss_cons (ps_setLc (i := 13) (own := [("_law_term", 9)]) rfl sc__law_near.nd rfl rfl (sw_true rfl rfl rfl (by decide +kernel)) (kPI (K := K) (w := iSeq) (pi_seq (pv 4))) (blkOk_by (own := [("_law_term", 9)]) (by first | (show blkC ["_law_box_here", "_law_plan", "_law_asked_here", "_law_members", "_law_head", "_law_atoms", "_law_form", "_law_some", "_law_goes", "_law_term", "_law_word", "_law_terms", "_law_names_here", "_law_whole"] (defScope (topS 67)) _ _ = true; decide +kernel) | rfl)) (fun _ _ _ _ _ => by exact (pg_name (i := 9) sc__law_near.nd rfl (by first | exact Or.inl rfl | exact Or.inr rfl))) (fun _ _ _ _ _ => by exact pts_nil) (fun _ _ _ _ _ => by exact (pe_ifExp (PW.pt (pw_or (pt_cmpR (kOp (K := K) (r := fun K => rIn K false) op_in_seq) (pv 9) (pv 12) rfl) (pw_or1 (pt_not (pt_val (pe_callB (kCR (K := K) (r := rIsi) call_isi) (by rfl) T.f_isinstance (by decide +kernel) (pa_cons (pv 9) (pa_cons (pe_ty (n := "str") T.f_str) pa_nil)))))))) (pv 9) (pe_ix (kIx (K := K) (r := rIx) ix_seq) (pv 12) pe_int (fun _ _ => rfl)))))
      (pss_one (ps_expr (kBM (K := K) (pe_bm PySem.F.plainAttrs_list PySem.F.slot_list_append PySem.F.type_list_append mt_append (pv 3) (pa_cons (pe_tup (pa_cons (pe_callTy (kCR (K := K) (r := rTupS) cr_tup) (by rfl) T.f_tuple (by decide +kernel) (pa_cons (pv 13) pa_nil)) (pa_cons (pe_slice (kSl (K := K) (r := rSlL) sl_list) (pv 7) po_none (po_some pe_int)) pa_nil))) pa_nil)))))))))))
    (pss_cons (ps_if (pt_cmpR op_eq (pe_df T.d_law_take hr (by decide) (by rfl) (pa_cons (pv 0) (pa_cons pe_int pa_nil))) pe_int (nomark _))
      (pss_one (ps_set (i := 3) sc__law_near.nd rfl (by first | exact Or.inl rfl | exact Or.inr rfl) (pe_op op_cat (pv 3) (pe_slice (kSl (K := K) (r := rSlL) sl_list) (pe_ix (kIx (K := K) (r := rIx) ix_seq) (pv 2) pe_int (fun _ _ => rfl)) po_none (po_some pe_int)))))
      pss_nil)
    (pss_one (ps_ret (pe_tup (pa_cons (pe_slice (kSl (K := K) (r := rSlL) sl_list) (pv 3) po_none (po_some pe_int)) (pa_cons (pe_ix (kIx (K := K) (r := rIx) ix_seq) (pv 2) pe_int (fun _ _ => rfl)) pa_nil)))))))), fun B ds S h => ?_⟩
  obtain ⟨h, q, rfl, po, lq, hs⟩ := h
  obtain ⟨sz, sz2, tsz, hsz⟩ := lq.size
  have q2 := lq.few
  refine ws_seq (ws_asgN (wn_nil ?_))
  refine ws_seq (ws_for (vs := [4, 5]) (wi_list (wp_ix (wp_var rfl (wp_int ⟨_, _, .lst (q.mems.map dMemL), .inr rfl, rfl, rfl, _, rfl, fun i ρ' => ∃ (ms : List Mem) (s4 s5 s6 s7 s8 s12 s13 : Sl), ρ' = [.d .box, .d (dPlan h), .d (dAsked q), .own (.lst (ms.map dMemL)), s4, s5, s6, s7, s8, .no, .no, .no, s12, s13] ∧ ms.length = i ∧ ∀ m ∈ ms, LMem h m ∧ m.1.length = sz ∧ m.2.length ≤ 4, ⟨[], _, _, _, _, _, _, _, rfl, rfl, fun _ h => absurd h List.not_mem_nil⟩, ?_, ?_⟩)))))
  · rintro i d _ hd ⟨ms, s4, s5, s6, s7, s8, s12, s13, rfl, lms, hms⟩
    rw [List.getElem?_map] at hd
    cases hmi : q.mems[i]? with
    | none => rw [hmi] at hd; cases hd
    | some m =>
    rw [hmi] at hd
    cases hd
    have mm := List.mem_of_getElem? hmi
    have il := (List.getElem?_eq_some_iff.mp hmi).1
    have M := lq.each m mm
    have m3 := lq.atoms m mm
    have mA := lmem_ats M
    have m0 : 0 < m.2.length := List.length_pos_iff.mpr M.some
    refine wg_tup rfl (wg_cons (wg_name (by simp) (wg_cons (wg_name (by simp) (wg_nil ?_)))))
    refine ws_seq (ws_parDD (wp_call0 (wa_cons (wp_var rfl (wa_cons (wp_int (wa_nil ⟨6, rfl, by omega, by omega, fun form hf => wp_listOf (wa_cons (wp_var rfl (wa_nil ⟨m.2.map dAt, .inl rfl, ?_⟩)))⟩)))))))
    -- some is made
    refine ws_seq (WpS.imp (P := { nx := fun ρ' => ∃ (as : List At) (s8 : Sl), ρ' = [.d .box, .d (dPlan h), .d (dAsked q), .own (.lst (ms.map dMemL)), .d (dTms m.1), .d (.lst (m.2.map dAt)), .d (.int (form : Nat)), .d (.lst (as.map dAt)), s8, .no, .no, .no, s12, s13] ∧ LAts h as ∧ as ≠ [] ∧ as.length ≤ 4, rt := fun _ => False }) ?_ (fun ρ' ⟨as, s8, e, hA, hne, la⟩ => ?_) (fun _ z => z.elim) (fun _ z => z.elim) (fun _ z => z.elim))
    · refine ws_if (wt_B (wp_eqF (wp_var rfl (wp_int ⟨rfl, rfl, rfl, rfl, fun r hr => ⟨_, rfl, ?_⟩⟩))))
      cases r with
      | true =>
        rw [if_pos rfl]
        refine ws_asg (wp_cat (wp_var rfl (wp_lst (wa_cons (wp_call0 (wa_cons (wp_var rfl (wa_cons (wp_ix (wp_call0 (wa_cons (wp_var rfl (wa_cons (wp_var rfl (wa_cons (wp_int (wa_cons (wp_int (wa_nil ⟨h, 1, 0, rfl, po, by omega, by omega, by omega, fun m' M' _ l1 => wp_int ⟨_, _, .lst (m'.2.map dAt), .inr rfl, rfl, rfl, wa_nil ⟨_, rfl, by rw [List.length_map]; exact List.length_pos_iff.mpr M'.some, by rw [List.length_map]; omega, fun x hx => ?_⟩⟩⟩)))))))))))))))))))
        obtain ⟨a, ha, rfl⟩ := List.mem_map.mp hx
        refine wa_nil ⟨sz_le (Nat.succ_le_of_lt (by simp)), _, _, rfl, rfl, sz_le (by rw [List.length_map]; simp; omega), ?_⟩
        have e7 : m.2.map dAt ++ [dAt a] = (m.2 ++ [a]).map dAt := by
          rw [List.map_append]
          rfl
        rw [e7]
        refine ⟨m.2 ++ [a], _, rfl, fun b hb => ?_, by simp, by rw [List.length_append]; show m.2.length + 1 ≤ 4; omega⟩
        · rcases List.mem_append.mp hb with hb | hb
          · exact mA b hb
          · rw [List.mem_singleton.mp hb]
            exact lmem_ats M' a ha
      | false =>
        rw [if_neg Bool.false_ne_true]
        refine ws_if (WpT.imp (S := fun b => b = true → 1 < m.2.length) (wt_and (wt_B (wp_eqF (wp_var rfl (wp_int ⟨rfl, rfl, rfl, rfl, fun r1 hr1 => ⟨_, rfl, ?_⟩⟩))))) fun b hb => ?_)
        · cases r1 with
          | true =>
            rw [if_pos rfl]
            exact wt_B (wp_gt (wp_len (wa_cons (wp_var rfl (wa_nil ⟨_, .inl rfl, wp_int ⟨_, _, rfl, rfl, _, rfl, fun z => by have := of_decide_eq_true z; rw [List.length_map] at this; omega⟩⟩)))))
          | false =>
            rw [if_neg Bool.false_ne_true]
            exact fun z => absurd z Bool.false_ne_true
        cases b with
        | true =>
          rw [if_pos rfl]
          have l1 := hb rfl
          refine ws_asg (wp_slL (wp_var rfl (wo_some (wp_int ⟨_, rfl, wo_none ⟨_, rfl, ?_⟩⟩))))
          rw [cutD_drop1, ← List.map_drop]
          refine ⟨m.2.drop 1, _, rfl, fun b hb => mA b (List.mem_of_mem_drop hb), fun e => ?_, by rw [List.length_drop]; omega⟩
          have := congrArg List.length e
          rw [List.length_drop] at this
          simp at this
          omega
        | false =>
        rw [if_neg Bool.false_ne_true]
        refine ws_if (wt_B (wp_eqF (wp_var rfl (wp_int ⟨rfl, rfl, rfl, rfl, fun r2 hr2 => ⟨_, rfl, ?_⟩⟩))))
        cases r2 with
        | true =>
          rw [if_pos rfl]
          refine ws_seq (ws_asg (wp_disp2 (by decide) ?_))
          refine ws_asg (wp_lcMap (wi_seqV (i := 7) rfl (.inl rfl) ⟨sz_le (by rw [List.length_map]; omega), atMapD (getD' pf), fun d hd => ?_, ?_⟩))
          · obtain ⟨a, ha, rfl⟩ := List.mem_map.mp hd
            have := lats_wid po mA a ha
            refine wg_tup rfl (wg_cons (wg_name (by simp) (wg_cons (wg_name (by simp) (wg_nil (wp_tup (wa_cons (wp_var rfl (wa_cons (wp_tupOf (wa_cons (wp_lcMap (wi_seqV (i := 11) rfl (.inr rfl) ⟨sz_le (by rw [List.length_map]; omega), getD' pf, fun d hd => ?_, wa_nil ⟨_, .inl rfl, wa_nil ⟨sz_le (Nat.succ_le_of_lt (by simp)), rfl⟩⟩⟩)))))))))))))
            obtain ⟨u, hu, rfl⟩ := List.mem_map.mp hd
            exact wg_name (by simp) (wp_getT (l := pf) rfl rfl rfl)
          rw [atMapD_map]
          refine ⟨m.2.map (atMap (getT pf)), _, rfl, fun b hb => ?_, ?_, by rw [List.length_map]; omega⟩
          · obtain ⟨a, ha, rfl⟩ := List.mem_map.mp hb
            obtain ⟨w1, w2⟩ := mA a ha
            refine ⟨?_, fun t ht => ?_⟩
            · show widOf h.tabs a.1 = some (a.2.map (getT pf)).length
              rw [List.length_map]
              exact w1
            · obtain ⟨u, hu, rfl⟩ := List.mem_map.mp ht
              exact pf_ltm (w2 u hu)
          · intro e
            exact M.some (List.map_eq_nil_iff.mp e)
        | false =>
        rw [if_neg Bool.false_ne_true]
        refine ws_if (wt_B (wp_eqF (wp_var rfl (wp_int ⟨rfl, rfl, rfl, rfl, fun r3 hr3 => ⟨_, rfl, ?_⟩⟩))))
        cases r3 with
        | false =>
          rw [if_neg Bool.false_ne_true]
          exact ws_next ⟨m.2, _, rfl, mA, M.some, by omega⟩
        | true =>
          rw [if_pos rfl]
          refine ws_asg (wp_cat (wp_call0 (wa_cons (wp_var rfl (wa_cons (wp_var rfl (wa_nil ⟨_, rfl, by rw [List.length_map]; omega, fun x hx => ?_, fun ys hy => wp_slL (wp_var rfl (wo_none (wo_some (wp_int ⟨_, rfl, _, rfl, ?_⟩))))⟩)))))))
          · obtain ⟨a, ha, rfl⟩ := List.mem_map.mp hx
            exact pur_at (lats_str po mA a ha) fun x hx => ltm_str ((mA a ha).2 _ hx) x rfl
          obtain ⟨as', rfl, hp⟩ := perm_map hy
          have lp := hp.length_eq
          refine ⟨_, _, rfl, rfl, ?_, ?_⟩
          · rw [List.length_map, show (some (1 : Int)) = some ((1 : Nat) : Int) from rfl, cutD_to, List.length_take, List.length_map]
            exact sz_le (by omega)
          rw [show (some (1 : Int)) = some ((1 : Nat) : Int) from rfl, cutD_to, ← List.map_take, ← List.map_append]
          refine ⟨as' ++ m.2.take 1, _, rfl, fun b hb => ?_, fun e => ?_, ?_⟩
          · rcases List.mem_append.mp hb with hb | hb
            · exact mA b (hp.mem_iff.mp hb)
            · exact mA b (List.mem_of_mem_take hb)
          · have := congrArg List.length e
            rw [List.length_append, List.length_nil] at this
            omega
          · rw [List.length_append, List.length_take]
            omega
    subst e
    have a100 : ∀ {as : List At}, LAts h as → ∀ a ∈ as, a.2.length ≤ 100 := fun hA a ha => by
      have := lats_wid po hA a ha
      omega
    have nstr : ∀ {as : List At}, LAts h as → ∀ x, InAts x as → PyData.strOk x = true := fun hA x ⟨a, ha, hx⟩ => ltm_str ((hA a ha).2 _ hx) x rfl
    refine ws_seq (ws_asg (wp_call0 (wa_cons (wp_tup (wa_nil ⟨sz_le (by simp), wa_cons (wp_var rfl (wa_nil ⟨[], as, rfl, by simp, by omega, a100 hA, fun ns nd hn ln => ?_⟩))⟩)))))
    refine ws_seq (WpS.imp (P := { nx := fun ρ' => ∃ (as : List At) (ns : List Str), ρ' = [.d .box, .d (dPlan h), .d (dAsked q), .own (.lst (ms.map dMemL)), .d (dTms m.1), .d (.lst (m.2.map dAt)), .d (.int (form : Nat)), .d (.lst (as.map dAt)), s8, .no, .no, .no, .d (.lst (ns.map D.str)), s13] ∧ LAts h as ∧ as ≠ [] ∧ as.length ≤ 4 ∧ ns ≠ [] ∧ ∀ x, x ∈ ns ↔ InAts x as, rt := fun _ => False }) ?_ (fun ρ' ⟨as, ns, e, hA, hne, la, n0, hn⟩ => ?_) (fun _ z => z.elim) (fun _ z => z.elim) (fun _ z => z.elim))
    · refine ws_if (wt_B (wp_eqD (wp_var rfl (wp_lst (wa_nil ⟨Nat.zero_le _, 2, by omega, .lst 1 _ (fun d hd => ?_), .lst 1 _ (fun _ h => absurd h List.not_mem_nil), fun r hr => ⟨_, rfl, ?_⟩⟩)))))
      · obtain ⟨x, hx, rfl⟩ := List.mem_map.mp hd
        exact .str _ _ (nstr hA x (((hn x).mp hx).resolve_left List.not_mem_nil))
      cases r with
      | false =>
        rw [if_neg Bool.false_ne_true]
        refine ws_next ⟨as, ns, rfl, hA, hne, la, fun e => ?_, fun x => (hn x).trans ⟨fun z => z.resolve_left List.not_mem_nil, .inr⟩⟩
        exact Bool.false_ne_true (hr.mpr (by rw [e]; rfl))
      | true =>
        rw [if_pos rfl]
        refine ws_asgG (vs := [7, 12]) (wp_tup (wa_cons (wp_listOf (wa_cons (wp_var rfl (wa_nil ⟨m.2.map dAt, .inl rfl, wa_cons (wp_call0 (wa_cons (wp_tup (wa_nil ⟨sz_le (by simp), wa_cons (wp_var rfl (wa_nil ⟨[], m.2, rfl, by simp, by omega, a100 mA, fun ns2 nd2 hn2 ln2 => wa_nil ⟨sz_le (by simp), wg_tup rfl (wg_cons (wg_name (by simp) (wg_cons (wg_name (by simp) (wg_nil ?_)))))⟩⟩))⟩))))⟩))))))
        refine ⟨m.2, ns2, rfl, mA, M.some, by omega, fun e => ?_, fun x => (hn2 x).trans ⟨fun z => z.resolve_left List.not_mem_nil, .inr⟩⟩
        obtain ⟨x, hx⟩ := M.name
        have := (hn2 x).mpr (.inr hx)
        rw [e] at this
        exact absurd this List.not_mem_nil
    subst e
    refine ws_seq (ws_asg (wp_lcAll (wi_seqV (i := 4) (ds := m.1.map kD) rfl (.inr rfl) ⟨sz_le (by rw [List.length_map, hsz m mm]; omega), fun _ y => ∃ t, y = kD t ∧ LTm t ∧ ∀ x, t = .inr x → InAts x as, fun d hd => ?_, fun ys hp => ?_⟩)))
    · obtain ⟨t, ht, rfl⟩ := List.mem_map.mp hd
      have T1 := M.head t ht
      have flat : ∀ d ∈ ns.map D.str, d.v.isSome = true ∧ nbl d = true := fun d hd => by
        obtain ⟨y, _, rfl⟩ := List.mem_map.mp hd
        exact ⟨rfl, rfl⟩
      refine wg_name (by simp) (wp_if (wt_or (wt_B (wp_in (neg := false) (wp_var rfl (wp_var rfl ⟨_, .inl rfl, kD_some _, kD_nbl _, flat, fun r hr => ⟨_, rfl, ?_⟩⟩))))))
      rw [if_neg Bool.false_ne_true]
      cases r with
      | true =>
        rw [if_pos rfl, if_pos rfl]
        refine wp_var rfl ⟨t, rfl, T1, fun x e => ?_⟩
        subst e
        obtain ⟨y, hy, ey⟩ := List.mem_map.mp (hr.mp rfl)
        rw [← D.str.inj ey]
        exact (hn y).mp hy
      | false =>
        rw [if_neg Bool.false_ne_true]
        cases t with
        | inl i =>
          refine wt_not (wt_B (wp_isi (wp_var rfl ⟨_, _, rfl, rfl, false, rfl, ?_⟩)))
          rw [Bool.not_false, if_pos rfl]
          exact wp_var rfl ⟨.inl i, rfl, T1, fun x e => by cases e⟩
        | inr x =>
          refine wt_not (wt_B (wp_isi (wp_var rfl ⟨_, _, rfl, rfl, true, rfl, ?_⟩)))
          rw [Bool.not_true, if_neg Bool.false_ne_true]
          obtain ⟨y, l, rfl⟩ : ∃ y l, ns = y :: l := by
            cases ns with
            | nil => exact absurd rfl n0
            | cons y l => exact ⟨y, l, rfl⟩
          have hy := (hn y).mp (List.mem_cons_self ..)
          refine wp_ix (wp_var rfl (wp_int ⟨_, _, .str y, .inl rfl, rfl, atI_0 rfl, .inr y, rfl, ?_, fun z e => by cases e; exact hy⟩))
          obtain ⟨a, ha, hm⟩ := hy
          exact (hA a ha).2 _ hm
    obtain ⟨ts, rfl, hts, lts⟩ := paired_map hp
    rw [List.length_map, hsz m mm] at lts
    refine ws_append (i := 3) rfl (sz_lt (by rw [List.length_map]; omega)) (wp_tup (wa_cons (wp_tupOf (wa_cons (wp_var rfl (wa_nil ⟨_, .inl rfl, wa_cons (wp_slL (wp_var rfl (wo_none (wo_some (wp_int ⟨_, rfl, _, rfl, wa_nil ⟨sz_le (by simp), ?_⟩⟩)))))⟩))))))
    have e9 : ms.map dMemL ++ [D.tup [.tup (ts.map kD), .lst (as.map dAt)]] = (ms ++ [(ts, as)]).map dMemL := by
      rw [List.map_append]
      rfl
    rw [show (some (4 : Int)) = some ((4 : Nat) : Int) from rfl, cutD_to, ← List.map_take, List.take_of_length_le la, e9]
    refine ⟨ms ++ [(ts, as)], _, _, _, _, _, _, _, rfl, by rw [List.length_append]; show ms.length + 1 = _; omega, fun m' hm' => ?_⟩
    rcases List.mem_append.mp hm' with hm' | hm'
    · exact hms m' hm'
    · rw [List.mem_singleton.mp hm']
      refine ⟨⟨fun t ht => (hts t ht).1, hne, fun a ha => (hA a ha).1, fun a ha => (hA a ha).2, fun x hx => (hts _ hx).2 x rfl, ?_⟩, lts, la⟩
      cases ns with
      | nil => exact absurd rfl n0
      | cons y l => exact ⟨y, (hn y).mp (List.mem_cons_self ..)⟩
  rintro _ ⟨ms, s4, s5, s6, s7, s8, s12, s13, rfl, lms, hms⟩
  rw [List.length_map] at lms
  have q0 : 0 < q.mems.length := List.length_pos_iff.mpr lq.some
  refine ws_share (i := 3) rfl (.inl ⟨_, rfl⟩) ?_
  refine ws_seq (WpS.imp (P := { nx := fun ρ' => ∃ ms : List Mem, ρ' = [.d .box, .d (dPlan h), .d (dAsked q), .d (.lst (ms.map dMemL)), s4, s5, s6, s7, s8, .no, .no, .no, s12, s13] ∧ 0 < ms.length ∧ ms.length ≤ 3 ∧ ∀ m ∈ ms, LMem h m ∧ m.1.length = sz ∧ m.2.length ≤ 4, rt := fun _ => False }) ?_ (fun ρ' ⟨ms, e, l0, l3, hms⟩ => ?_) (fun _ z => z.elim) (fun _ z => z) (fun _ z => z))
  · refine ws_if (wt_B (wp_eqF (wp_call0 (wa_cons (wp_var rfl (wa_cons (wp_int (wa_nil ⟨4, rfl, by omega, by omega, fun j hj => wp_int ⟨rfl, rfl, rfl, rfl, fun r hr => ⟨_, rfl, ?_⟩⟩⟩))))))))
    cases r with
    | false =>
      rw [if_neg Bool.false_ne_true]
      exact ws_next ⟨ms, rfl, by omega, by omega, hms⟩
    | true =>
      rw [if_pos rfl]
      refine ws_asg (wp_cat (wp_var rfl (wp_slL (wp_ix (wp_var rfl (wp_int ⟨_, _, .lst (q.mems.map dMemL), .inr rfl, rfl, rfl, wo_none (wo_some (wp_int ⟨_, rfl, _, rfl, _, _, rfl, rfl, ?_, ?_⟩))⟩))))))
      · rw [List.length_map, show (some (1 : Int)) = some ((1 : Nat) : Int) from rfl, cutD_to, List.length_take, List.length_map]
        exact sz_le (by omega)
      rw [show (some (1 : Int)) = some ((1 : Nat) : Int) from rfl, cutD_to, ← List.map_take, ← List.map_append]
      refine ⟨ms ++ q.mems.take 1, rfl, ?_, ?_, fun m hm => ?_⟩
      · rw [List.length_append]
        omega
      · rw [List.length_append, List.length_take]
        omega
      · rcases List.mem_append.mp hm with hm | hm
        · exact hms m hm
        · have mm := List.mem_of_mem_take hm
          exact ⟨lq.each m mm, hsz m mm, Nat.le_trans (lq.atoms m mm) (by omega)⟩
  subst e
  refine ws_ret (wp_tup (wa_cons (wp_slL (wp_var rfl (wo_none (wo_some (wp_int ⟨_, rfl, _, rfl, wa_cons (wp_ix (wp_var rfl (wp_int ⟨_, _, .int (q.told : Nat), .inr rfl, rfl, rfl, wa_nil ⟨sz_le (by simp), ?_⟩⟩)))⟩)))))))
  rw [show (some (3 : Int)) = some ((3 : Nat) : Int) from rfl, cutD_to, ← List.map_take, List.take_of_length_le l3]
  exact hs ⟨ms, q.told⟩ ⟨fun m hm => (hms m hm).1, fun e => by rw [show ms = [] from e] at l0; exact absurd l0 (Nat.lt_irrefl 0), l3, fun m hm => (hms m hm).2.2, sz, sz2, tsz, fun m hm => (hms m hm).2.1⟩ rfl
end
end FS

/-! FsV6: other words, other names, other numbers (plain). -/
namespace FS
open PySem L2
theorem cg_mono {rs rs' : List Rul} {as as' : List At} {s t : Tm} (h1 : ∀ r ∈ rs, r ∈ rs') (h2 : ∀ a ∈ as, a ∈ as') (c : Cg rs as s t) : Cg rs' as' s t := by
  induction c with
  | refl s => exact .refl s
  | symm _ ih => exact ih.symm
  | trans _ _ i1 i2 => exact i1.trans i2
  | @rule r a b s t hr ha hb ea eb el hc es et ih => exact Cg.rule (h1 r hr) (h2 a ha) (h2 b hb) ea eb el ih es et
def atTo (τ : Str → Str) (g : Tm → Tm) (a : At) : At := (τ a.1, a.2.map g)
def rulTo (τ : Str → Str) (r : Rul) : Rul := (τ r.1, r.2)
theorem get_map {α β : Type} {g : α → β} {l : List α} {c : Nat} {v : β} (h : (l.map g)[c]? = some v) : ∃ u, l[c]? = some u ∧ v = g u := by
  rw [List.getElem?_map] at h
  obtain ⟨u, h1, h2⟩ := Option.map_eq_some_iff.mp h
  exact ⟨u, h1, h2.symm⟩
theorem cg_to {rs : List Rul} {as : List At} {τ : Str → Str} {g : Tm → Tm} {s t : Tm} (c : Cg rs as s t) : Cg (rs.map (rulTo τ)) (as.map (atTo τ g)) (g s) (g t) := by
  induction c with
  | refl s => exact .refl _
  | symm _ ih => exact ih.symm
  | trans _ _ i1 i2 => exact i1.trans i2
  | @rule r a b s t hr ha hb ea eb el hc es et ih =>
    refine Cg.rule (r := rulTo τ r) (a := atTo τ g a) (b := atTo τ g b) (List.mem_map.mpr ⟨r, hr, rfl⟩) (List.mem_map.mpr ⟨a, ha, rfl⟩) (List.mem_map.mpr ⟨b, hb, rfl⟩) (congrArg τ ea) (congrArg τ eb) ?_ (fun c cm u v hu hv => ?_) ?_ ?_
    · show (a.2.map g).length = (b.2.map g).length
      rw [List.length_map, List.length_map, el]
    · obtain ⟨u', h1, rfl⟩ := get_map (show (a.2.map g)[c]? = some u from hu)
      obtain ⟨v', h2, rfl⟩ := get_map (show (b.2.map g)[c]? = some v from hv)
      exact ih c cm u' v' h1 h2
    · show (a.2.map g)[r.2.2]? = _
      rw [List.getElem?_map, es]
      rfl
    · show (b.2.map g)[r.2.2]? = _
      rw [List.getElem?_map, et]
      rfl
theorem cg_from {rs : List Rul} {as : List At} {τ : Str → Str} {g : Tm → Tm} (hτ : ∀ r ∈ rs, ∀ a ∈ as, τ a.1 = τ r.1 → a.1 = r.1) (hg : ∀ u v, InT as u → InT as v → g u = g v → u = v) {s' t' : Tm} (c : Cg (rs.map (rulTo τ)) (as.map (atTo τ g)) s' t') :
    s' = t' ∨ ∃ s t, InT as s ∧ InT as t ∧ s' = g s ∧ t' = g t ∧ Cg rs as s t := by
  induction c with
  | refl s => exact .inl rfl
  | symm _ ih =>
    rcases ih with e | ⟨s, t, h1, h2, h3, h4, h5⟩
    · exact .inl e.symm
    · exact .inr ⟨t, s, h2, h1, h4, h3, h5.symm⟩
  | trans _ _ i1 i2 =>
    rcases i1 with e | ⟨s, t, h1, h2, h3, h4, h5⟩
    · rw [e]; exact i2
    · rcases i2 with e | ⟨s2, t2, k1, k2, k3, k4, k5⟩
      · rw [← e]; exact .inr ⟨s, t, h1, h2, h3, h4, h5⟩
      · have : t = s2 := hg t s2 h2 k1 (h4.symm.trans k3)
        subst this
        exact .inr ⟨s, t2, h1, k2, h3, k4, h5.trans k5⟩
  | @rule r' a' b' s t hr ha hb ea eb el hc es et ih =>
    obtain ⟨r, hr1, rfl⟩ := List.mem_map.mp hr
    obtain ⟨a, ha1, rfl⟩ := List.mem_map.mp ha
    obtain ⟨b, hb1, rfl⟩ := List.mem_map.mp hb
    obtain ⟨s0, hs0, rfl⟩ := get_map (show (a.2.map g)[r.2.2]? = some s from es)
    obtain ⟨t0, ht0, rfl⟩ := get_map (show (b.2.map g)[r.2.2]? = some t from et)
    have el' : a.2.length = b.2.length := by
      have : (a.2.map g).length = (b.2.map g).length := el
      rwa [List.length_map, List.length_map] at this
    refine .inr ⟨s0, t0, ⟨a, ha1, List.mem_of_getElem? hs0⟩, ⟨b, hb1, List.mem_of_getElem? ht0⟩, rfl, rfl, Cg.rule hr1 ha1 hb1 (hτ r hr1 a ha1 ea) (hτ r hr1 b hb1 eb) el' (fun c cm u v hu hv => ?_) hs0 ht0⟩
    have iu : InT as u := ⟨a, ha1, List.mem_of_getElem? hu⟩
    have iv : InT as v := ⟨b, hb1, List.mem_of_getElem? hv⟩
    rcases ih c cm (g u) (g v) (by show (a.2.map g)[c]? = _; rw [List.getElem?_map, hu]; rfl) (by show (b.2.map g)[c]? = _; rw [List.getElem?_map, hv]; rfl) with e | ⟨x, y, h1, h2, h3, h4, h5⟩
    · rw [hg u v iu iv e]
      exact .refl v
    · rw [hg u x iu h1 h3, hg v y iv h2 h4]
      exact h5
/-- numbers for numbers, names stay -/
def numT (μ : Int → Int) : Tm → Tm
  | .inl i => .inl (μ i)
  | .inr x => .inr x
theorem numT_inj {μ : Int → Int} (h : ∀ i j, μ i = μ j → i = j) {s t : Tm} (e : numT μ s = numT μ t) : s = t := by
  cases s <;> cases t <;> first | (have e1 := Sum.inl.inj e; rw [h _ _ e1]) | (exact e) | cases e
theorem map_atTo (as : List At) (g : Tm → Tm) : as.map (atMap g) = as.map (atTo (fun x => x) g) := rfl
theorem map_rulTo (rs : List Rul) : rs.map (rulTo fun x => x) = rs := by
  conv => rhs; rw [← List.map_id rs]
  rfl
theorem clash_num {rs : List Rul} {as : List At} {μ : Int → Int} (h : ∀ i j, μ i = μ j → i = j) : Clash rs (as.map (atMap (numT μ))) ↔ Clash rs as := by
  constructor
  · rintro ⟨i, j, ne, c⟩
    have c' : Cg (rs.map (rulTo fun x => x)) (as.map (atTo (fun x => x) (numT μ))) (.inl i) (.inl j) := by rw [map_rulTo]; exact c
    rcases cg_from (fun _ _ _ _ e => e) (fun u v _ _ e => numT_inj h e) c' with e | ⟨s, t, _, _, h3, h4, h5⟩
    · exact absurd (Sum.inl.inj e) ne
    · cases s with
      | inr x => cases h3
      | inl i0 =>
        cases t with
        | inr x => cases h4
        | inl j0 => exact ⟨i0, j0, fun e => ne (by rw [Sum.inl.inj h3, Sum.inl.inj h4, e]), h5⟩
  · rintro ⟨i, j, ne, c⟩
    have := cg_to (τ := fun x => x) (g := numT μ) c
    rw [map_rulTo] at this
    exact ⟨μ i, μ j, fun e => ne (h i j e), this⟩
theorem clash_rs {rs rs' : List Rul} {as : List At} (h : ∀ r, r ∈ rs ↔ r ∈ rs') : Clash rs as ↔ Clash rs' as :=
  ⟨fun ⟨i, j, ne, c⟩ => ⟨i, j, ne, cg_mono (fun r hr => (h r).mp hr) (fun _ ha => ha) c⟩, fun ⟨i, j, ne, c⟩ => ⟨i, j, ne, cg_mono (fun r hr => (h r).mpr hr) (fun _ ha => ha) c⟩⟩
/-! ### other words -/
section
variable {rs rs' : List Rul} {τ : Str → Str}
theorem map_atId (as : List At) : as.map (atTo τ fun t => t) = as.map fun a => (τ a.1, a.2) := List.map_congr_left fun a _ => by
  show (τ a.1, a.2.map fun t => t) = (τ a.1, a.2)
  rw [List.map_id']
theorem cg_words {as : List At} (hr : ∀ r, r ∈ rs' ↔ r ∈ rs.map (rulTo τ)) (hτ : ∀ r ∈ rs, ∀ a ∈ as, τ a.1 = τ r.1 → a.1 = r.1) {s t : Tm} : Cg rs' (as.map fun a => (τ a.1, a.2)) s t ↔ Cg rs as s t := by
  rw [← map_atId]
  constructor
  · intro c
    have c' := cg_mono (rs' := rs.map (rulTo τ)) (fun r h => (hr r).mp h) (fun _ ha => ha) c
    rcases cg_from hτ (fun u v _ _ e => e) c' with e | ⟨s, t, _, _, rfl, rfl, h5⟩
    · rw [e]; exact .refl _
    · exact h5
  · intro c
    exact cg_mono (fun r h => (hr r).mpr h) (fun _ ha => ha) (cg_to (τ := τ) (g := fun t => t) c)
theorem hom_words {W : Str → Prop} {m m' : Mem} (hr : ∀ r, r ∈ rs' ↔ r ∈ rs.map (rulTo τ)) (hτ : ∀ x y, W x → W y → τ x = τ y → x = y) (w0 : ∀ r ∈ rs, W r.1) (w1 : ∀ a ∈ m.2, W a.1) (w2 : ∀ a ∈ m'.2, W a.1) :
    Hom rs' (memW τ m) (memW τ m') ↔ Hom rs m m' := by
  have cg : ∀ s t, Cg rs' (memW τ m).2 s t ↔ Cg rs m.2 s t := fun s t => cg_words hr fun r h a ha e => hτ _ _ (w1 a ha) (w0 r h) e
  have cgs : ∀ l k, Cgs rs' (memW τ m).2 l k ↔ Cgs rs m.2 l k := fun l k => and_congr Iff.rfl ⟨fun h i s t h1 h2 => (cg s t).mp (h i s t h1 h2), fun h i s t h1 h2 => (cg s t).mpr (h i s t h1 h2)⟩
  constructor
  · rintro ⟨φ, h1, h2⟩
    refine ⟨φ, fun a' ha' => ?_, (cgs _ _).mp h2⟩
    obtain ⟨a2, ha2, e, h3⟩ := h1 (τ a'.1, a'.2) (List.mem_map.mpr ⟨a', ha', rfl⟩)
    obtain ⟨a, ha, rfl⟩ := List.mem_map.mp ha2
    exact ⟨a, ha, hτ _ _ (w1 a ha) (w2 a' ha') e, (cgs _ _).mp h3⟩
  · rintro ⟨φ, h1, h2⟩
    refine ⟨φ, fun a2 ha2 => ?_, (cgs _ _).mpr h2⟩
    obtain ⟨a', ha', rfl⟩ := List.mem_map.mp ha2
    obtain ⟨a, ha, e, h3⟩ := h1 a' ha'
    exact ⟨(τ a.1, a.2), List.mem_map.mpr ⟨a, ha, rfl⟩, congrArg τ e, (cgs _ _).mpr h3⟩
theorem clash_words {as : List At} {W : Str → Prop} (hr : ∀ r, r ∈ rs' ↔ r ∈ rs.map (rulTo τ)) (hτ : ∀ x y, W x → W y → τ x = τ y → x = y) (w0 : ∀ r ∈ rs, W r.1) (w1 : ∀ a ∈ as, W a.1) : Clash rs' (as.map fun a => (τ a.1, a.2)) ↔ Clash rs as :=
  ⟨fun ⟨i, j, ne, c⟩ => ⟨i, j, ne, (cg_words hr fun r h a ha e => hτ _ _ (w1 a ha) (w0 r h) e).mp c⟩, fun ⟨i, j, ne, c⟩ => ⟨i, j, ne, (cg_words hr fun r h a ha e => hτ _ _ (w1 a ha) (w0 r h) e).mpr c⟩⟩
theorem within_words {W : Str → Prop} {ms ms' : List Mem} (hr : ∀ r, r ∈ rs' ↔ r ∈ rs.map (rulTo τ)) (hτ : ∀ x y, W x → W y → τ x = τ y → x = y) (w0 : ∀ r ∈ rs, W r.1) (w1 : ∀ m ∈ ms, ∀ a ∈ m.2, W a.1) (w2 : ∀ m ∈ ms', ∀ a ∈ m.2, W a.1) :
    Within rs' (ms.map (memW τ)) (ms'.map (memW τ)) ↔ Within rs ms ms' := by
  constructor
  · intro h m hm
    rcases h (memW τ m) (List.mem_map.mpr ⟨m, hm, rfl⟩) with c | ⟨m2, hm2, c⟩
    · exact .inl ((clash_words hr hτ w0 (w1 m hm)).mp c)
    · obtain ⟨m', hm', rfl⟩ := List.mem_map.mp hm2
      exact .inr ⟨m', hm', (hom_words hr hτ w0 (w1 m hm) (w2 m' hm')).mp c⟩
  · intro h m2 hm2
    obtain ⟨m, hm, rfl⟩ := List.mem_map.mp hm2
    rcases h m hm with c | ⟨m', hm', c⟩
    · exact .inl ((clash_words hr hτ w0 (w1 m hm)).mpr c)
    · exact .inr ⟨memW τ m', List.mem_map.mpr ⟨m', hm', rfl⟩, (hom_words hr hτ w0 (w1 m hm) (w2 m' hm')).mpr c⟩
theorem within_rs {ms ms' : List Mem} (h : ∀ r, r ∈ rs ↔ r ∈ rs') : Within rs ms ms' ↔ Within rs' ms ms' := by
  have key : ∀ {rs rs' : List Rul}, (∀ r, r ∈ rs ↔ r ∈ rs') → Within rs ms ms' → Within rs' ms ms' := fun {rs rs'} h w m hm => by
    rcases w m hm with c | ⟨m', hm', φ, h1, h2⟩
    · exact .inl ((clash_rs h).mp c)
    · have cgs : ∀ {l k}, Cgs rs m.2 l k → Cgs rs' m.2 l k := fun ⟨e, q⟩ => ⟨e, fun i s t a b => cg_mono (fun r hr => (h r).mp hr) (fun _ ha => ha) (q i s t a b)⟩
      exact .inr ⟨m', hm', φ, fun a' ha' => let ⟨a, ha, e, q⟩ := h1 a' ha'; ⟨a, ha, e, cgs q⟩, cgs h2⟩
  exact ⟨key h, key fun r => (h r).symm⟩
end
/-! ### other names -/
/-- m2 is m by other names, its atoms in any order and number -/
structure Ren (g : Tm → Tm) (m m2 : Mem) : Prop where
  head : m2.1 = m.1.map g
  atoms : ∀ b, b ∈ m2.2 ↔ ∃ a ∈ m.2, b = atMap g a
theorem cgs_refl {rs : List Rul} {as : List At} {l k : List Tm} (e : l = k) : Cgs rs as l k := by
  subst e
  exact ⟨rfl, fun i s t h1 h2 => by rw [h1] at h2; rw [Option.some.inj h2]; exact .refl t⟩
theorem hom_back {rs : List Rul} {g : Tm → Tm} {m m2 : Mem} (R : Ren g m m2) {φ : Str → Tm} (hφ : ∀ t, (t ∈ m.1 ∨ InT m.2 t) → subT φ (g t) = t) : Hom rs m m2 := by
  refine ⟨φ, fun b hb => ?_, cgs_refl ?_⟩
  · obtain ⟨a, ha, rfl⟩ := (R.atoms b).mp hb
    refine ⟨a, ha, rfl, cgs_refl ?_⟩
    show (a.2.map g).map (subT φ) = a.2
    rw [List.map_map]
    conv => rhs; rw [← List.map_id a.2]
    exact List.map_congr_left fun t ht => hφ t (.inr ⟨a, ha, ht⟩)
  · rw [R.head, List.map_map]
    conv => rhs; rw [← List.map_id m.1]
    exact List.map_congr_left fun t ht => hφ t (.inl ht)
theorem hom_fore {rs : List Rul} {g : Tm → Tm} {m m2 : Mem} (R : Ren g m m2) {φ : Str → Tm} (hφ : ∀ t, (t ∈ m.1 ∨ InT m.2 t) → subT φ t = g t) : Hom rs m2 m := by
  refine ⟨φ, fun a ha => ⟨atMap g a, (R.atoms _).mpr ⟨a, ha, rfl⟩, rfl, cgs_refl ?_⟩, cgs_refl ?_⟩
  · exact List.map_congr_left fun t ht => hφ t (.inr ⟨a, ha, ht⟩)
  · rw [R.head]
    exact List.map_congr_left fun t ht => hφ t (.inl ht)
theorem within_ren {rs : List Rul} {ms ms2 : List Mem} (h : ∀ m ∈ ms, ∃ m2 ∈ ms2, Hom rs m m2) : Within rs ms ms2 := fun m hm => .inr (h m hm)
/-- answers go along with a map of terms -/
theorem ans_map {ms ms2 : List Mem} {k : Nat} {rows rows2 : List Row} {told t : List Int} (hr : ∀ r ∈ rows, r ∈ rows2)
    (h : ∀ m ∈ ms, ∃ m2 ∈ ms2, ∃ g, Ren g m m2 ∧ ∀ f : Str → Int, ∃ f', ∀ t, (t ∈ m.1 ∨ InT m.2 t) → ev f' (g t) = ev f t) (a : IsAns ms k rows told t) : IsAns ms2 k rows2 told t := by
  obtain ⟨m, hm, f, h1, h2, h3⟩ := a
  obtain ⟨m2, hm2, g, R, hf⟩ := h m hm
  obtain ⟨f', hf'⟩ := hf f
  have hh : m2.1.map (ev f') = m.1.map (ev f) := by
    rw [R.head, List.map_map]
    exact List.map_congr_left fun t ht => hf' t (.inl ht)
  refine ⟨m2, hm2, f', ?_, fun b hb => ?_, by rw [hh]; exact h3⟩
  · rw [List.map_take, hh, ← List.map_take]
    exact h1
  · obtain ⟨a, ha, rfl⟩ := (R.atoms b).mp hb
    have e : (atMap g a).2.map (ev f') = a.2.map (ev f) := by
      show (a.2.map g).map (ev f') = _
      rw [List.map_map]
      exact List.map_congr_left fun t ht => hf' t (.inr ⟨a, ha, ht⟩)
    unfold Sat
    rw [e]
    exact hr _ (h2 a ha)
theorem ans_back {ms ms2 : List Mem} {k : Nat} {rows rows2 : List Row} {told t : List Int} (hr : ∀ r ∈ rows2, r ∈ rows)
    (h : ∀ m2 ∈ ms2, ∃ m ∈ ms, ∃ g, Ren g m m2 ∧ ∀ f' : Str → Int, ∃ f, ∀ t, (t ∈ m.1 ∨ InT m.2 t) → ev f t = ev f' (g t)) (a : IsAns ms2 k rows2 told t) : IsAns ms k rows told t := by
  obtain ⟨m2, hm2, f', h1, h2, h3⟩ := a
  obtain ⟨m, hm, g, R, hf⟩ := h m2 hm2
  obtain ⟨f, hf'⟩ := hf f'
  have hh : m2.1.map (ev f') = m.1.map (ev f) := by
    rw [R.head, List.map_map]
    exact List.map_congr_left fun t ht => (hf' t (.inl ht)).symm
  refine ⟨m, hm, f, ?_, fun a ha => ?_, by rw [← hh]; exact h3⟩
  · rw [List.map_take, ← hh, ← List.map_take]
    exact h1
  · have h4 := h2 (atMap g a) ((R.atoms _).mpr ⟨a, ha, rfl⟩)
    have e : (atMap g a).2.map (ev f') = a.2.map (ev f) := by
      show (a.2.map g).map (ev f') = _
      rw [List.map_map]
      exact List.map_congr_left fun t ht => (hf' t (.inr ⟨a, ha, ht⟩)).symm
    unfold Sat at h4 ⊢
    rw [e] at h4
    exact hr _ h4
theorem isNum_ren {ms ms2 : List Mem} (h1 : ∀ m ∈ ms, ∃ m2 ∈ ms2, ∃ g, Ren g m m2 ∧ ∀ i, g (.inl i) = .inl i) {i : Int} (h : IsNum ms i) : IsNum ms2 i := by
  obtain ⟨m, hm, ts, hts, hi⟩ := h
  obtain ⟨m2, hm2, g, R, hg⟩ := h1 m hm
  have mem : ∀ {ts : List Tm}, .inl i ∈ ts → .inl i ∈ ts.map g := fun h => List.mem_map.mpr ⟨_, h, hg i⟩
  rcases List.mem_cons.mp hts with rfl | hts
  · exact ⟨m2, hm2, m2.1, List.mem_cons_self .., by rw [R.head]; exact mem hi⟩
  · obtain ⟨a, ha, rfl⟩ := List.mem_map.mp hts
    exact ⟨m2, hm2, a.2.map g, List.mem_cons_of_mem _ (List.mem_map.mpr ⟨atMap g a, (R.atoms _).mpr ⟨a, ha, rfl⟩, rfl⟩), mem hi⟩
theorem isNum_back {ms ms2 : List Mem} (h1 : ∀ m2 ∈ ms2, ∃ m ∈ ms, ∃ g, Ren g m m2 ∧ ∀ i t, (t ∈ m.1 ∨ InT m.2 t) → g t = .inl i → t = .inl i) {i : Int} (h : IsNum ms2 i) : IsNum ms i := by
  obtain ⟨m2, hm2, ts, hts, hi⟩ := h
  obtain ⟨m, hm, g, R, hg⟩ := h1 m2 hm2
  rcases List.mem_cons.mp hts with rfl | hts
  · rw [R.head] at hi
    obtain ⟨t, ht, e⟩ := List.mem_map.mp hi
    have e2 := hg i t (.inl ht) e
    subst e2
    exact ⟨m, hm, m.1, List.mem_cons_self .., ht⟩
  · obtain ⟨b, hb, rfl⟩ := List.mem_map.mp hts
    obtain ⟨a, ha, rfl⟩ := (R.atoms b).mp hb
    obtain ⟨t, ht, e⟩ := List.mem_map.mp (show .inl i ∈ a.2.map g from hi)
    have e2 := hg i t (.inr ⟨a, ha, ht⟩) e
    subst e2
    exact ⟨m, hm, a.2, List.mem_cons_of_mem _ (List.mem_map.mpr ⟨a, ha, rfl⟩), ht⟩
/-! ### other numbers -/
def rowTo (μ : Int → Int) (r : Row) : Row := (r.1, r.2.map μ)
theorem map_inj' {α β : Type} {f : α → β} (h : ∀ a b, f a = f b → a = b) : ∀ {l m : List α}, l.map f = m.map f → l = m
  | [], [], _ => rfl
  | a :: l, b :: m, e => by
    rw [List.map_cons, List.map_cons] at e
    injection e with e1 e2
    rw [h _ _ e1, map_inj' h e2]
  | [], _ :: _, e => by cases e
  | _ :: _, [], e => by cases e
theorem ans_num {ms : List Mem} {k : Nat} {rows : List Row} {told : List Int} {μ : Int → Int} (hμ : ∀ i j, μ i = μ j → i = j) (hn : ∀ m ∈ ms, ∀ x, .inr x ∈ m.1 → InAts x m.2) (t' : List Int) :
    IsAns (ms.map (memMap (numT μ))) k (rows.map (rowTo μ)) (told.map μ) t' ↔ ∃ t, t' = t.map μ ∧ IsAns ms k rows told t := by
  constructor
  · rintro ⟨m2, hm2, f', h1, h2, h3⟩
    obtain ⟨m, hm, rfl⟩ := List.mem_map.mp hm2
    have inv : ∀ x, ∃ n, InAts x m.2 → μ n = f' x := fun x => by
      by_cases z : InAts x m.2
      · obtain ⟨a, ha, hx⟩ := z
        have h4 := h2 (atMap (numT μ) a) (List.mem_map.mpr ⟨a, ha, rfl⟩)
        obtain ⟨r, hr, e⟩ := List.mem_map.mp h4
        have e2 : r.2.map μ = (a.2.map (numT μ)).map (ev f') := congrArg Prod.snd e
        rw [List.map_map] at e2
        obtain ⟨hl, hp⟩ := map_place.mp e2
        obtain ⟨i, hi⟩ := List.getElem?_of_mem hx
        have il : i < r.2.length := by
          have := (List.getElem?_eq_some_iff.mp hi).1
          omega
        exact ⟨r.2[i], fun _ => hp i _ _ (List.getElem?_eq_getElem il) hi⟩
      · exact ⟨0, fun h => absurd h z⟩
    let f : Str → Int := fun x => Classical.choose (inv x)
    have hf : ∀ x, InAts x m.2 → μ (f x) = f' x := fun x => Classical.choose_spec (inv x)
    have hev : ∀ t, (t ∈ m.1 ∨ InT m.2 t) → ev f' (numT μ t) = μ (ev f t) := fun t ht => by
      cases t with
      | inl i => rfl
      | inr x =>
        refine (hf x ?_).symm
        rcases ht with ht | ht
        · exact hn m hm x ht
        · exact ht
    have hh : (m.1.map (numT μ)).map (ev f') = (m.1.map (ev f)).map μ := by
      rw [List.map_map, List.map_map]
      exact List.map_congr_left fun t ht => hev t (.inl ht)
    refine ⟨m.1.map (ev f), by rw [← hh]; exact h3, m, hm, f, ?_, fun a ha => ?_, rfl⟩
    · have h1' : (((m.1.map (numT μ)).take k).map (ev f')) = told.map μ := h1
      rw [List.map_take, hh, ← List.map_take] at h1'
      rw [List.map_take]
      exact map_inj' hμ h1'
    · have h4 := h2 (atMap (numT μ) a) (List.mem_map.mpr ⟨a, ha, rfl⟩)
      obtain ⟨r, hr, e⟩ := List.mem_map.mp h4
      have e2 : r.2.map μ = (a.2.map (numT μ)).map (ev f') := congrArg Prod.snd e
      have e3 : (a.2.map (numT μ)).map (ev f') = (a.2.map (ev f)).map μ := by
        rw [List.map_map, List.map_map]
        exact List.map_congr_left fun t ht => hev t (.inr ⟨a, ha, ht⟩)
      rw [e3] at e2
      have e4 := map_inj' hμ e2
      have e6 : r.1 = a.1 := by
        have := congrArg Prod.fst e
        exact this
      have e5 : r = (a.1, a.2.map (ev f)) := Prod.ext e6 e4
      unfold Sat
      rw [← e5]
      exact hr
  · rintro ⟨t, rfl, m, hm, f, h1, h2, rfl⟩
    have hev : ∀ t, ev (fun x => μ (f x)) (numT μ t) = μ (ev f t) := fun t => by cases t <;> rfl
    have hm' : ∀ l : List Tm, (l.map (numT μ)).map (ev fun x => μ (f x)) = (l.map (ev f)).map μ := fun l => by
      rw [List.map_map, List.map_map]
      exact List.map_congr_left fun t _ => hev t
    refine ⟨memMap (numT μ) m, List.mem_map.mpr ⟨m, hm, rfl⟩, fun x => μ (f x), ?_, fun b hb => ?_, (hm' m.1).symm⟩
    · show ((m.1.map (numT μ)).take k).map _ = _
      rw [List.map_take, hm', ← List.map_take, ← List.map_take, h1]
    · obtain ⟨a, ha, rfl⟩ := List.mem_map.mp hb
      refine List.mem_map.mpr ⟨_, h2 a ha, ?_⟩
      exact Prod.ext rfl (hm' a.2).symm
end FS

/-! FsV7: the law's questions and houses stand well (plain). -/
namespace FS
open PySem L2
structure GM (T : Tm → Prop) (h : House) (m : Mem) : Prop where
  head : ∀ t ∈ m.1, T t
  some : m.2 ≠ []
  few : m.2.length ≤ 5
  wid : ∀ a ∈ m.2, widOf h.tabs a.1 = Option.some a.2.length
  each : ∀ a ∈ m.2, ∀ t ∈ a.2, T t
  names : ∀ x, .inr x ∈ m.1 → InAts x m.2
structure GQ (T : Tm → Prop) (h : House) (q : Ques) : Prop where
  each : ∀ m ∈ q.mems, GM T h m
  some : q.mems ≠ []
  few : q.mems.length ≤ 10
  size : ∃ s, s ≤ 5 ∧ q.told ≤ s ∧ ∀ m ∈ q.mems, m.1.length = s
structure TOk (T : Tm → Prop) : Prop where
  tm : ∀ t, T t → tmB t = true
  nums : ∃ L : List Int, L.length < 64 ∧ ∀ i, T (.inl i) → i ∈ L
theorem wid_bounds {l : List Tab} (hl : TabsOk l) {x : Str} {n : Nat} (h : widOf l x = some n) : 1 ≤ n ∧ n ≤ 9 := by
  have := hl.each (x, n) (mem_of_kget h)
  unfold tabB at this
  rw [Bool.and_eq_true, Bool.and_eq_true] at this
  exact ⟨of_decide_eq_true this.2.1, of_decide_eq_true this.2.2⟩
theorem GQ.wok {T : Tm → Prop} {h : House} {q : Ques} (tk : TOk T) (ho : HOk h) (g : GQ T h q) : WOk h q := by
  obtain ⟨s, s5, ts, hs⟩ := g.size
  have w9 : ∀ m ∈ q.mems, ∀ a ∈ m.2, 1 ≤ a.2.length ∧ a.2.length ≤ 9 := fun m hm a ha => wid_bounds ho.tabs ((g.each m hm).wid a ha)
  refine ⟨⟨⟨g.some, by have := g.few; omega, fun m hm => ?_, fun m hm m' hm' => by rw [hs m hm, hs m' hm']⟩, g.few, fun m hm => (g.each m hm).few, fun m hm => by rw [hs m hm]; exact ts, ?_⟩, fun m hm => ⟨(g.each m hm).wid, by have := (g.each m hm).few; omega⟩⟩
  · have M := g.each m hm
    refine ⟨fun t ht => tk.tm t (M.head t ht), by rw [hs m hm]; omega, M.some, fun a ha => ?_, by have := M.few; omega, M.names⟩
    have := w9 m hm a ha
    exact ⟨wid_word ho.tabs (M.wid a ha), fun e => by rw [e] at this; simp at this, fun t ht => tk.tm t (M.each a ha t ht), by omega⟩
  · obtain ⟨L, hL, hn⟩ := tk.nums
    refine ⟨L, hL, fun i ⟨m, hm, ts, hts, hi⟩ => hn i ?_⟩
    have M := g.each m hm
    rcases List.mem_cons.mp hts with rfl | hts
    · exact M.head _ hi
    · obtain ⟨a, ha, rfl⟩ := List.mem_map.mp hts
      exact M.each a ha _ hi
theorem LMem.gm {h : House} {m : Mem} (M : LMem h m) (l5 : m.2.length ≤ 5) : GM LTm h m := ⟨M.head, M.some, l5, M.wid, M.each, M.names⟩
theorem LQ.gq {h : House} {n k : Nat} {q : Ques} (g : LQ h n k q) (n10 : n ≤ 10) (k5 : k ≤ 5) : GQ LTm h q := by
  obtain ⟨s, s2, ts, hs⟩ := g.size
  exact ⟨fun m hm => (g.each m hm).gm (Nat.le_trans (g.atoms m hm) k5), g.some, Nat.le_trans g.few n10, s, by omega, ts, hs⟩
theorem ltm_ok : TOk LTm := by
  refine ⟨fun t h => ltm_tmB h, [0, 1, 2, 3], by decide, fun i h => ?_⟩
  rcases h with ⟨j, e, h1, h2⟩ | ⟨x, _, e⟩
  · rw [Sum.inl.inj e]
    have : j = 0 ∨ j = 1 ∨ j = 2 ∨ j = 3 := by omega
    rcases this with rfl | rfl | rfl | rfl <;> decide
  · cases e
def otherW : List Str := ["q", "table", "b", "works", "zz"]
def OTm (t : Tm) : Prop := (∃ i : Int, t = .inl i ∧ 0 ≤ i ∧ i ≤ 3) ∨ ∃ x ∈ otherW, t = .inr x
theorem other_word {x : Str} (h : x ∈ otherW) : wordB x = true := by
  have : otherW.all wordB = true := by decide +kernel
  exact List.all_eq_true.mp this x h
theorem otm_ok : TOk OTm := by
  refine ⟨fun t h => ?_, [0, 1, 2, 3], by decide, fun i h => ?_⟩
  · rcases h with ⟨i, rfl, h1, _⟩ | ⟨x, hx, rfl⟩
    · exact decide_eq_true h1
    · exact other_word hx
  · rcases h with ⟨j, e, h1, h2⟩ | ⟨x, _, e⟩
    · rw [Sum.inl.inj e]
      have : j = 0 ∨ j = 1 ∨ j = 2 ∨ j = 3 := by omega
      rcases this with rfl | rfl | rfl | rfl <;> decide
    · cases e
def mu (n : Int) : Int := 90 - 7 * n
theorem mu_inj (i j : Int) (h : mu i = mu j) : i = j := by unfold mu at h; omega
def MTm (t : Tm) : Prop := (∃ i : Int, t = .inl (mu i) ∧ 0 ≤ i ∧ i ≤ 3) ∨ ∃ x ∈ nameW, t = .inr x
theorem mtm_ok : TOk MTm := by
  refine ⟨fun t h => ?_, [90, 83, 76, 69], by decide, fun i h => ?_⟩
  · rcases h with ⟨i, rfl, h1, _⟩ | ⟨x, hx, rfl⟩
    · exact decide_eq_true (by unfold mu; omega)
    · exact name_word hx
  · rcases h with ⟨j, e, h1, h2⟩ | ⟨x, _, e⟩
    · rw [Sum.inl.inj e]
      have : j = 0 ∨ j = 1 ∨ j = 2 ∨ j = 3 := by omega
      rcases this with rfl | rfl | rfl | rfl <;> decide
    · cases e
theorem GM.ren {T T' : Tm → Prop} {h : House} {m m2 : Mem} {g : Tm → Tm} (M : GM T h m) (R : Ren g m m2) (hg : ∀ t, T t → T' (g t)) (hi : ∀ i, ∃ j, g (.inl i) = .inl j) (l5 : m2.2.length ≤ 5) : GM T' h m2 := by
  refine ⟨fun t ht => ?_, fun e => ?_, l5, fun b hb => ?_, fun b hb t ht => ?_, fun x hx => ?_⟩
  · rw [R.head] at ht
    obtain ⟨u, hu, rfl⟩ := List.mem_map.mp ht
    exact hg u (M.head u hu)
  · obtain ⟨a, ha⟩ := List.exists_mem_of_ne_nil _ M.some
    have := (R.atoms (atMap g a)).mpr ⟨a, ha, rfl⟩
    rw [e] at this
    exact absurd this List.not_mem_nil
  · obtain ⟨a, ha, rfl⟩ := (R.atoms b).mp hb
    show widOf h.tabs a.1 = Option.some (a.2.map g).length
    rw [List.length_map]
    exact M.wid a ha
  · obtain ⟨a, ha, rfl⟩ := (R.atoms b).mp hb
    obtain ⟨u, hu, rfl⟩ := List.mem_map.mp ht
    exact hg u (M.each a ha u hu)
  · rw [R.head] at hx
    obtain ⟨u, hu, e⟩ := List.mem_map.mp hx
    cases u with
    | inl i =>
      obtain ⟨j, ej⟩ := hi i
      rw [ej] at e
      cases e
    | inr y =>
      obtain ⟨a, ha, hy⟩ := M.names y hu
      exact ⟨atMap g a, (R.atoms _).mpr ⟨a, ha, rfl⟩, List.mem_map.mpr ⟨_, hy, e⟩⟩
theorem GQ.ren {T T' : Tm → Prop} {h : House} {q q2 : Ques} {g : Tm → Tm} (G : GQ T h q) (hR : ∀ m2 ∈ q2.mems, ∃ m ∈ q.mems, Ren g m m2) (hg : ∀ t, T t → T' (g t)) (hi : ∀ i, ∃ j, g (.inl i) = .inl j)
    (l5 : ∀ m2 ∈ q2.mems, m2.2.length ≤ 5) (ne : q2.mems ≠ []) (few : q2.mems.length ≤ 10) (et : q2.told = q.told) : GQ T' h q2 := by
  obtain ⟨s, s5, ts, hs⟩ := G.size
  refine ⟨fun m2 hm2 => ?_, ne, few, s, s5, by rw [et]; exact ts, fun m2 hm2 => ?_⟩
  · obtain ⟨m, hm, R⟩ := hR m2 hm2
    exact (G.each m hm).ren R hg hi (l5 m2 hm2)
  · obtain ⟨m, hm, R⟩ := hR m2 hm2
    rw [R.head, List.length_map]
    exact hs m hm
/-! ### other words for tables -/
theorem wid_words {τ : Str → Str} {x : Str} : ∀ {l : List Tab}, (∀ t ∈ l, τ t.1 = τ x → t.1 = x) → widOf (l.map fun t => (τ t.1, t.2)) (τ x) = widOf l x
  | [], _ => rfl
  | t :: l, h => by
    have ih := wid_words (τ := τ) (x := x) (l := l) fun u hu => h u (List.mem_cons_of_mem _ hu)
    unfold widOf kget at ih ⊢
    rw [List.map_cons, List.find?_cons, List.find?_cons]
    by_cases e : t.1 = x
    · simp [e]
    · have e' : ¬ τ t.1 = τ x := fun z => e (h t (List.mem_cons_self ..) z)
      simpa [e, e'] using ih
def tauX (x : Str) : Str := x ++ ("x" : Str)
theorem tau_inj {x y : Str} (hx : x ∈ baseW) (hy : y ∈ baseW) (e : tauX x = tauX y) : x = y := by
  have : baseW.all fun x => baseW.all fun y => !decide (tauX x = tauX y) || decide (x = y) := by decide +kernel
  have h2 := List.all_eq_true.mp (List.all_eq_true.mp this x hx) y hy
  rw [decide_eq_true e] at h2
  simpa using h2
theorem tau_word {x : Str} (hx : x ∈ baseW) : wordB (tauX x) = true := by
  have : baseW.all fun x => wordB (tauX x) := by decide +kernel
  exact List.all_eq_true.mp this x hx
theorem rul_base {h : House} (po : PlanOk h) {x : Str} {n : Nat} (e : widOf h.tabs x = some n) : x ∈ baseW := po.base (x, n) (mem_of_kget e)
theorem hok_words {h : House} (po : PlanOk h) : HOk (houMap tauX h) := by
  have ho := po.ok
  refine ⟨⟨fun e => ho.tabs.some (List.map_eq_nil_iff.mp e), ?_, fun t ht => ?_, ?_⟩, fun r hr => ?_, ?_⟩
  · show (h.tabs.map _).length ≤ 100
    rw [List.length_map]
    exact ho.tabs.few
  · obtain ⟨u, hu, rfl⟩ := List.mem_map.mp (show t ∈ h.tabs.map fun t => (tauX t.1, t.2) from ht)
    have h1 := ho.tabs.each u hu
    unfold tabB at h1 ⊢
    rw [Bool.and_eq_true] at h1 ⊢
    exact ⟨tau_word (po.base u hu), h1.2⟩
  · show ((h.tabs.map fun t => (tauX t.1, t.2)).map (·.1)).Nodup
    rw [List.map_map, List.nodup_iff_pairwise_ne]
    have nd := ho.tabs.nodup
    rw [List.nodup_iff_pairwise_ne] at nd
    refine List.pairwise_map.mpr ((List.pairwise_map.mp nd).imp_of_mem fun {a b} ha hb n e => n (tau_inj (po.base a ha) (po.base b hb) e))
  · obtain ⟨u, hu, rfl⟩ := List.mem_map.mp (show r ∈ h.ruls.map fun r => (tauX r.1, r.2) from hr)
    obtain ⟨w, hw, h1, h2, h3⟩ := (ho.ruls u hu).ex
    exact ⟨w, (wid_words fun t ht e => tau_inj (po.base t ht) (rul_base po hw) e).trans hw, h1, h2, h3⟩
  · show (h.ruls.map _).length ≤ 1000
    rw [List.length_map]
    exact ho.few
theorem gq_words {h : House} {q : Ques} {T : Tm → Prop} (po : PlanOk h) (G : GQ T h q) : GQ T (houMap tauX h) ⟨q.mems.map (memW tauX), q.told⟩ := by
  obtain ⟨s, s5, ts, hs⟩ := G.size
  refine ⟨fun m2 hm2 => ?_, fun e => G.some (List.map_eq_nil_iff.mp e), ?_, s, s5, ts, fun m2 hm2 => ?_⟩
  · obtain ⟨m, hm, rfl⟩ := List.mem_map.mp hm2
    have M := G.each m hm
    refine ⟨M.head, fun e => M.some (List.map_eq_nil_iff.mp e), ?_, fun b hb => ?_, fun b hb t ht => ?_, fun x hx => ?_⟩
    · show (m.2.map _).length ≤ 5
      rw [List.length_map]
      exact M.few
    · obtain ⟨a, ha, rfl⟩ := List.mem_map.mp hb
      have := M.wid a ha
      exact (wid_words fun t ht e => tau_inj (po.base t ht) (rul_base po this) e).trans this
    · obtain ⟨a, ha, rfl⟩ := List.mem_map.mp hb
      exact M.each a ha t ht
    · obtain ⟨a, ha, hxa⟩ := M.names x hx
      exact ⟨(tauX a.1, a.2), List.mem_map.mpr ⟨a, ha, rfl⟩, hxa⟩
  · show (q.mems.map _).length ≤ 10
    rw [List.length_map]
    exact G.few
  · obtain ⟨m, hm, rfl⟩ := List.mem_map.mp hm2
    exact hs m hm
/-- a house with the same rules in another order -/
theorem hok_rs {h : House} (ho : HOk h) {rs : List Rul} (h1 : ∀ r, r ∈ rs ↔ r ∈ h.ruls) (h2 : rs.length ≤ h.ruls.length) : HOk ⟨h.tabs, rs⟩ := ⟨ho.tabs, fun r hr => ho.ruls r ((h1 r).mp hr), Nat.le_trans h2 ho.few⟩
theorem GQ.rs {T : Tm → Prop} {h : House} {q : Ques} {rs : List Rul} (G : GQ T h q) : GQ T ⟨h.tabs, rs⟩ q := ⟨fun m hm => let M := G.each m hm; ⟨M.head, M.some, M.few, M.wid, M.each, M.names⟩, G.some, G.few, G.size⟩
theorem rows_rs {h : House} {rows : List Row} {rs : List Rul} (h1 : ∀ r, r ∈ rs ↔ r ∈ h.ruls) (R : RowsOk h rows) : RowsOk ⟨h.tabs, rs⟩ rows := ⟨R.each, fun p hp q hq r hr => R.keep p hp q hq r ((h1 r).mp hr), R.few⟩
theorem rows_mem {h : House} {rows rows2 : List Row} (R : RowsOk h rows) (h1 : ∀ r ∈ rows2, r ∈ rows) (h2 : rows2.length ≤ rows.length) : RowsOk h rows2 := ⟨fun r hr => R.each r (h1 r hr), fun p hp q hq => R.keep p (h1 p hp) q (h1 q hq), Nat.le_trans h2 R.few⟩
theorem rows_num {h : House} {rows : List Row} (R : RowsOk h rows) (hn : ∀ r ∈ rows, ∀ n ∈ r.2, n ≤ 4) : RowsOk h (rows.map (rowTo mu)) := by
  refine ⟨fun r hr => ?_, fun p hp q hq r hr e1 e2 e3 => ?_, by rw [List.length_map]; exact R.few⟩
  · obtain ⟨u, hu, rfl⟩ := List.mem_map.mp hr
    have U := R.each u hu
    refine ⟨?_, fun n hn' => ?_, ?_⟩
    · show widOf h.tabs u.1 = some (u.2.map mu).length
      rw [List.length_map]
      exact U.wid
    · obtain ⟨k, hk, rfl⟩ := List.mem_map.mp hn'
      have := hn u hu k hk
      unfold mu
      omega
    · show (u.2.map mu).length ≤ 100
      rw [List.length_map]
      exact U.few
  · obtain ⟨u, hu, rfl⟩ := List.mem_map.mp hp
    obtain ⟨v, hv, rfl⟩ := List.mem_map.mp hq
    have inj : ∀ c, (u.2.map mu)[c]? = (v.2.map mu)[c]? → u.2[c]? = v.2[c]? := fun c e => by
      rw [List.getElem?_map, List.getElem?_map] at e
      cases h1 : u.2[c]? with
      | none =>
        rw [h1] at e
        cases h2 : v.2[c]? with
        | none => rfl
        | some y => rw [h2] at e; cases e
      | some x =>
        rw [h1] at e
        cases h2 : v.2[c]? with
        | none => rw [h2] at e; cases e
        | some y => rw [h2] at e; rw [mu_inj _ _ (Option.some.inj e)]
    have h4 := R.keep u hu v hv r hr e1 e2 fun c hc => inj c (e3 c hc)
    show (u.2.map mu)[r.2.2]? = (v.2.map mu)[r.2.2]?
    rw [List.getElem?_map, List.getElem?_map, h4]
theorem ansOk {T : Tm → Prop} {h : House} {q : Ques} {rows : List Row} {told : List Int} (G : GQ T h q) (R : RowsOk h rows) (few : rows.length ≤ 10) (lt : told.length = q.told) : AnsOk q rows told := by
  refine ⟨few, lt, fun m hm a ha r hr e => ?_⟩
  have h1 := (G.each m hm).wid a ha
  have h2 := (R.each r hr).wid
  rw [e, h1] at h2
  exact Option.some.inj h2
theorem ansOk_mem {q : Ques} {rows rows2 : List Row} {told : List Int} (A : AnsOk q rows told) (h1 : ∀ r ∈ rows2, r ∈ rows) (h2 : rows2.length ≤ rows.length) : AnsOk q rows2 told := ⟨Nat.le_trans h2 A.few, A.told, fun m hm a ha r hr => A.fit m hm a ha r (h1 r hr)⟩
theorem isAns_rows {ms : List Mem} {k : Nat} {rows rows2 : List Row} {told t : List Int} (h : ∀ r, r ∈ rows ↔ r ∈ rows2) : IsAns ms k rows told t ↔ IsAns ms k rows2 told t := by
  have : ∀ {rows rows2 : List Row}, (∀ r, r ∈ rows ↔ r ∈ rows2) → IsAns ms k rows told t → IsAns ms k rows2 told t := fun h ⟨m, hm, f, h1, h2, h3⟩ => ⟨m, hm, f, h1, fun a ha => (h _).mp (h2 a ha), h3⟩
  exact ⟨this h, this fun r => (h r).symm⟩
/-- what an answer holds: numbers of rows and of the head -/
theorem isAns_small {h : House} {n k : Nat} {q : Ques} {rows : List Row} {told t : List Int} (G : GQ LTm h q) (hn : ∀ r ∈ rows, ∀ n ∈ r.2, 0 ≤ n ∧ n ≤ 3) (a : IsAns q.mems q.told rows told t) : ∀ i ∈ t, 0 ≤ i ∧ i ≤ 3 := by
  obtain ⟨m, hm, f, h1, h2, rfl⟩ := a
  intro i hi
  obtain ⟨u, hu, rfl⟩ := List.mem_map.mp hi
  have M := G.each m hm
  cases u with
  | inl j =>
    rcases M.head _ hu with ⟨j', e, h3, h4⟩ | ⟨x, _, e⟩
    · have e1 : j = j' := Sum.inl.inj e
      show 0 ≤ j ∧ j ≤ 3
      omega
    · cases e
  | inr x =>
    obtain ⟨a, ha, hx⟩ := M.names x hu
    exact hn _ (h2 a ha) _ (List.mem_map.mpr ⟨_, hx, rfl⟩)
def movL : List (Key × Tm) := [(.inl 0, .inl 90), (.inl 1, .inl 83), (.inl 2, .inl 76), (.inl 3, .inl 69), (.inl 4, .inl 62)]
theorem mov_num {i : Int} (h0 : 0 ≤ i) (h4 : i ≤ 4) : kget movL (.inl i) = some (.inl (mu i)) := by
  have : i = 0 ∨ i = 1 ∨ i = 2 ∨ i = 3 ∨ i = 4 := by omega
  rcases this with rfl | rfl | rfl | rfl | rfl <;> decide +kernel
theorem mov_tm {t : Tm} (h : LTm t) : getT movL t = numT mu t := by
  rcases h with ⟨i, rfl, h1, h2⟩ | ⟨x, _, rfl⟩
  · unfold getT
    rw [mov_num h1 (by omega)]
    rfl
  · rfl
theorem mov_mem {h : House} {m : Mem} (M : GM LTm h m) : memMap (getT movL) m = memMap (numT mu) m := by
  refine Prod.ext (List.map_congr_left fun t ht => mov_tm (M.head t ht)) (List.map_congr_left fun a ha => ?_)
  exact Prod.ext rfl (List.map_congr_left fun t ht => mov_tm (M.each a ha t ht))
end FS

/-! FsW6: _law_words_right, _law_moved_right. -/
namespace FS
open PySem L2
theorem base_len {x : Str} (h : x ∈ baseW) : x.length + (("x" : Str)).length ≤ 1000000 := by
  have : baseW.all fun x => decide (x.length + (("x" : Str)).length ≤ 1000000) := by decide +kernel
  exact of_decide_eq_true (List.all_eq_true.mp this x h)
def wordsL (h : House) : List (Key × D) := h.tabs.map fun t => ((.inr t.1 : Key), D.str (tauX t.1))
theorem wordsL_get {h : House} (ho : HOk h) {x : Str} {n : Nat} (e : widOf h.tabs x = some n) : kget (wordsL h) (.inr x) = some (.str (tauX x)) := by
  refine kget_of_mem ?_ (List.mem_map.mpr ⟨(x, n), mem_of_kget e, rfl⟩)
  unfold wordsL
  rw [List.map_map, show ((fun x : Key × D => x.1) ∘ fun t : Tab => ((.inr t.1 : Key), D.str (tauX t.1))) = Sum.inr ∘ (fun t : Tab => t.1) from rfl, ← List.map_map]
  have := ho.tabs.nodup
  rw [List.nodup_iff_pairwise_ne] at this ⊢
  exact List.Pairwise.map _ (fun a b n e => n (Sum.inr.inj e)) this
theorem wordsL_merge {h : House} (ho : HOk h) : kmerge [] (wordsL h) = wordsL h := by
  rw [kmerge_nodup _ (fun _ _ z => absurd z List.not_mem_nil)]
  · rfl
  unfold wordsL
  rw [List.map_map, show ((fun x : Key × D => x.1) ∘ fun t : Tab => ((.inr t.1 : Key), D.str (tauX t.1))) = Sum.inr ∘ (fun t : Tab => t.1) from rfl, ← List.map_map]
  have := ho.tabs.nodup
  rw [List.nodup_iff_pairwise_ne] at this ⊢
  exact List.Pairwise.map _ (fun a b n e => n (Sum.inr.inj e)) this
def wordPD : D → D
  | .tup (.str x :: _) => .tup [.str x, .str (tauX x)]
  | d => d
theorem wordPD_map (h : House) : (h.tabs.map dTab).map wordPD = (wordsL h).map dPair := by
  unfold wordsL
  rw [List.map_map, List.map_map]
  rfl
open Classical in
/-- nothing keeps the k-th member -/
noncomputable def lostB (h : House) (q : Ques) (k : Nat) : Bool := decide (∃ m, q.mems[k]? = some m ∧ Clash h.ruls m.2)
open Classical in
theorem lostB_iff {h : House} {q : Ques} {k : Nat} : lostB h q k = true ↔ ∃ m, q.mems[k]? = some m ∧ Clash h.ruls m.2 := by
  unfold lostB
  exact decide_eq_true_iff
noncomputable def lostD (h : House) (q : Ques) : D → Bool
  | .int i => lostB h q i.toNat
  | _ => false
theorem lostD_int (h : House) (q : Ques) (k : Nat) : lostD h q (.int (k : Nat)) = lostB h q k := by
  show lostB h q ((k : Int).toNat) = _
  rw [Int.toNat_natCast]
theorem frz_clash {h : House} {m : Mem} {N : Int} {c : Tm → Int} {rows : List Row} (F : FrzOut h m N c rows) : ¬ Clash h.ruls m.2 := by
  rintro ⟨i1, i2, ne, e⟩
  have e2 := (F.frz.eq (.inl i1) (.inl i2) ?_ ?_).mpr e
  · rw [F.frz.inl, F.frz.inl] at e2
    exact ne e2
  all_goals
    rcases cg_in e with z | ⟨z1, z2⟩
    · exact absurd (Sum.inl.inj z) ne
    · first | exact .inl z1 | exact .inl z2
section
variable {P : Program} {w : World} {K : PySem.W.Frag} {mg : Str → Option Value} {base : Heap} {cH cS cQ : Addr}
def sp_law_words_right : Spc := fun ds S => ∃ (h : House) (q : Ques), ds = [.box, dPlan h, dAsked q] ∧ PlanOk h ∧ LQ h 2 3 q ∧ S (.bl true)
theorem len_law_words_right : ∀ ds S, sp_law_words_right ds S → ds.length = 3 := by rintro _ _ ⟨_, _, rfl, _⟩; rfl
theorem sc__law_words_right : FnScope ["_law_box_here", "_law_plan", "_law_asked_here", "_law_then", "_law_words", "_law_word", "_law_wide", "_law_far", "_law_first", "_law_late", "_law_due"] ["_law_box_here", "_law_plan", "_law_asked_here"] (defScope (topS 72)) := ⟨rfl, rfl, rfl, by decide +kernel, rfl, by decide +kernel, by decide +kernel⟩
/-! slots: 0 _law_box_here, 1 _law_plan, 2 _law_asked_here, 3 _law_then, 4 _law_words, 5 _law_word, 6 _law_wide, 7 _law_far, 8 _law_first, 9 _law_late, 10 _law_due; cells: [] -/
theorem Txt.d_law_words_right (T : Txt K mg cH cS cQ) : Df P w K mg base 10 "_law_words_right" ["_law_box_here", "_law_plan", "_law_asked_here"] [] sp_law_words_right := by
  refine df_mk T.a_law_words_right sc__law_words_right (fun _ _ _ _ _ _ us hl => match us, hl with | [_, _, _], _ => rfl) len_law_words_right fun f cdv A outer s H E hr => ?_
  refine ⟨_,
    (pss_cons (ps_par (i := 3) (j := 4) (by rfl) sc__law_words_right.nd rfl rfl (by decide) rfl rfl (pa_cons (pe_df T.d_law_near hr (by decide) (by rfl) (pa_cons (pv 0) (pa_cons (pv 1) (pa_cons (pv 2) pa_nil)))) (pa_cons (pe_callTy (kCR (K := K) (r := rDictPr) (cr_dictPr rfl)) (by rfl) T.f_dict (by decide +kernel) (pa_cons (pe_lc (own := [("_law_word", 5), ("_law_wide", 6)]) rfl sc__law_words_right.nd (kPI (K := K) (w := iList) (pi_list (pe_ix (kIx (K := K) (r := rIx) ix_seq) (pv 1) pe_int (fun _ _ => rfl)))) (blkOk_by (own := [("_law_word", 5), ("_law_wide", 6)]) (by first | (show blkC ["_law_box_here", "_law_plan", "_law_asked_here", "_law_then", "_law_words", "_law_word", "_law_wide", "_law_far", "_law_first", "_law_late", "_law_due"] (defScope (topS 72)) _ _ = true; decide +kernel) | rfl)) (fun _ _ _ _ _ => by exact (kPG (K := K) (w := gTup) (pg_tup (n := 2) rfl (pgs_cons (pg_name (i := 5) sc__law_words_right.nd rfl (by first | exact Or.inl rfl | exact Or.inr rfl)) (pgs_cons (pg_name (i := 6) sc__law_words_right.nd rfl (by first | exact Or.inl rfl | exact Or.inr rfl)) pgs_nil))))) (fun _ _ _ _ _ => by exact pts_nil) (fun _ _ _ _ _ => by exact (pe_tup (pa_cons (pv 5) (pa_cons (pe_op op_addS (pv 5) pe_str) pa_nil))))) pa_nil)) pa_nil)) (by rfl))
    (pss_cons (ps_asg (pe_df T.d_law_by_words hr (by decide) (by rfl) (pa_cons (pv 1) (pa_cons (pv 2) (pa_cons (pv 4) pa_nil)))) (kPG (K := K) (w := gTup) (pg_tup (n := 2) rfl (pgs_cons (pg_name (i := 7) sc__law_words_right.nd rfl (by first | exact Or.inl rfl | exact Or.inr rfl)) (pgs_cons (pg_name (i := 8) sc__law_words_right.nd rfl (by first | exact Or.inl rfl | exact Or.inr rfl)) pgs_nil)))))
    (pss_cons (ps_set (i := 9) sc__law_words_right.nd rfl (by first | exact Or.inl rfl | exact Or.inr rfl) (pe_ix (kIx (K := K) (r := rIx) ix_seq) (pe_df T.d_law_by_words hr (by decide) (by rfl) (pa_cons (pv 1) (pa_cons (pv 3) (pa_cons (pv 4) pa_nil)))) pe_int (fun _ _ => rfl)))
    (pss_cons (ps_set (i := 10) sc__law_words_right.nd rfl (by first | exact Or.inl rfl | exact Or.inr rfl) (pe_df T.d_is_within hr (by decide) (by rfl) (pa_cons (pe_df T.d_law_house_of hr (by decide) (by rfl) (pa_cons (pv 1) pa_nil)) (pa_cons (pe_df T.d_law_asked hr (by decide) (by rfl) (pa_cons (pv 2) pa_nil)) (pa_cons (pe_df T.d_law_asked hr (by decide) (by rfl) (pa_cons (pv 3) pa_nil)) pa_nil)))))
    (pss_one (ps_ret (pe_cmpR op_eq (pe_df T.d_is_within hr (by decide) (by rfl) (pa_cons (pe_df T.d_law_house_of hr (by decide) (by rfl) (pa_cons (pv 7) pa_nil)) (pa_cons (pe_df T.d_law_asked hr (by decide) (by rfl) (pa_cons (pv 8) pa_nil)) (pa_cons (pe_df T.d_law_asked hr (by decide) (by rfl) (pa_cons (pv 9) pa_nil)) pa_nil)))) (pv 10) (nomark _)))))))), fun B ds S h => ?_⟩
  obtain ⟨h, q, rfl, po, lq, hs⟩ := h
  have ho := po.ok
  refine ws_seq (ws_parDD (wp_call0 (wa_cons (wp_var rfl (wa_cons (wp_var rfl (wa_cons (wp_var rfl (wa_nil ⟨h, q, rfl, po, lq, fun q' lq' tq => ?_⟩)))))))))
  refine wp_dictPr (wa_cons (wp_lcMap (wi_list (wp_ix (wp_var rfl (wp_int ⟨_, _, .lst (h.tabs.map dTab), .inr rfl, rfl, rfl, _, rfl, sz_le (by rw [List.length_map]; have := po.few; omega), wordPD, fun d hd => ?_, wa_nil ⟨wordsL h, .inl (by rw [wordPD_map]), ?_⟩⟩))))))
  · obtain ⟨t, ht, rfl⟩ := List.mem_map.mp hd
    exact wg_tup rfl (wg_cons (wg_name (by simp) (wg_cons (wg_name (by simp) (wg_nil (wp_tup (wa_cons (wp_var rfl (wa_cons (wp_addS (wp_var rfl (wp_str ⟨_, _, rfl, rfl, sz_le (base_len (po.base t ht)), wa_nil ⟨sz_le (Nat.succ_le_of_lt (by simp)), rfl⟩⟩))))))))))))
  rw [wordsL_merge ho]
  have gq : GQ LTm h q := lq.gq (by omega) (by omega)
  have gq' : GQ LTm h q' := lq'.gq (by omega) (by omega)
  have wk : ∀ {p : Ques}, GQ LTm h p → ∀ m ∈ p.mems, ∀ a ∈ m.2, kget (wordsL h) (.inr a.1) = some (.str (tauX a.1)) := fun g m hm a ha => wordsL_get ho ((g.each m hm).wid a ha)
  have bw : ∀ {p : Ques}, GQ LTm h p → sp_law_by_words [dPlan h, dAsked p, .dic (wordsL h)] (fun d => d = .tup [dPlan (houMap tauX h), dAsked ⟨p.mems.map (memW tauX), p.told⟩]) := fun {p} g => by
    refine ⟨h, p, wordsL h, tauX, rfl, by have := po.few; omega, by have := po.few2; omega, by have := g.few; omega, fun m hm => by have := (g.each m hm).few; omega, fun t ht => wordsL_get ho (kget_of_mem ho.tabs.nodup ht), fun r hr => ?_, wk g, rfl⟩
    obtain ⟨w, hw, _⟩ := (ho.ruls r hr).ex
    exact wordsL_get ho hw
  have bw' : ∀ {p : Ques} {S : D → Prop}, GQ LTm h p → S (.tup [dPlan (houMap tauX h), dAsked ⟨p.mems.map (memW tauX), p.told⟩]) → sp_law_by_words [dPlan h, dAsked p, .dic (wordsL h)] S := fun {p S} g s => by
    obtain ⟨h1, q1, k1, t1, e, a1, a2, a3, a4, a5, a6, a7, a8⟩ := bw g
    exact ⟨h1, q1, k1, t1, e, a1, a2, a3, a4, a5, a6, a7, by rw [a8]; exact s⟩
  refine ws_seq (ws_asgG (vs := [7, 8]) (wp_call0 (wa_cons (wp_var rfl (wa_cons (wp_var rfl (wa_cons (wp_var rfl (wa_nil (bw' gq (wg_tup rfl (wg_cons (wg_name (by simp) (wg_cons (wg_name (by simp) (wg_nil ?_))))))))))))))))
  refine ws_seq (ws_asg (wp_ix (wp_call0 (wa_cons (wp_var rfl (wa_cons (wp_var rfl (wa_cons (wp_var rfl (wa_nil (bw' gq' (wp_int ⟨_, _, dAsked ⟨q'.mems.map (memW tauX), q'.told⟩, .inr rfl, rfl, rfl, ?_⟩))))))))))))
  have w1 := gq.wok ltm_ok ho
  have w2 := gq'.wok ltm_ok ho
  have hx := hok_words po
  have g1 := gq_words po gq
  have g2 := gq_words po gq'
  have w3 := g1.wok ltm_ok hx
  have w4 := g2.wok ltm_ok hx
  -- what is within, by the one words and by the others
  refine ws_seq (ws_asg (Wp.imp (S := fun d => ∃ r : Bool, d = .bl r ∧ (r = true ↔ Within h.ruls q.mems q'.mems)) ?_ fun d ⟨r1, e1, hr1⟩ => ?_))
  · refine wp_call0 (wa_cons (wp_call0 (wa_cons (wp_var rfl (wa_nil ⟨h, rfl, ho, fun rs h1 h2 => wa_cons (wp_call0 (wa_cons (wp_var rfl (wa_nil ⟨q, rfl, w1.ok.mems, w1.ok.told, wa_cons (wp_call0 (wa_cons (wp_var rfl (wa_nil ⟨q', rfl, w2.ok.mems, w2.ok.told, wa_nil ⟨⟨h.tabs, rs⟩, q, q', rfl, hok_rs ho h1 h2, gq.rs.wok ltm_ok (hok_rs ho h1 h2), gq'.rs.wok ltm_ok (hok_rs ho h1 h2), tq.symm, fun r hr => ⟨r, rfl, hr.trans (within_rs h1)⟩⟩⟩))))⟩))))⟩)))))
  subst e1
  refine ws_ret (wp_eq (Wp.imp (S := fun d => ∃ r : Bool, d = .bl r ∧ (r = true ↔ Within h.ruls q.mems q'.mems)) ?_ fun d ⟨r2, e2, hr2⟩ => ?_))
  · refine wp_call0 (wa_cons (wp_call0 (wa_cons (wp_var rfl (wa_nil ⟨houMap tauX h, rfl, hx, fun rs h1 h2 => wa_cons (wp_call0 (wa_cons (wp_var rfl (wa_nil ⟨⟨q.mems.map (memW tauX), q.told⟩, rfl, w3.ok.mems, w3.ok.told, wa_cons (wp_call0 (wa_cons (wp_var rfl (wa_nil ⟨⟨q'.mems.map (memW tauX), q'.told⟩, rfl, w4.ok.mems, w4.ok.told, wa_nil ⟨⟨(houMap tauX h).tabs, rs⟩, _, _, rfl, hok_rs hx h1 h2, g1.rs.wok ltm_ok (hok_rs hx h1 h2), g2.rs.wok ltm_ok (hok_rs hx h1 h2), tq.symm, fun r hr => ⟨r, rfl, hr.trans ?_⟩⟩⟩))))⟩))))⟩)))))
    refine within_words (W := fun x => x ∈ baseW) h1 (fun x y hx hy e => tau_inj hx hy e) (fun r hr => ?_) (fun m hm a ha => rul_base po ((gq.each m hm).wid a ha)) (fun m hm a ha => rul_base po ((gq'.each m hm).wid a ha))
    obtain ⟨w, hw, _⟩ := (ho.ruls r hr).ex
    exact rul_base po hw
  subst e2
  refine wp_var rfl ⟨.bl r2, .bl r1, rfl, rfl, rfl, ?_⟩
  have : r2 = r1 := by rw [Bool.eq_iff_iff, hr1, hr2]
  rw [decide_eq_true (congrArg V.bl this)]
  exact hs
def mvPD : D → D
  | .int i => .tup [.int i, .int (90 - 7 * i)]
  | d => d
theorem mvPD_map : (dRange 5).map mvPD = (tmL movL).map dPair := by rfl
theorem movL_merge : kmerge [] (tmL movL) = tmL movL := by
  rw [kmerge_nodup (by decide +kernel) (fun _ _ z => absurd z List.not_mem_nil)]
  rfl
def mvD : D → D
  | .int i => .int (mu i)
  | d => d
def mvR : D → D
  | .tup [t, .tup ns] => .tup [t, .tup (ns.map mvD)]
  | d => d
def mvT : D → D
  | .tup ns => .tup (ns.map mvD)
  | d => d
theorem mvD_map (ns : List Int) : (ns.map D.int).map mvD = (ns.map mu).map D.int := by
  rw [List.map_map, List.map_map]
  rfl
theorem mvR_map (rows : List Row) : (rows.map dRow).map mvR = (rows.map (rowTo mu)).map dRow := by
  rw [List.map_map, List.map_map]
  refine List.map_congr_left fun r _ => ?_
  show D.tup [.str r.1, .tup ((r.2.map D.int).map mvD)] = _
  rw [mvD_map]
  rfl
theorem mvT_map (xs : List (List Int)) : (xs.map dInts).map mvT = (xs.map fun x => x.map mu).map dInts := by
  rw [List.map_map, List.map_map]
  refine List.map_congr_left fun r _ => ?_
  show D.tup ((r.map D.int).map mvD) = _
  rw [mvD_map]
  rfl
def rowsIns (c : Addr) (rows : List Row) (fs : List (Str × D)) : Prop := fs.lookup (Str.ofString "rows") = some (.tup (rows.map dRow))
def sp_law_moved_right : Spc := fun ds S => ∃ (h : House) (q : Ques) (rows : List Row) (pl : List Int), ds = [dPlan h, dAsked q, .lst (rows.map dRow), .lst (pl.map D.int)] ∧ PlanOk h ∧ LQ h 2 3 q ∧ RowsOk h rows ∧ rows.length ≤ 10 ∧ (∀ r ∈ rows, ∀ n ∈ r.2, n ≤ 3) ∧ pl.length = q.told ∧ (∀ n ∈ pl, 0 ≤ n ∧ n ≤ 3) ∧ S (.bl true)
theorem len_law_moved_right : ∀ ds S, sp_law_moved_right ds S → ds.length = 4 := by rintro _ _ ⟨_, _, _, _, rfl, _⟩; rfl
theorem sc__law_moved_right : FnScope ["_law_plan", "_law_asked_here", "_law_rows_here", "_law_places", "_law_house_here", "_law_moved", "_law_number", "_law_some", "_law_word", "_law_numbers", "_law_made", "_law_turned", "_law_found", "_law_due", "_law_row", "_law_spots", "_law_lost", "_law_at"] ["_law_plan", "_law_asked_here", "_law_rows_here", "_law_places"] (defScope (topS 73)) := ⟨rfl, rfl, rfl, by decide +kernel, rfl, by decide +kernel, by decide +kernel⟩
/-! slots: 0 _law_plan, 1 _law_asked_here, 2 _law_rows_here, 3 _law_places, 4 _law_house_here, 5 _law_moved, 6 _law_number, 7 _law_some, 8 _law_word, 9 _law_numbers, 10 _law_made, 11 _law_turned, 12 _law_found, 13 _law_due, 14 _law_row, 15 _law_spots, 16 _law_lost, 17 _law_at; cells: ['_law_house_here', '_law_made', '_law_moved', '_law_turned'] -/
theorem Txt.d_law_moved_right (T : Txt K mg cH cS cQ) : Df P w K mg base 10 "_law_moved_right" ["_law_plan", "_law_asked_here", "_law_rows_here", "_law_places"] [] sp_law_moved_right := by
  refine df_mk T.a_law_moved_right sc__law_moved_right (fun _ _ _ _ _ _ us hl => match us, hl with | [_, _, _, _], _ => rfl) len_law_moved_right fun f cdv A outer s H E hr => ?_
  refine ⟨_,
    (pss_cons (ps_asg (pe_tup (pa_cons (pe_df T.d_law_house_of hr (by decide) (by rfl) (pa_cons (pv 0) pa_nil)) (pa_cons (pe_callTy (kCR (K := K) (r := rDictPr) (cr_dictPr rfl)) (by rfl) T.f_dict (by decide +kernel) (pa_cons (pe_lc (own := [("_law_number", 6)]) rfl sc__law_moved_right.nd (pi_range1 (by rfl) T.f_range (pa_cons pe_int pa_nil)) (blkOk_by (own := [("_law_number", 6)]) (by first | (show blkC ["_law_plan", "_law_asked_here", "_law_rows_here", "_law_places", "_law_house_here", "_law_moved", "_law_number", "_law_some", "_law_word", "_law_numbers", "_law_made", "_law_turned", "_law_found", "_law_due", "_law_row", "_law_spots", "_law_lost", "_law_at"] (defScope (topS 73)) _ _ = true; decide +kernel) | rfl)) (fun _ _ _ _ _ => by exact (pg_name (i := 6) sc__law_moved_right.nd rfl (by first | exact Or.inl rfl | exact Or.inr rfl))) (fun _ _ _ _ _ => by exact pts_nil) (fun _ _ _ _ _ => by exact (pe_tup (pa_cons (pv 6) (pa_cons (pe_op op_sub pe_int (pe_op op_mul pe_int (pv 6))) pa_nil))))) pa_nil)) pa_nil))) (kPG (K := K) (w := gTup) (pg_tup (n := 2) rfl (pgs_cons (pg_name (i := 4) sc__law_moved_right.nd rfl (by first | exact Or.inl rfl | exact Or.inr rfl)) (pgs_cons (pg_name (i := 5) sc__law_moved_right.nd rfl (by first | exact Or.inl rfl | exact Or.inr rfl)) pgs_nil)))))
    (pss_cons (ps_setLc (i := 7) (own := [("_law_word", 8), ("_law_numbers", 9)]) rfl sc__law_moved_right.nd rfl rfl (sw_true rfl rfl rfl (by decide +kernel)) (kPI (K := K) (w := iSeq) (pi_seq (pv 2))) (blkOk_by (own := [("_law_word", 8), ("_law_numbers", 9)]) (by first | (show blkC ["_law_plan", "_law_asked_here", "_law_rows_here", "_law_places", "_law_house_here", "_law_moved", "_law_number", "_law_some", "_law_word", "_law_numbers", "_law_made", "_law_turned", "_law_found", "_law_due", "_law_row", "_law_spots", "_law_lost", "_law_at"] (defScope (topS 73)) _ _ = true; decide +kernel) | rfl)) (fun _ _ _ _ _ => by exact (kPG (K := K) (w := gTup) (pg_tup (n := 2) rfl (pgs_cons (pg_name (i := 8) sc__law_moved_right.nd rfl (by first | exact Or.inl rfl | exact Or.inr rfl)) (pgs_cons (pg_name (i := 9) sc__law_moved_right.nd rfl (by first | exact Or.inl rfl | exact Or.inr rfl)) pgs_nil))))) (fun _ _ _ _ _ => by exact pts_nil) (fun _ _ _ _ _ => by exact (pe_tup (pa_cons (pv 8) (pa_cons (pe_callTy (kCR (K := K) (r := rTupS) cr_tup) (by rfl) T.f_tuple (by decide +kernel) (pa_cons (pe_lc (own := [("_law_number", 6)]) rfl sc__law_moved_right.nd (kPI (K := K) (w := iSeq) (pi_seq (pv 9))) (blkOk_by (own := [("_law_number", 6)]) (by first | (show blkC ["_law_plan", "_law_asked_here", "_law_rows_here", "_law_places", "_law_house_here", "_law_moved", "_law_number", "_law_some", "_law_word", "_law_numbers", "_law_made", "_law_turned", "_law_found", "_law_due", "_law_row", "_law_spots", "_law_lost", "_law_at"] (defScope (topS 73)) _ _ = true; decide +kernel) | rfl)) (fun _ _ _ _ _ => by exact (pg_name (i := 6) sc__law_moved_right.nd rfl (by first | exact Or.inl rfl | exact Or.inr rfl))) (fun _ _ _ _ _ => by exact pts_nil) (fun _ _ _ _ _ => by exact (pe_dget (rm_u hr) (pv 5) (pv 6) (fun _ _ => rfl)))) pa_nil)) pa_nil)))))
    (pss_cons (ps_asg (pe_tup (pa_cons (pe_df T.d_law_asked hr (by decide) (by rfl) (pa_cons (pv 1) pa_nil)) (pa_cons (pe_mk T.m_Question hr (by decide) (by rfl) (pa_cons (pe_ix (kIx (K := K) (r := rIx) ix_seq) (pe_df T.d_law_with_names hr (by decide) (by rfl) (pa_cons (pv 1) (pa_cons (pv 5) pa_nil))) pe_int (fun _ _ => rfl)) (pa_cons (pe_ix (kIx (K := K) (r := rIx) ix_seq) (pv 1) pe_int (fun _ _ => rfl)) pa_nil))) pa_nil))) (kPG (K := K) (w := gTup) (pg_tup (n := 2) rfl (pgs_cons (pg_name (i := 10) sc__law_moved_right.nd rfl (by first | exact Or.inl rfl | exact Or.inr rfl)) (pgs_cons (pg_name (i := 11) sc__law_moved_right.nd rfl (by first | exact Or.inl rfl | exact Or.inr rfl)) pgs_nil)))))
    (pss_cons (ps_set (i := 12) sc__law_moved_right.nd rfl (by first | exact Or.inl rfl | exact Or.inr rfl) (pe_mth (pl := _) (pv 10) T.dt_answers hr (by decide) (pa_cons (pe_mk T.m_Store hr (by decide) (by rfl) (pa_cons (pv 4) (pa_cons (pv 2) pa_nil))) (pa_cons (pv 3) pa_nil))))
    (pss_cons (ps_set (i := 13) sc__law_moved_right.nd rfl (by first | exact Or.inl rfl | exact Or.inr rfl) (pe_callB (kCR (K := K) (r := rSortDt) (cr_sortDt (rm_u hr))) (by rfl) T.f_sorted (by decide +kernel) (pa_cons (pe_lc (own := [("_law_row", 14)]) rfl sc__law_moved_right.nd (kPI (K := K) (w := iSeq) (pi_seq (pv 12))) (blkOk_by (own := [("_law_row", 14)]) (by first | (show blkC ["_law_plan", "_law_asked_here", "_law_rows_here", "_law_places", "_law_house_here", "_law_moved", "_law_number", "_law_some", "_law_word", "_law_numbers", "_law_made", "_law_turned", "_law_found", "_law_due", "_law_row", "_law_spots", "_law_lost", "_law_at"] (defScope (topS 73)) _ _ = true; decide +kernel) | rfl)) (fun _ _ _ _ _ => by exact (pg_name (i := 14) sc__law_moved_right.nd rfl (by first | exact Or.inl rfl | exact Or.inr rfl))) (fun _ _ _ _ _ => by exact pts_nil) (fun _ _ _ _ _ => by exact (pe_callTy (kCR (K := K) (r := rTupS) cr_tup) (by rfl) T.f_tuple (by decide +kernel) (pa_cons (pe_lc (own := [("_law_number", 6)]) rfl sc__law_moved_right.nd (kPI (K := K) (w := iSeq) (pi_seq (pv 14))) (blkOk_by (own := [("_law_number", 6)]) (by first | (show blkC ["_law_plan", "_law_asked_here", "_law_rows_here", "_law_places", "_law_house_here", "_law_moved", "_law_number", "_law_some", "_law_word", "_law_numbers", "_law_made", "_law_turned", "_law_found", "_law_due", "_law_row", "_law_spots", "_law_lost", "_law_at"] (defScope (topS 73)) _ _ = true; decide +kernel) | rfl)) (fun _ _ _ _ _ => by exact (pg_name (i := 6) sc__law_moved_right.nd rfl (by first | exact Or.inl rfl | exact Or.inr rfl))) (fun _ _ _ _ _ => by exact pts_nil) (fun _ _ _ _ _ => by exact (pe_dget (rm_u hr) (pv 5) (pv 6) (fun _ _ => rfl)))) pa_nil)))) pa_nil)))
    (pss_cons (ps_if (pt_cmpR (kOp (K := K) (r := rNeD) (op_neD (rm_u hr))) (pe_callTy (kCR (K := K) (r := rListS) cr_list) (by rfl) T.f_list (by decide +kernel) (pa_cons (pe_mth (pl := _) (pv 11) T.dt_answers hr (by decide) (pa_cons (pe_mk T.m_Store hr (by decide) (by rfl) (pa_cons (pv 4) (pa_cons (pv 7) pa_nil))) (pa_cons (pe_lc (own := [("_law_number", 6)]) rfl sc__law_moved_right.nd (kPI (K := K) (w := iSeq) (pi_seq (pv 3))) (blkOk_by (own := [("_law_number", 6)]) (by first | (show blkC ["_law_plan", "_law_asked_here", "_law_rows_here", "_law_places", "_law_house_here", "_law_moved", "_law_number", "_law_some", "_law_word", "_law_numbers", "_law_made", "_law_turned", "_law_found", "_law_due", "_law_row", "_law_spots", "_law_lost", "_law_at"] (defScope (topS 73)) _ _ = true; decide +kernel) | rfl)) (fun _ _ _ _ _ => by exact (pg_name (i := 6) sc__law_moved_right.nd rfl (by first | exact Or.inl rfl | exact Or.inr rfl))) (fun _ _ _ _ _ => by exact pts_nil) (fun _ _ _ _ _ => by exact (pe_dget (rm_u hr) (pv 5) (pv 6) (fun _ _ => rfl)))) pa_nil))) pa_nil)) (pv 13) (nomark _))
      (pss_one (ps_ret pe_bl))
      pss_nil)
    (pss_cons (ps_set (i := 15) sc__law_moved_right.nd rfl (by first | exact Or.inl rfl | exact Or.inr rfl) (pe_listRg rfl (by rfl) T.f_list (prg_1 (by rfl) T.f_range (pe_callB (kCR (K := K) (r := rLenS) cr_len) (by rfl) T.f_len (by decide +kernel) (pa_cons (pe_ix (kIx (K := K) (r := rIx) ix_seq) (pv 1) pe_int (fun _ _ => rfl)) pa_nil)))))
    (pss_cons (ps_setLc (i := 16) (own := [("_law_at", 17)]) rfl sc__law_moved_right.nd rfl rfl (sw_true rfl rfl rfl (by decide +kernel)) (kPI (K := K) (w := iSeq) (pi_seq (pv 15))) (blkOk_by (own := [("_law_at", 17)]) (by first | (show blkC ["_law_plan", "_law_asked_here", "_law_rows_here", "_law_places", "_law_house_here", "_law_moved", "_law_number", "_law_some", "_law_word", "_law_numbers", "_law_made", "_law_turned", "_law_found", "_law_due", "_law_row", "_law_spots", "_law_lost", "_law_at"] (defScope (topS 73)) _ _ = true; decide +kernel) | rfl)) (fun _ _ _ _ _ => by exact (pg_name (i := 17) sc__law_moved_right.nd rfl (by first | exact Or.inl rfl | exact Or.inr rfl))) (fun _ _ _ _ _ => by exact (pts_one (pt_cmp (pc_isN (pe_df T.d_frozen3 hr (by decide) (by rfl) (pa_cons (pv 4) (pa_cons (pv 10) (pa_cons (pv 17) pa_nil)))))))) (fun _ _ _ _ _ => by exact (pv 17)))
    (pss_one (ps_ret (pe_cmpR (kOp (K := K) (r := rEqD) (op_eqD (rm_u hr))) (pe_lc (own := [("_law_at", 17)]) rfl sc__law_moved_right.nd (kPI (K := K) (w := iSeq) (pi_seq (pv 15))) (blkOk_by (own := [("_law_at", 17)]) (by first | (show blkC ["_law_plan", "_law_asked_here", "_law_rows_here", "_law_places", "_law_house_here", "_law_moved", "_law_number", "_law_some", "_law_word", "_law_numbers", "_law_made", "_law_turned", "_law_found", "_law_due", "_law_row", "_law_spots", "_law_lost", "_law_at"] (defScope (topS 73)) _ _ = true; decide +kernel) | rfl)) (fun _ _ _ _ _ => by exact (pg_name (i := 17) sc__law_moved_right.nd rfl (by first | exact Or.inl rfl | exact Or.inr rfl))) (fun _ _ _ _ _ => by exact (pts_one (pt_cmp (pc_isN (pe_df T.d_frozen3 hr (by decide) (by rfl) (pa_cons (pv 4) (pa_cons (pv 11) (pa_cons (pv 17) pa_nil)))))))) (fun _ _ _ _ _ => by exact (pv 17))) (pv 16) (nomark _)))))))))))), fun B ds S h => ?_⟩
  obtain ⟨h, q, rows, pl, rfl, po, lq, R, r10, rsm, lpl, psm, hs⟩ := h
  have ho := po.ok
  have gq : GQ LTm h q := lq.gq (by omega) (by omega)
  have w1 := gq.wok ltm_ok ho
  have q2 := lq.few
  have qnames : ∀ m ∈ q.mems, ∀ x, .inr x ∈ m.1 → InAts x m.2 := fun m hm => (gq.each m hm).names
  -- the question with the other numbers
  have eq2 : q.mems.map (memMap (getT movL)) = q.mems.map (memMap (numT mu)) := List.map_congr_left fun m hm => mov_mem (gq.each m hm)
  have g2 : GQ MTm h ⟨q.mems.map (memMap (numT mu)), q.told⟩ := by
    refine gq.ren (g := numT mu) (fun m2 hm2 => ?_) (fun t ht => ?_) (fun i => ⟨_, rfl⟩) (fun m2 hm2 => ?_) (fun e => gq.some (List.map_eq_nil_iff.mp e)) (by show (q.mems.map _).length ≤ 10; rw [List.length_map]; omega) rfl
    · obtain ⟨m, hm, rfl⟩ := List.mem_map.mp hm2
      exact ⟨m, hm, rfl, fun b => ⟨fun hb => let ⟨a, ha, e⟩ := List.mem_map.mp hb; ⟨a, ha, e.symm⟩, fun ⟨a, ha, e⟩ => List.mem_map.mpr ⟨a, ha, e.symm⟩⟩⟩
    · rcases ht with ⟨i, rfl, h1, h2⟩ | ⟨x, hx, rfl⟩
      · exact .inl ⟨i, rfl, h1, h2⟩
      · exact .inr ⟨x, hx, rfl⟩
    · obtain ⟨m, hm, rfl⟩ := List.mem_map.mp hm2
      show (m.2.map _).length ≤ 5
      rw [List.length_map]
      exact (gq.each m hm).few
  have w2 := g2.wok mtm_ok ho
  have num : ∀ {i : Int}, 0 ≤ i → i ≤ 3 → kget (tmL movL) (.inl i) = some (.int (mu i)) := fun h0 h3 => by
    rw [kget_tm, mov_num h0 (by omega)]
    rfl
  have lr : (rows.map dRow).length ≤ sizeLine := by rw [List.length_map]; exact sz_le (by omega)
  -- house, moved
  refine ws_seq (ws_asgG (vs := [4, 5]) (wp_tup (wa_cons (wp_call0 (wa_cons (wp_var rfl (wa_nil ⟨h, rfl, ho, fun rs hrs lrs => wa_cons (wp_dictPr (wa_cons (wp_lcMap (wi_rng1 (wa_cons (wp_int (wa_nil ⟨5, rfl, by decide, by decide, sz_le (by decide), mvPD, fun d hd => ?_, wa_nil ⟨tmL movL, .inl (by rw [← mvPD_map]; rfl), wa_nil ⟨sz_le (Nat.succ_le_of_lt (by simp)), wg_tup rfl (wg_cons (wg_name (by simp) (wg_cons (wg_name (by simp) (wg_nil ?_)))))⟩⟩⟩)))))))⟩)))))))
  · obtain ⟨k, hk⟩ := List.getElem?_of_mem hd
    obtain ⟨hk2, rfl⟩ := dRange_get hk
    exact wg_name (by simp) (wp_tup (wa_cons (wp_var rfl (wa_cons (wp_sub (wp_int (wp_mul (wp_int (wp_var rfl ⟨_, _, rfl, rfl, cmul_l (by decide), _, _, rfl, rfl, wa_nil ⟨sz_le (Nat.succ_le_of_lt (by simp)), rfl⟩⟩)))))))))
  rw [movL_merge]
  have h1 := hok_rs ho hrs lrs
  have Rr : RowsOk ⟨h.tabs, rs⟩ rows := rows_rs hrs R
  have nn : ∀ r ∈ rows, ∀ n ∈ r.2, 0 ≤ n ∧ n ≤ 3 := fun r hr n hn => ⟨(R.each r hr).nn n hn, rsm r hr n hn⟩
  -- rows with the other numbers
  refine ws_seq (ws_asg (wp_lcMap (wi_seqV (i := 2) rfl (.inl rfl) ⟨lr, mvR, fun d hd => ?_, ?_⟩)))
  · obtain ⟨r, hr, rfl⟩ := List.mem_map.mp hd
    have := (R.each r hr).few
    refine wg_tup rfl (wg_cons (wg_name (by simp) (wg_cons (wg_name (by simp) (wg_nil (wp_tup (wa_cons (wp_var rfl (wa_cons (wp_tupOf (wa_cons (wp_lcMap (wi_seqV (i := 9) rfl (.inr rfl) ⟨sz_le (by rw [List.length_map]; omega), mvD, fun d hd => ?_, wa_nil ⟨_, .inl rfl, wa_nil ⟨sz_le (Nat.succ_le_of_lt (by simp)), rfl⟩⟩⟩)))))))))))))
    obtain ⟨n, hn, rfl⟩ := List.mem_map.mp hd
    obtain ⟨n0, n3⟩ := nn r hr n hn
    exact wg_name (by simp) (wp_dget (wp_var rfl (wp_var rfl ⟨_, .inl n, _, rfl, rfl, num n0 n3, rfl⟩)))
  rw [mvR_map]
  have R2 : RowsOk ⟨h.tabs, rs⟩ (rows.map (rowTo mu)) := rows_num Rr fun r hr n hn => by have := nn r hr n hn; omega
  -- both questions
  refine ws_seq (ws_asgG (vs := [10, 11]) (wp_tup (wa_cons (wp_call0 (wa_cons (wp_var rfl (wa_nil ⟨q, rfl, w1.ok.mems, w1.ok.told, wa_cons (wp_make (wa_cons (wp_ix (wp_call0 (wa_cons (wp_var rfl (wa_cons (wp_var rfl (wa_nil ⟨q, movL, rfl, by omega, fun m hm => ?_, wp_int ⟨_, _, .lst ((q.mems.map (memMap (getT movL))).map dMemL), .inr rfl, rfl, rfl, wa_cons (wp_ix (wp_var rfl (wp_int ⟨_, _, .int (q.told : Nat), .inr rfl, rfl, rfl, wa_nil ⟨q.mems.map (memMap (numT mu)), q.told, by rw [eq2], w2.ok.mems, w2.ok.told, wa_nil ⟨sz_le (Nat.succ_le_of_lt (by simp)), wg_tup rfl (wg_cons (wg_name (by simp) (wg_cons (wg_name (by simp) (wg_nil ?_)))))⟩⟩⟩)))⟩⟩)))))))))⟩)))))))
  · have mo := w1.ok.mems.each m hm
    exact ⟨mo.few, mo.few2, fun a ha => (mo.each a ha).few⟩
  -- the answers
  have ao : AnsOk q rows pl := ansOk gq R r10 lpl
  refine ws_seq (ws_asg (wp_meth .nil (wp_var rfl ⟨_, rfl, rfl, wa_cons (wp_make (wa_cons (wp_var rfl (wa_cons (wp_var rfl (wa_nil ⟨⟨h.tabs, rs⟩, rows, rfl, h1, Rr, fun rows1 ns1 hm1 hl1 => wa_cons (wp_var rfl (wa_nil ⟨q, _, rows1, pl, .inl rfl, rfl, w1.ok, ansOk_mem ao (fun r hr => (hm1 r).mp hr) hl1, fun xs ndx hx lx => ?_⟩))⟩))))))⟩)))
  rw [srt_rows]
  have ndx2 : (upR xs).Nodup := (upR_perm xs).nodup_iff.mpr ndx
  have mx : ∀ t, t ∈ upR xs ↔ IsAns q.mems q.told rows pl t := fun t => (upR_perm xs).mem_iff.trans ((hx t).trans (isAns_rows hm1))
  have hlen := (upR_perm xs).length_eq
  generalize upR xs = ans at ndx2 mx hlen
  have small : ∀ t ∈ ans, ∀ i ∈ t, 0 ≤ i ∧ i ≤ 3 := fun t ht => isAns_small (n := 0) (k := 0) gq nn ((mx t).mp ht)
  have purA : ∀ {l : List (List Int)}, ∀ d ∈ l.map dInts, Pur 1 d := fun {l} d hd => by
    obtain ⟨x, _, rfl⟩ := List.mem_map.mp hd
    exact pur_ints x
  have lanq : ∀ t ∈ ans, t.length ≤ 5 := fun t ht => by
    obtain ⟨s, s5, _, hsz⟩ := gq.size
    rw [isAns_len hsz ((mx t).mp ht)]
    exact s5
  have ans2nd : (ans.map fun x => x.map mu).Nodup := by
    rw [List.nodup_iff_pairwise_ne] at ndx2 ⊢
    exact List.Pairwise.map _ (fun a b n e => n (map_inj' mu_inj e)) ndx2
  have lans : ans.length ≤ 1000000 := by rw [hlen]; exact lx
  obtain ⟨sz, sz5, _, hsz⟩ := gq.size
  refine ws_seq (ws_asg (wp_sortDt (wa_cons (wp_lcMap (wi_seqV (i := 12) rfl (.inr rfl) ⟨sz_le (by rw [List.length_map]; exact lans), mvT, fun d hd => ?_, wa_nil ⟨_, rfl, ?_, ?_, ?_⟩⟩)))))
  · obtain ⟨x, hxa, rfl⟩ := List.mem_map.mp hd
    have := lanq x hxa
    refine wg_name (by simp) (wp_tupOf (wa_cons (wp_lcMap (wi_seqV (i := 14) rfl (.inr rfl) ⟨sz_le (by rw [List.length_map]; omega), mvD, fun d hd => ?_, wa_nil ⟨_, .inl rfl, rfl⟩⟩))))
    obtain ⟨n, hn, rfl⟩ := List.mem_map.mp hd
    obtain ⟨n0, n3⟩ := small x hxa n hn
    exact wg_name (by simp) (wp_dget (wp_var rfl (wp_var rfl ⟨_, .inl n, _, rfl, rfl, num n0 n3, rfl⟩)))
  · rw [mvT_map]
    exact fun d hd => ⟨1, purA (l := ans.map fun x => x.map mu) d hd⟩
  · rw [mvT_map]
    refine sortIn_same (n := sz) ans2nd fun x hxm => ?_
    obtain ⟨y, hy, rfl⟩ := List.mem_map.mp hxm
    rw [List.length_map]
    exact isAns_len hsz ((mx y).mp hy)
  rw [mvT_map, srt_rows]
  -- the answers with the other numbers
  refine ws_seq (ws_if (wt_B (wp_neD (wp_listOf (wa_cons (wp_meth .nil (wp_var rfl ⟨_, rfl, rfl, wa_cons (wp_make (wa_cons (wp_var rfl (wa_cons (wp_var rfl (wa_nil ⟨⟨h.tabs, rs⟩, rows.map (rowTo mu), rfl, h1, R2, fun rows2 ns2 hm2 hl2 => wa_cons (wp_lcMap (wi_seqV (i := 3) rfl (.inl rfl) ⟨sz_le (by rw [List.length_map, lpl]; have := w1.ok.told; omega), mvD, fun d hd => ?_, wa_nil ⟨⟨q.mems.map (memMap (numT mu)), q.told⟩, [("house", dHouse cH ⟨h.tabs, rs⟩), ("rows", .tup (rows2.map dRow)), ("figures", dInts ns2)], rows2, pl.map mu, .inl (by rw [mvD_map]; rfl), rfl, w2.ok, ?_, fun ys ndy hy ly => wa_nil ⟨_, .inr rfl, wp_var rfl ⟨2, by omega, ?_, ?_, fun r hr => ⟨_, rfl, ?_⟩⟩⟩⟩⟩))⟩))))))⟩)))))))
  · obtain ⟨n, hn, rfl⟩ := List.mem_map.mp hd
    obtain ⟨n0, n3⟩ := psm n hn
    exact wg_name (by simp) (wp_dget (wp_var rfl (wp_var rfl ⟨_, .inl n, _, rfl, rfl, num n0 n3, rfl⟩)))
  · refine ansOk_mem (rows := rows.map (rowTo mu)) (ansOk g2 (rows_num R fun r hr n hn => by have := nn r hr n hn; omega) (by rw [List.length_map]; exact r10) (by rw [List.length_map]; exact lpl)) (fun r hr => (hm2 r).mp hr) hl2
  · rw [srt_rows]
    exact .lst 1 _ fun d hd => purA d hd
  · exact .lst 1 _ fun d hd => purA d hd
  have same : upR ys = upR (ans.map fun x => x.map mu) := by
    refine upR_eq (nodup_mem_perm ndy ans2nd fun t => ?_)
    rw [hy, isAns_rows hm2]
    refine (ans_num mu_inj qnames t).trans ?_
    rw [List.mem_map]
    exact ⟨fun ⟨u, e, hu⟩ => ⟨u, (mx u).mpr hu, e.symm⟩, fun ⟨u, hu, e⟩ => ⟨u, e.symm, (mx u).mp hu⟩⟩
  have er : r = true := hr.mpr (by rw [srt_rows, same])
  rw [er, Bool.not_true, if_neg Bool.false_ne_true]
  refine ws_next ?_
  -- what nothing keeps
  refine ws_seq (ws_asg (wp_listRg (wp_len (wa_cons (wp_ix (wp_var rfl (wp_int ⟨_, _, .lst (q.mems.map dMemL), .inr rfl, rfl, rfl, wa_nil ⟨_, .inl rfl, (q.mems.map dMemL).length, rfl, ?_, ?_⟩⟩)))))))
  · rw [List.length_map]
    omega
  rw [List.length_map]
  have lsp : (dRange q.mems.length).length ≤ sizeLine := by rw [dRange_len]; exact sz_le (by omega)
  have fr : ∀ (p : Ques) (T : Tm → Prop), TOk T → GQ T h p → p.mems.length = q.mems.length → (∀ (i : Nat) (m m' : Mem), p.mems[i]? = some m → q.mems[i]? = some m' → (Clash h.ruls m.2 ↔ Clash h.ruls m'.2)) → ∀ (k : Nat), k < q.mems.length → ∀ S' : D → Prop, (∀ d, (d = .non ↔ lostB h q k = true) → S' d) →
      sp_frozen cH cS cQ [dHouse cH ⟨h.tabs, rs⟩, dQues cQ p, .int (k : Nat), .int 0] S' := fun p T tk g lp cl k hk S' s' => by
    have hpk : p.mems[k]? = some p.mems[k] := List.getElem?_eq_getElem (by omega)
    have hqk : q.mems[k]? = some q.mems[k] := List.getElem?_eq_getElem hk
    have wp := (g.rs (rs := rs)).wok tk h1
    have e1 := cl k _ _ hpk hqk
    have lb : lostB h q k = true ↔ Clash h.ruls p.mems[k].2 := by
      rw [lostB_iff, e1]
      exact ⟨fun ⟨m, hm, c⟩ => by rw [hqk] at hm; rw [Option.some.inj hm]; exact c, fun c => ⟨_, hqk, c⟩⟩
    refine ⟨⟨h.tabs, rs⟩, p, k, p.mems[k], 0, rfl, h1, wp.ok, hpk, wp.fit _ (List.getElem_mem _), Int.le_refl _, fun c => s' _ ⟨fun _ => lb.mpr ((clash_rs hrs).mp c), fun _ => rfl⟩, fun N f rows fs _ _ F _ => s' _ ⟨fun z => (nomatch z), fun z => absurd ((clash_rs hrs).mpr (lb.mp z)) (frz_clash F)⟩⟩
  refine ws_seq (ws_asg (wp_lcIf (wi_seqV (i := 15) rfl (.inl rfl) ⟨lsp, lostD h q, id, fun d hd => ?_, ?_⟩)))
  · obtain ⟨k, hk⟩ := List.getElem?_of_mem hd
    obtain ⟨hk2, rfl⟩ := dRange_get hk
    refine wg_name (by simp) (wt_B (wp_isN (wp_call (dds := [.int 0]) (.cons (.int 0) .nil) (wa_cons (wp_var rfl (wa_cons (wp_var rfl (wa_cons (wp_var rfl (wa_nil (fr q LTm ltm_ok gq rfl (fun i m m' e1 e2 => by rw [e1] at e2; rw [Option.some.inj e2]) k hk2 _ fun d e r hr => ⟨_, rfl, ?_, fun _ => wp_var rfl rfl⟩)))))))))))
    rw [lostD_int, Bool.eq_iff_iff, hr, e]
  refine ws_ret (wp_eqD (wp_lcIf (wi_seqV (i := 15) rfl (.inl rfl) ⟨lsp, lostD h q, id, fun d hd => ?_, wp_var rfl ⟨2, by omega, .lst 1 _ ?_, .lst 1 _ ?_, fun r hr => ?_⟩⟩)))
  · obtain ⟨k, hk⟩ := List.getElem?_of_mem hd
    obtain ⟨hk2, rfl⟩ := dRange_get hk
    refine wg_name (by simp) (wt_B (wp_isN (wp_call (dds := [.int 0]) (.cons (.int 0) .nil) (wa_cons (wp_var rfl (wa_cons (wp_var rfl (wa_cons (wp_var rfl (wa_nil (fr ⟨q.mems.map (memMap (numT mu)), q.told⟩ MTm mtm_ok g2 (List.length_map ..) (fun i m m' e1 e2 => ?_) k hk2 _ fun d e r hr => ⟨_, rfl, ?_, fun _ => wp_var rfl rfl⟩)))))))))))
    · have e3 : (q.mems.map (memMap (numT mu)))[i]? = some m := e1
      rw [List.getElem?_map, e2] at e3
      rw [← Option.some.inj e3]
      exact clash_num mu_inj
    · rw [lostD_int, Bool.eq_iff_iff, hr, e]
  · intro d hd
    rw [List.map_id] at hd
    obtain ⟨k, _, rfl⟩ := List.mem_map.mp (List.mem_filter.mp hd).1
    exact .int _ _
  · intro d hd
    rw [List.map_id] at hd
    obtain ⟨k, _, rfl⟩ := List.mem_map.mp (List.mem_filter.mp hd).1
    exact .int _ _
  · rw [hr.mpr rfl]
    exact hs
end
end FS

/-! FsZ2: list(zip(xs, ys)), xs and ys lists: the pairs stay in the list, so each is a new tuple. -/
namespace FS
open PySem PySem.Calls PySem.Spec PyProof.Rows L2
/-- a zip of two lists under way; S: the list that its pairs go into -/
structure ZS (h : Heap) (z TI TO i1 i2 l1 l2 S : Addr) (xs ys : Array Value) (k : Nat) : Prop where
  ti : IsPair h TI (.ref i1) (.ref i2)
  a : h.IsListIter i1 l1 k
  b : h.IsListIter i2 l2 k
  l : h.IsList l1 xs
  m : h.IsList l2 ys
  z : (IsZip h z TI TO .none ∧ ∃ p q, IsPair h TO p q) ∨ ∃ T f oT, IsZipHeld h z TI TO T f ∧ h.get? T = some oT ∧ T ≠ z ∧ T ≠ i1 ∧ T ≠ i2 ∧ T ≠ S
structure OffZ (S z TI TO i1 i2 l1 l2 : Addr) : Prop where
  z : S ≠ z
  ti : S ≠ TI
  to : S ≠ TO
  i1 : S ≠ i1
  i2 : S ≠ i2
  l1 : S ≠ l1
  l2 : S ≠ l2
section
variable {prog : Program} {w : World} {A : Around} {E : Value → Shared → Prop} {s : Shared} {h h' : Heap} {z TI TO i1 i2 l1 l2 S : Addr} {xs ys : Array Value} {k : Nat}
theorem ZS.keep (st : ZS h z TI TO i1 i2 l1 l2 S xs ys k) (o : OffZ S z TI TO i1 i2 l1 l2) (kp : ∀ b u, b ≠ S → h.get? b = some u → h'.get? b = some u) : ZS h' z TI TO i1 i2 l1 l2 S xs ys k := by
  refine ⟨kp _ _ o.ti.symm st.ti, st.a.at fun u e => kp _ u o.i1.symm e, st.b.at fun u e => kp _ u o.i2.symm e, st.l.at fun u e => kp _ u o.l1.symm e, st.m.at fun u e => kp _ u o.l2.symm e, ?_⟩
  rcases st.z with ⟨q, a, b, r⟩ | ⟨T, f, oT, q, r, r1, r2, r3, r4⟩
  · exact .inl ⟨kp _ _ o.z.symm q, a, b, kp _ _ o.to.symm r⟩
  · exact .inr ⟨T, f, oT, kp _ _ o.z.symm q, kp _ _ r4 r, r1, r2, r3, r4⟩
theorem ZS.next {Q : Option Value → Shared → Prop} {x y : Value} (D : ZipApart z TI TO i1 i2 l1 l2) (st : ZS s.heap z TI TO i1 i2 l1 l2 S xs ys k) (hS : S < s.heap.objs.size) (ex : xs[k]? = some x) (ey : ys[k]? = some y)
    (hQ : ∀ h', ZS h' z TI TO i1 i2 l1 l2 S xs ys (k + 1) → IsPair h' s.heap.objs.size x y → h'.objs.size = s.heap.objs.size + 1 → (∀ c u, c ≠ z → c ≠ TO → c ≠ i1 → c ≠ i2 → s.heap.get? c = some u → h'.get? c = some u) → Q (some (.ref s.heap.objs.size)) { s with heap := h' }) :
    wpAny (model prog w) A (pyNext (.ref z)) Q E s := by
  have lt : ∀ {c u}, s.heap.get? c = some u → s.heap.objs.size ≠ c := fun e => Nat.ne_of_gt (Heap.lt_size e)
  have n1 : s.heap.objs.size ≠ i1 := let ⟨_, e, _⟩ := st.a; lt e
  have n2 : s.heap.objs.size ≠ i2 := let ⟨_, e, _⟩ := st.b; lt e
  have old : ∀ {h'' : Heap}, (∀ c u, c ≠ z → c ≠ TO → c ≠ i1 → c ≠ i2 → s.heap.get? c = some u → h''.get? c = some u) → h''.IsList l1 xs ∧ h''.IsList l2 ys ∧ IsPair h'' TI (.ref i1) (.ref i2) := fun kp =>
    ⟨st.l.at fun u e => kp _ u D.l1z D.l1TO D.l1i1 D.l1i2 e, st.m.at fun u e => kp _ u D.l2z D.l2TO D.l2i1 D.l2i2 e, kp _ _ D.TIz D.TITO D.TIi1 D.TIi2 st.ti⟩
  rcases st.z with ⟨q, a, b, r⟩ | ⟨T, f, oT, q, r, r1, r2, r3, r4⟩
  · refine wpAny_pyNext_zip_item D q st.ti r st.a st.b st.l st.m ex ey fun h2 a1 a2 a3 a4 a5 a6 kp => ?_
    obtain ⟨o1, o2, o3⟩ := old kp
    exact hQ h2 ⟨o3, a3, a4, o1, o2, .inr ⟨_, false, _, a1, a5, lt q, n1, n2, Nat.ne_of_gt hS⟩⟩ a5 a6 kp
  · refine wpAny_pyNext_zip_item_held D q r st.ti st.a st.b st.l st.m ex ey fun h2 a1 a3 a4 a5 a6 kp => ?_
    obtain ⟨o1, o2, o3⟩ := old fun c u c1 _ c3 c4 e => kp c u c1 c3 c4 e
    exact hQ h2 ⟨o3, a3, a4, o1, o2, .inr ⟨T, true, oT, a1, kp _ _ r1 r2 r3 r, r1, r2, r3, r4⟩⟩ a5 a6 fun c u c1 _ c3 c4 e => kp c u c1 c3 c4 e
theorem ZS.stop {Q : Option Value → Shared → Prop} (hh : A.handled = none) (D : ZipApart z TI TO i1 i2 l1 l2) (st : ZS s.heap z TI TO i1 i2 l1 l2 S xs ys k) (no : xs[k]? = none ∨ ys[k]? = none)
    (hQ : ∀ h', (∀ c u, c ≠ z → c ≠ TO → c ≠ i1 → c ≠ i2 → s.heap.get? c = some u → h'.get? c = some u) → Q none { s with heap := h' }) : wpAny (model prog w) A (pyNext (.ref z)) Q E s := by
  rcases st.z with ⟨q, a, b, r⟩ | ⟨T, f, oT, q, r, r1, r2, r3, r4⟩
  · exact wpAny_pyNext_zip_end hh D q st.ti r st.a st.b st.l st.m no hQ
  · exact wpAny_pyNext_zip_end_held hh D q r st.ti st.a st.b st.l st.m no fun h2 kp => hQ h2 fun c u c1 _ c3 c4 e => kp c u c1 c3 c4 e
/-- the pairs made so far, behind S -/
structure MadeZ (xs ys : Array Value) (S : Addr) (h : Heap) (as : List Addr) : Prop where
  up : as.Pairwise (· < ·)
  hi : ∀ a ∈ as, S < a
  pr : ∀ (j : Nat) (a : Addr), as[j]? = some a → ∃ x y, xs[j]? = some x ∧ ys[j]? = some y ∧ IsPair h a x y
theorem MadeZ.low {as : List Addr} (g : MadeZ xs ys S h as) {a : Addr} (ha : a ∈ as) : a < h.objs.size := by
  obtain ⟨j, hj⟩ := List.mem_iff_getElem?.mp ha
  obtain ⟨_, _, _, _, e⟩ := g.pr j a hj
  exact Heap.lt_size e
theorem zip_loop {R : Result → Shared → Prop} {h₁ : Heap} (hh : A.handled = none) (D : ZipApart z TI TO i1 i2 l1 l2) (o : OffZ S z TI TO i1 i2 l1 l2) (zS : z < S) (tS : TO < S) (aS : i1 < S) (bS : i2 < S) (hn : min xs.size ys.size ≤ sizeLine) (res : Value)
    (hR : ∀ h' tk acc c as, (∀ b u, b ≠ S → b ≠ z → b ≠ TO → b ≠ i1 → b ≠ i2 → h₁.get? b = some u → h'.get? b = some u) → h'.get? S = some { cls := .type "list", dict := none, data := .seq acc c, slots := #[] } → as.length = min xs.size ys.size →
      MadeZ xs ys S h' as → acc.toList = as.map Value.ref → R (.ok (.ret res)) { s with heap := h', toks := tk }) :
    ∀ (n i : Nat) (h : Heap) (tk c : Nat) (acc : Array Value) (as : List Addr), min xs.size ys.size - i = n → i ≤ min xs.size ys.size → ZS h z TI TO i1 i2 l1 l2 S xs ys i → (∀ b u, b ≠ S → b ≠ z → b ≠ TO → b ≠ i1 → b ≠ i2 → h₁.get? b = some u → h.get? b = some u) →
      h.get? S = some { cls := .type "list", dict := none, data := .seq acc c, slots := #[] } → acc.toList = as.map Value.ref → as.length = i → MadeZ xs ys S h as →
      codeAny (model prog w) A (.builtin "list.extend.loop" ⟨[.ref S, .ref z, res], []⟩) R { s with heap := h, toks := tk } := by
  intro n
  induction n with
  | zero =>
    intro i h tk c acc as hk hi st kp hS hacc hal hG
    refine codeAny_builtin PySem.F.entry_extend_loop ?_
    rw [Around.under_plainId PySem.F.plain_extend_loop _]
    show wpAny _ A.in1 (pyNext (.ref z) >>= _) _ _ _
    have ei : i = min xs.size ys.size := by omega
    have no : xs[i]? = none ∨ ys[i]? = none := by
      rcases Nat.le_total xs.size ys.size with q | q
      · exact .inl (Array.getElem?_eq_none (by rw [ei, Nat.min_eq_left q]; exact Nat.le_refl _))
      · exact .inr (Array.getElem?_eq_none (by rw [ei, Nat.min_eq_right q]; exact Nat.le_refl _))
    refine wpAny_bind (ZS.stop (s := { s with heap := h, toks := tk }) (A := A.in1) hh D st no fun h' he => ?_)
    refine wpAny_pure (hR h' tk acc c as (fun b u b0 b1 b2 b3 b4 e => he b u b1 b2 b3 b4 (kp b u b0 b1 b2 b3 b4 e)) (he S _ o.z o.to o.i1 o.i2 hS) (by omega) ⟨hG.up, hG.hi, fun j a hj => ?_⟩ hacc)
    obtain ⟨x, y, e1, e2, e3⟩ := hG.pr j a hj
    have ha := hG.hi a (List.mem_of_getElem? hj)
    exact ⟨x, y, e1, e2, he a _ (Nat.ne_of_gt (Nat.lt_trans zS ha)) (Nat.ne_of_gt (Nat.lt_trans tS ha)) (Nat.ne_of_gt (Nat.lt_trans aS ha)) (Nat.ne_of_gt (Nat.lt_trans bS ha)) e3⟩
  | succ n ih =>
    intro i h tk c acc as hk hi st kp hS hacc hal hG
    have hlt : i < min xs.size ys.size := by omega
    have ex := Array.getElem?_eq_getElem (xs := xs) (i := i) (Nat.lt_of_lt_of_le hlt (Nat.min_le_left ..))
    have ey := Array.getElem?_eq_getElem (xs := ys) (i := i) (Nat.lt_of_lt_of_le hlt (Nat.min_le_right ..))
    have asz : acc.size = i := by rw [← Array.length_toList, hacc, List.length_map, hal]
    have hSl : S < h.objs.size := Heap.lt_size hS
    refine codeAny_builtin PySem.F.entry_extend_loop ?_
    rw [Around.under_plainId PySem.F.plain_extend_loop _]
    show wpAny _ A.in1 (pyNext (.ref z) >>= _) _ _ _
    refine wpAny_bind (ZS.next (s := { s with heap := h, toks := tk }) D st hSl ex ey fun h' st' ht hz hkp => ?_)
    dsimp only at ht hz hkp ⊢
    have hS' := hkp S _ o.z o.to o.i1 o.i2 hS
    have ups : ∀ b u, b ≠ S → h'.get? b = some u → (h'.update S (Obj.mapSeq (·.push (Value.ref h.objs.size)))).get? b = some u := fun b u hb e => (Heap.get?_update_other _ _ (Ne.symm hb)).trans e
    show wpAny _ A.in1 (updateSeq S (·.push (Value.ref h.objs.size)) >>= _) _ _ _
    refine wpAny_bind ?_
    refine wpAny_updateSeq hS' rfl (wpAny_pure ⟨plainId_quiet PySem.F.plain_extend_loop _, ih (i + 1) _ tk _ (acc.push (Value.ref h.objs.size)) (as ++ [h.objs.size]) (by omega) hlt (st'.keep o ups)
      (fun b u b0 b1 b2 b3 b4 e => ups b u b0 (hkp b u b1 b2 b3 b4 (kp b u b0 b1 b2 b3 b4 e))) (Heap.get?_update_self _ hS' rfl) (by rw [Array.toList_push, hacc, List.map_append]; rfl) (by rw [List.length_append, hal]; rfl) ⟨?_, ?_, ?_⟩⟩) (by rw [asz]; omega) (by show (acc.push (Value.ref h.objs.size)).size ≤ sizeLine + 1; rw [Array.size_push, asz]; omega)
    · refine List.pairwise_append.mpr ⟨hG.up, List.pairwise_singleton _ _, fun a ha b hb => ?_⟩
      rw [List.mem_singleton.mp hb]
      exact hG.low ha
    · intro a ha
      rcases List.mem_append.mp ha with ha | ha
      · exact hG.hi a ha
      · rw [List.mem_singleton.mp ha]
        exact hSl
    · intro j b hj
      rcases Nat.lt_trichotomy j as.length with q | q | q
      · rw [List.getElem?_append_left q] at hj
        obtain ⟨x, y, e1, e2, e3⟩ := hG.pr j b hj
        have hb := hG.hi b (List.mem_of_getElem? hj)
        exact ⟨x, y, e1, e2, ups b _ (Nat.ne_of_gt hb) (hkp b _ (Nat.ne_of_gt (Nat.lt_trans zS hb)) (Nat.ne_of_gt (Nat.lt_trans tS hb)) (Nat.ne_of_gt (Nat.lt_trans aS hb)) (Nat.ne_of_gt (Nat.lt_trans bS hb)) e3)⟩
      · subst q
        have hb : h.objs.size = b := by simpa using hj
        subst hb
        exact ⟨_, _, by rw [hal]; exact ex, by rw [hal]; exact ey, ups _ _ (Nat.ne_of_gt hSl) ht⟩
      · rw [List.getElem?_eq_none (by rw [List.length_append, List.length_singleton]; omega)] at hj
        cases hj
theorem zip_nolen : typeLookup (.type "zip") "__len__" = pure none := am_miss_of_fast (by decide +kernel)
theorem zip_nohint : typeLookup (.type "zip") "__length_hint__" = pure none := am_miss_of_fast (by decide +kernel)
theorem zip_extend {R : Result → Shared → Prop} (hh : A.handled = none) (D : ZipApart z TI TO i1 i2 l1 l2) (o : OffZ S z TI TO i1 i2 l1 l2) (zS : z < S) (tS : TO < S) (aS : i1 < S) (bS : i2 < S) (hn : min xs.size ys.size ≤ sizeLine) (res : Value)
    {p q : Value} (hz : IsZip s.heap z TI TO .none) (hto : IsPair s.heap TO p q) (st : ZS s.heap z TI TO i1 i2 l1 l2 S xs ys 0) (c₀ : Nat) (hS : s.heap.get? S = some { cls := .type "list", data := .seq #[] c₀ })
    (hR : ∀ h' tk acc c as, (∀ b u, b ≠ S → b ≠ z → b ≠ TO → b ≠ i1 → b ≠ i2 → s.heap.get? b = some u → h'.get? b = some u) → h'.get? S = some { cls := .type "list", dict := none, data := .seq acc c, slots := #[] } → as.length = min xs.size ys.size →
      MadeZ xs ys S h' as → acc.toList = as.map Value.ref → R (.ok (.ret res)) { s with heap := h', toks := tk }) :
    wpAny (model prog w) A.in1 (Builtin.List.listExtendWith (.ref S) (.ref z) res)
      (fun fin s' => match fin with | .done f => R (.ok f) s' | .again c' => c'.quiet = true ∧ codeAny (model prog w) A c' R s') (fun e s' => R (.error e) s') s := by
  have hT : s.TypeIs (.ref z) "zip" := ⟨_, hz, rfl⟩
  have key : ∀ (h : Heap) (c₁ tk : Nat), (∀ b u, b ≠ S → s.heap.get? b = some u → h.get? b = some u) → h.get? S = some { cls := .type "list", data := .seq #[] c₁ } → codeAny (model prog w) A (.builtin "list.extend.loop" ⟨[.ref S, .ref z, res], []⟩) R { s with heap := h, toks := tk } := fun h c₁ tk hk hS₁ =>
    zip_loop (s := s) (h₁ := s.heap) hh D o zS tS aS bS hn res hR _ 0 h tk c₁ #[] [] rfl (Nat.zero_le _) (st.keep o hk) (fun b u b0 _ _ _ _ e => hk b u b0 e) hS₁ rfl rfl ⟨List.Pairwise.nil, fun _ ha => (nomatch ha), fun j a hj => by simp at hj⟩
  unfold Builtin.List.listExtendWith
  refine wpAny_bind (wpAny_typeOf hT ?_)
  have g1 : Builtin.List.listSameRef (.ref S) (.ref z) = false := by simp [Builtin.List.listSameRef, o.z]
  have g2 : (Value.type "zip" == Value.type "list") = false := by decide
  have g3 : (Value.type "zip" == Value.type "tuple") = false := by decide
  simp only [g1, g2, g3, Bool.or_false, Bool.false_eq_true, if_false]
  refine wpAny_bind (wpAny_pyIter_zip hz ?_)
  refine wpAny_bind (wpAny_holding ?_)
  unfold Builtin.List.listLengthHint
  refine wpAny_bind (wpAny_specialOf hT zip_nolen ?_)
  show wpAny _ A.in1 (specialOf (Value.ref z) (Str.ofString "__length_hint__") >>= _) _ _ _
  refine wpAny_bind (wpAny_specialOf hT zip_nohint ?_)
  refine wpAny_pure ?_
  show wpAny _ A.in1 (rule "list.extend.makes-room" >>= fun _ => Builtin.List.listTouch (.ref S) >>= fun _ => again (.builtin "list.extend.loop" ⟨[.ref S, .ref z, res], []⟩)) _ _ _
  refine wpAny_bind (wpAny_rule ?_)
  refine wpAny_bind ?_
  show wpAny _ _ (updateSeq S (·.push .none) >>= fun _ => updateSeq S (·.pop)) _ _ _
  refine wpAny_bind (wpAny_updateSeq hS rfl ?_)
  have s2 := Heap.get?_update_self (Obj.mapSeq (·.push Value.none)) hS rfl
  refine wpAny_updateSeq (hz := by seq_fits) s2 rfl ?_
  have s3 := Heap.get?_update_self (Obj.mapSeq (·.pop)) s2 rfl
  exact wpAny_pure ⟨plainId_quiet PySem.F.plain_extend_loop _, key _ _ _ (fun b u hb e => (Heap.get?_update_other _ _ (Ne.symm hb)).trans ((Heap.get?_update_other _ _ (Ne.symm hb)).trans e)) s3⟩
theorem zip_init {R : Result → Shared → Prop} (hh : A.handled = none) (D : ZipApart z TI TO i1 i2 l1 l2) (o : OffZ S z TI TO i1 i2 l1 l2) (zS : z < S) (tS : TO < S) (aS : i1 < S) (bS : i2 < S) (hn : min xs.size ys.size ≤ sizeLine)
    {p q : Value} (hz : IsZip s.heap z TI TO .none) (hto : IsPair s.heap TO p q) (st : ZS s.heap z TI TO i1 i2 l1 l2 S xs ys 0) (hS : s.heap.get? S = some { cls := .type "list", data := .seq #[] })
    (hR : ∀ h' tk acc c as, (∀ b u, b ≠ S → b ≠ z → b ≠ TO → b ≠ i1 → b ≠ i2 → s.heap.get? b = some u → h'.get? b = some u) → h'.get? S = some { cls := .type "list", dict := none, data := .seq acc c, slots := #[] } → as.length = min xs.size ys.size →
      MadeZ xs ys S h' as → acc.toList = as.map Value.ref → R (.ok (.ret .none)) { s with heap := h', toks := tk }) :
    wpAny (model prog w) A.in1 (Builtin.«list.__init__» ⟨[.ref S, .ref z], []⟩)
      (fun fin s' => match fin with | .done f => R (.ok f) s' | .again c' => c'.quiet = true ∧ codeAny (model prog w) A c' R s') (fun e s' => R (.error e) s') s := by
  show wpAny _ _ (do let before ← Builtin.List.listItems (.ref S); Builtin.List.listUpdate (.ref S) (fun _ => #[]); letGo before.toList.reverse; Builtin.List.listExtendWith (.ref S) (.ref z) .none) _ _ s
  refine wpAny_bind ?_
  unfold Builtin.List.listItems
  refine wpAny_bind (wpAny_seqItems hS rfl (wpAny_pure ?_))
  show wpAny _ _ (updateSeq S (fun _ => #[]) >>= fun _ => letGo (#[] : Array Value).toList.reverse >>= fun _ => Builtin.List.listExtendWith (.ref S) (.ref z) .none) _ _ s
  refine wpAny_bind (wpAny_updateSeq hS rfl ?_)
  have s2 := Heap.get?_update_self (Obj.mapSeq (fun _ => (#[] : Array Value))) hS rfl
  have kp : ∀ b u, b ≠ S → s.heap.get? b = some u → (s.heap.update S (Obj.mapSeq (fun _ => (#[] : Array Value)))).get? b = some u := fun b u hb e => (Heap.get?_update_other _ _ (Ne.symm hb)).trans e
  refine wpAny_bind (wpAny_letGo ?_)
  exact zip_extend hh D o zS tS aS bS hn .none (kp _ _ o.z.symm hz) (kp _ _ o.to.symm hto) (st.keep o kp) _ s2 fun h' tk acc c as k1 k2 k3 k4 k5 => hR h' tk acc c as (fun b u b0 b1 b2 b3 b4 e => k1 b u b0 b1 b2 b3 b4 (kp b u b0 e)) k2 k3 k4 k5
theorem zip_call {Q : Value → Shared → Prop} (hh : A.handled = none) (D : ZipApart z TI TO i1 i2 l1 l2) (o : OffZ s.heap.objs.size z TI TO i1 i2 l1 l2) (hn : min xs.size ys.size ≤ sizeLine)
    {p q : Value} (hz : IsZip s.heap z TI TO .none) (hto : IsPair s.heap TO p q) (ti : IsPair s.heap TI (.ref i1) (.ref i2)) (j1 : s.heap.IsListIter i1 l1 0) (j2 : s.heap.IsListIter i2 l2 0) (m1 : s.heap.IsList l1 xs) (m2 : s.heap.IsList l2 ys)
    (hQ : ∀ h' tk acc c as, (∀ b u, b ≠ z → b ≠ TO → b ≠ i1 → b ≠ i2 → s.heap.get? b = some u → h'.get? b = some u) → h'.get? s.heap.objs.size = some { cls := .type "list", dict := none, data := .seq acc c, slots := #[] } → as.length = min xs.size ys.size →
      MadeZ xs ys s.heap.objs.size h' as → acc.toList = as.map Value.ref → Q (.ref s.heap.objs.size) { s with heap := h', toks := tk }) :
    wpAny (model prog w) A (call (.type "list") [.ref z]) Q E s := by
  refine callType_codes (Q₁ := fun v s₁ => v = .ref s.heap.objs.size ∧ s₁ = { s with heap := s.heap.push { cls := .type "list", data := .seq #[] } }) PySem.F.called_list (PySem.F.typeCall_list_1 _) PySem.F.entry_list_init (code_list_new _ ⟨rfl, rfl⟩) fun v s₁ e₁ => ?_
  obtain ⟨rfl, rfl⟩ := e₁
  have hS : (s.heap.push { cls := .type "list", data := .seq #[] }).get? s.heap.objs.size = some { cls := .type "list", data := .seq #[] } := Heap.get?_push_size _ rfl
  have kp : ∀ b u, s.heap.get? b = some u → (s.heap.push { cls := .type "list", data := .seq #[] }).get? b = some u := fun b u e => Heap.get?_push_of_some _ e
  have lt : ∀ {c u}, s.heap.get? c = some u → c < s.heap.objs.size := fun e => Heap.lt_size e
  have l1 : i1 < s.heap.objs.size := let ⟨_, e, _⟩ := j1; lt e
  have l2 : i2 < s.heap.objs.size := let ⟨_, e, _⟩ := j2; lt e
  refine ⟨⟨_, hS, rfl⟩, PySem.F.args_list_init_2 _ _, zip_init (A := A.in1) hh D o (lt hz) (lt hto) l1 l2 hn (kp _ _ hz) (kp _ _ hto) ⟨kp _ _ ti, j1.at fun u e => kp _ u e, j2.at fun u e => kp _ u e, m1.at fun u e => kp _ u e, m2.at fun u e => kp _ u e, .inl ⟨kp _ _ hz, _, _, kp _ _ hto⟩⟩ hS fun h' tk acc c as k1 k2 k3 k4 k5 => ?_⟩
  exact ⟨rfl, hQ h' tk acc c as (fun b u b1 b2 b3 b4 e => k1 b u (Nat.ne_of_lt (lt e)) b1 b2 b3 b4 (kp b u e)) k2 k3 k4 k5⟩
end
theorem n5 (n : Nat) : n + 5 ≠ n + 4 ∧ n + 5 ≠ n + 2 ∧ n + 5 ≠ n + 3 ∧ n + 5 ≠ n ∧ n + 5 ≠ n + 1 := by omega
/-- list(zip(xs, ys)) -/
def tListZ (K : PySem.W.Frag) (ta : TA) : TE := fun σ H Q => ta σ H fun vs H1 => ∃ a b xs ys, vs = [.ref a, .ref b] ∧ SqL K H1 a xs ∧ SqL K H1 b ys ∧ xs.length ≤ sizeLine ∧
  ∀ (H2 : Hp) (ts : List Addr) (l : Addr), Ex H1 H2 → H1 l = none → Paired (fun (t : Addr) (p : V × V) => H1 t = none ∧ H2 t = some (.tup [p.1, p.2])) ts (xs.zip ys) → H2 l = some (.lst (ts.map V.ref)) → Q (.ref l) H2
section
variable {X : Cx}
theorem pe_listZ {e e2 : Expr} {ta : TA} {p p2 pos pos2 : Pos} (hcalm : X.calm = true) (hgl : Gl X "list") (hml : X.mg "list" = none) (hgz : Gl X "zip") (hmz : X.mg "zip" = none) (ha : PA X [e, e2] ta)
    (hs : starEach [e, e2] X.env = (false, eval e X.env) :: starEach [e2] X.env := by rfl) (hpl : (backTo pos2 (starEach [e2] X.env)).any (·.1) = false := by rfl)
    (na : starEach [.Call (.Name "zip" p2) [e, e2] [] pos2] X.env = (false, eval (.Call (.Name "zip" p2) [e, e2] [] pos2) X.env) :: starEach [] X.env := by rfl) :
    PE X (.Call (.Name "list" p) [.Call (.Name "zip" p2) [e, e2] [] pos2] [] pos) (tListZ X.K ta) := by
  refine ⟨fun pins s σ H Q I h => ?_⟩
  refine Call_ (ld_blt I hgl hml boot_list (PyProof.Rows.callWith_type1 (args_cons (Q := _) (Call_ (ld_blt I hgz hmz PyProof.Rows.boot_zip (PyProof.Rows.callWith_type1 (thn (ha.run pos2 pins s σ H _ I h) fun us s1 ⟨vs, H1, I1, r1, a, b, xs, ys, ex, sx, sy, hz, q⟩ => ?_) hs hpl))) na) na))
  subst ex
  cases r1 with
  | cons r rr =>
  cases rr with
  | cons r' rr =>
  cases rr
  cases r
  cases r'
  obtain ⟨its, rv, p1, _⟩ := I1.list sx
  obtain ⟨its2, rv2, p2, _⟩ := I1.list sy
  have la : a < s1.heap.objs.size := p1.lt
  have lb : b < s1.heap.objs.size := p2.lt
  have n1 := rv.length
  have n2 := rv2.length
  refine call_zip_2 p1.isList p2.isList fun h1 z1 z2 z3 j1 j2 hsz hk => args_nil ?_
  refine zip_call (s := { s1 with heap := h1 }) (I1.ok.hd hcalm) (PySem.W.ktu_apart s1.heap.objs.size a b la lb) ?_ ?_ z1 z3 z2 j1 j2 (p1.isList.at fun u e => hk _ u e) (p2.isList.at fun u e => hk _ u e) fun h' tk acc c as k1 k2 k3 k4 k5 => ?_
  · show OffZ h1.objs.size _ _ _ _ _ _ _
    rw [hsz]
    exact ⟨(n5 _).1, (n5 _).2.1, (n5 _).2.2.1, (n5 _).2.2.2.1, (n5 _).2.2.2.2, Nat.ne_of_gt (Nat.lt_of_lt_of_le la (Nat.le_add_right _ _)), Nat.ne_of_gt (Nat.lt_of_lt_of_le lb (Nat.le_add_right _ _))⟩
  · refine Nat.le_trans (Nat.min_le_left _ _) ?_
    rw [List.size_toArray, ← n1]
    exact hz
  dsimp only at k1 k2 k4 ⊢
  -- what stood before the zip was made stands still
  have kept : ∀ c u, s1.heap.get? c = some u → h'.get? c = some u := fun c u e => by
    have := Heap.lt_size e
    have lt : c < s1.heap.objs.size := this
    exact k1 c u (Nat.ne_of_lt (Nat.lt_of_lt_of_le lt (Nat.le_add_right _ _))) (Nat.ne_of_lt (Nat.lt_of_lt_of_le lt (Nat.le_add_right _ _))) (Nat.ne_of_lt lt) (Nat.ne_of_lt (Nat.lt_of_lt_of_le lt (Nat.le_add_right _ _))) (hk c u e)
  have lz : s1.heap.objs.size ≤ h1.objs.size := by rw [hsz]; exact Nat.le_add_right _ _
  have fl : H1 h1.objs.size = none := I1.hok.fresh lz
  have las : as.length = (xs.zip ys).length := by
    rw [k3, List.length_zip, List.size_toArray, List.size_toArray, n1, n2]
  have hlist : ObjOk X.prog X.w (upd H1 h1.objs.size (.lst (as.map V.ref))) h' h1.objs.size (.lst (as.map V.ref)) := by
    refine ⟨?_, acc.toList, c, ?_, by rw [Array.toArray_toList]; exact k2⟩
    · rw [List.length_map, las, List.length_zip]
      exact Nat.le_trans (Nat.min_le_left _ _) hz
    · rw [k5]
      exact vals_maps _ _ as fun _ _ => rfl
  have I2 := I1.laid (t' := tk) kept lz hlist
  have nd : as.Nodup := List.Pairwise.imp (fun h => Nat.ne_of_lt h) k4.up
  have above : ∀ t ∈ as, s1.heap.objs.size ≤ t ∧ h1.objs.size ≠ t := fun t ht => by
    have := k4.hi t ht
    exact ⟨Nat.le_of_lt (Nat.lt_of_le_of_lt lz this), Nat.ne_of_lt this⟩
  obtain ⟨H2, I3, x2, q2⟩ := DX.takeT (P := fun t vs => ∃ (j : Nat) (pr : V × V), as[j]? = some t ∧ (xs.zip ys)[j]? = some pr ∧ vs = [pr.1, pr.2]) I1 as _ I2 nd fun t ht => by
    obtain ⟨j, hj⟩ := List.mem_iff_getElem?.mp ht
    obtain ⟨a1, a2⟩ := above t ht
    obtain ⟨pr, hpr⟩ : ∃ pr, (xs.zip ys)[j]? = some pr := ⟨_, List.getElem?_eq_getElem (by rw [← las]; exact (List.getElem?_eq_some_iff.mp hj).1)⟩
    refine ⟨a1, by rw [upd_ne (Ne.symm a2)]; exact I1.hok.fresh a1, _, ⟨j, pr, hj, hpr, rfl⟩, fun H3 => ?_⟩
    obtain ⟨x, y, ex, ey, ep⟩ := k4.pr j t hj
    rw [List.getElem?_zip_eq_some] at hpr
    obtain ⟨u, hu, ru⟩ := rv.get hpr.1
    obtain ⟨u2, hu2, ru2⟩ := rv2.get hpr.2
    have ex' : its[j]? = some x := by simpa using ex
    have ey' : its2[j]? = some y := by simpa using ey
    rw [ex'] at hu
    rw [ey'] at hu2
    rw [← Option.some.inj hu] at ru
    rw [← Option.some.inj hu2] at ru2
    exact ⟨by show 2 ≤ sizeLine; decide, [x, y], .cons ru (.cons ru2 .nil), ⟨_, ep, rfl, 0, rfl⟩⟩
  have e12 : Ex H1 H2 := fun c u e => x2 c u (by rw [upd_ne (ne_of_none e fl)]; exact e)
  refine ⟨.ref h1.objs.size, H2, I3, rfl, q H2 as h1.objs.size e12 fl (paired_of las fun j t pr hj hpr => ?_) (x2 _ _ upd_same)⟩
  obtain ⟨vs', ⟨j', pr', hj', hpr', ev⟩, ht2⟩ := q2 t (List.mem_of_getElem? hj)
  have ejj : j' = j := (List.getElem?_inj (List.getElem?_eq_some_iff.mp hj').1 nd).mp (hj'.trans hj.symm)
  subst ejj
  rw [hpr] at hpr'
  cases hpr'
  exact ⟨I1.hok.fresh (above t (List.mem_of_getElem? hj)).1, by rw [ht2, ev]⟩
end
section
variable {K : PySem.W.Frag} {B : Addr → Prop} {ρ : Ro} {S : D → Prop}
theorem wp_listZ {t : TA} (h : WpA K B t ρ fun ds => ∃ xs ys, ds = [.lst xs, .lst ys] ∧ xs.length ≤ sizeLine ∧ S (.lst (zipD xs ys))) : Wp K B (tListZ K t) ρ S := fun H0 G H σ E Q k =>
  h H0 G H σ E _ fun vs ds G1 H1 g1 r1 ⟨xs, ys, e, hz, s⟩ => by
    subst e
    cases r1 with
    | cons r1 r2 =>
    cases r2 with
    | cons r2 r3 =>
    cases r3
    cases r1 with
    | @lst a us _ ea ra =>
    cases r2 with
    | @lst b ws _ eb rb =>
    refine ⟨a, b, us, ws, rfl, .inl (.inl (g1.gh _ _ ea)), .inl (.inl (g1.gh _ _ eb)), by rw [ra.length]; exact hz, fun H2 ts l x hl hp h2 => ?_⟩
    have ge := gr_ext g1.gH x
    generalize hG2 : (fun c => if (H1 c).isNone then H2 c else G1 c) = G2 at ge
    have new : ∀ {c : Addr} {o : HO}, H1 c = none → H2 c = some o → G2 c = some o := fun {c o} n e => by
      rw [← hG2]
      show (if (H1 c).isNone then H2 c else G1 c) = some o
      rw [n]
      exact e
    refine k (.ref l) _ G2 H2 (g1.trans ge) (.lst (new hl h2) ?_) s
    have pr : ∀ {ts : List Addr} {us ws : List V} {xs ys : List D}, Paired (fun (t : Addr) (p : V × V) => H1 t = none ∧ H2 t = some (.tup [p.1, p.2])) ts (us.zip ws) → Dts K B G1 us xs → Dts K B G1 ws ys → Dts K B G2 (ts.map V.ref) (zipD xs ys) := by
      intro ts us ws xs ys hp ra rb
      induction us generalizing ts ws xs ys with
      | nil =>
        cases ra
        cases hp
        exact .nil
      | cons u us ih =>
        cases ra with
        | cons r ra =>
        cases rb with
        | nil =>
          cases hp
          exact .nil
        | cons q rb =>
          rw [List.zip_cons_cons] at hp
          cases hp with
          | cons h hp =>
            exact .cons (.tup (new h.1 h.2) (.cons (r.mono ge.g) (.cons (q.mono ge.g) .nil))) (ih hp ra rb)
    exact pr hp ra rb
end
end FS

/-! FsW7: the law. -/
namespace FS
open PySem L2
/-- the other names -/
def goesN (o1 o2 o3 o4 : Str) : List (Key × Tm) := [(.inr "p", .inr o1), (.inr "f", .inr o2), (.inr "b", .inr o3), (.inr "told", .inr o4)]
def backN (o1 o2 o3 o4 : Str) (y : Str) : Tm := if y = o1 then .inr "p" else if y = o2 then .inr "f" else if y = o3 then .inr "b" else .inr "told"
theorem goesN_inl {o1 o2 o3 o4 : Str} (i : Int) : getT (goesN o1 o2 o3 o4) (.inl i) = .inl i := by
  unfold getT
  rw [show kget (goesN o1 o2 o3 o4) (.inl i) = none from rfl]
  rfl
theorem goesN_name {o1 o2 o3 o4 : Str} {x : Str} (hx : x ∈ nameW) : (x = "p" ∧ getT (goesN o1 o2 o3 o4) (.inr x) = .inr o1) ∨ (x = "f" ∧ getT (goesN o1 o2 o3 o4) (.inr x) = .inr o2) ∨ (x = "b" ∧ getT (goesN o1 o2 o3 o4) (.inr x) = .inr o3) ∨ (x = "told" ∧ getT (goesN o1 o2 o3 o4) (.inr x) = .inr o4) := by
  simp only [nameW, List.mem_cons, List.not_mem_nil, or_false] at hx
  rcases hx with rfl | rfl | rfl | rfl
  · exact .inl ⟨rfl, rfl⟩
  · exact .inr (.inl ⟨rfl, rfl⟩)
  · exact .inr (.inr (.inl ⟨rfl, rfl⟩))
  · exact .inr (.inr (.inr ⟨rfl, rfl⟩))
theorem goesN_otm {o1 o2 o3 o4 : Str} (h1 : o1 ∈ otherW) (h2 : o2 ∈ otherW) (h3 : o3 ∈ otherW) (h4 : o4 ∈ otherW) {t : Tm} (h : LTm t) : OTm (getT (goesN o1 o2 o3 o4) t) := by
  rcases h with ⟨i, rfl, a, b⟩ | ⟨x, hx, rfl⟩
  · rw [goesN_inl]
    exact .inl ⟨i, rfl, a, b⟩
  · rcases goesN_name (o1 := o1) (o2 := o2) (o3 := o3) (o4 := o4) hx with ⟨_, e⟩ | ⟨_, e⟩ | ⟨_, e⟩ | ⟨_, e⟩ <;> rw [e]
    · exact .inr ⟨_, h1, rfl⟩
    · exact .inr ⟨_, h2, rfl⟩
    · exact .inr ⟨_, h3, rfl⟩
    · exact .inr ⟨_, h4, rfl⟩
theorem back_goes {o1 o2 o3 o4 : Str} (n12 : o1 ≠ o2) (n13 : o1 ≠ o3) (n14 : o1 ≠ o4) (n23 : o2 ≠ o3) (n24 : o2 ≠ o4) (n34 : o3 ≠ o4) {t : Tm} (h : LTm t) : subT (backN o1 o2 o3 o4) (getT (goesN o1 o2 o3 o4) t) = t := by
  rcases h with ⟨i, rfl, a, b⟩ | ⟨x, hx, rfl⟩
  · rw [goesN_inl]
    rfl
  · rcases goesN_name (o1 := o1) (o2 := o2) (o3 := o3) (o4 := o4) hx with ⟨rfl, e⟩ | ⟨rfl, e⟩ | ⟨rfl, e⟩ | ⟨rfl, e⟩ <;> rw [e]
    · show backN o1 o2 o3 o4 o1 = _
      simp [backN]
    · show backN o1 o2 o3 o4 o2 = _
      simp [backN, n12.symm]
    · show backN o1 o2 o3 o4 o3 = _
      simp [backN, n13.symm, n23.symm]
    · show backN o1 o2 o3 o4 o4 = _
      simp [backN, n14.symm, n24.symm, n34.symm]
theorem goesN_merge (o1 o2 o3 o4 : Str) : kmerge [] (tmL (goesN o1 o2 o3 o4)) = tmL (goesN o1 o2 o3 o4) := by
  rw [kmerge_nodup (show ((tmL (goesN o1 o2 o3 o4)).map (·.1)).Nodup from show ([.inr "p", .inr "f", .inr "b", .inr "told"] : List Key).Nodup by decide +kernel) (fun _ _ z => absurd z List.not_mem_nil)]
  rfl
theorem ev_sub (f : Str → Int) (φ : Str → Tm) (u : Tm) : ev (fun y => ev f (φ y)) u = ev f (subT φ u) := by cases u <;> rfl
/-- one member's atoms in another order, some of them twice -/
structure SameM (m m3 : Mem) : Prop where
  head : m3.1 = m.1
  atoms : ∀ a, a ∈ m3.2 ↔ a ∈ m.2
  few : m3.2.length ≤ 5
theorem SameM.ren {g : Tm → Tm} {m m3 : Mem} (h : SameM (memMap g m) m3) : Ren g m m3 := by
  refine ⟨h.head, fun b => (h.atoms b).trans ?_⟩
  show b ∈ m.2.map (atMap g) ↔ _
  rw [List.mem_map]
  exact ⟨fun ⟨a, h1, h2⟩ => ⟨a, h1, h2.symm⟩, fun ⟨a, h1, h2⟩ => ⟨a, h1, h2.symm⟩⟩
section
variable {P : Program} {w : World} {K : PySem.W.Frag} {mg : Str → Option Value} {base : Heap} {cH cS cQ : Addr}
def sp_law : Spc := fun ds S => ∃ ns : List Int, ds = [.scr ns] ∧ S (.bl true)
theorem len_law : ∀ ds S, sp_law ds S → ds.length = 1 := by rintro _ _ ⟨_, rfl, _⟩; rfl
theorem sc_law : FnScope ["_law_script", "_law_k", "_law_box_here", "_law_turn", "_law_plan", "_law_asked_here", "_law_rows_here", "_law_made", "_law_house_here", "_law_goes", "_law_members", "_law_head", "_law_atoms", "_law_other", "_law_places", "_law_at", "_law_found"] ["_law_script"] (defScope (topS 74)) := ⟨rfl, rfl, rfl, by decide +kernel, rfl, by decide +kernel, by decide +kernel⟩
/-! slots: 0 _law_script, 1 _law_k, 2 _law_box_here, 3 _law_turn, 4 _law_plan, 5 _law_asked_here, 6 _law_rows_here, 7 _law_made, 8 _law_house_here, 9 _law_goes, 10 _law_members, 11 _law_head, 12 _law_atoms, 13 _law_other, 14 _law_places, 15 _law_at, 16 _law_found; cells: ['_law_box_here'] -/
theorem Txt.b_law (T : Txt K mg cH cS cQ) : Body P w K mg base 10 ["_law_script", "_law_k", "_law_box_here", "_law_turn", "_law_plan", "_law_asked_here", "_law_rows_here", "_law_made", "_law_house_here", "_law_goes", "_law_members", "_law_head", "_law_atoms", "_law_other", "_law_places", "_law_at", "_law_found"] "law" (topS 74) (Rds K ["_law_script", "_law_k", "_law_box_here", "_law_turn", "_law_plan", "_law_asked_here", "_law_rows_here", "_law_made", "_law_house_here", "_law_goes", "_law_members", "_law_head", "_law_atoms", "_law_other", "_law_places", "_law_at", "_law_found"] sp_law) := by
  refine fun f cdv A outer s H E hr => ?_
  refine ⟨_,
    (pss_cons (ps_for PassesOwn.never rfl (pi_range1 (by rfl) T.f_range (pa_cons (pe_callB (cr_max2 rfl) (by rfl) T.f_max (by decide +kernel) (pa_cons pe_int (pa_cons (pe_callB (cr_min2 rfl) (by rfl) T.f_min (by decide +kernel) (pa_cons pe_int (pa_cons (pe_callB (kCR (K := K) (r := rLenS) cr_len) (by rfl) T.f_len (by decide +kernel) (pa_cons (pv 0) pa_nil)) pa_nil))) pa_nil))) pa_nil)) (pg_name (i := 1) sc_law.nd rfl (by first | exact Or.inl rfl | exact Or.inr rfl))
      (pss_cons (ps_set (i := 2) sc_law.nd rfl (by first | exact Or.inl rfl | exact Or.inr rfl) (pe_dfB T.d_law_box hr (by decide) (by rfl) (pa_cons (pv 0) (pa_cons (pv 1) pa_nil))))
      (pss_one (ps_for PassesOwn.never rfl (pi_range1 (by rfl) T.f_range (pa_cons pe_int pa_nil)) (pg_name (i := 3) sc_law.nd rfl (by first | exact Or.inl rfl | exact Or.inr rfl))
        (pss_cons (ps_set (i := 4) sc_law.nd rfl (by first | exact Or.inl rfl | exact Or.inr rfl) (pe_df T.d_law_house hr (by decide) (by rfl) (pa_cons (pv 2) (pa_cons pe_int pa_nil))))
        (pss_cons (ps_par (i := 5) (j := 6) (by rfl) sc_law.nd rfl rfl (by decide) rfl rfl (pa_cons (pe_df T.d_law_question hr (by decide) (by rfl) (pa_cons (pv 2) (pa_cons (pv 4) (pa_cons pe_int (pa_cons pe_int pa_nil))))) (pa_cons (pe_df T.d_law_rows hr (by decide) (by rfl) (pa_cons (pv 2) (pa_cons (pv 4) (pa_cons pe_int (pa_cons pe_int pa_nil))))) pa_nil)) (by rfl))
        (pss_cons (ps_par (i := 7) (j := 8) (by rfl) sc_law.nd rfl rfl (by decide) rfl rfl (pa_cons (pe_df T.d_law_asked hr (by decide) (by rfl) (pa_cons (pv 5) pa_nil)) (pa_cons (pe_df T.d_law_house_of hr (by decide) (by rfl) (pa_cons (pv 4) pa_nil)) pa_nil)) (by rfl))
        (pss_cons (ps_set (i := 9) sc_law.nd rfl (by first | exact Or.inl rfl | exact Or.inr rfl) (pe_callTy (kCR (K := K) (r := rDictPr) (cr_dictPr rfl)) (by rfl) T.f_dict (by decide +kernel) (pa_cons (pe_listZ rfl (by rfl) T.f_list (by rfl) T.f_zip (pa_cons (pe_lst (pa_cons pe_str (pa_cons pe_str (pa_cons pe_str (pa_cons pe_str pa_nil))))) (pa_cons (pe_df T.d_law_mixed hr (by decide) (by rfl) (pa_cons (pv 2) (pa_cons (pe_lst (pa_cons pe_str (pa_cons pe_str (pa_cons pe_str (pa_cons pe_str (pa_cons pe_str pa_nil)))))) pa_nil))) pa_nil))) pa_nil)))
        (pss_cons (ps_set (i := 10) sc_law.nd rfl (by first | exact Or.inl rfl | exact Or.inr rfl) (pe_lst pa_nil))
        (pss_cons (ps_for PassesOwn.never rfl (kPI (K := K) (w := iList) (pi_list (pe_df T.d_law_mixed hr (by decide) (by rfl) (pa_cons (pv 2) (pa_cons (pe_ix (kIx (K := K) (r := rIx) ix_seq) (pe_df T.d_law_with_names hr (by decide) (by rfl) (pa_cons (pv 5) (pa_cons (pv 9) pa_nil))) pe_int (fun _ _ => rfl)) pa_nil))))) (kPG (K := K) (w := gTup) (pg_tup (n := 2) rfl (pgs_cons (pg_name (i := 11) sc_law.nd rfl (by first | exact Or.inl rfl | exact Or.inr rfl)) (pgs_cons (pg_name (i := 12) sc_law.nd rfl (by first | exact Or.inl rfl | exact Or.inr rfl)) pgs_nil))))
          (pss_one (ps_expr (kBM (K := K) (pe_bm PySem.F.plainAttrs_list PySem.F.slot_list_append PySem.F.type_list_append mt_append (pv 10) (pa_cons (pe_tup (pa_cons (pv 11) (pa_cons (pe_op op_cat (pe_df T.d_law_mixed hr (by decide) (by rfl) (pa_cons (pv 2) (pa_cons (pv 12) pa_nil))) (pe_slice (kSl (K := K) (r := rSlL) sl_list) (pv 12) po_none (po_some pe_int))) pa_nil))) pa_nil))))))
        (pss_cons (ps_set (i := 13) sc_law.nd rfl (by first | exact Or.inl rfl | exact Or.inr rfl) (pe_mk T.m_Question hr (by decide) (by rfl) (pa_cons (pv 10) (pa_cons (pe_ix (kIx (K := K) (r := rIx) ix_seq) (pv 5) pe_int (fun _ _ => rfl)) pa_nil))))
        (pss_cons (ps_if (PW.pt (pw_or (pt_not (pt_val (pe_df T.d_alike hr (by decide) (by rfl) (pa_cons (pv 8) (pa_cons (pv 7) (pa_cons (pv 13) pa_nil)))))) (pw_or1 (pt_not (pt_val (pe_df T.d_is_within hr (by decide) (by rfl) (pa_cons (pv 8) (pa_cons (pv 13) (pa_cons (pv 7) pa_nil)))))))))
          (pss_one (ps_ret pe_bl))
          pss_nil)
        (pss_cons (ps_setLc (i := 14) (own := [("_law_at", 15)]) rfl sc_law.nd rfl rfl (sw_true rfl rfl rfl (by decide +kernel)) (pi_range1 (by rfl) T.f_range (pa_cons (pe_ix (kIx (K := K) (r := rIx) ix_seq) (pv 5) pe_int (fun _ _ => rfl)) pa_nil)) (blkOk_by (own := [("_law_at", 15)]) (by first | (show blkC ["_law_script", "_law_k", "_law_box_here", "_law_turn", "_law_plan", "_law_asked_here", "_law_rows_here", "_law_made", "_law_house_here", "_law_goes", "_law_members", "_law_head", "_law_atoms", "_law_other", "_law_places", "_law_at", "_law_found"] (defScope (topS 74)) _ _ = true; decide +kernel) | rfl)) (fun _ _ _ _ _ => by exact (pg_name (i := 15) sc_law.nd rfl (by first | exact Or.inl rfl | exact Or.inr rfl))) (fun _ _ _ _ _ => by exact pts_nil) (fun _ _ _ _ _ => by exact (pe_df T.d_law_take hr (by decide) (by rfl) (pa_cons (pv 2) (pa_cons pe_int pa_nil)))))
        (pss_cons (ps_set (i := 16) sc_law.nd rfl (by first | exact Or.inl rfl | exact Or.inr rfl) (pe_mth (pl := _) (pv 7) T.dt_answers hr (by decide) (pa_cons (pe_mk T.m_Store hr (by decide) (by rfl) (pa_cons (pv 8) (pa_cons (pv 6) pa_nil))) (pa_cons (pv 14) pa_nil))))
        (pss_cons (ps_if (PW.pt (pw_or (pt_cmpR (kOp (K := K) (r := rNeD) (op_neD (rm_u hr))) (pe_mth (pl := _) (pv 13) T.dt_answers hr (by decide) (pa_cons (pe_mk T.m_Store hr (by decide) (by rfl) (pa_cons (pv 8) (pa_cons (pe_rev (K := K) (pv 6)) pa_nil))) (pa_cons (pv 14) pa_nil))) (pv 16) (nomark _)) (pw_or1 (pt_cmpR (kOp (K := K) (r := rNeD) (op_neD (rm_u hr))) (pe_prp (pv 7) T.dp_numbers hr (by decide)) (pe_prp (pv 13) T.dp_numbers hr (by decide)) (nomark _)))))
          (pss_one (ps_ret pe_bl))
          pss_nil)
        (pss_one (ps_if (PW.pt (pw_or (pt_not (pt_val (pe_df T.d_law_words_right hr (by decide) (by rfl) (pa_cons (pv 2) (pa_cons (pv 4) (pa_cons (pv 5) pa_nil)))))) (pw_or1 (pt_not (pt_val (pe_df T.d_law_moved_right hr (by decide) (by rfl) (pa_cons (pv 4) (pa_cons (pv 5) (pa_cons (pv 6) (pa_cons (pv 14) pa_nil))))))))))
          (pss_one (ps_ret pe_bl))
          pss_nil)))))))))))))))))
    (pss_one (ps_ret pe_bl))), fun B ds S h => ?_⟩
  obtain ⟨ns, rfl, hs⟩ := h
  refine ws_seq (ws_for (vs := [1]) (wi_rng1 (wa_cons (wp_max2 (wa_cons (wp_int (wa_cons (wp_min2 (wa_cons (wp_int (wa_cons (wp_lenScr (wa_cons (wp_var rfl (wa_nil ⟨ns, rfl, wa_nil ⟨_, _, rfl, wa_nil ⟨_, _, rfl, wa_nil ⟨_, rfl, ?_, ?_, fun i ρ' => ρ' = .d (.scr ns) :: List.replicate 16 .no, rfl, ?_, ?_⟩⟩⟩⟩)))))))))))))))
  · split <;> omega
  · split
    · split <;> omega
    · omega
  · rintro i d _ hd rfl
    obtain ⟨hi, rfl⟩ := dRange_get hd
    refine wg_name (by simp) (ws_boxed (i := 2) (ns := ns) rfl (wa_cons (wp_var rfl (wa_cons (wp_var rfl (wa_nil ⟨ns, i, rfl, fun x y z => ⟨x, y, z, rfl⟩⟩))))) (fun B' => ?_) rfl)
    refine ws_for (vs := [3]) (wi_rng1 (wa_cons (wp_int (wa_nil ⟨4, rfl, by decide, by decide, fun j ρ' => ∃ s1 s3 s4 s5 s6 s7 s8 s9 s10 s11 s12 s13 s14 s15 s16 : Sl, ρ' = [.d (.scr ns), s1, .d .box, s3, s4, s5, s6, s7, s8, s9, s10, s11, s12, s13, s14, s15, s16], ⟨_, _, _, _, _, _, _, _, _, _, _, _, _, _, _, rfl⟩, ?_, ?_⟩))))
    · rintro j d _ hd ⟨s1, s3, s4, s5, s6, s7, s8, s9, s10, s11, s12, s13, s14, s15, s16, rfl⟩
      obtain ⟨hj, rfl⟩ := dRange_get hd
      refine wg_name (by simp) (ws_seq (ws_asg (wp_call0 (wa_cons (wp_var rfl (wa_cons (wp_int (wa_nil ⟨2, rfl, by omega, by omega, fun h po => ?_⟩))))))))
      have ho := po.ok
      refine ws_seq (ws_parDD (wp_call0 (wa_cons (wp_var rfl (wa_cons (wp_var rfl (wa_cons (wp_int (wa_cons (wp_int (wa_nil ⟨h, 2, 3, rfl, po, by omega, by omega, by omega, by omega, fun q lq => wp_call0 (wa_cons (wp_var rfl (wa_cons (wp_var rfl (wa_cons (wp_int (wa_cons (wp_int (wa_nil ⟨h, 7, 4, rfl, po, by omega, by omega, by omega, fun rows R r7 rsm => ?_⟩)))))))))⟩)))))))))))
      have gq : GQ LTm h q := lq.gq (by omega) (by omega)
      have w1 := gq.wok ltm_ok ho
      have q2 := lq.few
      refine ws_seq (ws_parDD (wp_call0 (wa_cons (wp_var rfl (wa_nil ⟨q, rfl, w1.ok.mems, w1.ok.told, wp_call0 (wa_cons (wp_var rfl (wa_nil ⟨h, rfl, ho, fun rs hrs lrs => ?_⟩)))⟩)))))
      have h1 := hok_rs ho hrs lrs
      refine ws_seq (ws_asg (wp_dictPr (wa_cons (wp_listZ (wa_cons (wp_lst (wa_cons (wp_str (wa_cons (wp_str (wa_cons (wp_str (wa_cons (wp_str (wa_nil ⟨sz_le (by simp), wa_cons (wp_call0 (wa_cons (wp_var rfl (wa_cons (wp_lst (wa_cons (wp_str (wa_cons (wp_str (wa_cons (wp_str (wa_cons (wp_str (wa_cons (wp_str (wa_nil ⟨sz_le (by simp), wa_nil ⟨otherW.map D.str, rfl, by decide, fun x hx => ?_, fun ys hy => wa_nil ⟨_, ys, rfl, sz_le (by simp), ?_⟩⟩⟩))))))))))))))))⟩)))))))))))))))
      · obtain ⟨x, hx', rfl⟩ := List.mem_map.mp hx
        exact .str _ _ (word_ok (other_word hx'))
      obtain ⟨os, rfl, hp⟩ := perm_map hy
      have lo := hp.length_eq
      obtain ⟨o1, o2, o3, o4, o5, rfl⟩ : ∃ o1 o2 o3 o4 o5, os = [o1, o2, o3, o4, o5] := by
        match os, lo with
        | [a, b, c, d, e], _ => exact ⟨a, b, c, d, e, rfl⟩
      have ond : [o1, o2, o3, o4, o5].Nodup := hp.nodup_iff.mpr (by decide +kernel)
      simp only [List.nodup_cons, List.mem_cons, List.not_mem_nil, or_false, not_or] at ond
      obtain ⟨⟨n12, n13, n14, _⟩, ⟨n23, n24, _⟩, ⟨n34, _⟩, _⟩ := ond
      have om : ∀ x ∈ [o1, o2, o3, o4, o5], x ∈ otherW := fun x hx => hp.mem_iff.mp hx
      have g0 : ∀ t, LTm t → OTm (getT (goesN o1 o2 o3 o4) t) := fun t ht => goesN_otm (om _ (by simp)) (om _ (by simp)) (om _ (by simp)) (om _ (by simp)) ht
      have gb : ∀ t, LTm t → subT (backN o1 o2 o3 o4) (getT (goesN o1 o2 o3 o4) t) = t := fun t ht => back_goes n12 n13 n14 n23 n24 n34 ht
      refine wa_nil ⟨tmL (goesN o1 o2 o3 o4), .inl rfl, ?_⟩
      rw [goesN_merge]
      have gi : ∀ i, getT (goesN o1 o2 o3 o4) (.inl i) = .inl i := fun i => goesN_inl i
      have gn : ∀ t, LTm t → ∀ i, getT (goesN o1 o2 o3 o4) t = .inl i → t = .inl i := fun t ht i e => by
        rcases ht with ⟨k, rfl, _, _⟩ | ⟨x, hx, rfl⟩
        · rw [gi] at e
          exact e
        · rcases goesN_name (o1 := o1) (o2 := o2) (o3 := o3) (o4 := o4) hx with ⟨_, e2⟩ | ⟨_, e2⟩ | ⟨_, e2⟩ | ⟨_, e2⟩ <;> (rw [e2] at e; cases e)
      generalize hgl : goesN o1 o2 o3 o4 = gl at g0 gb gi gn
      have tmem : ∀ m ∈ q.mems, ∀ t, (t ∈ m.1 ∨ InT m.2 t) → LTm t := fun m hm t ht => by
        rcases ht with ht | ⟨a, ha, ht⟩
        · exact (gq.each m hm).head t ht
        · exact (gq.each m hm).each a ha t ht
      have ostr : ∀ {t : Tm}, OTm t → ∀ x, t = .inr x → PyData.strOk x = true := fun h x e => by
        rcases h with ⟨i, e2, _⟩ | ⟨y, hy, e2⟩
        · rw [e2] at e; cases e
        · rw [e2] at e
          cases e
          exact word_ok (other_word hy)
      have wstr : ∀ m ∈ q.mems, ∀ a ∈ m.2, PyData.strOk a.1 = true := fun m hm a ha => word_ok (base_word (rul_base po ((gq.each m hm).wid a ha)))
      refine ws_seq (ws_asgN (wn_nil ?_))
      refine ws_seq (ws_for (vs := [11, 12]) (wi_list (wp_call0 (wa_cons (wp_var rfl (wa_cons (wp_ix (wp_call0 (wa_cons (wp_var rfl (wa_cons (wp_var rfl (wa_nil ⟨q, gl, rfl, by omega, fun m hm => ?_, wp_int ⟨_, _, .lst ((q.mems.map (memMap (getT gl))).map dMemL), .inr rfl, rfl, rfl, wa_nil ⟨_, rfl, by rw [List.length_map, List.length_map]; omega, fun x hx => ?_, fun ys hy => ?_⟩⟩⟩)))))))))))))
      · have mo := w1.ok.mems.each m hm
        exact ⟨mo.few, mo.few2, fun a ha => (mo.each a ha).few⟩
      · obtain ⟨m2, hm2, rfl⟩ := List.mem_map.mp hx
        obtain ⟨m, hm, rfl⟩ := List.mem_map.mp hm2
        have M := gq.each m hm
        refine pur_mem (n := 56) (fun x hx => ?_) (fun a ha => ?_) (fun a ha x hx => ?_)
        · obtain ⟨u, hu, e⟩ := List.mem_map.mp hx
          exact ostr (g0 u (M.head u hu)) x e
        · obtain ⟨b, hb, rfl⟩ := List.mem_map.mp ha
          exact wstr m hm b hb
        · obtain ⟨b, hb, rfl⟩ := List.mem_map.mp ha
          obtain ⟨u, hu, e⟩ := List.mem_map.mp hx
          exact ostr (g0 u (M.each b hb u hu)) x e
      obtain ⟨ms2, rfl, hp2⟩ := perm_map hy
      have of2 : ∀ m2 ∈ ms2, ∃ m ∈ q.mems, m2 = memMap (getT gl) m := fun m2 h2 => by
        obtain ⟨m, hm, e⟩ := List.mem_map.mp (hp2.mem_iff.mp h2)
        exact ⟨m, hm, e.symm⟩
      have lm2 : ms2.length = q.mems.length := by rw [hp2.length_eq, List.length_map]
      refine ⟨_, rfl, fun i ρ' => ∃ (ms3 : List Mem) (s11 s12 : Sl), ρ' = [.d (.scr ns), s1, .d .box, .d (.int (j : Nat)), .d (dPlan h), .d (dAsked q), .d (.lst (rows.map dRow)), .d (dQues cQ q), .d (dHouse cH ⟨h.tabs, rs⟩), .d (.dic (tmL gl)), .own (.lst (ms3.map dMemL)), s11, s12, s13, s14, s15, s16] ∧ ms3.length = i ∧ (∀ m3 ∈ ms3, ∃ m2 ∈ ms2, SameM m2 m3) ∧ ∀ m2 ∈ ms2.take i, ∃ m3 ∈ ms3, SameM m2 m3, ⟨[], _, _, rfl, rfl, fun _ h => absurd h List.not_mem_nil, fun _ h => absurd h (by simp)⟩, ?_, ?_⟩
      · rintro i2 d _ hd2 ⟨ms3, s11, s12, rfl, l3, ha3, hb3⟩
        rw [List.getElem?_map] at hd2
        cases hmi : ms2[i2]? with
        | none => rw [hmi] at hd2; cases hd2
        | some m2 =>
        rw [hmi] at hd2
        cases hd2
        have mm := List.mem_of_getElem? hmi
        have il := (List.getElem?_eq_some_iff.mp hmi).1
        have et : ms2.take (i2 + 1) = ms2.take i2 ++ [m2] := by rw [List.take_add_one, hmi]; rfl
        obtain ⟨m, hm, em⟩ := of2 m2 mm
        have m3' : m2.2.length ≤ 3 := by
          rw [em]
          show (m.2.map _).length ≤ 3
          rw [List.length_map]
          exact lq.atoms m hm
        refine wg_tup rfl (wg_cons (wg_name (by simp) (wg_cons (wg_name (by simp) (wg_nil ?_)))))
        refine ws_append (i := 10) rfl (sz_lt (by rw [List.length_map]; omega)) ?_
        refine wp_tup (wa_cons (wp_var rfl (wa_cons (wp_cat (wp_call0 (wa_cons (wp_var rfl (wa_cons (wp_var rfl (wa_nil ⟨_, rfl, by rw [List.length_map]; omega, fun x hx => ?_, fun zs hz => wp_slL (wp_var rfl (wo_none (wo_some (wp_int ⟨_, rfl, _, rfl, ?_⟩))))⟩))))))))))
        · obtain ⟨a, ha, rfl⟩ := List.mem_map.mp hx
          rw [em] at ha
          obtain ⟨b, hb, rfl⟩ := List.mem_map.mp ha
          refine pur_at (n := 58) (wstr m hm b hb) fun x hx => ?_
          obtain ⟨u, hu, e⟩ := List.mem_map.mp hx
          exact ostr (g0 u ((gq.each m hm).each b hb u hu)) x e
        obtain ⟨as', rfl, hpa⟩ := perm_map hz
        have lpa := hpa.length_eq
        refine ⟨_, _, rfl, rfl, ?_, wa_nil ⟨sz_le (Nat.succ_le_of_lt (by simp)), ?_⟩⟩
        · rw [List.length_map, show (some (1 : Int)) = some ((1 : Nat) : Int) from rfl, cutD_to, List.length_take, List.length_map]
          exact sz_le (by omega)
        have sm : SameM m2 (m2.1, as' ++ m2.2.take 1) := by
          refine ⟨rfl, fun a => ?_, ?_⟩
          · rw [List.mem_append, hpa.mem_iff]
            exact ⟨fun h => h.elim id List.mem_of_mem_take, .inl⟩
          · show (as' ++ m2.2.take 1).length ≤ 5
            rw [List.length_append, List.length_take]
            omega
        have e9 : ms3.map dMemL ++ [D.tup [dTms m2.1, .lst ((as' ++ m2.2.take 1).map dAt)]] = (ms3 ++ [(m2.1, as' ++ m2.2.take 1)]).map dMemL := by
          rw [show (ms3 ++ [(m2.1, as' ++ m2.2.take 1)]).map dMemL = ms3.map dMemL ++ [(m2.1, as' ++ m2.2.take 1)].map dMemL from List.map_append]
          rfl
        rw [show (some (1 : Int)) = some ((1 : Nat) : Int) from rfl, cutD_to, ← List.map_take, ← List.map_append, e9]
        refine ⟨ms3 ++ [(m2.1, as' ++ m2.2.take 1)], _, _, rfl, by rw [List.length_append]; show ms3.length + 1 = _; omega, fun m3 hm3 => ?_, fun x hx => ?_⟩
        · rcases List.mem_append.mp hm3 with hm3 | hm3
          · exact ha3 m3 hm3
          · rw [List.mem_singleton.mp hm3]
            exact ⟨m2, mm, sm⟩
        · rw [et] at hx
          rcases List.mem_append.mp hx with hx | hx
          · obtain ⟨y, hy, e⟩ := hb3 x hx
            exact ⟨y, List.mem_append_left _ hy, e⟩
          · rw [List.mem_singleton.mp hx]
            exact ⟨_, List.mem_append_right _ (List.mem_singleton.mpr rfl), sm⟩
      rintro _ ⟨ms3, s11, s12, rfl, l3, ha3, hb3⟩
      rw [List.length_map] at l3 hb3
      rw [List.take_length] at hb3
      have R1 : ∀ m3 ∈ ms3, ∃ m ∈ q.mems, Ren (getT gl) m m3 := fun m3 h3 => by
        obtain ⟨m2, hm2, S2⟩ := ha3 m3 h3
        obtain ⟨m, hm, rfl⟩ := of2 m2 hm2
        exact ⟨m, hm, S2.ren⟩
      have R2 : ∀ m ∈ q.mems, ∃ m3 ∈ ms3, Ren (getT gl) m m3 := fun m hm => by
        obtain ⟨m3, hm3, S2⟩ := hb3 (memMap (getT gl) m) (hp2.mem_iff.mpr (List.mem_map.mpr ⟨m, hm, rfl⟩))
        exact ⟨m3, hm3, S2.ren⟩
      have q0 : 0 < q.mems.length := List.length_pos_iff.mpr lq.some
      have gq3 : GQ OTm h ⟨ms3, q.told⟩ := gq.ren (g := getT gl) R1 g0 (fun i => ⟨i, gi i⟩) (fun m3 h3 => let ⟨_, _, S2⟩ := ha3 m3 h3; S2.few) (fun e => by rw [show ms3 = [] from e] at l3; simp at l3; omega) (by show ms3.length ≤ 10; omega) rfl
      have w3 := gq3.wok otm_ok ho
      have w1' := (gq.rs (rs := rs)).wok ltm_ok h1
      have w3' := (gq3.rs (rs := rs)).wok otm_ok h1
      have W1 : Within rs q.mems ms3 := within_ren fun m hm => let ⟨m3, h3, R⟩ := R2 m hm; ⟨m3, h3, hom_back R fun t ht => gb t (tmem m hm t ht)⟩
      have W2 : Within rs ms3 q.mems := within_ren fun m3 h3 => let ⟨m, hm, R⟩ := R1 m3 h3; ⟨m, hm, hom_fore (φ := fun x => getT gl (.inr x)) R fun t _ => by
        cases t with
        | inl i => exact (gi i).symm
        | inr x => rfl⟩
      refine ws_share (i := 10) rfl (.inl ⟨_, rfl⟩) ?_
      refine ws_seq (ws_asg (wp_make (wa_cons (wp_var rfl (wa_cons (wp_ix (wp_var rfl (wp_int ⟨_, _, .int (q.told : Nat), .inr rfl, rfl, rfl, wa_nil ⟨ms3, q.told, rfl, w3.ok.mems, w3.ok.told, ?_⟩⟩))))))))
      refine ws_seq (ws_if (wt_or (wt_not (wt_B (wp_call0 (wa_cons (wp_var rfl (wa_cons (wp_var rfl (wa_cons (wp_var rfl (wa_nil ⟨⟨h.tabs, rs⟩, q, ⟨ms3, q.told⟩, rfl, h1, w1', w3', rfl, fun r hr => ⟨r, rfl, ?_⟩⟩))))))))))))
      rw [hr.mpr ⟨W1, W2⟩, Bool.not_true, if_neg Bool.false_ne_true]
      refine wt_not (wt_B (wp_call0 (wa_cons (wp_var rfl (wa_cons (wp_var rfl (wa_cons (wp_var rfl (wa_nil ⟨⟨h.tabs, rs⟩, ⟨ms3, q.told⟩, q, rfl, h1, w3', w1', rfl, fun r2 hr2 => ⟨r2, rfl, ?_⟩⟩)))))))))
      rw [hr2.mpr W2, Bool.not_true, if_neg Bool.false_ne_true]
      refine ws_next ?_
      refine ws_seq (ws_asg (wp_lcAll (wi_rng1 (wa_cons (wp_ix (wp_var rfl (wp_int ⟨_, _, .int (q.told : Nat), .inr rfl, rfl, rfl, wa_nil ⟨_, rfl, by omega, ?_, ?_, fun _ y => ∃ j : Nat, j < 4 ∧ y = .int (j : Nat), fun d hd => ?_, fun ys hp => ?_⟩⟩)))))))
      · obtain ⟨sz, s2, tsz, _⟩ := lq.size
        omega
      · rw [Int.toNat_natCast, dRange_len]
        obtain ⟨sz, s2, tsz, _⟩ := lq.size
        exact sz_le (by omega)
      · exact wg_name (by simp) (wp_call0 (wa_cons (wp_var rfl (wa_cons (wp_int (wa_nil ⟨4, rfl, by omega, by omega, fun k hk => ⟨k, hk, rfl⟩⟩))))))
      obtain ⟨pl, rfl, lpl, hpl⟩ := paired_ints hp
      rw [Int.toNat_natCast, dRange_len] at lpl
      -- the answers
      have Rr : RowsOk ⟨h.tabs, rs⟩ rows := rows_rs hrs R
      have ao : AnsOk q rows pl := ansOk gq R (by omega) lpl
      have ao3 : AnsOk ⟨ms3, q.told⟩ rows pl := ansOk gq3 R (by omega) lpl
      refine ws_seq (ws_asg (wp_meth .nil (wp_var rfl ⟨_, rfl, rfl, wa_cons (wp_make (wa_cons (wp_var rfl (wa_cons (wp_var rfl (wa_nil ⟨⟨h.tabs, rs⟩, rows, rfl, h1, Rr, fun rows1 ns1 hm1 hl1 => wa_cons (wp_var rfl (wa_nil ⟨q, _, rows1, pl, .inl rfl, rfl, w1.ok, ansOk_mem ao (fun r hr => (hm1 r).mp hr) hl1, fun xs ndx hx lx => ?_⟩))⟩))))))⟩)))
      rw [srt_rows]
      have purA : ∀ {l : List (List Int)}, ∀ d ∈ l.map dInts, Pur 1 d := fun {l} d hd => by
        obtain ⟨x, _, rfl⟩ := List.mem_map.mp hd
        exact pur_ints x
      have Rv : RowsOk ⟨h.tabs, rs⟩ rows.reverse := rows_mem Rr (fun r hr => List.mem_reverse.mp hr) (by rw [List.length_reverse]; exact Nat.le_refl _)
      refine ws_seq (ws_if (wt_or (wt_B (wp_neD (wp_meth .nil (wp_var rfl ⟨_, rfl, rfl, wa_cons (wp_make (wa_cons (wp_var rfl (wa_cons (wp_rev (wp_var rfl ⟨rows.map dRow, rfl, wa_nil ⟨⟨h.tabs, rs⟩, rows.reverse, by rw [List.map_reverse], h1, Rv, fun rows2 ns2 hm2 hl2 => wa_cons (wp_var rfl (wa_nil ⟨⟨ms3, q.told⟩, [("house", dHouse cH ⟨h.tabs, rs⟩), ("rows", .tup (rows2.map dRow)), ("figures", dInts ns2)], rows2, pl, .inl rfl, rfl, w3.ok, ?_, fun ys ndy hy ly => wp_var rfl ⟨2, by omega, ?_, ?_, fun r hr => ⟨_, rfl, ?_⟩⟩⟩))⟩⟩))))))⟩))))))
      · exact ansOk_mem ao3 (fun r hr => List.mem_reverse.mp ((hm2 r).mp hr)) (by rw [List.length_reverse] at hl2; exact hl2)
      · exact .tup 1 _ fun d hd => purA (l := upR ys) d (by rw [← srt_rows]; exact hd)
      · exact .tup 1 _ fun d hd => purA d hd
      have rr : ∀ r, r ∈ rows2 ↔ r ∈ rows1 := fun r => by rw [hm2, hm1, List.mem_reverse]
      have same : upR ys = upR xs := by
        refine upR_eq (nodup_mem_perm ndy ndx fun t => ?_)
        rw [hy, hx]
        constructor
        · refine ans_back (fun r hr => (rr r).mp hr) fun m3 h3 => ?_
          obtain ⟨m, hm, RR⟩ := R1 m3 h3
          exact ⟨m, hm, _, RR, fun f' => ⟨fun x => ev f' (getT gl (.inr x)), fun t _ => by
            cases t with
            | inl i => rw [gi]; rfl
            | inr x => rfl⟩⟩
        · refine ans_map (fun r hr => (rr r).mpr hr) fun m hm => ?_
          obtain ⟨m3, h3, RR⟩ := R2 m hm
          exact ⟨m3, h3, _, RR, fun f => ⟨fun y => ev f (backN o1 o2 o3 o4 y), fun t ht => by rw [ev_sub, gb t (tmem m hm t ht)]⟩⟩
      rw [hr.mpr (by rw [srt_rows, same]), Bool.not_true, if_neg Bool.false_ne_true]
      -- the numbers
      refine wt_B (wp_neD (wp_prop (wp_var rfl ⟨_, rfl, q, rfl, w1.ok, fun n1 u1 nd1 hn1 => wp_prop (wp_var rfl ⟨_, rfl, ⟨ms3, q.told⟩, rfl, w3.ok, fun n2 u2 nd2 hn2 => ⟨1, by omega, pur_ints _, pur_ints _, fun r2 hr2 => ⟨_, rfl, ?_⟩⟩⟩)⟩)))
      have en : n1 = n2 := by
        refine perm_sorted (fun a b h1 h2 => Int.le_antisymm h1 h2) (nodup_mem_perm nd1 nd2 fun i => ?_) u1 u2
        rw [hn1, hn2]
        constructor
        · exact isNum_ren fun m hm => let ⟨m3, h3, RR⟩ := R2 m hm; ⟨m3, h3, _, RR, gi⟩
        · exact isNum_back fun m3 h3 => let ⟨m, hm, RR⟩ := R1 m3 h3; ⟨m, hm, _, RR, fun i t ht e => gn t (tmem m hm t ht) i e⟩
      rw [hr2.mpr (by rw [en]), Bool.not_true, if_neg Bool.false_ne_true]
      refine ws_next ?_
      -- other words, other numbers
      refine ws_if (wt_or (wt_not (wt_B (wp_call0 (wa_cons (wp_var rfl (wa_cons (wp_var rfl (wa_cons (wp_var rfl (wa_nil ⟨h, q, rfl, po, lq, _, rfl, ?_⟩)))))))))))
      rw [Bool.not_true, if_neg Bool.false_ne_true]
      refine wt_not (wt_B (wp_call0 (wa_cons (wp_var rfl (wa_cons (wp_var rfl (wa_cons (wp_var rfl (wa_cons (wp_var rfl (wa_nil ⟨h, q, rows, pl, rfl, po, lq, R, by omega, fun r hr n hn => ?_, lpl, fun n hn => ?_, _, rfl, ?_⟩)))))))))))
      · have := rsm r hr n hn
        omega
      · have := hpl n hn
        omega
      rw [Bool.not_true, if_neg Bool.false_ne_true]
      exact ws_next ⟨_, _, _, _, _, _, _, _, _, _, _, _, _, _, _, rfl⟩
    · rintro _ ⟨s1, s3, s4, s5, s6, s7, s8, s9, s10, s11, s12, s13, s14, s15, s16, rfl⟩
      exact ⟨rfl, rfl⟩
  · rintro _ rfl
    exact ws_ret (wp_bl hs)
end
end FS

/-! FsX2: what the walk asks of the top, by the head's facts; the law. -/
namespace FS
open PySem PySem.Spec PyProof.Rows L2
section
variable {K : PySem.W.Frag} {h : Heap} {mg : Str → Option Value}
theorem SaysF.fa_ (c : SaysF K) (i : Nat) {f : He.Fa} (e : fa[i]? = some f := by rfl) : f.ok K = true := c.d.fact i e
theorem SaysF.fn_ (c : SaysF K) (i : Nat) {d : He.DefD} (e : fn[i]? = some d := by rfl) : ∃ fd, FunD K d.name d.qual d.params d.body d.scope (d.dvs K) (d.kws K) (He.fAd K d.at_) fd := c.d.def_ i e
theorem txt_of (X : K.In h) (G : h.Ns mainGlobals mg) (c : SaysF K) : Txt K mg (He.ga K "House") (He.ga K "Store") (He.ga K "Question") := by
  exact {
    a_is_integer := let ⟨u, F⟩ := c.fn_ 0 (d := dDef "is_integer" 12 []); ⟨_, u, F, He.glo_ok X G (c.fa_ 0 (f := .glo "is_integer"))⟩
    a_is_number := let ⟨u, F⟩ := c.fn_ 1 (d := dDef "is_number" 13 []); ⟨_, u, F, He.glo_ok X G (c.fa_ 1 (f := .glo "is_number"))⟩
    a_is_sequence := let ⟨u, F⟩ := c.fn_ 2 (d := dDef "is_sequence" 14 []); ⟨_, u, F, He.glo_ok X G (c.fa_ 2 (f := .glo "is_sequence"))⟩
    a_is_word := let ⟨u, F⟩ := c.fn_ 3 (d := dDef "is_word" 15 []); ⟨_, u, F, He.glo_ok X G (c.fa_ 3 (f := .glo "is_word"))⟩
    a_once := let ⟨u, F⟩ := c.fn_ 4 (d := dDef "once" 17 []); ⟨_, u, F, He.glo_ok X G (c.fa_ 4 (f := .glo "once"))⟩
    a_is_table := let ⟨u, F⟩ := c.fn_ 5 (d := dDef "is_table" 20 []); ⟨_, u, F, He.glo_ok X G (c.fa_ 5 (f := .glo "is_table"))⟩
    a_are_tables := let ⟨u, F⟩ := c.fn_ 6 (d := dDef "are_tables" 21 []); ⟨_, u, F, He.glo_ok X G (c.fa_ 6 (f := .glo "are_tables"))⟩
    a_are_columns := let ⟨u, F⟩ := c.fn_ 7 (d := dDef "are_columns" 22 []); ⟨_, u, F, He.glo_ok X G (c.fa_ 7 (f := .glo "are_columns"))⟩
    a_is_rule := let ⟨u, F⟩ := c.fn_ 8 (d := dDef "is_rule" 23 []); ⟨_, u, F, He.glo_ok X G (c.fa_ 8 (f := .glo "is_rule"))⟩
    a_is_row := let ⟨u, F⟩ := c.fn_ 9 (d := dDef "is_row" 24 []); ⟨_, u, F, He.glo_ok X G (c.fa_ 9 (f := .glo "is_row"))⟩
    a_breaks := let ⟨u, F⟩ := c.fn_ 10 (d := dDef "breaks" 32 []); ⟨_, u, F, He.glo_ok X G (c.fa_ 10 (f := .glo "breaks"))⟩
    a_need_rows := let ⟨u, F⟩ := c.fn_ 11 (d := dDef "need_rows" 33 []); ⟨_, u, F, He.glo_ok X G (c.fa_ 11 (f := .glo "need_rows"))⟩
    a_is_term := let ⟨u, F⟩ := c.fn_ 12 (d := dDef "is_term" 36 []); ⟨_, u, F, He.glo_ok X G (c.fa_ 12 (f := .glo "is_term"))⟩
    a_is_atom := let ⟨u, F⟩ := c.fn_ 13 (d := dDef "is_atom" 37 []); ⟨_, u, F, He.glo_ok X G (c.fa_ 13 (f := .glo "is_atom"))⟩
    a_words_in := let ⟨u, F⟩ := c.fn_ 14 (d := dDef "words_in" 38 []); ⟨_, u, F, He.glo_ok X G (c.fa_ 14 (f := .glo "words_in"))⟩
    a_names_in := let ⟨u, F⟩ := c.fn_ 15 (d := dDef "names_in" 39 []); ⟨_, u, F, He.glo_ok X G (c.fa_ 15 (f := .glo "names_in"))⟩
    a_is_member := let ⟨u, F⟩ := c.fn_ 16 (d := dDef "is_member" 40 []); ⟨_, u, F, He.glo_ok X G (c.fa_ 16 (f := .glo "is_member"))⟩
    a_are_members := let ⟨u, F⟩ := c.fn_ 17 (d := dDef "are_members" 41 []); ⟨_, u, F, He.glo_ok X G (c.fa_ 17 (f := .glo "are_members"))⟩
    a_each_once := let ⟨u, F⟩ := c.fn_ 18 (d := dDef "each_once" 42 []); ⟨_, u, F, He.glo_ok X G (c.fa_ 18 (f := .glo "each_once"))⟩
    a_extended := let ⟨u, F⟩ := c.fn_ 19 (d := dDef "extended" 43 []); ⟨_, u, F, He.glo_ok X G (c.fa_ 19 (f := .glo "extended"))⟩
    a_matches := let ⟨u, F⟩ := c.fn_ 20 (d := dDef "matches" 44 [.non]); ⟨_, u, F, He.glo_ok X G (c.fa_ 20 (f := .glo "matches"))⟩
    a_unlike_terms := let ⟨u, F⟩ := c.fn_ 21 (d := dDef "unlike_terms" 50 []); ⟨_, u, F, He.glo_ok X G (c.fa_ 21 (f := .glo "unlike_terms"))⟩
    a_glued := let ⟨u, F⟩ := c.fn_ 22 (d := dDef "glued" 51 []); ⟨_, u, F, He.glo_ok X G (c.fa_ 22 (f := .glo "glued"))⟩
    a_frozen := let ⟨u, F⟩ := c.fn_ 23 (d := dDef "frozen" 52 [.int 0]); ⟨_, u, F, He.glo_ok X G (c.fa_ 23 (f := .glo "frozen"))⟩
    a_parting := let ⟨u, F⟩ := c.fn_ 24 (d := dDef "parting" 53 []); ⟨_, u, F, He.glo_ok X G (c.fa_ 24 (f := .glo "parting"))⟩
    a_is_within := let ⟨u, F⟩ := c.fn_ 25 (d := dDef "is_within" 54 []); ⟨_, u, F, He.glo_ok X G (c.fa_ 25 (f := .glo "is_within"))⟩
    a_alike := let ⟨u, F⟩ := c.fn_ 26 (d := dDef "alike" 55 []); ⟨_, u, F, He.glo_ok X G (c.fa_ 26 (f := .glo "alike"))⟩
    a_law_box := let ⟨u, F⟩ := c.fn_ 27 (d := dDef "_law_box" 57 []); ⟨_, u, F, He.glo_ok X G (c.fa_ 27 (f := .glo "_law_box"))⟩
    a_law_take := let ⟨u, F⟩ := c.fn_ 28 (d := dDef "_law_take" 58 []); ⟨_, u, F, He.glo_ok X G (c.fa_ 28 (f := .glo "_law_take"))⟩
    a_law_pick := let ⟨u, F⟩ := c.fn_ 29 (d := dDef "_law_pick" 59 []); ⟨_, u, F, He.glo_ok X G (c.fa_ 29 (f := .glo "_law_pick"))⟩
    a_law_mixed := let ⟨u, F⟩ := c.fn_ 30 (d := dDef "_law_mixed" 60 []); ⟨_, u, F, He.glo_ok X G (c.fa_ 30 (f := .glo "_law_mixed"))⟩
    a_law_house := let ⟨u, F⟩ := c.fn_ 31 (d := dDef "_law_house" 61 []); ⟨_, u, F, He.glo_ok X G (c.fa_ 31 (f := .glo "_law_house"))⟩
    a_law_keeps := let ⟨u, F⟩ := c.fn_ 32 (d := dDef "_law_keeps" 62 []); ⟨_, u, F, He.glo_ok X G (c.fa_ 32 (f := .glo "_law_keeps"))⟩
    a_law_rows := let ⟨u, F⟩ := c.fn_ 33 (d := dDef "_law_rows" 63 []); ⟨_, u, F, He.glo_ok X G (c.fa_ 33 (f := .glo "_law_rows"))⟩
    a_law_names := let ⟨u, F⟩ := c.fn_ 34 (d := dDef "_law_names" 64 []); ⟨_, u, F, He.glo_ok X G (c.fa_ 34 (f := .glo "_law_names"))⟩
    a_law_member := let ⟨u, F⟩ := c.fn_ 35 (d := dDef "_law_member" 65 []); ⟨_, u, F, He.glo_ok X G (c.fa_ 35 (f := .glo "_law_member"))⟩
    a_law_question := let ⟨u, F⟩ := c.fn_ 36 (d := dDef "_law_question" 66 []); ⟨_, u, F, He.glo_ok X G (c.fa_ 36 (f := .glo "_law_question"))⟩
    a_law_near := let ⟨u, F⟩ := c.fn_ 37 (d := dDef "_law_near" 67 []); ⟨_, u, F, He.glo_ok X G (c.fa_ 37 (f := .glo "_law_near"))⟩
    a_law_house_of := let ⟨u, F⟩ := c.fn_ 38 (d := dDef "_law_house_of" 68 []); ⟨_, u, F, He.glo_ok X G (c.fa_ 38 (f := .glo "_law_house_of"))⟩
    a_law_asked := let ⟨u, F⟩ := c.fn_ 39 (d := dDef "_law_asked" 69 []); ⟨_, u, F, He.glo_ok X G (c.fa_ 39 (f := .glo "_law_asked"))⟩
    a_law_with_names := let ⟨u, F⟩ := c.fn_ 40 (d := dDef "_law_with_names" 70 []); ⟨_, u, F, He.glo_ok X G (c.fa_ 40 (f := .glo "_law_with_names"))⟩
    a_law_by_words := let ⟨u, F⟩ := c.fn_ 41 (d := dDef "_law_by_words" 71 []); ⟨_, u, F, He.glo_ok X G (c.fa_ 41 (f := .glo "_law_by_words"))⟩
    a_law_words_right := let ⟨u, F⟩ := c.fn_ 42 (d := dDef "_law_words_right" 72 []); ⟨_, u, F, He.glo_ok X G (c.fa_ 42 (f := .glo "_law_words_right"))⟩
    a_law_moved_right := let ⟨u, F⟩ := c.fn_ 43 (d := dDef "_law_moved_right" 73 []); ⟨_, u, F, He.glo_ok X G (c.fa_ 43 (f := .glo "_law_moved_right"))⟩
    a_law := let ⟨u, F⟩ := c.fn_ 44 (d := dDef "law" 74 []); ⟨_, u, F, He.glo_ok X G (c.fa_ 44 (f := .glo "law"))⟩
    i_House := let ⟨u, F⟩ := c.fn_ 45 (d := dIn "House" "__init__" "House.__init__" (inClass (topS 31) 0) [.adr (He.dflAt ("House", some "__init__") 0)]); ⟨_, _, u, F, He.mkr_ok (c.fa_ 79 (f := .mkr "House"))⟩
    t_names := let ⟨u, F⟩ := c.fn_ 46 (d := dIn "House" "names" "House.names" (inClass (topS 31) 2) []); ⟨_, u, F, He.meth_ok (c.fa_ 77 (f := .meth "House" "names"))⟩
    i_Store := let ⟨u, F⟩ := c.fn_ 47 (d := dIn "Store" "__init__" "Store.__init__" (inClass (topS 34) 0) [.adr (He.dflAt ("Store", some "__init__") 0)]); ⟨_, _, u, F, He.mkr_ok (c.fa_ 80 (f := .mkr "Store"))⟩
    i_Question := let ⟨u, F⟩ := c.fn_ 48 (d := dIn "Question" "__init__" "Question.__init__" (inClass (topS 45) 0) [.int 0]); ⟨_, u, F, He.mkr_ok (c.fa_ 81 (f := .mkr "Question"))⟩
    t_answers := let ⟨u, F⟩ := c.fn_ 49 (d := dIn "Question" "answers" "Question.answers" (inClass (topS 45) 5) [.adr (He.dflAt ("Question", some "answers") 0)]); ⟨_, _, u, F, He.meth_ok (c.fa_ 78 (f := .meth "Question" "answers"))⟩
    p_numbers := let ⟨k1, k2⟩ := He.ba c.ex; let ⟨k3, k4⟩ := He.ba k2; let ⟨u, F⟩ := fnAt_ok c.num k4; ⟨_, _, u, F, propB_ok k3⟩
    f_isinstance := He.free_ok X G (c.fa_ 49 (f := .free "isinstance"))
    f_int := He.free_ok X G (c.fa_ 50 (f := .free "int"))
    f_bool := He.free_ok X G (c.fa_ 51 (f := .free "bool"))
    f_str := He.free_ok X G (c.fa_ 52 (f := .free "str"))
    f_list := He.free_ok X G (c.fa_ 53 (f := .free "list"))
    f_tuple := He.free_ok X G (c.fa_ 54 (f := .free "tuple"))
    f_dict := He.free_ok X G (c.fa_ 55 (f := .free "dict"))
    f_all := He.free_ok X G (c.fa_ 56 (f := .free "all"))
    f_len := He.free_ok X G (c.fa_ 57 (f := .free "len"))
    f_zip := He.free_ok X G (c.fa_ 58 (f := .free "zip"))
    f_sorted := He.free_ok X G (c.fa_ 59 (f := .free "sorted"))
    f_enumerate := He.free_ok X G (c.fa_ 60 (f := .free "enumerate"))
    f_max := He.free_ok X G (c.fa_ 61 (f := .free "max"))
    f_min := He.free_ok X G (c.fa_ 62 (f := .free "min"))
    f_abs := He.free_ok X G (c.fa_ 63 (f := .free "abs"))
    f_range := He.free_ok X G (c.fa_ 64 (f := .free "range"))
    c_LETTERS := He.str_ok X G (c.fa_ 65 (f := .str "LETTERS" "abcdefghijklmnopqrstuvwxyz"))
    c_MOST_WIDTH := He.int_ok X G (c.fa_ 66 (f := .int "MOST_WIDTH" 9))
    c_NO_WORDS := ⟨_, He.glo_ok X G (c.fa_ 48 (f := .glo "NO_WORDS")), fun H => He.tupB_ok (He.ba c.ex).1 H⟩
    g_House := He.glo_ok X G (c.fa_ 45 (f := .glo "House"))
    k_House := He.cls_ok (c.fa_ 67 (f := .cls "House"))
    g_Store := He.glo_ok X G (c.fa_ 46 (f := .glo "Store"))
    k_Store := He.cls_ok (c.fa_ 68 (f := .cls "Store"))
    g_Question := He.glo_ok X G (c.fa_ 47 (f := .glo "Question"))
    k_Question := He.cls_ok (c.fa_ 69 (f := .cls "Question"))
    n_tables := He.noat_ok (c.fa_ 70 (f := .noat "House" "tables"))
    n_rules := He.noat_ok (c.fa_ 71 (f := .noat "House" "rules"))
    n_house := He.noat_ok (c.fa_ 72 (f := .noat "Store" "house"))
    n_rows := He.noat_ok (c.fa_ 73 (f := .noat "Store" "rows"))
    n_figures := He.noat_ok (c.fa_ 74 (f := .noat "Store" "figures"))
    n_members := He.noat_ok (c.fa_ 75 (f := .noat "Question" "members"))
    n_told := He.noat_ok (c.fa_ 76 (f := .noat "Question" "told"))
  }
/-- the law at a list of the script -/
theorem fn_law {H : Hp} {b : Addr} {ns : List Int} (hS : SqL K H b (ns.map V.int)) {Q : VK} {E : XK} (k : ∀ H', Q (.bl true) H') : Fn K sp_law [.ref b] H Q E := by
  refine ⟨fun _ => False, H, [.scr ns], fun d => d = .bl true, ⟨Ex.refl _, fun _ z => z.elim, fun _ z => z.elim⟩, .cons (.scr hS) .nil, ⟨ns, rfl, rfl⟩, fun v d G' H' _ r e => ?_⟩
  subst e
  cases r
  exact k H'
end
theorem law_facts {P : Program} {w : World} {K : PySem.W.Frag} {h : Heap} {mg : Str → Option Value} {f : Addr} (X : K.In h) (G : h.Ns mainGlobals mg) (hf : mg ("law" : Str) = some (.ref f)) (c : SaysF K) :
    ∃ fd : FuncData, (∀ (s : Shared) (v : Value), BindsTo s fd ⟨[v], []⟩ [("_law_script", v)]) ∧ ∀ base : Heap, FnOk P w K mg base CX0 11 f fd ["_law_script"] (Fn K sp_law) := by
  have T := txt_of X G c
  obtain ⟨g, fd, F, hg⟩ := T.a_law
  have e := hf.symm.trans hg
  cases e
  have b := FunD.bindsA (ps := ["_law_script"]) F fun _ _ _ _ _ _ us hl => match us, hl with | [_], _ => rfl
  exact ⟨fd, fun s v => b s [v] rfl, fun base => fnok F sc_law len_law (Txt.b_law T)⟩
end FS
open PySem PySem.W PySem.Calls PyProof.Rows
theorem PySem.Challenge.cw_formsights_k22_whole_questions_by_other_holds : PySem.Challenge.rw_formsights_k22_whole_questions_by_other.Holds := by
  w_on; o_law
  refine HandSHeadRun.head_any (r := FS.RF) (q := FS.qF) (H := FS.hookF) (ob := FS.obF) (M := 20000) (loose := FS.loF) (d := HandSHeadRun.topDef FS.RF.prog 74) (kwd := []) FS.obF_eq
    (by kernel_rfl) (fun s => by kernel_rfl) FS.runF (by kernel_rfl) (by kernel_rfl) (by kernel_rfl) (by rfl) (by first | assumption | decide +kernel) (by decide +kernel) ⟨rfl, rfl, rfl, rfl, rfl, by decide +kernel⟩ ?hw ?hc
  case hw => w_witness2
  case hc =>
    refine L2.walk_ofE (l := PySem.Challenge.rw_formsights_k22_whole_questions_by_other) (n := 63) (k := 11) (x := "_law_script") (CX := L2.CX0) rfl (by decide) (by kernel_rfl) ⟨rfl, by decide, by decide⟩ ?F (fun _ _ _ _ z => z)
    intro w mg fa h Y G hmg0
    obtain ⟨K, KX, c⟩ := Y
    have hmg : mg ("law" : PySem.Str) = some (.ref fa) := by
      have e : (HandSHeadRun.topDef FS.RF.prog 74).name = ("law" : PySem.Str) := by kernel_rfl
      rw [← e]
      exact hmg0
    obtain ⟨fd, hb, hF⟩ := FS.law_facts (P := (PySem.Challenge.rw_formsights_k22_whole_questions_by_other).prog) (w := w) KX G hmg c
    exact ⟨K, fd, FS.Fn K FS.sp_law, KX, hb, fun H a ns hl _ hS => FS.fn_law hS fun _ => rfl, fun base _ _ => hF base⟩

