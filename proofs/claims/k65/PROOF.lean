import PyProof.Rows.All
import Wide.All
import OpenK.AllK
import Wide.FinOn
import HandS.ForMost
import HandS.ForExc
import HandS.Lambda
import HandS.IsInst
import HandS.Wide
import HandS.TupAny
import HandS.TupMul
import HandS.RaiseMore
import HandS.Text
import PyProof.ReprRoads
import PyProof.CallFns
import HandS.Zip
import HandS.Defaults
import HandS.Property
import HandS.FStr
import OpenK.KOps
import OpenK.KMeth
import HandS.ExcOwn
import HandS.Style
import HandS.WordsExc
import HandS.EndBits
import HandS.Head0
import HandS.Head1
import HandS.Head2
import HandS.HeadHook1
import HandS.HeadHook2
import HandS.Star
import HandS.BoundList
import HandS.Conv
import HandS.StrMore
import HandS.ExcIs
import HandS.ExcValue
import HandS.MakeKw
import HandS.Walk
import KE.GoesEnum
import PyProof.StrLawsRepr
import PyProof.Rows.ReprOcc
import PySem.Challenge.RW_hushloops_k65_other_signs
set_option Elab.async false
set_option linter.all false
set_option maxRecDepth 100000
set_option maxHeartbeats 4000000
namespace Dn
open PySem PySem.Spec PyProof.Rows L2
/-! ### dicts whose keys are tuples of ints and of such tuples -/
mutual
def tk : PyData → Bool
  | .int _ => true
  | .tuple xs => tks xs
  | _ => false
def tks : List PyData → Bool
  | [] => true
  | x :: xs => tk x && tks xs
end
def isTK : PyData → Bool
  | .tuple xs => tks xs && decide (PyData.depthAll xs ≤ 4)
  | _ => false
mutual
def kh : PyData → Int
  | .int i => hashInt i
  | .tuple xs => reduceHash (Builtin.Tuple.tupleHashOf (khs xs))
  | _ => 0
def khs : List PyData → List Int
  | [] => []
  | x :: xs => kh x :: khs xs
end
/-- what stands at a: such a dict, its epoch -/
def DicP (us : List (PyData × Addr × V)) (ep : Nat) (a : Addr) (h : Heap) : Prop := us.length ≤ sizeLine ∧ (a == sysModules) = false ∧ (us.map (·.1)).Nodup ∧ ∃ xs : List (PyData × Addr × Value),
  Paired (fun (p : PyData × Addr × V) (q : PyData × Addr × Value) => p.1 = q.1 ∧ p.2.1 = q.2.1 ∧ RelV p.2.2 q.2.2) us xs ∧
  ∃ o es, h.get? a = some o ∧ o.ExactDict ∧ o.data = .dict es ep ∧ es.toList = xs.map fun x => (⟨kh x.1, .ref x.2.1, x.2.2⟩ : DictEntry)
def DicO (us : List (PyData × Addr × V)) (ep : Nat) (a : Addr) : HO := .ext (DicP us ep a)
theorem dicO_ok {P : Program} {w : World} {H : Hp} {h : Heap} {us : List (PyData × Addr × V)} {ep : Nat} {a : Addr} (d : DicP us ep a h) : ObjOk P w H h a (DicO us ep a) := by
  have hd := d
  obtain ⟨z, y, n, xs, r, o, es, e1, e2⟩ := d
  exact ⟨hd, ⟨o, e1⟩, fun h1 h2 ⟨z, y, n, xs, r, o, es, e1, e2⟩ k => ⟨z, y, n, xs, r, o, es, k o e1, e2⟩⟩
end Dn

set_option Elab.async false
set_option linter.all false
set_option maxRecDepth 100000
set_option maxHeartbeats 4000000
namespace Dn
open PySem PySem.Spec PyProof.Rows L2

/-! ### values, stores, results -/
inductive PV where
  | non | bl (b : Bool) | int (i : Int) | str (x : Str)
  | tup (xs : List PV) | lst (xs : List PV) | obj (nm : Str) (fs : List (Str × PV)) | loc (i : Nat) | scr (ns : List Int) | ty (n : String) | cls (nm : Str) | exc (nm : Str) | dic (kvs : List (PV × PV)) | dik (kvs : List (PV × PV))
inductive Cell where
  | lst (xs : List PV) | ins (nm : Str) (fs : List (Str × PV)) | dic (kvs : List (PV × PV)) (ep : Nat)
abbrev Store := List Cell
inductive Res (α : Type) where
  | ok (a : α) (S : Store) | err (c : Str) (S : Store) | bad
abbrev Env1 := List (Option PV)
abbrev EM := Env1 → Store → Res PV
abbrev LM := Env1 → Store → Res (List PV)
abbrev BM := Env1 → Store → Res Bool
abbrev Fn := List PV → Store → Res PV
def Res.bind {α β : Type} : Res α → (α → Store → Res β) → Res β
  | .ok a S, f => f a S
  | .err c S, _ => .err c S
  | .bad, _ => .bad
/-- no rewriting by unfolding -/
theorem nr {α : Sort u} {a b : α} (h : a = b) : a = b := h
@[simp] theorem Res.bind_ok {α β : Type} (a : α) (S : Store) (f : α → Store → Res β) : (Res.ok a S).bind f = f a S := nr rfl
@[simp] theorem Res.bind_err {α β : Type} (c : Str) (S : Store) (f : α → Store → Res β) : (Res.err c S : Res α).bind f = .err c S := nr rfl
@[simp] theorem Res.bind_bad {α β : Type} (f : α → Store → Res β) : (Res.bad : Res α).bind f = .bad := nr rfl
theorem Res.bind_assoc {α β γ : Type} (r : Res α) (f : α → Store → Res β) (g : β → Store → Res γ) : (r.bind f).bind g = r.bind fun a S => (f a S).bind g := by
  cases r <;> rfl
def ofO (o : Option PV) (S : Store) : Res PV := match o with | some d => .ok d S | none => .bad

/-! ### exceptions as values, tables of code objects -/
/-- the program's own classes of exceptions -/
def EXN : List Str := ["NoTops", "NoBottom", "NoRounding", "NoHigh", "NoFlag", "NoRoom", "NoFilter", "NoState", "NoInput", "NoSteps", "NoRing", "NoNumbers", "NoSize", "NoRow", "NoSpan", "NoOrder", "NoText", "NotTame", "NotEven", "TooLarge", "NoPlace", "Spilled", "TooMany", "NothingDone", "HushError"]
/-- what φ says: an instance of the exception class at C stands at a -/
def IsExc (C a : Addr) (φ : Heap → Prop) : Prop := ∀ h, φ h → ∃ (oe : Obj) (vs : Array Value), h.get? a = some oe ∧ Zc (.ref C) none oe ∧ oe.data = .fields vs
def noTbl (o : HO) : Prop := ∀ ps, o ≠ .tbl ps
/-- the tables that a K tells (entries that no look-up sees) -/
def tabOf (o : Obj) : Option (Addr × Str) := match o.data with
  | .fields #[.str m _, .ref P, .str q _] => if m = ("a table of code objects" : Str) then some (P, q) else none
  | _ => none
def tabsOf (K : PySem.W.Frag) : List (Addr × Str) := K.filterMap fun p => tabOf p.2
mutual
/-- a value as data, without the store -/
def data0 : PV → Option PyData
  | .non => some .none
  | .bl b => some (.bool b)
  | .int i => some (.int i)
  | .str x => some (.str x)
  | .tup xs => (data0s xs).map .tuple
  | .lst xs => (data0s xs).map .list
  | .obj _ _ => none
  | .loc _ => none
  | .scr _ => none
  | .ty _ => none
  | .cls _ => none
  | .exc _ => none
  | .dic _ => none
  | .dik _ => none
def data0s : List PV → Option (List PyData)
  | [] => some []
  | x :: xs => (data0 x).bind fun d => (data0s xs).map (d :: ·)
end
mutual
/-- the same, with dicts -/
def data1 : PV → Option PyData
  | .non => some .none
  | .bl b => some (.bool b)
  | .int i => some (.int i)
  | .str x => some (.str x)
  | .tup xs => (data1s xs).map .tuple
  | .lst xs => (data1s xs).map .list
  | .obj _ _ => none
  | .loc _ => none
  | .scr _ => none
  | .ty _ => none
  | .cls _ => none
  | .exc _ => none
  | .dic kvs => (data1d kvs).map .dict
  | .dik kvs => (data1d kvs).map .dict
def data1s : List PV → Option (List PyData)
  | [] => some []
  | x :: xs => (data1 x).bind fun d => (data1s xs).map (d :: ·)
def data1d : List (PV × PV) → Option (List (PyData × PyData))
  | [] => some []
  | (x, y) :: xs => (data1 x).bind fun d => (data1 y).bind fun e => (data1d xs).map ((d, e) :: ·)
end
/-- a key that is an int or a text -/
def kPV : Key → PV
  | .inl i => .int i
  | .inr x => .str x
/-! ### values in a heap -/
section
variable (K : PySem.W.Frag) (mg : Str → Option Value)
mutual
inductive At (H : Hp) (L Z : List Addr) : PV → V → Prop
  | non : At H L Z .non .non
  | bl (b : Bool) : At H L Z (.bl b) (.bl b)
  | int (i : Int) : At H L Z (.int i) (.int i)
  | str (x : Str) : At H L Z (.str x) (.str x)
  | tup {a : Addr} {vs : List V} {ds : List PV} : SqT K H a vs → Ats H L Z ds vs → At H L Z (.tup ds) (.ref a)
  | lst {a : Addr} {vs : List V} {ds : List PV} : H a = some (.lst vs) → a ∉ L → a ∉ Z → Ats H L Z ds vs → At H L Z (.lst ds) (.ref a)
  | obj {a C dx : Addr} {nm : Str} {vs : List (Str × V)} {ds : List (Str × PV)} : mg nm = some (.ref C) → H a = some (.ins C dx vs) → a ∉ L → a ∉ Z → Atf H L Z ds vs → At H L Z (.obj nm ds) (.ref a)
  | loc {a : Addr} {i : Nat} : L[i]? = some a → At H L Z (.loc i) (.ref a)
  | scr {a : Addr} {ns : List Int} : Rd H a (.lst (ns.map V.int)) → a ∉ L → a ∉ Z → At H L Z (.scr ns) (.ref a)
  | scrk {a : Addr} {ns : List Int} : (∀ H' : Hp, SqL K H' a (ns.map V.int)) → At H L Z (.scr ns) (.ref a)
  | ty (n : String) : At H L Z (.ty n) (.ty n)
  | cls {nm : Str} {C : Addr} : mg nm = some (.ref C) → At H L Z (.cls nm) (.ref C)
  | exc {a C : Addr} {nm : Str} {φ : Heap → Prop} : nm ∈ EXN → mg nm = some (.ref C) → H a = some (.ext φ) → IsExc C a φ → a ∉ L → a ∉ Z → At H L Z (.exc nm) (.ref a)
  | dic {a : Addr} {us : List (PyData × Addr × V)} {kvs : List (PV × PV)} {ep : Nat} : H a = some (DicO us ep a) → a ∉ L → a ∉ Z → Atd H L Z kvs us → At H L Z (.dic kvs) (.ref a)
  | dik {a : Addr} {us : List (Key × V)} {kvs : List (PV × PV)} : H a = some (.dK us) → a ∉ L → a ∉ Z → Atk H L Z kvs us → At H L Z (.dik kvs) (.ref a)
inductive Ats (H : Hp) (L Z : List Addr) : List PV → List V → Prop
  | nil : Ats H L Z [] []
  | cons {d : PV} {v : V} {ds : List PV} {vs : List V} : At H L Z d v → Ats H L Z ds vs → Ats H L Z (d :: ds) (v :: vs)
inductive Atf (H : Hp) (L Z : List Addr) : List (Str × PV) → List (Str × V) → Prop
  | nil : Atf H L Z [] []
  | cons {n : Str} {d : PV} {v : V} {ds : List (Str × PV)} {vs : List (Str × V)} : At H L Z d v → Atf H L Z ds vs → Atf H L Z ((n, d) :: ds) ((n, v) :: vs)
inductive Atd (H : Hp) (L Z : List Addr) : List (PV × PV) → List (PyData × Addr × V) → Prop
  | nil : Atd H L Z [] []
  | cons {k d : PV} {p : PyData} {b : Addr} {v : V} {ds : List (PV × PV)} {vs : List (PyData × Addr × V)} : data0 k = some p → isTK p = true → At H L Z k (.ref b) → At H L Z d v → Atd H L Z ds vs → Atd H L Z ((k, d) :: ds) ((p, b, v) :: vs)
inductive Atk (H : Hp) (L Z : List Addr) : List (PV × PV) → List (Key × V) → Prop
  | nil : Atk H L Z [] []
  | cons {k : Key} {d : PV} {v : V} {ds : List (PV × PV)} {vs : List (Key × V)} : At H L Z d v → Atk H L Z ds vs → Atk H L Z ((kPV k, d) :: ds) ((k, v) :: vs)
end
def CellAt (H : Hp) (L Z : List Addr) (a : Addr) : Cell → Prop
  | .lst ds => ∃ vs, H a = some (.lst vs) ∧ Ats K mg H L Z ds vs
  | .ins nm fs => ∃ C dx vs, mg nm = some (.ref C) ∧ H a = some (.ins C dx vs) ∧ Atf K mg H L Z fs vs
  | .dic kvs ep => ∃ us, H a = some (DicO us ep a) ∧ Atd K mg H L Z kvs us
structure Sta (H : Hp) (L Z : List Addr) (S : Store) : Prop where
  nd : L.Nodup
  len : S.length = L.length
  cells : ∀ (i : Nat) (c : Cell) (a : Addr), S[i]? = some c → L[i]? = some a → CellAt K mg H L Z a c
  zt : ∀ a ∈ Z, ∃ o, H a = some o
  dj : ∀ a ∈ L, a ∉ Z
  tabs : LamX.Tabs (tabsOf K) H
def Slots (H : Hp) (L Z : List Addr) (r : Env1) (σ : L2.St) : Prop := ∀ (i : Nat) (d : PV), r[i]? = some (some d) → ∃ v, σ[i]? = some (some v) ∧ At K mg H L Z d v
end
structure Ext (H : Hp) (L : List Addr) (H' : Hp) (L' : List Addr) : Prop where
  pre : ∃ new, L' = L ++ new ∧ ∀ a ∈ new, H a = none
  keep : ∀ a o, H a = some o → (a ∈ L → ¬ Mut (some o)) → noTbl o → H' a = some o
  dom : ∀ a o, H a = some o → ∃ o', H' a = some o'

theorem Ext.refl (H : Hp) (L : List Addr) : Ext H L H L := ⟨⟨[], by simp, fun _ h => nomatch h⟩, fun _ _ h _ _ => h, fun _ o h => ⟨o, h⟩⟩
theorem Ext.trans {H H1 H2 : Hp} {L L1 L2 : List Addr} (a : Ext H L H1 L1) (b : Ext H1 L1 H2 L2) : Ext H L H2 L2 := by
  obtain ⟨n1, e1, f1⟩ := a.pre
  obtain ⟨n2, e2, f2⟩ := b.pre
  refine ⟨⟨n1 ++ n2, by rw [e2, e1, List.append_assoc], fun x hx => ?_⟩, fun x o h hm nt => ?_, fun x o h => ?_⟩
  · rcases List.mem_append.mp hx with h | h
    · exact f1 x h
    · cases q : H x with
      | none => rfl
      | some o =>
        obtain ⟨o', h'⟩ := a.dom x o q
        rw [f2 x h] at h'; cases h'
  · refine b.keep x o (a.keep x o h hm nt) (fun hx => ?_) nt
    rw [e1] at hx
    rcases List.mem_append.mp hx with h1 | h1
    · exact hm h1
    · rw [f1 x h1] at h; cases h
  · obtain ⟨o', h'⟩ := a.dom x o h
    exact b.dom x o' h'
theorem Ext.notin {H H' : Hp} {L L' : List Addr} (x : Ext H L H' L') {a : Addr} {o : HO} (h : H a = some o) (n : a ∉ L) : a ∉ L' := by
  obtain ⟨n1, e1, f1⟩ := x.pre
  rw [e1]
  intro hm
  rcases List.mem_append.mp hm with z | z
  · exact n z
  · rw [f1 a z] at h; cases h
theorem Ext.rd {H H' : Hp} {L L' : List Addr} (x : Ext H L H' L') {a : Addr} {u : HO} (h : Rd H a u) (n : a ∉ L) (nt : noTbl u) : Rd H' a u := by
  rcases h with h | ⟨o, h⟩
  · exact .inl (x.keep a _ h (fun z => absurd z n) nt)
  · exact .inr ⟨o, x.keep a _ h (fun z => absurd z n) (fun _ => nofun)⟩
theorem Ext.sqt {K : PySem.W.Frag} {H H' : Hp} {L L' : List Addr} (x : Ext H L H' L') {a : Addr} {vs : List V} (h : SqT K H a vs) : SqT K H' a vs := by
  rcases h with (h | ⟨o, h⟩) | h
  · exact .inl (.inl (x.keep a _ h (fun _ z => z) (fun _ => nofun)))
  · exact .inl (.inr ⟨o, x.keep a _ h (fun _ z => z) (fun _ => nofun)⟩)
  · exact .inr h
theorem tabs_laid {H : Hp} {K : PySem.W.Frag} {p : Addr} {o : HO} (t : LamX.Tabs (tabsOf K) H) (n : H p = none) : LamX.Tabs (tabsOf K) (upd H p o) := t.ext fun b u e => by rw [upd_ne (ne_of_none e n)]; exact e
/-- tables stay where all but a list, an instance stays -/
theorem tab_but {H H' : Hp} {P p : Addr} {q : Str} {o : HO} (t : LamX.TabS H P q) (h : H p = some o) (b : ∀ a, a ≠ p → H' a = H a) (nt : noTbl o := by exact fun _ => nofun) (ne : ∀ φ, o ≠ .ext φ := by exact fun _ => nofun) : LamX.TabS H' P q := by
  obtain ⟨ps, h1, h2, h3⟩ := t
  refine ⟨ps, by rw [b P (fun z => by rw [z, h] at h1; exact nt _ (Option.some.inj h1))]; exact h1, h2, fun pos cv hc => ?_⟩
  obtain ⟨c, e1, e2⟩ := h3 pos cv hc
  exact ⟨c, e1, by rw [b c (fun z => by rw [z, h] at e2; exact ne _ (Option.some.inj e2))]; exact e2⟩
theorem Rd.has {H : Hp} {a : Addr} {u : HO} (h : Rd H a u) : ∃ o, H a = some o := by
  rcases h with h | ⟨o, h⟩ <;> exact ⟨_, h⟩

section
variable {K : PySem.W.Frag} {mg : Str → Option Value} {H H' : Hp} {L L' Z : List Addr}
mutual
theorem At.mono (x : Ext H L H' L') : ∀ {d : PV} {v : V}, At K mg H L Z d v → At K mg H' L' Z d v
  | _, _, .non => .non
  | _, _, .bl b => .bl b
  | _, _, .int i => .int i
  | _, _, .str s => .str s
  | _, _, .tup h1 h2 => .tup (x.sqt h1) (Ats.mono x h2)
  | _, _, .lst h1 h2 h3 h4 => .lst (x.keep _ _ h1 (fun z => absurd z h2) (fun _ => nofun)) (x.notin h1 h2) h3 (Ats.mono x h4)
  | _, _, .ty n => .ty n
  | _, _, .cls h => .cls h
  | _, _, .exc h0 h1 h2 h3 h4 h5 => .exc h0 h1 (x.keep _ _ h2 (fun z => absurd z h4) (fun _ => nofun)) h3 (x.notin h2 h4) h5
  | _, _, .dic h1 h2 h3 h4 => .dic (x.keep _ _ h1 (fun z => absurd z h2) (fun _ => nofun)) (x.notin h1 h2) h3 (Atd.mono x h4)
  | _, _, .dik h1 h2 h3 h4 => .dik (x.keep _ _ h1 (fun z => absurd z h2) (fun _ => nofun)) (x.notin h1 h2) h3 (Atk.mono x h4)
  | _, _, .scr h1 h2 h3 => .scr (x.rd h1 h2 (fun _ => nofun)) (let ⟨_, z⟩ := Rd.has h1; x.notin z h2) h3
  | _, _, .scrk h => .scrk h
  | _, _, .obj h0 h1 h2 h3 h4 => .obj h0 (x.keep _ _ h1 (fun z => absurd z h2) (fun _ => nofun)) (x.notin h1 h2) h3 (Atf.mono x h4)
  | _, _, .loc h => .loc (by
      obtain ⟨n, e, _⟩ := x.pre
      rw [e, List.getElem?_append_left (List.getElem?_eq_some_iff.mp h).1]; exact h)
theorem Ats.mono (x : Ext H L H' L') : ∀ {ds : List PV} {vs : List V}, Ats K mg H L Z ds vs → Ats K mg H' L' Z ds vs
  | _, _, .nil => .nil
  | _, _, .cons h1 h2 => .cons (At.mono x h1) (Ats.mono x h2)
theorem Atf.mono (x : Ext H L H' L') : ∀ {ds : List (Str × PV)} {vs : List (Str × V)}, Atf K mg H L Z ds vs → Atf K mg H' L' Z ds vs
  | _, _, .nil => .nil
  | _, _, .cons h1 h2 => .cons (At.mono x h1) (Atf.mono x h2)
theorem Atd.mono (x : Ext H L H' L') : ∀ {ds : List (PV × PV)} {vs : List (PyData × Addr × V)}, Atd K mg H L Z ds vs → Atd K mg H' L' Z ds vs
  | _, _, .nil => .nil
  | _, _, .cons q1 q2 h0 h1 h2 => .cons q1 q2 (At.mono x h0) (At.mono x h1) (Atd.mono x h2)
theorem Atk.mono (x : Ext H L H' L') : ∀ {ds : List (PV × PV)} {vs : List (Key × V)}, Atk K mg H L Z ds vs → Atk K mg H' L' Z ds vs
  | _, _, .nil => .nil
  | _, _, .cons h1 h2 => .cons (At.mono x h1) (Atk.mono x h2)
end
theorem Slots.mono {r : Env1} {σ : L2.St} (x : Ext H L H' L') (h : Slots K mg H L Z r σ) : Slots K mg H' L' Z r σ := fun i d e => let ⟨v, a, b⟩ := h i d e; ⟨v, a, b.mono x⟩
theorem Ats.len : ∀ {ds : List PV} {vs : List V}, Ats K mg H L Z ds vs → ds.length = vs.length
  | _, _, .nil => rfl
  | _, _, .cons _ h => by simp [h.len]
theorem Ats.get : ∀ {ds : List PV} {vs : List V} {i : Nat} {d : PV}, Ats K mg H L Z ds vs → ds[i]? = some d → ∃ v, vs[i]? = some v ∧ At K mg H L Z d v
  | _, _, _, _, .nil, e => by simp at e
  | _, _, 0, _, .cons h _, e => by simp at e; subst e; exact ⟨_, rfl, h⟩
  | _, _, i + 1, _, .cons _ h, e => by
    obtain ⟨v, a, b⟩ := h.get (i := i) (by simpa using e)
    exact ⟨v, by simpa using a, b⟩
theorem Ats.append : ∀ {ds es : List PV} {vs ws : List V}, Ats K mg H L Z ds vs → Ats K mg H L Z es ws → Ats K mg H L Z (ds ++ es) (vs ++ ws)
  | _, _, _, _, .nil, h => h
  | _, _, _, _, .cons a b, h => .cons a (b.append h)
theorem Ats.take : ∀ {ds : List PV} {vs : List V} (n : Nat), Ats K mg H L Z ds vs → Ats K mg H L Z (ds.take n) (vs.take n)
  | _, _, 0, _ => .nil
  | _, _, _ + 1, .nil => .nil
  | _, _, n + 1, .cons a b => .cons a (b.take n)
theorem Ats.drop : ∀ {ds : List PV} {vs : List V} (n : Nat), Ats K mg H L Z ds vs → Ats K mg H L Z (ds.drop n) (vs.drop n)
  | _, _, 0, h => h
  | _, _, _ + 1, .nil => .nil
  | _, _, n + 1, .cons _ b => b.drop n
theorem Ats.set {d : PV} {v : V} (h : At K mg H L Z d v) : ∀ {ds : List PV} {vs : List V} (i : Nat), Ats K mg H L Z ds vs → Ats K mg H L Z (ds.set i d) (vs.set i v)
  | _, _, _, .nil => .nil
  | _, _, 0, .cons _ b => .cons h b
  | _, _, i + 1, .cons a b => .cons a (Ats.set h i b)
/-- all cells but some stay: a new object -/
theorem Ext.laid {p : Addr} {o : HO} (n : H p = none) : Ext H L (upd H p o) L :=
  ⟨⟨[], by simp, fun _ h => nomatch h⟩, fun a u h _ _ => by rw [upd_ne (ne_of_none h n)]; exact h, fun a u h => ⟨u, by rw [upd_ne (ne_of_none h n)]; exact h⟩⟩
theorem CellAt.mono {c : Cell} {a : Addr} (x : Ext H L H' L') (e : H' a = H a) (h : CellAt K mg H L Z a c) : CellAt K mg H' L' Z a c := by
  cases c with
  | lst ds => obtain ⟨vs, h1, h2⟩ := h; exact ⟨vs, by rw [e]; exact h1, h2.mono x⟩
  | ins nm fs => obtain ⟨C, dx, vs, h0, h1, h2⟩ := h; exact ⟨C, dx, vs, h0, by rw [e]; exact h1, h2.mono x⟩
  | dic kvs ep => obtain ⟨us, h1, h2⟩ := h; exact ⟨us, by rw [e]; exact h1, h2.mono x⟩
theorem Sta.has {S : Store} (st : Sta K mg H L Z S) {a : Addr} (h : a ∈ L) : ∃ o, H a = some o := by
  obtain ⟨i, hi, e⟩ := List.mem_iff_getElem.mp h
  have hl : i < S.length := by rw [st.len]; exact hi
  have := st.cells i S[i] a (by simp [hl]) (by rw [List.getElem?_eq_getElem hi, e])
  cases c : S[i] with
  | lst ds => rw [c] at this; obtain ⟨vs, h1, _⟩ := this; exact ⟨_, h1⟩
  | ins nm fs => rw [c] at this; obtain ⟨C, dx, vs, _, h1, _⟩ := this; exact ⟨_, h1⟩
  | dic kvs ep => rw [c] at this; obtain ⟨us, h1, _⟩ := this; exact ⟨_, h1⟩
theorem Sta.fresh {S : Store} (st : Sta K mg H L Z S) {p : Addr} (n : H p = none) : p ∉ L ∧ p ∉ Z := by
  refine ⟨fun h => ?_, fun h => ?_⟩
  · obtain ⟨o, e⟩ := st.has h
    rw [n] at e; cases e
  · obtain ⟨o, e⟩ := st.zt p h
    rw [n] at e; cases e
theorem Sta.laid {S : Store} (st : Sta K mg H L Z S) {p : Addr} {o : HO} (n : H p = none) : Sta K mg (upd H p o) L Z S := by
  refine ⟨st.nd, st.len, fun i c a h1 h2 => ?_, fun a h => ?_, st.dj, tabs_laid st.tabs n⟩
  · have ha := st.has (List.mem_of_getElem? h2)
    obtain ⟨u, hu⟩ := ha
    exact (st.cells i c a h1 h2).mono (Ext.laid n) (by rw [upd_ne (ne_of_none hu n)])
  · obtain ⟨u, hu⟩ := st.zt a h
    exact ⟨u, by rw [upd_ne (ne_of_none hu n)]; exact hu⟩
end

/-! ### an object that is hidden from the values: it may change -/
section
variable {K : PySem.W.Frag} {mg : Str → Option Value} {H : Hp} {L Z : List Addr} {p : Addr} {o o' : HO}
/-- the heaps agree but at p -/
def But (p : Addr) (H H' : Hp) : Prop := ∀ a, a ≠ p → H' a = H a
theorem But.upd (p : Addr) (H : Hp) (o : HO) : But p H (upd H p o) := fun _ h => upd_ne h
theorem sqt_hid {H' : Hp} {a : Addr} {vs : List V} (h : H p = some o) (m : Mut (some o)) (b : But p H H') (t : SqT K H a vs) : SqT K H' a vs := by
  rcases t with (t | ⟨u, t⟩) | t
  · exact .inl (.inl (by rw [b a (fun e => by subst e; rw [h] at t; cases t; exact m)]; exact t))
  · exact .inl (.inr ⟨u, by rw [b a (fun e => by subst e; rw [h] at t; cases t; exact m)]; exact t⟩)
  · exact .inr t
mutual
theorem At.stirB {H' : Hp} (h : H p = some o) (m : Mut (some o)) (b : But p H H') : ∀ {d : PV} {v : V}, At K mg H L (p :: Z) d v → At K mg H' L (p :: Z) d v
  | _, _, .non => .non
  | _, _, .bl b => .bl b
  | _, _, .int i => .int i
  | _, _, .str s => .str s
  | _, _, .tup h1 h2 => .tup (sqt_hid h m b h1) (Ats.stirB h m b h2)
  | _, _, .lst h1 h2 h3 h4 => .lst (by rw [b _ (fun e => h3 (by rw [e]; exact List.mem_cons_self))]; exact h1) h2 h3 (Ats.stirB h m b h4)
  | _, _, .obj h0 h1 h2 h3 h4 => .obj h0 (by rw [b _ (fun e => h3 (by rw [e]; exact List.mem_cons_self))]; exact h1) h2 h3 (Atf.stirB h m b h4)
  | _, _, .loc h1 => .loc h1
  | _, _, .scr h1 h2 h3 => .scr (h1.imp (fun z => by rw [b _ (fun e => h3 (by rw [e]; exact List.mem_cons_self))]; exact z) fun ⟨u, z⟩ => ⟨u, by rw [b _ (fun e => h3 (by rw [e]; exact List.mem_cons_self))]; exact z⟩) h2 h3
  | _, _, .scrk h => .scrk h
  | _, _, .ty n => .ty n
  | _, _, .cls h => .cls h
  | _, _, .exc h0 h1 h2 h3 h4 h5 => .exc h0 h1 (by rw [b _ (fun e => h5 (by rw [e]; exact List.mem_cons_self))]; exact h2) h3 h4 h5
  | _, _, .dic h1 h2 h3 h4 => .dic (by rw [b _ (fun e => h3 (by rw [e]; exact List.mem_cons_self))]; exact h1) h2 h3 (Atd.stirB h m b h4)
  | _, _, .dik h1 h2 h3 h4 => .dik (by rw [b _ (fun e => h3 (by rw [e]; exact List.mem_cons_self))]; exact h1) h2 h3 (Atk.stirB h m b h4)
theorem Ats.stirB {H' : Hp} (h : H p = some o) (m : Mut (some o)) (b : But p H H') : ∀ {ds : List PV} {vs : List V}, Ats K mg H L (p :: Z) ds vs → Ats K mg H' L (p :: Z) ds vs
  | _, _, .nil => .nil
  | _, _, .cons h1 h2 => .cons (At.stirB h m b h1) (Ats.stirB h m b h2)
theorem Atf.stirB {H' : Hp} (h : H p = some o) (m : Mut (some o)) (b : But p H H') : ∀ {ds : List (Str × PV)} {vs : List (Str × V)}, Atf K mg H L (p :: Z) ds vs → Atf K mg H' L (p :: Z) ds vs
  | _, _, .nil => .nil
  | _, _, .cons h1 h2 => .cons (At.stirB h m b h1) (Atf.stirB h m b h2)
theorem Atd.stirB {H' : Hp} (h : H p = some o) (m : Mut (some o)) (b : But p H H') : ∀ {ds : List (PV × PV)} {vs : List (PyData × Addr × V)}, Atd K mg H L (p :: Z) ds vs → Atd K mg H' L (p :: Z) ds vs
  | _, _, .nil => .nil
  | _, _, .cons q1 q2 h0 h1 h2 => .cons q1 q2 (At.stirB h m b h0) (At.stirB h m b h1) (Atd.stirB h m b h2)
theorem Atk.stirB {H' : Hp} (h : H p = some o) (m : Mut (some o)) (b : But p H H') : ∀ {ds : List (PV × PV)} {vs : List (Key × V)}, Atk K mg H L (p :: Z) ds vs → Atk K mg H' L (p :: Z) ds vs
  | _, _, .nil => .nil
  | _, _, .cons h1 h2 => .cons (At.stirB h m b h1) (Atk.stirB h m b h2)
end
theorem At.stir {d : PV} {v : V} (h : H p = some o) (m : Mut (some o)) (a : At K mg H L (p :: Z) d v) : At K mg (upd H p o') L (p :: Z) d v := At.stirB h m (But.upd p H o') a
theorem Ats.stir {d : List PV} {v : List V} (h : H p = some o) (m : Mut (some o)) (a : Ats K mg H L (p :: Z) d v) : Ats K mg (upd H p o') L (p :: Z) d v := Ats.stirB h m (But.upd p H o') a
theorem Atd.stir {d : List (PV × PV)} {v : List (PyData × Addr × V)} (h : H p = some o) (m : Mut (some o)) (a : Atd K mg H L (p :: Z) d v) : Atd K mg (upd H p o') L (p :: Z) d v := Atd.stirB h m (But.upd p H o') a
theorem Atf.stir {d : List (Str × PV)} {v : List (Str × V)} (h : H p = some o) (m : Mut (some o)) (a : Atf K mg H L (p :: Z) d v) : Atf K mg (upd H p o') L (p :: Z) d v := Atf.stirB h m (But.upd p H o') a
mutual
theorem At.unhide : ∀ {d : PV} {v : V}, At K mg H L (p :: Z) d v → At K mg H L Z d v
  | _, _, .non => .non
  | _, _, .bl b => .bl b
  | _, _, .int i => .int i
  | _, _, .str s => .str s
  | _, _, .tup h1 h2 => .tup h1 (Ats.unhide h2)
  | _, _, .lst h1 h2 h3 h4 => .lst h1 h2 (fun z => h3 (List.mem_cons_of_mem _ z)) (Ats.unhide h4)
  | _, _, .obj h0 h1 h2 h3 h4 => .obj h0 h1 h2 (fun z => h3 (List.mem_cons_of_mem _ z)) (Atf.unhide h4)
  | _, _, .loc h1 => .loc h1
  | _, _, .scr h1 h2 h3 => .scr h1 h2 fun z => h3 (List.mem_cons_of_mem _ z)
  | _, _, .scrk h => .scrk h
  | _, _, .ty n => .ty n
  | _, _, .cls h => .cls h
  | _, _, .exc h0 h1 h2 h3 h4 h5 => .exc h0 h1 h2 h3 h4 fun z => h5 (List.mem_cons_of_mem _ z)
  | _, _, .dic h1 h2 h3 h4 => .dic h1 h2 (fun z => h3 (List.mem_cons_of_mem _ z)) (Atd.unhide h4)
  | _, _, .dik h1 h2 h3 h4 => .dik h1 h2 (fun z => h3 (List.mem_cons_of_mem _ z)) (Atk.unhide h4)
theorem Ats.unhide : ∀ {ds : List PV} {vs : List V}, Ats K mg H L (p :: Z) ds vs → Ats K mg H L Z ds vs
  | _, _, .nil => .nil
  | _, _, .cons h1 h2 => .cons (At.unhide h1) (Ats.unhide h2)
theorem Atf.unhide : ∀ {ds : List (Str × PV)} {vs : List (Str × V)}, Atf K mg H L (p :: Z) ds vs → Atf K mg H L Z ds vs
  | _, _, .nil => .nil
  | _, _, .cons h1 h2 => .cons (At.unhide h1) (Atf.unhide h2)
theorem Atd.unhide : ∀ {ds : List (PV × PV)} {vs : List (PyData × Addr × V)}, Atd K mg H L (p :: Z) ds vs → Atd K mg H L Z ds vs
  | _, _, .nil => .nil
  | _, _, .cons q1 q2 h0 h1 h2 => .cons q1 q2 (At.unhide h0) (At.unhide h1) (Atd.unhide h2)
theorem Atk.unhide : ∀ {ds : List (PV × PV)} {vs : List (Key × V)}, Atk K mg H L (p :: Z) ds vs → Atk K mg H L Z ds vs
  | _, _, .nil => .nil
  | _, _, .cons h1 h2 => .cons (At.unhide h1) (Atk.unhide h2)
end
mutual
theorem At.hide (n : H p = none) : ∀ {d : PV} {v : V}, At K mg H L Z d v → At K mg H L (p :: Z) d v
  | _, _, .non => .non
  | _, _, .bl b => .bl b
  | _, _, .int i => .int i
  | _, _, .str s => .str s
  | _, _, .tup h1 h2 => .tup h1 (Ats.hide n h2)
  | _, _, .lst h1 h2 h3 h4 => .lst h1 h2 (fun z => (List.mem_cons.mp z).elim (fun e => by rw [e, n] at h1; cases h1) h3) (Ats.hide n h4)
  | _, _, .obj h0 h1 h2 h3 h4 => .obj h0 h1 h2 (fun z => (List.mem_cons.mp z).elim (fun e => by rw [e, n] at h1; cases h1) h3) (Atf.hide n h4)
  | _, _, .loc h1 => .loc h1
  | _, _, .scr h1 h2 h3 => .scr h1 h2 fun z => (List.mem_cons.mp z).elim (fun e => by obtain ⟨u, q⟩ := Rd.has h1; rw [e, n] at q; cases q) h3
  | _, _, .scrk h => .scrk h
  | _, _, .ty n => .ty n
  | _, _, .cls h => .cls h
  | _, _, .exc h0 h1 h2 h3 h4 h5 => .exc h0 h1 h2 h3 h4 fun z => (List.mem_cons.mp z).elim (fun e => by rw [e, n] at h2; cases h2) h5
  | _, _, .dic h1 h2 h3 h4 => .dic h1 h2 (fun z => (List.mem_cons.mp z).elim (fun e => by rw [e, n] at h1; cases h1) h3) (Atd.hide n h4)
  | _, _, .dik h1 h2 h3 h4 => .dik h1 h2 (fun z => (List.mem_cons.mp z).elim (fun e => by rw [e, n] at h1; cases h1) h3) (Atk.hide n h4)
theorem Ats.hide (n : H p = none) : ∀ {ds : List PV} {vs : List V}, Ats K mg H L Z ds vs → Ats K mg H L (p :: Z) ds vs
  | _, _, .nil => .nil
  | _, _, .cons h1 h2 => .cons (At.hide n h1) (Ats.hide n h2)
theorem Atf.hide (n : H p = none) : ∀ {ds : List (Str × PV)} {vs : List (Str × V)}, Atf K mg H L Z ds vs → Atf K mg H L (p :: Z) ds vs
  | _, _, .nil => .nil
  | _, _, .cons h1 h2 => .cons (At.hide n h1) (Atf.hide n h2)
theorem Atd.hide (n : H p = none) : ∀ {ds : List (PV × PV)} {vs : List (PyData × Addr × V)}, Atd K mg H L Z ds vs → Atd K mg H L (p :: Z) ds vs
  | _, _, .nil => .nil
  | _, _, .cons q1 q2 h0 h1 h2 => .cons q1 q2 (At.hide n h0) (At.hide n h1) (Atd.hide n h2)
theorem Atk.hide (n : H p = none) : ∀ {ds : List (PV × PV)} {vs : List (Key × V)}, Atk K mg H L Z ds vs → Atk K mg H L (p :: Z) ds vs
  | _, _, .nil => .nil
  | _, _, .cons h1 h2 => .cons (At.hide n h1) (Atk.hide n h2)
end
theorem At.hides : ∀ {Y : List Addr} {d : PV} {v : V}, (∀ q ∈ Y, H q = none) → At K mg H L Z d v → At K mg H L (Y ++ Z) d v
  | [], _, _, _, a => a
  | q :: Y, _, _, n, a => At.hide (n q List.mem_cons_self) (At.hides (fun x hx => n x (List.mem_cons_of_mem _ hx)) a)
theorem CellAt.stir {c : Cell} {a : Addr} (h : H p = some o) (m : Mut (some o)) (na : a ≠ p) (x : CellAt K mg H L (p :: Z) a c) : CellAt K mg (upd H p o') L (p :: Z) a c := by
  cases c with
  | lst ds => obtain ⟨vs, h1, h2⟩ := x; exact ⟨vs, by rw [upd_ne na]; exact h1, Ats.stir h m h2⟩
  | ins nm fs => obtain ⟨C, dx, vs, h0, h1, h2⟩ := x; exact ⟨C, dx, vs, h0, by rw [upd_ne na]; exact h1, Atf.stir h m h2⟩
  | dic kvs ep => obtain ⟨us, h1, h2⟩ := x; exact ⟨us, by rw [upd_ne na]; exact h1, Atd.stir h m h2⟩
theorem Sta.stir {S : Store} {zs : List V} (st : Sta K mg H L (p :: Z) S) (h : H p = some (.lst zs)) (m : Mut (some (HO.lst zs))) : Sta K mg (upd H p o') L (p :: Z) S := by
  refine ⟨st.nd, st.len, fun i c a h1 h2 => (st.cells i c a h1 h2).stir h m fun e => st.dj a (List.mem_of_getElem? h2) (by rw [e]; exact List.mem_cons_self), fun a ha => ?_, st.dj, fun p' hp => tab_but (st.tabs p' hp) h (But.upd p H o')⟩
  by_cases e : a = p
  · exact ⟨o', by rw [e, upd_same]⟩
  · obtain ⟨u, q⟩ := st.zt a ha
    exact ⟨u, by rw [upd_ne e]; exact q⟩
theorem Sta.unhide {S : Store} (st : Sta K mg H L (p :: Z) S) : Sta K mg H L Z S := by
  refine ⟨st.nd, st.len, fun i c a h1 h2 => ?_, fun a ha => st.zt a (List.mem_cons_of_mem _ ha), fun a ha z => st.dj a ha (List.mem_cons_of_mem _ z), st.tabs⟩
  have := st.cells i c a h1 h2
  cases c with
  | lst ds => obtain ⟨vs, e1, e2⟩ := this; exact ⟨vs, e1, e2.unhide⟩
  | ins nm fs => obtain ⟨C, dx, vs, h0, h1, h2⟩ := this; exact ⟨C, dx, vs, h0, h1, h2.unhide⟩
  | dic kvs ep => obtain ⟨us, h1, h2⟩ := this; exact ⟨us, h1, h2.unhide⟩
/-- a new object, hidden at once -/
theorem Sta.hid {S : Store} (st : Sta K mg H L Z S) (n : H p = none) : Sta K mg (upd H p o) L (p :: Z) S := by
  have x : Ext H L (upd H p o) L := Ext.laid n
  refine ⟨st.nd, st.len, fun i c a h1 h2 => ?_, fun a ha => ?_, fun a ha z => ?_, tabs_laid st.tabs n⟩
  · obtain ⟨u, hu⟩ := st.has (List.mem_of_getElem? h2)
    have := st.cells i c a h1 h2
    cases c with
    | lst ds => obtain ⟨vs, e1, e2⟩ := this; exact ⟨vs, by rw [upd_ne (ne_of_none hu n)]; exact e1, (e2.hide n).mono x⟩
    | ins nm fs => obtain ⟨C, dx, vs, h0, h1, h2⟩ := this; exact ⟨C, dx, vs, h0, by rw [upd_ne (ne_of_none hu n)]; exact h1, (h2.hide n).mono x⟩
    | dic kvs ep => obtain ⟨us, h1, h2⟩ := this; exact ⟨us, by rw [upd_ne (ne_of_none hu n)]; exact h1, (h2.hide n).mono x⟩
  · rcases List.mem_cons.mp ha with e | e
    · exact ⟨o, by rw [e, upd_same]⟩
    · obtain ⟨u, q⟩ := st.zt a e
      exact ⟨u, by rw [upd_ne (ne_of_none q n)]; exact q⟩
  · rcases List.mem_cons.mp z with e | e
    · exact (st.fresh n).1 (e ▸ ha)
    · exact st.dj a ha e
theorem At.hid {d : PV} {v : V} (a : At K mg H L Z d v) (n : H p = none) : At K mg (upd H p o) L (p :: Z) d v := (a.hide n).mono (Ext.laid n)
theorem Ats.hid {d : List PV} {v : List V} (a : Ats K mg H L Z d v) (n : H p = none) : Ats K mg (upd H p o) L (p :: Z) d v := (a.hide n).mono (Ext.laid n)
theorem Slots.hid {r : Env1} {σ : L2.St} (a : Slots K mg H L Z r σ) (n : H p = none) : Slots K mg (upd H p o) L (p :: Z) r σ := fun i d e => let ⟨v, e1, a1⟩ := a i d e; ⟨v, e1, a1.hid n⟩
theorem Slots.hide {r : Env1} {σ : L2.St} (a : Slots K mg H L Z r σ) (n : H p = none) : Slots K mg H L (p :: Z) r σ := fun i d e => let ⟨v, e1, a1⟩ := a i d e; ⟨v, e1, a1.hide n⟩
theorem Slots.stir {r : Env1} {σ : L2.St} (a : Slots K mg H L (p :: Z) r σ) (h : H p = some o) (m : Mut (some o)) : Slots K mg (upd H p o') L (p :: Z) r σ := fun i d e => let ⟨v, e1, a1⟩ := a i d e; ⟨v, e1, At.stir h m a1⟩
theorem Slots.unhide {r : Env1} {σ : L2.St} (a : Slots K mg H L (p :: Z) r σ) : Slots K mg H L Z r σ := fun i d e => let ⟨v, e1, a1⟩ := a i d e; ⟨v, e1, a1.unhide⟩
/-- the hidden object taken out -/
def cut (H : Hp) (p : Addr) : Hp := fun b => if b = p then none else H b
theorem cut_but (H : Hp) (p : Addr) : But p H (cut H p) := fun a h => by unfold cut; rw [if_neg h]
theorem cut_at (H : Hp) (p : Addr) : cut H p p = none := by unfold cut; rw [if_pos rfl]
theorem cut_upd {H : Hp} {p : Addr} {o : HO} (h : H p = some o) : upd (cut H p) p o = H := by
  funext b; unfold upd cut
  by_cases e : b = p
  · subst e; rw [if_pos rfl, h]
  · rw [if_neg e, if_neg e]
theorem Sta.drop {S : Store} {zs : List V} (st : Sta K mg H L (p :: Z) S) (pz : p ∉ Z) (h : H p = some (.lst zs)) (m : Mut (some (HO.lst zs))) : Sta K mg (cut H p) L Z S := by
  refine ⟨st.nd, st.len, fun i c a h1 h2 => ?_, fun a ha => ?_, fun a ha z => st.dj a ha (List.mem_cons_of_mem _ z), fun p' hp => tab_but (st.tabs p' hp) h (cut_but H p)⟩
  · have na : a ≠ p := fun e => st.dj a (List.mem_of_getElem? h2) (by rw [e]; exact List.mem_cons_self)
    have := st.cells i c a h1 h2
    cases c with
    | lst ds => obtain ⟨vs, e1, e2⟩ := this; exact ⟨vs, by rw [cut_but H p a na]; exact e1, (Ats.stirB h m (cut_but H p) e2).unhide⟩
    | ins nm fs => obtain ⟨C, dx, vs, h0, e1, e2⟩ := this; exact ⟨C, dx, vs, h0, by rw [cut_but H p a na]; exact e1, (Atf.stirB h m (cut_but H p) e2).unhide⟩
    | dic kvs ep => obtain ⟨us, e1, e2⟩ := this; exact ⟨us, by rw [cut_but H p a na]; exact e1, (Atd.stirB h m (cut_but H p) e2).unhide⟩
  · rw [cut_but H p a fun e => pz (e ▸ ha)]
    exact st.zt a (List.mem_cons_of_mem _ ha)
theorem Ext.but {H0 H1 H2 : Hp} {L0 L1 : List Addr} {zs : List V} (x : Ext H0 L0 H1 L1) (n : H0 p = none) (h : H1 p = some (.lst zs)) (b : But p H1 H2) : Ext H0 L0 H2 L1 := by
  refine ⟨x.pre, fun a u e hm nt => ?_, fun a u e => ?_⟩
  · rw [b a (ne_of_none e n)]; exact x.keep a u e hm nt
  · rw [b a (ne_of_none e n)]; exact x.dom a u e
end

/-! ### what is wanted of a result -/
def Post {α β : Type} (X : Cx) (W : WX) (σ : L2.St) (Z : List Addr) (rel : Hp → List Addr → α → β → Prop) (r : Res α) (H : Hp) (L : List Addr) (Q : β → Hp → Prop) : Prop :=
  match r with
  | .ok d S' => ∀ v H' L', Ext H L H' L' → Sta X.K X.mg H' L' Z S' → rel H' L' d v → Q v H'
  | .err c S' => ∀ H' L' cls, Ext H L H' L' → Sta X.K X.mg H' L' Z S' → X.mg c = some cls → W cls none σ H'
  | .bad => False
theorem Post.ext {α β : Type} {X : Cx} {W : WX} {σ : L2.St} {Z : List Addr} {rel : Hp → List Addr → α → β → Prop} {r : Res α} {H H1 : Hp} {L L1 : List Addr} {Q : β → Hp → Prop}
    (h : Post X W σ Z rel r H L Q) (x : Ext H L H1 L1) : Post X W σ Z rel r H1 L1 Q := by
  cases r with
  | ok d S' => exact fun v H' L' y => h v H' L' (x.trans y)
  | err c S' => exact fun H' L' cls y => h H' L' cls (x.trans y)
  | bad => exact h
abbrev relV (X : Cx) (Z : List Addr) : Hp → List Addr → PV → V → Prop := fun H L d v => At X.K X.mg H L Z d v
abbrev relL (X : Cx) (Z : List Addr) : Hp → List Addr → List PV → List V → Prop := fun H L d v => Ats X.K X.mg H L Z d v
abbrev relB : Hp → List Addr → Bool → Bool → Prop := fun _ _ d v => d = v
abbrev PostV (X : Cx) (W : WX) (σ : L2.St) (Z : List Addr) := Post X W σ Z (relV X Z)
abbrev PostL (X : Cx) (W : WX) (σ : L2.St) (Z : List Addr) := Post X W σ Z (relL X Z)
abbrev PostB (X : Cx) (W : WX) (σ : L2.St) (Z : List Addr) := Post X W σ Z relB

/-! ### the judgements -/
structure Jd (p : Prop) : Prop where
  out : p
def De (X : Cx) (W : WX) (e : Expr) (f : EM) : Prop := Jd (
  ∀ (pins : List (Addr × Obj)) (s : Shared) (σ : L2.St) (H : Hp) (r : Env1) (S : Store) (L Z : List Addr) (Q : VK), Inv X pins σ H s → Slots X.K X.mg H L Z r σ → Sta X.K X.mg H L Z S → PostV X W σ Z (f r S) H L Q →
    wpAny (model X.prog X.w) X.A (eval e X.env) (EP X pins σ Q) X.xe s)
def DT (X : Cx) (W : WX) (e : Expr) (f : BM) : Prop := Jd (
  ∀ (pins : List (Addr × Obj)) (s : Shared) (σ : L2.St) (H : Hp) (r : Env1) (S : Store) (L Z : List Addr) (Q : Bool → Hp → Prop), Inv X pins σ H s → Slots X.K X.mg H L Z r σ → Sta X.K X.mg H L Z S → PostB X W σ Z (f r S) H L Q →
    wpAny (model X.prog X.w) X.A (isTrue e X.env (eval e X.env)) (TP X pins σ Q) X.xe s)
def DW (X : Cx) (W : WX) (e : Expr) (f : BM) : Prop := Jd (
  ∀ (whole : Sem Value) (pins : List (Addr × Obj)) (s : Shared) (σ : L2.St) (H : Hp) (r : Env1) (S : Store) (L Z : List Addr) (Q : Bool → Hp → Prop), Inv X pins σ H s → Slots X.K X.mg H L Z r σ → Sta X.K X.mg H L Z S → PostB X W σ Z (f r S) H L Q →
    wpAny (model X.prog X.w) X.A (isTrue e X.env whole) (TP X pins σ Q) X.xe s)
def DA (X : Cx) (W : WX) (es : List Expr) (f : LM) : Prop := Jd (
  ∀ (pos : Pos) (pins : List (Addr × Obj)) (s : Shared) (σ : L2.St) (H : Hp) (r : Env1) (S : Store) (L Z : List Addr) (Q : List V → Hp → Prop), Inv X pins σ H s → Slots X.K X.mg H L Z r σ → Sta X.K X.mg H L Z S → PostL X W σ Z (f r S) H L Q →
    wpAny (model X.prog X.w) X.A (spliced (backTo pos (starEach es X.env))) (AP X pins σ Q) X.xe s)

section
variable {X : Cx} {W : WX} {pins : List (Addr × Obj)} {s : Shared} {σ : L2.St} {H : Hp} {r : Env1} {S : Store} {L Z : List Addr}
/-- run a part, then go on -/
theorem De.step {β γ : Type} {e : Expr} {f : EM} (ha : De X W e f) (I : Inv X pins σ H s) (sl : Slots X.K X.mg H L Z r σ) (st : Sta X.K X.mg H L Z S) {g : PV → Store → Res β} {rel : Hp → List Addr → β → γ → Prop} {Q : γ → Hp → Prop}
    (p : Post X W σ Z rel ((f r S).bind g) H L Q) {Qf : Value → Shared → Prop}
    (hk : ∀ d S1 v u s1 H1 L1, Inv X pins σ H1 s1 → RelV v u → Slots X.K X.mg H1 L1 Z r σ → Sta X.K X.mg H1 L1 Z S1 → Ext H L H1 L1 → At X.K X.mg H1 L1 Z d v → Post X W σ Z rel (g d S1) H1 L1 Q → Qf u s1) :
    wpAny (model X.prog X.w) X.A (eval e X.env) Qf X.xe s := by
  cases q : f r S with
  | ok d S1 =>
    rw [q] at p
    refine thn (ha.out pins s σ H r S L Z (fun v H1 => ∃ L1, Ext H L H1 L1 ∧ Sta X.K X.mg H1 L1 Z S1 ∧ At X.K X.mg H1 L1 Z d v) I sl st (by rw [q]; exact fun v H' L' x y z => ⟨L', x, y, z⟩)) fun u s1 ⟨v, H1, I1, rv, L1, x1, st1, a1⟩ => ?_
    exact hk d S1 v u s1 H1 L1 I1 rv (sl.mono x1) st1 x1 a1 (p.ext x1)
  | err c S1 =>
    rw [q] at p
    exact thn (ha.out pins s σ H r S L Z (fun v H1 => False) I sl st (by rw [q]; exact p)) fun u s1 ⟨v, H1, _, _, z⟩ => z.elim
  | bad => rw [q] at p; exact p.elim
theorem DT.step {β γ : Type} {e : Expr} {f : BM} (ha : DT X W e f) (I : Inv X pins σ H s) (sl : Slots X.K X.mg H L Z r σ) (st : Sta X.K X.mg H L Z S) {g : Bool → Store → Res β} {rel : Hp → List Addr → β → γ → Prop} {Q : γ → Hp → Prop}
    (p : Post X W σ Z rel ((f r S).bind g) H L Q) {Qf : Bool → Shared → Prop}
    (hk : ∀ d S1 s1 H1 L1, Inv X pins σ H1 s1 → Slots X.K X.mg H1 L1 Z r σ → Sta X.K X.mg H1 L1 Z S1 → Ext H L H1 L1 → Post X W σ Z rel (g d S1) H1 L1 Q → Qf d s1) :
    wpAny (model X.prog X.w) X.A (isTrue e X.env (eval e X.env)) Qf X.xe s := by
  cases q : f r S with
  | ok d S1 =>
    rw [q] at p
    refine thn (ha.out pins s σ H r S L Z (fun v H1 => d = v ∧ ∃ L1, Ext H L H1 L1 ∧ Sta X.K X.mg H1 L1 Z S1) I sl st (by rw [q]; exact fun v H' L' x y z => ⟨z, L', x, y⟩)) fun b s1 ⟨H1, I1, e1, L1, x1, st1⟩ => ?_
    subst e1
    exact hk d S1 s1 H1 L1 I1 (sl.mono x1) st1 x1 (p.ext x1)
  | err c S1 =>
    rw [q] at p
    exact thn (ha.out pins s σ H r S L Z (fun v H1 => False) I sl st (by rw [q]; exact p)) fun u s1 ⟨H1, _, z⟩ => z.elim
  | bad => rw [q] at p; exact p.elim
theorem DW.step {β γ : Type} {e : Expr} {f : BM} (ha : DW X W e f) (whole : Sem Value) (I : Inv X pins σ H s) (sl : Slots X.K X.mg H L Z r σ) (st : Sta X.K X.mg H L Z S) {g : Bool → Store → Res β} {rel : Hp → List Addr → β → γ → Prop} {Q : γ → Hp → Prop}
    (p : Post X W σ Z rel ((f r S).bind g) H L Q) {Qf : Bool → Shared → Prop}
    (hk : ∀ d S1 s1 H1 L1, Inv X pins σ H1 s1 → Slots X.K X.mg H1 L1 Z r σ → Sta X.K X.mg H1 L1 Z S1 → Ext H L H1 L1 → Post X W σ Z rel (g d S1) H1 L1 Q → Qf d s1) :
    wpAny (model X.prog X.w) X.A (isTrue e X.env whole) Qf X.xe s := by
  cases q : f r S with
  | ok d S1 =>
    rw [q] at p
    refine thn (ha.out whole pins s σ H r S L Z (fun v H1 => d = v ∧ ∃ L1, Ext H L H1 L1 ∧ Sta X.K X.mg H1 L1 Z S1) I sl st (by rw [q]; exact fun v H' L' x y z => ⟨z, L', x, y⟩)) fun b s1 ⟨H1, I1, e1, L1, x1, st1⟩ => ?_
    subst e1
    exact hk d S1 s1 H1 L1 I1 (sl.mono x1) st1 x1 (p.ext x1)
  | err c S1 =>
    rw [q] at p
    exact thn (ha.out whole pins s σ H r S L Z (fun v H1 => False) I sl st (by rw [q]; exact p)) fun u s1 ⟨H1, _, z⟩ => z.elim
  | bad => rw [q] at p; exact p.elim
theorem DA.step {β γ : Type} {es : List Expr} {f : LM} (ha : DA X W es f) (pos : Pos) (I : Inv X pins σ H s) (sl : Slots X.K X.mg H L Z r σ) (st : Sta X.K X.mg H L Z S) {g : List PV → Store → Res β} {rel : Hp → List Addr → β → γ → Prop} {Q : γ → Hp → Prop}
    (p : Post X W σ Z rel ((f r S).bind g) H L Q) {Qf : List Value → Shared → Prop}
    (hk : ∀ ds S1 vs us s1 H1 L1, Inv X pins σ H1 s1 → Vals vs us → Slots X.K X.mg H1 L1 Z r σ → Sta X.K X.mg H1 L1 Z S1 → Ext H L H1 L1 → Ats X.K X.mg H1 L1 Z ds vs → Post X W σ Z rel (g ds S1) H1 L1 Q → Qf us s1) :
    wpAny (model X.prog X.w) X.A (spliced (backTo pos (starEach es X.env))) Qf X.xe s := by
  cases q : f r S with
  | ok d S1 =>
    rw [q] at p
    refine thn (ha.out pos pins s σ H r S L Z (fun v H1 => ∃ L1, Ext H L H1 L1 ∧ Sta X.K X.mg H1 L1 Z S1 ∧ Ats X.K X.mg H1 L1 Z d v) I sl st (by rw [q]; exact fun v H' L' x y z => ⟨L', x, y, z⟩)) fun u s1 ⟨v, H1, I1, rv, L1, x1, st1, a1⟩ => ?_
    exact hk d S1 v u s1 H1 L1 I1 rv (sl.mono x1) st1 x1 a1 (p.ext x1)
  | err c S1 =>
    rw [q] at p
    exact thn (ha.out pos pins s σ H r S L Z (fun v H1 => False) I sl st (by rw [q]; exact p)) fun u s1 ⟨v, H1, _, _, z⟩ => z.elim
  | bad => rw [q] at p; exact p.elim
end
end Dn

set_option Elab.async false
set_option linter.all false
set_option maxRecDepth 100000
set_option maxHeartbeats 4000000
namespace Dn
open PySem PySem.Spec PyProof.Rows L2

/-! ### operators by values -/
def DOp (X : Cx) (W : WX) (f : Value → Value → Sem Value) (g : PV → PV → Store → Res PV) : Prop :=
  ∀ (pins : List (Addr × Obj)) (s : Shared) (σ : L2.St) (H : Hp) (S : Store) (L Z : List Addr) (Q : VK) (d e : PV) (x y : V) (u v : Value), Inv X pins σ H s → Sta X.K X.mg H L Z S → At X.K X.mg H L Z d x → At X.K X.mg H L Z e y → RelV x u → RelV y v →
    PostV X W σ Z (g d e S) H L Q → wpAny (model X.prog X.w) X.A (f u v) (EP X pins σ Q) X.xe s
def DU (X : Cx) (W : WX) (f : Value → Sem Value) (g : PV → Store → Res PV) : Prop :=
  ∀ (pins : List (Addr × Obj)) (s : Shared) (σ : L2.St) (H : Hp) (S : Store) (L Z : List Addr) (Q : VK) (d : PV) (x : V) (u : Value), Inv X pins σ H s → Sta X.K X.mg H L Z S → At X.K X.mg H L Z d x → RelV x u →
    PostV X W σ Z (g d S) H L Q → wpAny (model X.prog X.w) X.A (f u) (EP X pins σ Q) X.xe s
/-- a built-in called with values -/
def DC (X : Cx) (W : WX) (f : Value) (g : List PV → Store → Res PV) : Prop :=
  ∀ (pins : List (Addr × Obj)) (s : Shared) (σ : L2.St) (H : Hp) (S : Store) (L Z : List Addr) (Q : VK) (ds : List PV) (xs : List V) (us : List Value), Inv X pins σ H s → Sta X.K X.mg H L Z S → Ats X.K X.mg H L Z ds xs → Vals xs us →
    PostV X W σ Z (g ds S) H L Q → wpAny (model X.prog X.w) X.A (call f us) (EP X pins σ Q) X.xe s

section
variable {X : Cx} {W : WX} {pins : List (Addr × Obj)} {s : Shared} {σ : L2.St} {H : Hp} {r : Env1} {S : Store} {L Z : List Addr} {Q : VK}
theorem post_val {d : PV} {v : V} (p : PostV X W σ Z (.ok d S) H L Q) (st : Sta X.K X.mg H L Z S) (a : At X.K X.mg H L Z d v) : Q v H := p v H L (Ext.refl H L) st a
theorem post_tup {ds : List PV} {vs : List V} (p : PostV X W σ Z (.ok (.tup ds) S) H L Q) (st : Sta X.K X.mg H L Z S) (a : Ats X.K X.mg H L Z ds vs) : ∀ q, H q = none → Q (.ref q) (upd H q (.tup vs)) := fun q n =>
  p _ _ L (Ext.laid n) (st.laid n) (.tup (.of upd_same) (a.mono (Ext.laid n)))
theorem post_lst {ds : List PV} {vs : List V} (p : PostV X W σ Z (.ok (.lst ds) S) H L Q) (st : Sta X.K X.mg H L Z S) (a : Ats X.K X.mg H L Z ds vs) : ∀ q, H q = none → Q (.ref q) (upd H q (.lst vs)) := fun q n =>
  p _ _ L (Ext.laid n) (st.laid n) (.lst upd_same (st.fresh n).1 (st.fresh n).2 (a.mono (Ext.laid n)))
theorem DOp.of {f : Value → Value → Sem Value} {g : PV → PV → Store → Res PV} {r2 : R2} (ho : OpR X f r2)
    (h : ∀ (σ : L2.St) (H : Hp) (S : Store) (L Z : List Addr) (Q : VK) (d e : PV) (x y : V), Sta X.K X.mg H L Z S → At X.K X.mg H L Z d x → At X.K X.mg H L Z e y → PostV X W σ Z (g d e S) H L Q → r2 x y H Q) : DOp X W f g :=
  fun pins s σ H S L Z Q d e x y u v I st a1 a2 r1 r2' p => ho pins s σ H x y u v Q I r1 r2' (h σ H S L Z Q d e x y st a1 a2 p)
theorem DC.of {f : Value} {g : List PV → Store → Res PV} {rr : List V → Hp → VK → Prop} (ho : CallR X f rr)
    (h : ∀ (σ : L2.St) (H : Hp) (S : Store) (L Z : List Addr) (Q : VK) (ds : List PV) (xs : List V), Sta X.K X.mg H L Z S → Ats X.K X.mg H L Z ds xs → PostV X W σ Z (g ds S) H L Q → rr xs H Q) : DC X W f g :=
  fun pins s σ H S L Z Q ds xs us I st a1 r1 p => ho pins s σ H xs us Q I r1 (h σ H S L Z Q ds xs st a1 p)
end

/-! ### what a value is as a list, a sequence, data -/
def lstOf (S : Store) : PV → Option (List PV)
  | .lst xs => some xs
  | .loc i => match S[i]? with
    | some (.lst xs) => some xs
    | _ => none
  | _ => none
def seqOf (S : Store) : PV → Option (List PV)
  | .tup xs => some xs
  | .scr ns => some (ns.map PV.int)
  | d => lstOf S d
section
variable {K : PySem.W.Frag} {mg : Str → Option Value} {H : Hp} {L Z : List Addr} {S : Store}
theorem ats_ints : ∀ (ns : List Int), Ats K mg H L Z (ns.map PV.int) (ns.map V.int)
  | [] => .nil
  | n :: ns => .cons (.int n) (ats_ints ns)
theorem lst_at {d : PV} {v : V} {ds : List PV} (st : Sta K mg H L Z S) (a : At K mg H L Z d v) (h : lstOf S d = some ds) : ∃ p vs, v = .ref p ∧ H p = some (.lst vs) ∧ Ats K mg H L Z ds vs := by
  cases a with
  | lst h1 h2 h3 h4 => cases h; exact ⟨_, _, rfl, h1, h4⟩
  | @loc a i h1 =>
    simp only [lstOf] at h
    split at h
    · rename_i xs e
      cases h
      obtain ⟨vs, h2, h3⟩ := st.cells i _ a e h1
      exact ⟨a, vs, rfl, h2, h3⟩
    · cases h
  | _ => cases h
theorem seq_at {d : PV} {v : V} {ds : List PV} (st : Sta K mg H L Z S) (a : At K mg H L Z d v) (h : seqOf S d = some ds) : ∃ p vs, v = .ref p ∧ (SqL K H p vs ∨ SqT K H p vs) ∧ Ats K mg H L Z ds vs := by
  cases a with
  | tup h1 h2 => cases h; exact ⟨_, _, rfl, .inr h1, h2⟩
  | scr h1 h2 _ => cases h; exact ⟨_, _, rfl, .inl (.inl h1), ats_ints _⟩
  | scrk h1 => cases h; exact ⟨_, _, rfl, .inl (h1 H), ats_ints _⟩
  | lst h1 h2 h3 h4 => cases h; exact ⟨_, _, rfl, .inl (.of h1), h4⟩
  | loc h1 =>
    obtain ⟨p, vs, e, h2, h3⟩ := lst_at st (.loc h1) h
    exact ⟨p, vs, e, .inl (.of h2), h3⟩
  | _ => cases h
end
def dataOf (S : Store) (d : PV) : Option PyData := match lstOf S d with
  | some xs => (data0s xs).map .list
  | none => data0 d
section
variable {K : PySem.W.Frag} {mg : Str → Option Value} {H : Hp} {L Z : List Addr} {S : Store}
mutual
theorem dp_of : ∀ {d : PV} {v : V} {p : PyData}, At K mg H L Z d v → data0 d = some p → Dp K H v p
  | _, _, _, .non, h => by simp [data0] at h; subst h; exact .non
  | _, _, _, .bl b, h => by simp [data0] at h; subst h; exact .bl b
  | _, _, _, .int i, h => by simp [data0] at h; subst h; exact .int i
  | _, _, _, .str x, h => by simp [data0] at h; subst h; exact .str x
  | _, _, _, .tup (ds := ds) h1 h2, h => by
    simp only [data0] at h
    cases e : data0s ds with
    | none => rw [e] at h; cases h
    | some ps => rw [e] at h; cases h; exact .tup h1 (dps_of h2 e)
  | _, _, _, .lst (ds := ds) h1 h2 h3 h4, h => by
    simp only [data0] at h
    cases e : data0s ds with
    | none => rw [e] at h; cases h
    | some ps => rw [e] at h; cases h; exact .lst (.of h1) (dps_of h4 e)
  | _, _, _, .obj .., h => by simp [data0] at h
  | _, _, _, .loc .., h => by simp [data0] at h
  | _, _, _, .scr .., h => by simp [data0] at h
  | _, _, _, .scrk .., h => by simp [data0] at h
  | _, _, _, .ty .., h => by simp [data0] at h
  | _, _, _, .cls .., h => by simp [data0] at h
  | _, _, _, .exc .., h => by simp [data0] at h
  | _, _, _, .dic .., h => by simp [data0] at h
  | _, _, _, .dik .., h => by simp [data0] at h
theorem dps_of : ∀ {ds : List PV} {vs : List V} {ps : List PyData}, Ats K mg H L Z ds vs → data0s ds = some ps → DpAll K H vs ps
  | _, _, _, .nil, h => by simp [data0s] at h; subst h; exact .nil
  | _, _, _, .cons (d := d) (ds := ds) h1 h2, h => by
    simp only [data0s] at h
    cases e : data0 d with
    | none => rw [e] at h; cases h
    | some p =>
      cases e' : data0s ds with
      | none => rw [e, e'] at h; cases h
      | some ps => rw [e, e'] at h; cases h; exact .cons (dp_of h1 e) (dps_of h2 e')
end
theorem dp_at {d : PV} {v : V} {p : PyData} (st : Sta K mg H L Z S) (a : At K mg H L Z d v) (h : dataOf S d = some p) : Dp K H v p := by
  unfold dataOf at h
  cases e : lstOf S d with
  | none => rw [e] at h; exact dp_of a h
  | some xs =>
    rw [e] at h
    obtain ⟨q, vs, rfl, h1, h2⟩ := lst_at st a e
    cases e' : data0s xs with
    | none => simp only [e'] at h; cases h
    | some ps => simp only [e'] at h; cases h; exact .lst (.of h1) (dps_of h2 e')
end

/-! ### arithmetic -/
theorem tuple_mul1 (l : Addr) (items : Array Value) (n : Nat) (dd : Option Addr) (sl : Array (Option Value)) (x : Int) (u : Tok) (c0 : (decide (x < -(2 ^ 63)) || decide (x ≥ 2 ^ 63)) = false) (c1 : (items.isEmpty || x == 1) = true) :
    Meets (Builtin.«tuple.__mul__» ⟨[.ref l, .int x u], []⟩) (fun _ R s => s.heap.get? l = some { cls := .type "tuple", dict := dd, data := .seq items n, slots := sl } ∧
      R (.ok (.ret (Value.ref l))) s) :=
  .of_wp fun prog w A R s h => by
    obtain ⟨hp, g, d, tk, os⟩ := s
    obtain ⟨hl, h⟩ := h
    have f1 := AutoSeq1.idx_int
    wp_walk using wpAny_loadPart' hl
    repeat (first
      | (refine wpAny_ite_false (decide_eq_false (by rw [c0]; exact Bool.false_ne_true)) ?_; wp_walk using wpAny_loadPart' hl)
      | (refine wpAny_ite_true (decide_eq_true (by rw [c1])) ?_; wp_walk using wpAny_loadPart' hl))
    exact ⟨_, rfl, h⟩
def rRep1 (K : PySem.W.Frag) : R2 := fun x y H Q => ∃ l xs, x = .ref l ∧ y = .int 1 ∧ SqT K H l xs ∧ Q (.ref l) H
theorem op_rep1 {X : Cx} : OpR X (binaryOp .Mult) (rRep1 X.K) := by
  intro pins s σ H x y v u Q I rx ry h
  obtain ⟨l, xs, rfl, rfl, hT, q⟩ := h
  cases rx
  obtain ⟨t, rfl⟩ := ry
  obtain ⟨its, r, ⟨⟨cls, dd, data, sl⟩, ho, hc, n, hd⟩, hs⟩ := I.tuple hT
  simp only at hc hd
  subst hc hd
  refine wpAny_binaryOp_repeat_ref (T := "tuple") (U := "int") (by decide) ⟨_, ho, rfl⟩ (fun s' => typeIs_int s' 1 t) noFill_tuple_mul F.fills_int_mul F.slot_int_rmul repeat_tuple F.slot_int_index.lookup
    (call_meets F.slot_int_rmul (typeIs_int s 1 t) F.entry_int_rmul (F.args_int_rmul_2 _ _) (int_rmul_tuple 1 t l its.toArray n dd sl)
      ⟨ho, rfl, ⟨_, ho, rfl⟩, call_meets F.slot_tuple_mul ⟨_, ho, rfl⟩ F.entry_tuple_mul (F.args_tuple_mul_2 _ _) (tuple_mul1 l its.toArray n dd sl 1 t (by decide) (by simp)) ⟨ho, ?_⟩⟩)
  exact ⟨.ref l, H, I, rfl, q⟩

def vAdd (d e : PV) (S : Store) : Res PV :=
  match d with
  | .int i => (match e with
    | .int j => .ok (.int (i + j)) S
    | _ => .bad)
  | .str x => (match e with
    | .str y => if x.length + y.length ≤ sizeLine then .ok (.str (x ++ y)) S else .bad
    | _ => .bad)
  | .tup xs => (match e with
    | .tup ys => if xs.length + ys.length ≤ sizeLine then .ok (.tup (xs ++ ys)) S else .bad
    | _ => .bad)
  | _ => match lstOf S d, lstOf S e with
    | some xs, some ys => if xs.length + ys.length ≤ sizeLine then .ok (.lst (xs ++ ys)) S else .bad
    | _, _ => .bad
def vSub (d e : PV) (S : Store) : Res PV :=
  match d with
  | .int i => (match e with
    | .int j => .ok (.int (i - j)) S
    | _ => .bad)
  | _ => .bad
def vRepL (o : Option (List PV)) (e : PV) (S : Store) : Res PV := match o with
  | some xs => (match e with
    | .int k => if k < 2 ^ 63 ∧ -(2 ^ 63) ≤ k ∧ xs.length * k.toNat ≤ sizeLine then .ok (.lst (List.replicate k.toNat xs).flatten) S else .bad
    | _ => .bad)
  | none => .bad
def vMul (d e : PV) (S : Store) : Res PV :=
  match d with
  | .int i => (match e with
    | .int j => if i.natAbs.log2 + j.natAbs.log2 < 1000000 then .ok (.int (i * j)) S else .bad
    | _ => .bad)
  | .tup xs => (match e with
    | .int k => if 1 ≤ k ∧ k ≤ 1000 ∧ xs.length ≤ 1000 ∧ 0 < xs.length then .ok (.tup (List.replicate k.toNat xs).flatten) S else .bad
    | _ => .bad)
  | _ => vRepL (lstOf S d) e S
def vDiv (d e : PV) (S : Store) : Res PV :=
  match d with
  | .int i => (match e with
    | .int j => if 0 < j ∧ j.natAbs.log2 < 9000 then .ok (.int (i / j)) S else .bad
    | _ => .bad)
  | _ => .bad
def vMod (d e : PV) (S : Store) : Res PV :=
  match d with
  | .int i => (match e with
    | .int j => if 0 < j then .ok (.int (i % j)) S else .bad
    | _ => .bad)
  | _ => .bad
def vPow (d e : PV) (S : Store) : Res PV :=
  match d with
  | .int i => (match e with
    | .int j => if 0 ≤ j ∧ j ≤ 1000000 ∧ i.natAbs < 2 ^ 64 then .ok (.int (i ^ j.toNat)) S else .bad
    | _ => .bad)
  | _ => .bad
def vNeg (d : PV) (S : Store) : Res PV :=
  match d with
  | .int i => .ok (.int (-i)) S
  | _ => .bad
section
variable {X : Cx} {W : WX}
theorem Ats.reps {K : PySem.W.Frag} {mg : Str → Option Value} {H : Hp} {L Z : List Addr} {ds : List PV} {vs : List V} (a : Ats K mg H L Z ds vs) : ∀ n : Nat, Ats K mg H L Z (List.replicate n ds).flatten (List.replicate n vs).flatten
  | 0 => .nil
  | n + 1 => by
    rw [List.replicate_succ, List.replicate_succ, List.flatten_cons, List.flatten_cons]
    exact a.append (Ats.reps a n)
theorem op_int {f : Value → Value → Sem Value} {g : PV → PV → Store → Res PV} {C : Int → Int → Prop} {k : Int → Int → Int} (ho : OpR X f (rI C fun i j => .int (k i j)))
    (h : ∀ (d e : PV) (S : Store), (∃ i j, d = .int i ∧ e = .int j ∧ C i j ∧ g d e S = .ok (.int (k i j)) S) ∨ g d e S = .bad) : DOp X W f g :=
  DOp.of ho fun σ H S L Z Q d e x y st a1 a2 p => by
    rcases h d e S with ⟨i, j, rfl, rfl, hc, q⟩ | q
    · rw [q] at p
      cases a1; cases a2
      exact ⟨i, j, rfl, rfl, hc, post_val p st (.int _)⟩
    · rw [q] at p; exact p.elim
theorem dop_sub : DOp X W (binaryOp .Sub) vSub := op_int (C := fun _ _ => True) (k := fun i j => i - j) (opI fun _ _ _ _ _ _ _ _ q => sub_int q) fun d e S => by
  cases d with
  | int i => cases e with
    | int j => exact .inl ⟨i, j, rfl, rfl, trivial, rfl⟩
    | _ => exact .inr rfl
  | _ => exact .inr rfl
theorem dop_div : DOp X W (binaryOp .FloorDiv) vDiv := op_int op_fdivW fun d e S => by
  cases d with
  | int i => cases e with
    | int j =>
      by_cases h : 0 < j ∧ j.natAbs.log2 < 9000
      · exact .inl ⟨i, j, rfl, rfl, h, if_pos h⟩
      · exact .inr (if_neg h)
    | _ => exact .inr rfl
  | _ => exact .inr rfl
theorem dop_mod : DOp X W (binaryOp .Mod) vMod := op_int op_mod fun d e S => by
  cases d with
  | int i => cases e with
    | int j =>
      by_cases h : 0 < j
      · exact .inl ⟨i, j, rfl, rfl, h, if_pos h⟩
      · exact .inr (if_neg h)
    | _ => exact .inr rfl
  | _ => exact .inr rfl
theorem dop_pow : DOp X W (binaryOp .Pow) vPow := op_int op_pow fun d e S => by
  cases d with
  | int i => cases e with
    | int j =>
      by_cases h : 0 ≤ j ∧ j ≤ 1000000 ∧ i.natAbs < 2 ^ 64
      · exact .inl ⟨i, j, rfl, rfl, h, if_pos h⟩
      · exact .inr (if_neg h)
    | _ => exact .inr rfl
  | _ => exact .inr rfl
theorem dop_add : DOp X W (binaryOp .Add) vAdd := by
  intro pins s σ H S L Z Q d e x y u v I st a1 a2 r1 r2 p
  have lists : (∀ xs ys, lstOf S d = some xs → lstOf S e = some ys → PostV X W σ Z (if xs.length + ys.length ≤ sizeLine then .ok (.lst (xs ++ ys)) S else .bad) H L Q →
      wpAny (model X.prog X.w) X.A (binaryOp .Add u v) (EP X pins σ Q) X.xe s) := fun xs ys h1 h2 p => by
    obtain ⟨q1, vs1, rfl, e1, b1⟩ := lst_at st a1 h1
    obtain ⟨q2, vs2, rfl, e2, b2⟩ := lst_at st a2 h2
    by_cases hz : xs.length + ys.length ≤ sizeLine
    · rw [if_pos hz] at p
      exact op_cat pins s σ H _ _ u v Q I r1 r2 ⟨q1, q2, vs1, vs2, rfl, rfl, e1, e2, by rw [← b1.len, ← b2.len]; exact hz, post_lst p st (b1.append b2)⟩
    · rw [if_neg hz] at p; exact p.elim
  have gen : (match lstOf S d, lstOf S e with
    | some xs, some ys => if xs.length + ys.length ≤ sizeLine then Res.ok (.lst (xs ++ ys)) S else .bad
    | _, _ => .bad) = vAdd d e S → wpAny (model X.prog X.w) X.A (binaryOp .Add u v) (EP X pins σ Q) X.xe s := fun q => by
    rw [← q] at p
    cases h1 : lstOf S d with
    | none => rw [h1] at p; exact p.elim
    | some xs =>
      cases h2 : lstOf S e with
      | none => rw [h1, h2] at p; exact p.elim
      | some ys => rw [h1, h2] at p; exact lists xs ys h1 h2 p
  cases d with
  | int i =>
    cases e with
    | int j =>
      cases a1; cases a2
      exact op_add pins s σ H _ _ u v Q I r1 r2 ⟨i, j, rfl, rfl, post_val p st (.int _)⟩
    | _ => exact (show False from p).elim
  | str i =>
    cases e with
    | str j =>
      have p : PostV X W σ Z (if i.length + j.length ≤ sizeLine then .ok (.str (i ++ j)) S else .bad) H L Q := p
      cases a1; cases a2
      by_cases hz : i.length + j.length ≤ sizeLine
      · rw [if_pos hz] at p
        exact op_add_str pins s σ H _ _ u v Q I r1 r2 ⟨i, j, rfl, rfl, hz, post_val p st (.str _)⟩
      · rw [if_neg hz] at p; exact p.elim
    | _ => exact (show False from p).elim
  | tup xs =>
    cases e with
    | tup ys =>
      have p : PostV X W σ Z (if xs.length + ys.length ≤ sizeLine then .ok (.tup (xs ++ ys)) S else .bad) H L Q := p
      have a1' := a1
      have a2' := a2
      cases a1 with
      | tup h1 b1 =>
        cases a2 with
        | tup h2 b2 =>
          by_cases hz : xs.length + ys.length ≤ sizeLine
          · rw [if_pos hz] at p
            refine op_catA pins s σ H _ _ u v Q I r1 r2 ⟨_, _, _, _, rfl, rfl, h1, h2, by rw [← b1.len, ← b2.len]; exact hz, fun e => ?_, fun _ e => ?_, fun _ _ => post_tup p st (b1.append b2)⟩
            · subst e
              cases b1
              exact post_val p st a2'
            · subst e
              cases b2
              rw [List.append_nil] at p
              exact post_val p st a1'
          · rw [if_neg hz] at p; exact p.elim
    | _ => exact (show False from p).elim
  | non => exact gen rfl
  | bl _ => exact gen rfl
  | lst _ => exact gen rfl
  | obj _ _ => exact gen rfl
  | loc _ => exact gen rfl
  | scr _ => exact gen rfl
  | ty _ => exact gen rfl
  | cls _ => exact gen rfl
  | exc _ => exact gen rfl
  | dic _ => exact gen rfl
  | dik _ => exact gen rfl
theorem dop_mul : DOp X W (binaryOp .Mult) vMul := by
  intro pins s σ H S L Z Q d e x y u v I st a1 a2 r1 r2 p
  have gen : vRepL (lstOf S d) e S = vMul d e S → wpAny (model X.prog X.w) X.A (binaryOp .Mult u v) (EP X pins σ Q) X.xe s := fun q => by
    rw [← q] at p
    cases h1 : lstOf S d with
    | none => rw [h1] at p; exact p.elim
    | some xs =>
      rw [h1] at p
      cases e with
      | int k =>
        obtain ⟨q1, vs1, rfl, e1, b1⟩ := lst_at st a1 h1
        cases a2
        have p : PostV X W σ Z (if k < 2 ^ 63 ∧ -(2 ^ 63) ≤ k ∧ xs.length * k.toNat ≤ sizeLine then Res.ok (.lst (List.replicate k.toNat xs).flatten) S else .bad) H L Q := p
        by_cases hz : k < 2 ^ 63 ∧ -(2 ^ 63) ≤ k ∧ xs.length * k.toNat ≤ sizeLine
        · rw [if_pos hz] at p
          exact op_rep pins s σ H _ _ u v Q I r1 r2 ⟨q1, k, vs1, rfl, rfl, e1, hz.2.1, hz.1, by rw [← b1.len]; exact hz.2.2, post_lst p st (b1.reps _)⟩
        · rw [if_neg hz] at p; exact p.elim
      | _ => exact (show False from p).elim
  cases d with
  | int i =>
    cases e with
    | int j =>
      have p : PostV X W σ Z (if i.natAbs.log2 + j.natAbs.log2 < 1000000 then .ok (.int (i * j)) S else .bad) H L Q := p
      cases a1; cases a2
      by_cases hz : i.natAbs.log2 + j.natAbs.log2 < 1000000
      · rw [if_pos hz] at p
        exact op_mulW pins s σ H _ _ u v Q I r1 r2 ⟨i, j, rfl, rfl, hz, post_val p st (.int _)⟩
      · rw [if_neg hz] at p; exact p.elim
    | _ => exact (show False from p).elim
  | tup xs =>
    cases e with
    | int k =>
      have p : PostV X W σ Z (if 1 ≤ k ∧ k ≤ 1000 ∧ xs.length ≤ 1000 ∧ 0 < xs.length then .ok (.tup (List.replicate k.toNat xs).flatten) S else .bad) H L Q := p
      have a1' := a1
      cases a2
      cases a1 with
      | tup h1 b1 =>
        by_cases hz : 1 ≤ k ∧ k ≤ 1000 ∧ xs.length ≤ 1000 ∧ 0 < xs.length
        · rw [if_pos hz] at p
          have hl := b1.len
          by_cases hk : k = 1
          · subst hk
            refine op_rep1 pins s σ H _ _ u v Q I r1 r2 ⟨_, _, rfl, rfl, h1, post_val p st ?_⟩
            show At X.K X.mg H L Z (.tup (List.replicate 1 xs).flatten) _
            rw [show (List.replicate 1 xs).flatten = xs from by simp]
            exact a1'
          · exact op_repT pins s σ H _ _ u v Q I r1 r2 ⟨_, k, _, rfl, rfl, h1, fun e => by (rw [e] at hl; simp at hl; subst hl; exact absurd hz.2.2.2 (by simp)), by omega, hz.2.1, by omega, post_tup p st (b1.reps _)⟩
        · rw [if_neg hz] at p; exact p.elim
    | _ => exact (show False from p).elim
  | str _ => exact (show False from by cases e <;> exact p).elim
  | non => exact gen rfl
  | bl _ => exact gen rfl
  | lst _ => exact gen rfl
  | obj _ _ => exact gen rfl
  | loc _ => exact gen rfl
  | scr _ => exact gen rfl
  | ty _ => exact gen rfl
  | cls _ => exact gen rfl
  | exc _ => exact gen rfl
  | dic _ => exact gen rfl
  | dik _ => exact gen rfl
theorem du_neg : DU X W (unaryOp .USub) vNeg := by
  intro pins s σ H S L Z Q d x u I st a r p
  cases d with
  | int i =>
    cases a
    exact un_neg pins s σ H _ u Q I r ⟨i, rfl, post_val p st (.int _)⟩
  | _ => exact (show False from p).elim

/-! ### comparisons -/
def okB (b : Bool) (S : Store) : Res PV := .ok (.bl b) S
def vEq0 (d e : PV) (S : Store) : Res PV := match dataOf S d, dataOf S e with
  | some p, some q => if SeqAt.shaped p = true ∧ SeqAt.shaped q = true then .ok (.bl (PyData.eqv p q)) S else .bad
  | _, _ => .bad
def vNe0 (d e : PV) (S : Store) : Res PV := match dataOf S d, dataOf S e with
  | some p, some q => if SeqAt.shaped p = true ∧ SeqAt.shaped q = true then .ok (.bl (!PyData.eqv p q)) S else .bad
  | _, _ => .bad
def strs? (d e : PV) : Option (Str × Str) := match d with
  | .str x => (match e with
    | .str y => some (x, y)
    | _ => none)
  | _ => none
def vEq (d e : PV) (S : Store) : Res PV := match strs? d e with
  | some p => .ok (.bl (decide (p.1 = p.2))) S
  | none => vEq0 d e S
def vNe (d e : PV) (S : Store) : Res PV := match strs? d e with
  | some p => .ok (.bl (!decide (p.1 = p.2))) S
  | none => vNe0 d e S
theorem strs_some {d e : PV} {p : Str × Str} (h : strs? d e = some p) : d = .str p.1 ∧ e = .str p.2 := by
  cases d with
  | str x => cases e with
    | str y => cases h; exact ⟨rfl, rfl⟩
    | _ => cases h
  | _ => cases h
def vCmp (c : Int → Int → Bool) (d e : PV) (S : Store) : Res PV :=
  match d with
  | .int i => (match e with
    | .int j => .ok (.bl (c i j)) S
    | _ => .bad)
  | _ => .bad
theorem dop_eq0 (hu : X.A.units + 64 < cLine) : DOp X W (compareOp .Eq) vEq0 := by
  intro pins s σ H S L Z Q d e x y u v I st a1 a2 r1 r2 p
  unfold vEq0 at p
  cases h1 : dataOf S d with
  | none => rw [h1] at p; exact p.elim
  | some m =>
    cases h2 : dataOf S e with
    | none => rw [h1, h2] at p; exact p.elim
    | some n =>
      rw [h1, h2] at p
      have p : PostV X W σ Z (if SeqAt.shaped m = true ∧ SeqAt.shaped n = true then .ok (.bl (PyData.eqv m n)) S else .bad) H L Q := p
      by_cases hz : SeqAt.shaped m = true ∧ SeqAt.shaped n = true
      · rw [if_pos hz] at p
        exact op_eqD hu pins s σ H _ _ u v Q I r1 r2 ⟨m, n, dp_at st a1 h1, dp_at st a2 h2, hz.1, hz.2, post_val p st (.bl _)⟩
      · rw [if_neg hz] at p; exact p.elim
theorem dop_eq (hu : X.A.units + 64 < cLine) : DOp X W (compareOp .Eq) vEq := by
  intro pins s σ H S L Z Q d e x y u v I st a1 a2 r1 r2 p
  unfold vEq at p
  cases h : strs? d e with
  | none => rw [h] at p; exact dop_eq0 hu pins s σ H S L Z Q d e x y u v I st a1 a2 r1 r2 p
  | some z =>
    rw [h] at p
    obtain ⟨rfl, rfl⟩ := strs_some h
    cases a1; cases a2
    refine op_eq pins s σ H _ _ u v Q I r1 r2 ⟨rfl, ?_⟩
    have e : decide (V.str z.1 = V.str z.2) = decide (z.1 = z.2) := by rw [Bool.eq_iff_iff]; simp
    rw [e]
    exact post_val p st (.bl _)
theorem dop_ne0 (hu : X.A.units + 64 < cLine) : DOp X W (compareOp .NotEq) vNe0 := by
  intro pins s σ H S L Z Q d e x y u v I st a1 a2 r1 r2 p
  unfold vNe0 at p
  cases h1 : dataOf S d with
  | none => rw [h1] at p; exact p.elim
  | some m =>
    cases h2 : dataOf S e with
    | none => rw [h1, h2] at p; exact p.elim
    | some n =>
      rw [h1, h2] at p
      have p : PostV X W σ Z (if SeqAt.shaped m = true ∧ SeqAt.shaped n = true then .ok (.bl (!PyData.eqv m n)) S else .bad) H L Q := p
      by_cases hz : SeqAt.shaped m = true ∧ SeqAt.shaped n = true
      · rw [if_pos hz] at p
        exact op_neD hu pins s σ H _ _ u v Q I r1 r2 ⟨m, n, dp_at st a1 h1, dp_at st a2 h2, hz.1, hz.2, post_val p st (.bl _)⟩
      · rw [if_neg hz] at p; exact p.elim
theorem dop_ne (hu : X.A.units + 64 < cLine) : DOp X W (compareOp .NotEq) vNe := by
  intro pins s σ H S L Z Q d e x y u v I st a1 a2 r1 r2 p
  unfold vNe at p
  cases h : strs? d e with
  | none => rw [h] at p; exact dop_ne0 hu pins s σ H S L Z Q d e x y u v I st a1 a2 r1 r2 p
  | some z =>
    rw [h] at p
    obtain ⟨rfl, rfl⟩ := strs_some h
    cases a1; cases a2
    refine op_ne pins s σ H _ _ u v Q I r1 r2 ⟨rfl, ?_⟩
    have e : decide (V.str z.1 = V.str z.2) = decide (z.1 = z.2) := by rw [Bool.eq_iff_iff]; simp
    rw [e]
    exact post_val p st (.bl _)
theorem dop_cmp {f : Value → Value → Sem Value} {c : Int → Int → Bool} (ho : OpR X f (rI0 fun i j => .bl (c i j))) : DOp X W f (vCmp c) := by
  intro pins s σ H S L Z Q d e x y u v I st a1 a2 r1 r2 p
  cases d with
  | int i =>
    cases e with
    | int j =>
      cases a1; cases a2
      exact ho pins s σ H _ _ u v Q I r1 r2 ⟨i, j, rfl, rfl, post_val p st (.bl _)⟩
    | _ => exact (show False from p).elim
  | _ => exact (show False from p).elim
abbrev vLt := vCmp fun i j => decide (i < j)
abbrev vLe := vCmp fun i j => decide (i ≤ j)
abbrev vGt := vCmp fun i j => decide (j < i)
abbrev vGe := vCmp fun i j => decide (j ≤ i)
theorem dop_lt : DOp X W (compareOp .Lt) vLt := dop_cmp op_lt
theorem dop_le : DOp X W (compareOp .LtE) vLe := dop_cmp op_le
theorem dop_gt : DOp X W (compareOp .Gt) vGt := dop_cmp op_gt
theorem dop_ge : DOp X W (compareOp .GtE) vGe := dop_cmp op_ge
end
end Dn

set_option Elab.async false
set_option linter.all false
set_option maxRecDepth 100000
set_option maxHeartbeats 4000000
namespace Dn
open PySem PySem.Spec PyProof.Rows L2

/-! ### expressions -/
def eVar (i : Nat) : EM := fun r S => match r[i]? with
  | some (some d) => .ok d S
  | _ => .bad
def eC (d : PV) : EM := fun _ S => .ok d S
def eBin (g : PV → PV → Store → Res PV) (a b : EM) : EM := fun r S => (a r S).bind fun d S1 => (b r S1).bind fun e S2 => g d e S2
def eUn (g : PV → Store → Res PV) (a : EM) : EM := fun r S => (a r S).bind fun d S1 => g d S1
def lNil : LM := fun _ S => .ok [] S
def lCons (a : EM) (b : LM) : LM := fun r S => (a r S).bind fun d S1 => (b r S1).bind fun ds S2 => .ok (d :: ds) S2
def eB (b : BM) : EM := fun r S => (b r S).bind fun k S1 => .ok (.bl k) S1
def eTup (a : LM) : EM := fun r S => (a r S).bind fun ds S1 => if ds.length ≤ sizeLine then .ok (.tup ds) S1 else .bad
def eLst (a : LM) : EM := fun r S => (a r S).bind fun ds S1 => if ds.length ≤ sizeLine then .ok (.lst ds) S1 else .bad
def eIf (t : BM) (a b : EM) : EM := fun r S => (t r S).bind fun k S1 => if k = true then a r S1 else b r S1
def eCB (g : List PV → Store → Res PV) (a : LM) : EM := fun r S => (a r S).bind fun ds S1 => g ds S1
/-- a value that is True or False -/
def asB (d : PV) (S : Store) : Res Bool := match d with
  | .bl k => .ok k S
  | _ => .bad
def bVal (a : EM) : BM := fun r S => (a r S).bind asB
def bAnd (a b : BM) : BM := fun r S => (a r S).bind fun k S1 => if k = true then b r S1 else .ok false S1
def bOr (a b : BM) : BM := fun r S => (a r S).bind fun k S1 => if k = true then .ok true S1 else b r S1
def bNot (a : BM) : BM := fun r S => (a r S).bind fun k S1 => .ok (!k) S1
def eAnd (a b : EM) : EM := fun r S => (bVal a r S).bind fun k S1 => if k = true then b r S1 else .ok (.bl false) S1
def eOr (a b : EM) : EM := fun r S => (bVal a r S).bind fun k S1 => if k = true then .ok (.bl true) S1 else b r S1
def eNot (a : EM) : EM := fun r S => (bVal a r S).bind fun k S1 => .ok (.bl (!k)) S1
def eChain (g h : PV → PV → Store → Res PV) (a b c : EM) : EM := fun r S => (a r S).bind fun d S1 => (b r S1).bind fun e S2 => (g d e S2).bind fun z S3 => (asB z S3).bind fun k S4 =>
  if k = true then (c r S4).bind fun f S5 => h e f S5 else .ok (.bl false) S4

section
variable {X : Cx} {W : WX} {a b c e : Expr} {fa fb fc : EM} {ba bb : BM} {es : List Expr} {la : LM} {pos : Pos}
theorem De.var {i : Nat} {x : Str} (hN : X.N[i]? = some x) (hv : Vis X.env.scope x) (hd : (x == ("__debug__" : Str)) = false := by decide) (hcd : (x == ("__classdict__" : Str)) = false := by decide) : De X W (.Name x pos) (eVar i) := by
  refine Jd.mk ?_
  intro pins s σ H r S L Z Q I sl st p
  unfold eVar at p
  cases h : r[i]? with
  | none => rw [h] at p; exact p.elim
  | some o =>
    cases o with
    | none => rw [h] at p; exact p.elim
    | some d =>
      rw [h] at p
      obtain ⟨v, e, av⟩ := sl i d h
      exact (pe_var hN hv hd hcd).run pins s σ H Q I ⟨v, e, post_val p st av⟩
theorem De.of {t : TE} {f : EM} (h : PE X e t) (hq : ∀ (σ : L2.St) (H : Hp) (r : Env1) (S : Store) (L Z : List Addr) (Q : VK), Sta X.K X.mg H L Z S → PostV X W σ Z (f r S) H L Q → t σ H Q) : De X W e f :=
  Jd.mk fun pins s σ H r S L Z Q I sl st p => h.run pins s σ H Q I (hq σ H r S L Z Q st p)
theorem De.int {i j} : De X W (.Constant (.int i) j pos) (eC (.int i)) := De.of pe_int fun σ H r S L Z Q st p => post_val p st (.int _)
theorem De.bl {i j} : De X W (.Constant (.bool i) j pos) (eC (.bl i)) := De.of pe_bl fun σ H r S L Z Q st p => post_val p st (.bl _)
theorem De.non {j} : De X W (.Constant .none j pos) (eC .non) := De.of pe_non fun σ H r S L Z Q st p => post_val p st .non
theorem De.str {i j} : De X W (.Constant (.str i) j pos) (eC (.str i)) := De.of pe_str fun σ H r S L Z Q st p => post_val p st (.str _)
theorem De.gInt {x : Str} {i : Int} {t : Tok} (hg : Gl X x) (hm : X.mg x = some (.int i t)) (hd : (x == ("__debug__" : Str)) = false := by decide) : De X W (.Name x pos) (eC (.int i)) :=
  De.of (pe_glob (v := .int i) hg hm ⟨_, rfl⟩ hd) fun σ H r S L Z Q st p => post_val p st (.int _)
theorem De.gStr {x : Str} {i : Str} {t : Tok} (hg : Gl X x) (hm : X.mg x = some (.str i t)) (hd : (x == ("__debug__" : Str)) = false := by decide) : De X W (.Name x pos) (eC (.str i)) :=
  De.of (pe_glob (v := .str i) hg hm ⟨_, rfl⟩ hd) fun σ H r S L Z Q st p => post_val p st (.str _)
theorem De.gCls {x : Str} {C : Addr} (hg : Gl X x) (hm : X.mg x = some (.ref C)) (hd : (x == ("__debug__" : Str)) = false := by decide) : De X W (.Name x pos) (eC (.cls x)) :=
  De.of (pe_glob (v := .ref C) hg hm rfl hd) fun σ H r S L Z Q st p => post_val p st (.cls hm)
theorem De.bty {x : Str} {n : String} (hg : Gl X x) (hm : X.mg x = none) (hv : bootBuiltins x = some (.type n)) (hn : x ≠ "__name__" := by decide) (hd : (x == ("__debug__" : Str)) = false := by decide) : De X W (.Name x pos) (eC (.ty n)) :=
  De.of (pe_bltn (v := .ty n) hg hm hv rfl hn hd) fun σ H r S L Z Q st p => post_val p st (.ty _)

theorem De.bin {op : Operator} {g : PV → PV → Store → Res PV} (ho : DOp X W (binaryOp op) g) (ha : De X W a fa) (hb : De X W b fb) : De X W (.BinOp a op b pos) (eBin g fa fb) := by
  refine Jd.mk ?_
  intro pins s σ H r S L Z Q I sl st p
  refine wpAny_BinOp (ha.step I sl st p fun d S1 x u s1 H1 L1 I1 r1 sl1 st1 x1 a1 p1 => ?_)
  refine hb.step I1 sl1 st1 p1 fun e S2 y v s2 H2 L2 I2 r2 sl2 st2 x2 a2 p2 => ?_
  exact ho pins s2 σ H2 S2 L2 Z Q d e x y u v I2 st2 (a1.mono x2) a2 r1 r2 p2
theorem De.un {op : UnaryOp} {g : PV → Store → Res PV} (ho : DU X W (unaryOp op) g) (ha : De X W a fa) : De X W (.UnaryOp op a pos) (eUn g fa) := by
  refine Jd.mk ?_
  intro pins s σ H r S L Z Q I sl st p
  exact UnaryOp_ (ha.step I sl st p fun d S1 x u s1 H1 L1 I1 r1 sl1 st1 x1 a1 p1 => ho pins s1 σ H1 S1 L1 Z Q d x u I1 st1 a1 r1 p1)
theorem De.cmp {op : CmpOp} {g : PV → PV → Store → Res PV} (ho : DOp X W (compareOp op) g) (ha : De X W a fa) (hb : De X W b fb) (hm : behindInMarks op b = false) : De X W (.Compare a [op] [b] pos) (eBin g fa fb) := by
  refine Jd.mk ?_
  intro pins s σ H r S L Z Q I sl st p
  refine wpAny_Compare1 (ha.step I sl st p fun d S1 x u s1 H1 L1 I1 r1 sl1 st1 x1 a1 p1 => ?_) hm
  refine hb.step I1 sl1 st1 p1 fun e S2 y v s2 H2 L2 I2 r2 sl2 st2 x2 a2 p2 => ?_
  exact ho pins s2 σ H2 S2 L2 Z Q d e x y u v I2 st2 (a1.mono x2) a2 r1 r2 p2
/-- an operator's value, further used -/
theorem DOp.step {β γ : Type} {f : Value → Value → Sem Value} {g : PV → PV → Store → Res PV} (ho : DOp X W f g) {pins : List (Addr × Obj)} {s : Shared} {σ : L2.St} {H : Hp} {r : Env1} {S : Store} {L Z : List Addr} {d e : PV} {x y : V} {u v : Value}
    (I : Inv X pins σ H s) (sl : Slots X.K X.mg H L Z r σ) (st : Sta X.K X.mg H L Z S) (a1 : At X.K X.mg H L Z d x) (a2 : At X.K X.mg H L Z e y) (r1 : RelV x u) (r2 : RelV y v) {k : PV → Store → Res β} {rel : Hp → List Addr → β → γ → Prop} {Q : γ → Hp → Prop}
    (p : Post X W σ Z rel ((g d e S).bind k) H L Q) {Qf : Value → Shared → Prop}
    (hk : ∀ d S1 v u s1 H1 L1, Inv X pins σ H1 s1 → RelV v u → Slots X.K X.mg H1 L1 Z r σ → Sta X.K X.mg H1 L1 Z S1 → Ext H L H1 L1 → At X.K X.mg H1 L1 Z d v → Post X W σ Z rel (k d S1) H1 L1 Q → Qf u s1) :
    wpAny (model X.prog X.w) X.A (f u v) Qf X.xe s := by
  cases q : g d e S with
  | ok z S1 =>
    rw [q] at p
    refine thn (ho pins s σ H S L Z (fun v H1 => ∃ L1, Ext H L H1 L1 ∧ Sta X.K X.mg H1 L1 Z S1 ∧ At X.K X.mg H1 L1 Z z v) d e x y u v I st a1 a2 r1 r2 (by rw [q]; exact fun v H' L' x y z => ⟨L', x, y, z⟩)) fun u s1 ⟨v, H1, I1, rv, L1, x1, st1, a1⟩ => ?_
    exact hk z S1 v u s1 H1 L1 I1 rv (sl.mono x1) st1 x1 a1 (p.ext x1)
  | err c S1 =>
    rw [q] at p
    exact thn (ho pins s σ H S L Z (fun v H1 => False) d e x y u v I st a1 a2 r1 r2 (by rw [q]; exact p)) fun u s1 ⟨v, H1, _, _, z⟩ => z.elim
  | bad => rw [q] at p; exact p.elim
/-- a bool's post -/
theorem post_asB {β γ : Type} {σ : L2.St} {Z : List Addr} {rel : Hp → List Addr → β → γ → Prop} {d : PV} {S : Store} {k : Bool → Store → Res β} {H : Hp} {L : List Addr} {Q : γ → Hp → Prop} {v : V} {u : Value} (p : Post X W σ Z rel ((asB d S).bind k) H L Q)
    (a : At X.K X.mg H L Z d v) (r : RelV v u) : ∃ b, u = Value.bool b ∧ Post X W σ Z rel (k b S) H L Q := by
  cases d with
  | bl b => cases a; cases r; exact ⟨b, rfl, p⟩
  | _ => exact (show False from p).elim
theorem De.chain {op op' : CmpOp} {g h : PV → PV → Store → Res PV} (ho : DOp X W (compareOp op) g) (ho' : DOp X W (compareOp op') h) (ha : De X W a fa) (hb : De X W b fb) (hc : De X W c fc)
    (hm : lastMarks [op, op'] [b, c] = false := by with_unfolding_all rfl) : De X W (.Compare a [op, op'] [b, c] pos) (eChain g h fa fb fc) := by
  refine Jd.mk ?_
  intro pins s σ H r S L Z Q I sl st p
  refine Compare_chain (ha.step I sl st p fun d S1 x u s1 H1 L1 I1 r1 sl1 st1 x1 a1 p1 => chain_link (hb.step I1 sl1 st1 p1 fun e S2 y v s2 H2 L2 I2 r2 sl2 st2 x2 a2 p2 =>
    ho.step I2 sl2 st2 (a1.mono x2) a2 r1 r2 p2 fun z S3 w u3 s3 H3 L3 I3 r3 sl3 st3 x3 a3 p3 => ?_)) hm
  obtain ⟨k, rfl, p4⟩ := post_asB p3 a3 r3
  refine wpAny_truthy_bool ?_
  cases k with
  | false => exact ite_ff ⟨.bl false, H3, I3, rfl, post_val p4 st3 (.bl _)⟩
  | true =>
    have p4 : PostV X W σ Z ((fc r S3).bind fun f S5 => h e f S5) H3 L3 Q := p4
    exact ite_tt (chain_last (hc.step I3 sl3 st3 p4 fun f S5 z5 u5 s5 H5 L5 I5 r5 sl5 st5 x5 a5 p5 => ho' pins s5 σ H5 S5 L5 Z Q e f y z5 v u5 I5 st5 ((a2.mono x3).mono x5) a5 r2 r5 p5))

/-! ### arguments, displays -/
theorem DA.nil : DA X W [] lNil := by
  refine Jd.mk ?_
  intro pos pins s σ H r S L Z Q I sl st p
  exact Calls.spliced_nil ⟨[], H, I, .nil, p [] H L (Ext.refl H L) st .nil⟩
theorem DA.cons (ha : De X W e fa) (hr : DA X W es la) (hs : starEach (e :: es) X.env = (false, eval e X.env) :: starEach es X.env := by rfl) : DA X W (e :: es) (lCons fa la) := by
  refine Jd.mk ?_
  intro pos pins s σ H r S L Z Q I sl st p
  rw [hs]
  show wpAny _ _ (spliced ((false, eval e X.env) :: backTo pos (starEach es X.env))) _ _ s
  refine Calls.spliced_cons (ha.step I sl st p fun d S1 x u s1 H1 L1 I1 r1 sl1 st1 x1 a1 p1 => ?_)
  refine hr.step pos I1 sl1 st1 p1 fun ds S2 xs us s2 H2 L2 I2 r2 sl2 st2 x2 a2 p2 => ?_
  exact ⟨x :: xs, H2, I2, .cons r1 r2, p2 (x :: xs) H2 L2 (Ext.refl H2 L2) st2 (.cons (a1.mono x2) a2)⟩
theorem De.tup {x1} (h : DA X W es la) : De X W (.Tuple es x1 pos) (eTup la) := by
  refine Jd.mk ?_
  intro pins s σ H r S L Z Q I sl st p
  refine wpAny_Tuple_spliced (h.step pos I sl st p fun ds S1 xs us s1 H1 L1 I1 r1 sl1 st1 x1 a1 p1 => ?_)
  have hl := a1.len
  by_cases hz : ds.length ≤ sizeLine
  · rw [if_pos hz] at p1
    have hf : H1 s1.heap.objs.size = none := I1.hok.fresh (Nat.le_refl _)
    refine ⟨by rw [← r1.length, ← hl]; exact hz, .ref s1.heap.objs.size, upd H1 s1.heap.objs.size (.tup xs), I1.laid (t' := s1.toks) (fun b u e => Heap.get?_push_of_some _ e) (Nat.le_refl _) ?_, rfl, post_tup p1 st1 a1 _ hf⟩
    exact ⟨by rw [← hl]; exact hz, us, r1, ⟨_, Heap.get?_push_size _ rfl, rfl, _, rfl⟩⟩
  · rw [if_neg hz] at p1; exact p1.elim
theorem De.lst (h : DA X W es la) : De X W (.List es pos) (eLst la) := by
  refine Jd.mk ?_
  intro pins s σ H r S L Z Q I sl st p
  refine wpAny_List_spliced (h.step pos I sl st p fun ds S1 xs us s1 H1 L1 I1 r1 sl1 st1 x1 a1 p1 => ?_)
  have hl := a1.len
  by_cases hz : ds.length ≤ sizeLine
  · rw [if_pos hz] at p1
    have hf : H1 s1.heap.objs.size = none := I1.hok.fresh (Nat.le_refl _)
    refine ⟨by rw [← r1.length, ← hl]; exact hz, .ref s1.heap.objs.size, upd H1 s1.heap.objs.size (.lst xs), I1.laid (t' := s1.toks) (fun b u e => Heap.get?_push_of_some _ e) (Nat.le_refl _) ?_, rfl, post_lst p1 st1 a1 _ hf⟩
    exact ⟨by rw [← hl]; exact hz, us, 0, r1, Heap.get?_push_size _ rfl⟩
  · rw [if_neg hz] at p1; exact p1.elim
/-- a built-in by its name -/
theorem De.callB {x : Str} {id : String} {g : List PV → Store → Res PV} {p' : Pos} (hc : DC X W (.builtin id) g) (hg : Gl X x) (hm : X.mg x = none) (hv : bootBuiltins x = some (.builtin id)) (ha : DA X W (e :: es) la) (hn : x ≠ "__name__" := by decide) (hdb : (x == ("__debug__" : Str)) = false := by decide)
    (he : starEach (e :: es) X.env = (false, eval e X.env) :: starEach es X.env := by rfl) (hpl : (backTo pos (starEach es X.env)).any (·.1) = false := by rfl) : De X W (.Call (.Name x p') (e :: es) [] pos) (eCB g la) := by
  refine Jd.mk ?_
  intro pins s σ H r S L Z Q I sl st p
  refine wpAny_Call_Name_kw (ld_blt I hg hm hv ?_ hn hdb)
  exact PyProof.Rows.callWith_builtin1 (ha.step pos I sl st p fun ds S1 xs us s1 H1 L1 I1 r1 sl1 st1 x1 a1 p1 => hc pins s1 σ H1 S1 L1 Z Q ds xs us I1 st1 a1 r1 p1) he hpl
theorem De.callTy {x : Str} {T : String} {g : List PV → Store → Res PV} {p' : Pos} (hc : DC X W (.type T) g) (hg : Gl X x) (hm : X.mg x = none) (hv : bootBuiltins x = some (.type T)) (ha : DA X W (e :: es) la) (hn : x ≠ "__name__" := by decide) (hdb : (x == ("__debug__" : Str)) = false := by decide)
    (he : starEach (e :: es) X.env = (false, eval e X.env) :: starEach es X.env := by rfl) (hpl : (backTo pos (starEach es X.env)).any (·.1) = false := by rfl) : De X W (.Call (.Name x p') (e :: es) [] pos) (eCB g la) := by
  refine Jd.mk ?_
  intro pins s σ H r S L Z Q I sl st p
  refine wpAny_Call_Name_kw (ld_blt I hg hm hv ?_ hn hdb)
  exact PyProof.Rows.callWith_type1 (ha.step pos I sl st p fun ds S1 xs us s1 H1 L1 I1 r1 sl1 st1 x1 a1 p1 => hc pins s1 σ H1 S1 L1 Z Q ds xs us I1 st1 a1 r1 p1) he hpl

/-! ### tests -/
theorem post_b {σ : L2.St} {Z : List Addr} {k : Bool} {S : Store} {H : Hp} {L : List Addr} {Q : Bool → Hp → Prop} (p : PostB X W σ Z (.ok k S) H L Q) (st : Sta X.K X.mg H L Z S) : Q k H := p k H L (Ext.refl H L) st rfl
theorem post_asB' {σ : L2.St} {Z : List Addr} {d : PV} {S : Store} {H : Hp} {L : List Addr} {Q : Bool → Hp → Prop} {v : V} {u : Value} (p : PostB X W σ Z (asB d S) H L Q) (st : Sta X.K X.mg H L Z S)
    (a : At X.K X.mg H L Z d v) (r : RelV v u) : ∃ b, u = Value.bool b ∧ Q b H := by
  cases d with
  | bl b => cases a; cases r; exact ⟨b, rfl, post_b p st⟩
  | _ => exact (show False from p).elim
theorem DT.val (ha : De X W a fa) (he : ∀ whole, isTrue a X.env whole = (do let v ← whole; standAt a.pos; holding [v] (truthy v)) := by intro _; rfl) : DT X W a (bVal fa) := by
  refine Jd.mk ?_
  intro pins s σ H r S L Z Q I sl st p
  refine isTrue_plain (ha.step I sl st p fun d S1 x u s1 H1 L1 I1 r1 sl1 st1 x1 a1 p1 => ?_) (he _)
  obtain ⟨b, rfl, q⟩ := post_asB' p1 st1 a1 r1
  exact wpAny_truthy_bool ⟨H1, I1, q⟩
theorem DT.cmp {op : CmpOp} {g : PV → PV → Store → Res PV} (ho : DOp X W (compareOp op) g) (ha : De X W a fa) (hb : De X W b fb) (hm : behindInMarks op b = false) : DT X W (.Compare a [op] [b] pos) (bVal (eBin g fa fb)) := by
  refine Jd.mk ?_
  intro pins s σ H r S L Z Q I sl st p
  have p : PostB X W σ Z ((fa r S).bind fun d S1 => (fb r S1).bind fun e S2 => (g d e S2).bind asB) H L Q := by
    have e : bVal (eBin g fa fb) r S = ((fa r S).bind fun d S1 => (fb r S1).bind fun e S2 => (g d e S2).bind asB) := by
      unfold bVal eBin
      rw [Res.bind_assoc]
      congr 1
      funext d S1
      rw [Res.bind_assoc]
    rw [← e]; exact p
  refine wpAny_isTrue_Compare1 (ha.step I sl st p fun d S1 x u s1 H1 L1 I1 r1 sl1 st1 x1 a1 p1 => ?_) hm
  refine hb.step I1 sl1 st1 p1 fun e S2 y v s2 H2 L2 I2 r2 sl2 st2 x2 a2 p2 => ?_
  refine ho.step I2 sl2 st2 (a1.mono x2) a2 r1 r2 p2 fun z S3 w u3 s3 H3 L3 I3 r3 sl3 st3 x3 a3 p3 => ?_
  obtain ⟨k, rfl, q⟩ := post_asB' p3 st3 a3 r3
  exact wpAny_truthy_bool ⟨H3, I3, q⟩
theorem DT.chain {op op' : CmpOp} {g h : PV → PV → Store → Res PV} (ho : DOp X W (compareOp op) g) (ho' : DOp X W (compareOp op') h) (ha : De X W a fa) (hb : De X W b fb) (hc : De X W c fc)
    (hm : lastMarks [op, op'] [b, c] = false := by with_unfolding_all rfl) : DT X W (.Compare a [op, op'] [b, c] pos) (bVal (eChain g h fa fb fc)) := by
  refine Jd.mk ?_
  intro pins s σ H r S L Z Q I sl st p
  have e : bVal (eChain g h fa fb fc) r S = ((fa r S).bind fun d S1 => (fb r S1).bind fun e S2 => (g d e S2).bind fun z S3 => (asB z S3).bind fun k S4 =>
      (if k = true then (fc r S4).bind fun f S5 => h e f S5 else .ok (.bl false) S4).bind asB) := by
    unfold bVal eChain
    simp only [Res.bind_assoc]
  rw [e] at p
  refine isTrue_chain (ha.step I sl st p fun d S1 x u s1 H1 L1 I1 r1 sl1 st1 x1 a1 p1 => test_link (hb.step I1 sl1 st1 p1 fun e S2 y v s2 H2 L2 I2 r2 sl2 st2 x2 a2 p2 =>
    ho.step I2 sl2 st2 (a1.mono x2) a2 r1 r2 p2 fun z S3 w u3 s3 H3 L3 I3 r3 sl3 st3 x3 a3 p3 => ?_)) hm
  obtain ⟨k, rfl, p4⟩ := post_asB p3 a3 r3
  refine wpAny_truthy_bool ?_
  cases k with
  | false => exact ite_ff ⟨H3, I3, post_b (show PostB X W σ Z (.ok false S3) H3 L3 Q from p4) st3⟩
  | true =>
    have p4 : PostB X W σ Z (((fc r S3).bind fun f S5 => h e f S5).bind asB) H3 L3 Q := p4
    rw [Res.bind_assoc] at p4
    refine ite_tt (test_last (hc.step I3 sl3 st3 p4 fun f S5 z5 u5 s5 H5 L5 I5 r5 sl5 st5 x5 a5 p5 => ho'.step I5 sl5 st5 ((a2.mono x3).mono x5) a5 r2 r5 p5 fun z6 S6 w6 u6 s6 H6 L6 I6 r6 sl6 st6 x6 a6 p6 => ?_))
    obtain ⟨k6, rfl, q6⟩ := post_asB' p6 st6 a6 r6
    exact wpAny_truthy_bool ⟨H6, I6, q6⟩
theorem DW.dt (h : DW X W e ba) : DT X W e ba := Jd.mk fun pins s σ H r S L Z Q I sl st p => h.out _ pins s σ H r S L Z Q I sl st p
variable {rest : List Expr}
theorem DW.and1 (ha : DT X W a ba) : DW X W (.BoolOp .And [a] pos) ba := by
  refine Jd.mk ?_
  intro wh pins s σ H r S L Z Q I sl st p
  refine isTrue_and (thn (ha.out pins s σ H r S L Z Q I sl st p) fun c s1 e => ?_)
  cases c with
  | true => exact isTrue_and_nil e
  | false => exact e
theorem DW.or1 (ha : DT X W a ba) : DW X W (.BoolOp .Or [a] pos) ba := by
  refine Jd.mk ?_
  intro wh pins s σ H r S L Z Q I sl st p
  refine isTrue_or (thn (ha.out pins s σ H r S L Z Q I sl st p) fun c s1 e => ?_)
  cases c with
  | false => exact isTrue_or_nil e
  | true => exact e
theorem DW.and (ha : DT X W a ba) (hb : DW X W (.BoolOp .And (b :: rest) pos) bb) : DW X W (.BoolOp .And (a :: b :: rest) pos) (bAnd ba bb) := by
  refine Jd.mk ?_
  intro wh pins s σ H r S L Z Q I sl st p
  refine isTrue_and (ha.step I sl st p fun k S1 s1 H1 L1 I1 sl1 st1 x1 p1 => ?_)
  cases k with
  | true => exact hb.out wh pins s1 σ H1 r S1 L1 Z Q I1 sl1 st1 p1
  | false => exact ⟨H1, I1, post_b (show PostB X W σ Z (.ok false S1) H1 L1 Q from p1) st1⟩
theorem DW.or (ha : DT X W a ba) (hb : DW X W (.BoolOp .Or (b :: rest) pos) bb) : DW X W (.BoolOp .Or (a :: b :: rest) pos) (bOr ba bb) := by
  refine Jd.mk ?_
  intro wh pins s σ H r S L Z Q I sl st p
  refine isTrue_or (ha.step I sl st p fun k S1 s1 H1 L1 I1 sl1 st1 x1 p1 => ?_)
  cases k with
  | true => exact ⟨H1, I1, post_b (show PostB X W σ Z (.ok true S1) H1 L1 Q from p1) st1⟩
  | false => exact hb.out wh pins s1 σ H1 r S1 L1 Z Q I1 sl1 st1 p1
theorem DT.not (ha : DT X W a ba) : DT X W (.UnaryOp .Not a pos) (bNot ba) := by
  refine Jd.mk ?_
  intro pins s σ H r S L Z Q I sl st p
  refine isTrue_not (ha.step I sl st p fun k S1 s1 H1 L1 I1 sl1 st1 x1 p1 => ?_)
  exact ⟨H1, I1, post_b (show PostB X W σ Z (.ok (!k) S1) H1 L1 Q from p1) st1⟩
/-! values of and, or, not -/
theorem De.one {op} (h : De X W a fa) : De X W (.BoolOp op [a] pos) fa := Jd.mk fun pins s σ H r S L Z Q I sl st p => BoolOp_one (h.out pins s σ H r S L Z Q I sl st p)
theorem bVal_bind {β : Type} (f : EM) (r : Env1) (S : Store) (k : Bool → Store → Res β) : (bVal f r S).bind k = (f r S).bind fun d S1 => (asB d S1).bind k := by unfold bVal; rw [Res.bind_assoc]
theorem De.and (ha : De X W a fa) (hb : De X W (.BoolOp .And (b :: rest) pos) fb) : De X W (.BoolOp .And (a :: b :: rest) pos) (eAnd fa fb) := by
  refine Jd.mk ?_
  intro pins s σ H r S L Z Q I sl st p
  unfold eAnd at p
  rw [bVal_bind] at p
  refine BoolOp_and (ha.step I sl st p fun d S1 x u s1 H1 L1 I1 r1 sl1 st1 x1 a1 p1 => ?_)
  obtain ⟨k, rfl, p2⟩ := post_asB p1 a1 r1
  refine wpAny_truthy_bool ?_
  cases k with
  | true => exact hb.out pins s1 σ H1 r S1 L1 Z Q I1 sl1 st1 p2
  | false => exact ⟨.bl false, H1, I1, rfl, post_val (show PostV X W σ Z (.ok (.bl false) S1) H1 L1 Q from p2) st1 (.bl _)⟩
theorem De.or (ha : De X W a fa) (hb : De X W (.BoolOp .Or (b :: rest) pos) fb) : De X W (.BoolOp .Or (a :: b :: rest) pos) (eOr fa fb) := by
  refine Jd.mk ?_
  intro pins s σ H r S L Z Q I sl st p
  unfold eOr at p
  rw [bVal_bind] at p
  refine BoolOp_or (ha.step I sl st p fun d S1 x u s1 H1 L1 I1 r1 sl1 st1 x1 a1 p1 => ?_)
  obtain ⟨k, rfl, p2⟩ := post_asB p1 a1 r1
  refine wpAny_truthy_bool ?_
  cases k with
  | false => exact hb.out pins s1 σ H1 r S1 L1 Z Q I1 sl1 st1 p2
  | true => exact ⟨.bl true, H1, I1, rfl, post_val (show PostV X W σ Z (.ok (.bl true) S1) H1 L1 Q from p2) st1 (.bl _)⟩
theorem De.not (ha : De X W a fa) : De X W (.UnaryOp .Not a pos) (eNot fa) := by
  refine Jd.mk ?_
  intro pins s σ H r S L Z Q I sl st p
  unfold eNot at p
  rw [bVal_bind] at p
  refine UnaryOp_ (ha.step I sl st p fun d S1 x u s1 H1 L1 I1 r1 sl1 st1 x1 a1 p1 => ?_)
  obtain ⟨k, rfl, p2⟩ := post_asB p1 a1 r1
  exact not_of (wpAny_truthy_bool ⟨.bl (!k), H1, I1, rfl, post_val (show PostV X W σ Z (.ok (.bl (!k)) S1) H1 L1 Q from p2) st1 (.bl _)⟩)
theorem De.ifExp (hc : DT X W c ba) (ha : De X W a fa) (hb : De X W b fb) : De X W (.IfExp c a b pos) (eIf ba fa fb) := by
  refine Jd.mk ?_
  intro pins s σ H r S L Z Q I sl st p
  refine wpAny_IfExp (hc.step I sl st p fun k S1 s1 H1 L1 I1 sl1 st1 x1 p1 => ?_)
  cases k with
  | true => exact ha.out pins s1 σ H1 r S1 L1 Z Q I1 sl1 st1 p1
  | false => exact hb.out pins s1 σ H1 r S1 L1 Z Q I1 sl1 st1 p1
end
end Dn

set_option Elab.async false
set_option linter.all false
set_option maxRecDepth 100000
set_option maxHeartbeats 4000000
namespace Dn
open PySem PySem.Spec PyProof.Rows L2

/-! ### subscripts -/
def vIx (d e : PV) (S : Store) : Res PV := match e with
  | .int i => (match d with
    | .str x => if x.length ≤ sizeLine then (match atI x.cps.toList i with
      | some c => .ok (.str ⟨#[c]⟩) S
      | none => .bad) else .bad
    | _ => match seqOf S d with
      | some xs => ofO (atI xs i) S
      | none => .bad)
  | _ => .bad
section
variable {K : PySem.W.Frag} {mg : Str → Option Value} {H : Hp} {L Z : List Addr} {S : Store}
theorem Ats.atI {ds : List PV} {vs : List V} {i : Int} {d : PV} (a : Ats K mg H L Z ds vs) (h : L2.atI ds i = some d) : ∃ v, L2.atI vs i = some v ∧ At K mg H L Z d v := by
  unfold L2.atI at h ⊢
  rw [← a.len]
  cases e : ixN ds.length i with
  | none => rw [e] at h; cases h
  | some j => rw [e] at h; exact a.get h
end
section
variable {X : Cx} {W : WX} {a b c e : Expr} {fa fb fc : EM} {ba bb : BM} {es : List Expr} {la : LM} {pos : Pos}
theorem De.ix (ha : De X W a fa) (hb : De X W b fb) (hs : PlainIx b := by exact fun _ _ => rfl) : De X W (.Subscript a b pos) (eBin vIx fa fb) := by
  refine Jd.mk ?_
  intro pins s σ H r S L Z Q I sl st p
  refine Subscript_ (ha.step I sl st p fun d S1 x u s1 H1 L1 I1 r1 sl1 st1 x1 a1 p1 => ?_)
  refine hb.step I1 sl1 st1 p1 fun e S2 y v s2 H2 L2 I2 r2 sl2 st2 x2 a2 p2 => ?_
  have a1 := a1.mono x2
  cases e with
  | int i =>
    cases a2
    have gen : ∀ xs, seqOf S2 d = some xs → PostV X W σ Z (ofO (atI xs i) S2) H2 L2 Q → wpAny (model X.prog X.w) X.A (subscriptTail a b u v) (EP X pins σ Q) X.xe s2 := fun xs h p => by
      cases hz : atI xs i with
      | none => rw [hz] at p; exact p.elim
      | some z =>
        rw [hz] at p
        obtain ⟨q, vs, rfl, hq, b1⟩ := seq_at st2 a1 h
        obtain ⟨w, e1, aw⟩ := b1.atI hz
        have fin := post_val p st2 aw
        rcases hq with hq | hq
        · exact ix_list a b pins s2 σ H2 _ _ u v Q I2 r1 r2 ⟨q, vs, i, w, rfl, rfl, hq, e1, fin⟩ (hs _ _)
        · exact ix_tup a b pins s2 σ H2 _ _ u v Q I2 r1 r2 ⟨q, vs, i, w, rfl, rfl, hq, e1, fin⟩ (hs _ _)
    have gen2 : PostV X W σ Z (match seqOf S2 d with
      | some xs => ofO (atI xs i) S2
      | none => .bad) H2 L2 Q → wpAny (model X.prog X.w) X.A (subscriptTail a b u v) (EP X pins σ Q) X.xe s2 := fun p => by
      cases h : seqOf S2 d with
      | none => rw [h] at p; exact p.elim
      | some xs => rw [h] at p; exact gen xs h p
    cases d with
    | str z =>
      have p2 : PostV X W σ Z (if z.length ≤ sizeLine then (match atI z.cps.toList i with
        | some c => .ok (.str ⟨#[c]⟩) S2
        | none => .bad) else .bad) H2 L2 Q := p2
      by_cases hz : z.length ≤ sizeLine
      · rw [if_pos hz] at p2
        cases hc : atI z.cps.toList i with
        | none => rw [hc] at p2; exact p2.elim
        | some c =>
          rw [hc] at p2
          cases a1
          exact ix_str a b pins s2 σ H2 _ _ u v Q I2 r1 r2 ⟨z, i, c, rfl, rfl, hz, hc, post_val p2 st2 (.str _)⟩ (hs _ _)
      · rw [if_neg hz] at p2; exact p2.elim
    | non => exact gen2 p2
    | bl _ => exact gen2 p2
    | int _ => exact gen2 p2
    | tup _ => exact gen2 p2
    | lst _ => exact gen2 p2
    | obj _ _ => exact gen2 p2
    | loc _ => exact gen2 p2
    | scr _ => exact gen2 p2
    | ty _ => exact gen2 p2
    | cls _ => exact gen2 p2
    | exc _ => exact gen2 p2
    | dic _ => exact gen2 p2
    | dik _ => exact gen2 p2
  | _ => exact (show False from p2).elim

/-! ### slices -/
abbrev OM := Env1 → Store → Res (Option Int)
abbrev PostO (X : Cx) (W : WX) (σ : L2.St) (Z : List Addr) := Post X W σ Z (fun _ _ (d : Option Int) (v : Option Int) => d = v)
def DO (X : Cx) (W : WX) (e : Option Expr) (f : OM) : Prop := Jd (
  ∀ (pins : List (Addr × Obj)) (s : Shared) (σ : L2.St) (H : Hp) (r : Env1) (S : Store) (L Z : List Addr) (Q : Option Int → Hp → Prop), Inv X pins σ H s → Slots X.K X.mg H L Z r σ → Sta X.K X.mg H L Z S → PostO X W σ Z (f r S) H L Q →
    wpAny (model X.prog X.w) X.A (evalPart e X.env) (fun u s' => ∃ o H', Inv X pins σ H' s' ∧ IsPart u o ∧ Q o H') X.xe s)
def oNone : OM := fun _ S => .ok none S
def asI (d : PV) (S : Store) : Res (Option Int) := match d with
  | .int i => .ok (some i) S
  | _ => .bad
def oSome (a : EM) : OM := fun r S => (a r S).bind asI
theorem DO.none : DO X W none oNone := by
  refine Jd.mk ?_
  intro pins s σ H r S L Z Q I sl st p
  exact po_none.run pins s σ H Q I (p _ H L (Ext.refl H L) st rfl)
theorem DO.some (h : De X W e fa) : DO X W (some e) (oSome fa) := by
  refine Jd.mk ?_
  intro pins s σ H r S L Z Q I sl st p
  -- the part as HandS has it, its reading the run of e
  refine (po_some (te := fun σ' H' Q' => (σ' = σ ∧ H' = H ∧ Q' = fun x H1 => ∃ i, x = V.int i ∧ Q (Option.some i) H1)) ⟨fun pins' s' σ' H' Q' I' h' => ?_⟩).run pins s σ H Q I ⟨rfl, rfl, rfl⟩
  obtain ⟨rfl, rfl, rfl⟩ := h'
  refine h.step I' sl st p fun d S1 x u s1 H1 L1 I1 r1 sl1 st1 x1 a1 p1 => ?_
  cases d with
  | int i => cases a1; exact ⟨.int i, H1, I1, r1, i, rfl, p1 _ H1 L1 (Ext.refl H1 L1) st1 rfl⟩
  | _ => exact (show False from p1).elim
def cutP (xs : List PV) (lo hi : Option Int) : List PV := (xs.drop (HT.sIx xs.length 0 lo)).take (HT.sIx xs.length xs.length hi - HT.sIx xs.length 0 lo)
def vSl (d : PV) (lo hi : Option Int) (S : Store) : Res PV := match d with
  | .str x => if x.length ≤ sizeLine then .ok (.str (cutS x lo hi)) S else .bad
  | .tup xs => .ok (.tup (cutP xs lo hi)) S
  | _ => match lstOf S d with
    | some xs => .ok (.lst (cutP xs lo hi)) S
    | none => .bad
def eSl (a : EM) (l h : OM) : EM := fun r S => (a r S).bind fun d S1 => (l r S1).bind fun lo S2 => (h r S2).bind fun hi S3 => vSl d lo hi S3
theorem DO.step {β γ : Type} {o : Option Expr} {f : OM} (ha : DO X W o f) {pins : List (Addr × Obj)} {s : Shared} {σ : L2.St} {H : Hp} {r : Env1} {S : Store} {L Z : List Addr} (I : Inv X pins σ H s) (sl : Slots X.K X.mg H L Z r σ) (st : Sta X.K X.mg H L Z S) {g : Option Int → Store → Res β} {rel : Hp → List Addr → β → γ → Prop} {Q : γ → Hp → Prop}
    (p : Post X W σ Z rel ((f r S).bind g) H L Q) {Qf : Value → Shared → Prop}
    (hk : ∀ d S1 u s1 H1 L1, Inv X pins σ H1 s1 → IsPart u d → Slots X.K X.mg H1 L1 Z r σ → Sta X.K X.mg H1 L1 Z S1 → Ext H L H1 L1 → Post X W σ Z rel (g d S1) H1 L1 Q → Qf u s1) :
    wpAny (model X.prog X.w) X.A (evalPart o X.env) Qf X.xe s := by
  cases q : f r S with
  | ok d S1 =>
    rw [q] at p
    refine thn (ha.out pins s σ H r S L Z (fun v H1 => d = v ∧ ∃ L1, Ext H L H1 L1 ∧ Sta X.K X.mg H1 L1 Z S1) I sl st (by rw [q]; exact fun v H' L' x y z => ⟨z, L', x, y⟩)) fun u s1 ⟨v, H1, I1, pv, e1, L1, x1, st1⟩ => ?_
    subst e1
    exact hk d S1 u s1 H1 L1 I1 pv (sl.mono x1) st1 x1 (p.ext x1)
  | err c S1 =>
    rw [q] at p
    exact thn (ha.out pins s σ H r S L Z (fun v H1 => False) I sl st (by rw [q]; exact p)) fun u s1 ⟨v, H1, _, _, z⟩ => z.elim
  | bad => rw [q] at p; exact p.elim
theorem Ats.cut {K : PySem.W.Frag} {mg : Str → Option Value} {H : Hp} {L Z : List Addr} {ds : List PV} {vs : List V} (a : Ats K mg H L Z ds vs) (lo hi : Option Int) : Ats K mg H L Z (cutP ds lo hi) (cutV vs lo hi) := by
  unfold cutP cutV
  rw [a.len]
  exact (a.drop _).take _
theorem cut_all {α : Type} {xs : List α} {lo hi : Option Int} (h : HT.sIx xs.length 0 lo = 0 ∧ HT.sIx xs.length xs.length hi = xs.length) : (xs.drop (HT.sIx xs.length 0 lo)).take (HT.sIx xs.length xs.length hi - HT.sIx xs.length 0 lo) = xs := by
  rw [h.1, h.2]; simp
theorem De.slice {lo hi : Option Expr} {p2 : Pos} {fl fh : OM} (ha : De X W a fa) (hl : DO X W lo fl) (hu : DO X W hi fh) : De X W (.Subscript a (.Slice lo hi none p2) pos) (eSl fa fl fh) := by
  refine Jd.mk ?_
  intro pins s σ H r S L Z Q I sl st p
  refine Subscript_ (ha.step I sl st p fun d S1 x v s1 H1 L1 I1 r1 sl1 st1 x1 a1 p1 => ?_)
  refine wpAny_Slice (hl.step I1 sl1 st1 p1 fun l S2 vl s2 H2 L2 I2 pl sl2 st2 x2 pq => hu.step I2 sl2 st2 pq fun u S3 vu s3 H3 L3 I3 pu sl3 st3 x3 p3 => ?_)
  have a3 := (a1.mono x2).mono x3
  rw [evalPart_none]
  refine wpAny_pure ?_
  have I4 : Inv X pins σ H3 { s3 with heap := s3.heap.push { cls := .type "slice", data := .fields #[vl, vu, .none] } } := I3.kept (t' := s3.toks) fun b ob q => Heap.get?_push_of_some _ q
  have hget : ∃ T id, typeLookup (.type T) "__getitem__" = pure (some (.builtin id)) ∧ Shared.TypeIs { s3 with heap := s3.heap.push { cls := .type "slice", data := .fields #[vl, vu, .none] } } v T ∧ wpAny (model X.prog X.w) X.A (getItem v (.ref s3.heap.objs.size)) (EP X pins σ Q) X.xe { s3 with heap := s3.heap.push { cls := .type "slice", data := .fields #[vl, vu, .none] } } := by
    have gen : PostV X W σ Z (match lstOf S3 d with
        | some xs => .ok (.lst (cutP xs l u)) S3
        | none => .bad) H3 L3 Q → ∃ T id, typeLookup (.type T) "__getitem__" = pure (some (.builtin id)) ∧ Shared.TypeIs { s3 with heap := s3.heap.push { cls := .type "slice", data := .fields #[vl, vu, .none] } } v T ∧ wpAny (model X.prog X.w) X.A (getItem v (.ref s3.heap.objs.size)) (EP X pins σ Q) X.xe { s3 with heap := s3.heap.push { cls := .type "slice", data := .fields #[vl, vu, .none] } } := fun p => by
      cases h : lstOf S3 d with
      | none => rw [h] at p; exact p.elim
      | some xs =>
        rw [h] at p
        obtain ⟨q, vs, rfl, e1, b1⟩ := lst_at st3 a3 h
        exact sl_list pins _ σ H3 _ v vl vu l u s3.heap.objs.size Q I4 r1 (Heap.IsSliceOf.new ..) pl pu ⟨q, vs, rfl, .of e1, post_lst p st3 (b1.cut l u)⟩
    cases d with
    | str z =>
      have p3 : PostV X W σ Z (if z.length ≤ sizeLine then .ok (.str (cutS z l u)) S3 else .bad) H3 L3 Q := p3
      cases a3
      by_cases hz : z.length ≤ sizeLine
      · rw [if_pos hz] at p3
        exact sl_str pins _ σ H3 _ v vl vu l u s3.heap.objs.size Q I4 r1 (Heap.IsSliceOf.new ..) pl pu ⟨z, rfl, hz, post_val p3 st3 (.str _)⟩
      · rw [if_neg hz] at p3; exact p3.elim
    | tup xs =>
      have a3' := a3
      cases a3 with
      | tup h1 b1 =>
        refine sl_tupA pins _ σ H3 _ v vl vu l u s3.heap.objs.size Q I4 r1 (Heap.IsSliceOf.new ..) pl pu ⟨_, _, rfl, h1, fun e => ?_, fun _ => post_tup p3 st3 (b1.cut l u)⟩
        rw [← b1.len] at e
        have p3 : PostV X W σ Z (.ok (.tup (cutP xs l u)) S3) H3 L3 Q := p3
        rw [show cutP xs l u = xs from cut_all e] at p3
        exact post_val p3 st3 a3'
    | non => exact gen p3
    | bl _ => exact gen p3
    | int _ => exact gen p3
    | lst _ => exact gen p3
    | obj _ _ => exact gen p3
    | loc _ => exact gen p3
    | scr _ => exact gen p3
    | ty _ => exact gen p3
    | cls _ => exact gen p3
    | exc _ => exact gen p3
    | dic _ => exact gen p3
    | dik _ => exact gen p3
  obtain ⟨T, id, hT, ht, hg⟩ := hget
  show wpAny (model X.prog X.w) X.A (subscriptTail a (.Slice lo hi none p2) v (.ref s3.heap.objs.size)) (EP X pins σ Q) X.xe { s3 with heap := s3.heap.push { cls := .type "slice", data := .fields #[vl, vu, .none] } }
  exact tail_any (ops := [.ref s3.heap.objs.size, v]) ht hT hg (by with_unfolding_all rfl)
end

/-! ### built-ins -/
def ints? : List PV → Option (List Int)
  | [] => some []
  | .int i :: r => (ints? r).map (i :: ·)
  | _ :: _ => none
def bools? : List PV → Option (List Bool)
  | [] => some []
  | .bl i :: r => (bools? r).map (i :: ·)
  | _ :: _ => none
theorem ints_some : ∀ {ds : List PV} {ns : List Int}, ints? ds = some ns → ds = ns.map PV.int
  | [], ns, h => by cases h; rfl
  | .int i :: r, ns, h => by
    simp only [ints?] at h
    cases e : ints? r with
    | none => rw [e] at h; cases h
    | some ms => rw [e] at h; cases h; rw [ints_some e]; rfl
  | .non :: _, _, h => by simp [ints?] at h
  | .bl _ :: _, _, h => by simp [ints?] at h
  | .str _ :: _, _, h => by simp [ints?] at h
  | .tup _ :: _, _, h => by simp [ints?] at h
  | .lst _ :: _, _, h => by simp [ints?] at h
  | .obj _ _ :: _, _, h => by simp [ints?] at h
  | .loc _ :: _, _, h => by simp [ints?] at h
  | .scr _ :: _, _, h => by simp [ints?] at h
  | .ty _ :: _, _, h => by simp [ints?] at h
  | .cls _ :: _, _, h => by simp [ints?] at h
  | .exc _ :: _, _, h => by simp [ints?] at h
  | .dic _ :: _, _, h => by simp [ints?] at h
  | .dik _ :: _, _, h => by simp [ints?] at h
theorem ints_map : ∀ (ns : List Int), ints? (ns.map PV.int) = some ns
  | [] => rfl
  | n :: ns => by simp only [List.map_cons, ints?, ints_map ns]; rfl
theorem bools_some : ∀ {ds : List PV} {ns : List Bool}, bools? ds = some ns → ds = ns.map PV.bl
  | [], ns, h => by cases h; rfl
  | .bl i :: r, ns, h => by
    simp only [bools?] at h
    cases e : bools? r with
    | none => rw [e] at h; cases h
    | some ms => rw [e] at h; cases h; rw [bools_some e]; rfl
  | .non :: _, _, h => by simp [bools?] at h
  | .int _ :: _, _, h => by simp [bools?] at h
  | .str _ :: _, _, h => by simp [bools?] at h
  | .tup _ :: _, _, h => by simp [bools?] at h
  | .lst _ :: _, _, h => by simp [bools?] at h
  | .obj _ _ :: _, _, h => by simp [bools?] at h
  | .loc _ :: _, _, h => by simp [bools?] at h
  | .scr _ :: _, _, h => by simp [bools?] at h
  | .ty _ :: _, _, h => by simp [bools?] at h
  | .cls _ :: _, _, h => by simp [bools?] at h
  | .exc _ :: _, _, h => by simp [bools?] at h
  | .dic _ :: _, _, h => by simp [bools?] at h
  | .dik _ :: _, _, h => by simp [bools?] at h
theorem bools_map : ∀ (ns : List Bool), bools? (ns.map PV.bl) = some ns
  | [] => rfl
  | n :: ns => by simp only [List.map_cons, bools?, bools_map ns]; rfl
def one1 (g : PV → Store → Res PV) (ds : List PV) (S : Store) : Res PV := match ds with
  | [d] => g d S
  | _ => .bad
def vLen : List PV → Store → Res PV := one1 fun d S => match d with
  | .str x => if x.length ≤ sizeLine then .ok (.int x.length) S else .bad
  | _ => match seqOf S d with
    | some xs => .ok (.int xs.length) S
    | none => .bad
def maxI : List Int → Int
  | [] => 0
  | [x] => x
  | x :: y :: r => max x (maxI (y :: r))
def minI : List Int → Int
  | [] => 0
  | [x] => x
  | x :: y :: r => min x (minI (y :: r))
def intsOf (S : Store) (d : PV) : Option (List Int) := (lstOf S d).bind ints?
def boolsOf (S : Store) (d : PV) : Option (List Bool) := (lstOf S d).bind bools?
def vMax (ds : List PV) (S : Store) : Res PV := match ds with
  | [.int i, .int j] => .ok (.int (max i j)) S
  | [d] => (match intsOf S d with
    | some (n :: ns) => .ok (.int (maxI (n :: ns))) S
    | _ => .bad)
  | _ => .bad
def vMin (ds : List PV) (S : Store) : Res PV := match ds with
  | [.int i, .int j] => .ok (.int (min i j)) S
  | [d] => (match intsOf S d with
    | some (n :: ns) => .ok (.int (minI (n :: ns))) S
    | _ => .bad)
  | _ => .bad
def vTuple : List PV → Store → Res PV := one1 fun d S => match seqOf S d with
  | some xs => .ok (.tup xs) S
  | none => .bad
def vList : List PV → Store → Res PV := one1 fun d S => match seqOf S d with
  | some xs => .ok (.lst xs) S
  | none => .bad
def vAll : List PV → Store → Res PV := one1 fun d S => match boolsOf S d with
  | some bs => .ok (.bl (bs.all id)) S
  | none => .bad
def vAny : List PV → Store → Res PV := one1 fun d S => match boolsOf S d with
  | some bs => .ok (.bl (bs.any id)) S
  | none => .bad
def vSum : List PV → Store → Res PV := one1 fun d S => match intsOf S d with
  | some ns => .ok (.int ns.sum) S
  | none => .bad
def vAbs : List PV → Store → Res PV := one1 fun d S => match d with
  | .int i => .ok (.int (i.natAbs : Int)) S
  | _ => .bad
def vStr : List PV → Store → Res PV := one1 fun d S => match d with
  | .int i => if i.natAbs.log2 < 1920 then .ok (.str (toString i)) S else .bad
  | .str x => .ok (.str x) S
  | _ => .bad
def reprOk (p : PyData) : Prop := p.showable = true ∧ p.hasDict = false ∧ p.depth ≤ 64 ∧ p.shown.length ≤ sizeLine
instance (p : PyData) : Decidable (reprOk p) := by unfold reprOk; infer_instance
/-- the same for data with dicts -/
def reprOkD (p : PyData) : Prop := p.showable = true ∧ p.depth ≤ 64 ∧ p.shown.length ≤ sizeLine
instance (p : PyData) : Decidable (reprOkD p) := by unfold reprOkD; infer_instance
def dataD (S : Store) (d : PV) : Option PyData := match lstOf S d with
  | some xs => (data1s xs).map .list
  | none => data1 d
def vRepr : List PV → Store → Res PV := one1 fun d S => match dataOf S d with
  | some p => if reprOk p then .ok (.str p.shown) S else .bad
  | none => match dataD S d with
    | some p => if reprOkD p then .ok (.str p.shown) S else .bad
    | none => .bad

theorem maxI_mem : ∀ {ns : List Int}, ns ≠ [] → maxI ns ∈ ns ∧ ∀ y ∈ ns, y ≤ maxI ns
  | [], h => absurd rfl h
  | [x], _ => ⟨by simp [maxI], fun y hy => by simp at hy; subst hy; exact Int.le_refl _⟩
  | x :: y :: r, _ => by
    obtain ⟨h1, h2⟩ := maxI_mem (ns := y :: r) (by simp)
    simp only [maxI]
    refine ⟨?_, fun z hz => ?_⟩
    · rcases Int.le_total x (maxI (y :: r)) with h | h
      · rw [Int.max_eq_right h]; exact List.mem_cons_of_mem _ h1
      · rw [Int.max_eq_left h]; exact List.mem_cons_self
    · rcases List.mem_cons.mp hz with rfl | hz
      · exact Int.le_max_left _ _
      · exact Int.le_trans (h2 z hz) (Int.le_max_right _ _)
theorem minI_mem : ∀ {ns : List Int}, ns ≠ [] → minI ns ∈ ns ∧ ∀ y ∈ ns, minI ns ≤ y
  | [], h => absurd rfl h
  | [x], _ => ⟨by simp [minI], fun y hy => by simp at hy; subst hy; exact Int.le_refl _⟩
  | x :: y :: r, _ => by
    obtain ⟨h1, h2⟩ := minI_mem (ns := y :: r) (by simp)
    simp only [minI]
    refine ⟨?_, fun z hz => ?_⟩
    · rcases Int.le_total x (minI (y :: r)) with h | h
      · rw [Int.min_eq_left h]; exact List.mem_cons_self
      · rw [Int.min_eq_right h]; exact List.mem_cons_of_mem _ h1
    · rcases List.mem_cons.mp hz with rfl | hz
      · exact Int.min_le_left _ _
      · exact Int.le_trans (Int.min_le_right _ _) (h2 z hz)
section
variable {X : Cx} {W : WX}
theorem Ats.one {K : PySem.W.Frag} {mg : Str → Option Value} {H : Hp} {L Z : List Addr} {d : PV} {xs : List V} (a : Ats K mg H L Z [d] xs) : ∃ v, xs = [v] ∧ At K mg H L Z d v := by
  cases a with
  | cons h t => cases t; exact ⟨_, rfl, h⟩
/-- one argument -/
theorem DC.one {f : Value} {g : PV → Store → Res PV} {rr : List V → Hp → VK → Prop} (ho : CallR X f rr)
    (h : ∀ (σ : L2.St) (H : Hp) (S : Store) (L Z : List Addr) (Q : VK) (d : PV) (x : V), Sta X.K X.mg H L Z S → At X.K X.mg H L Z d x → PostV X W σ Z (g d S) H L Q → rr [x] H Q) : DC X W f (one1 g) :=
  DC.of ho fun σ H S L Z Q ds xs st a p => by
    match ds, a, p with
    | [d], a, p =>
      obtain ⟨v, rfl, a'⟩ := a.one
      exact h σ H S L Z Q d v st a' p
    | [], _, p => exact (show False from p).elim
    | _ :: _ :: _, _, p => exact (show False from p).elim
theorem ints_at {K : PySem.W.Frag} {mg : Str → Option Value} {H : Hp} {L Z : List Addr} {S : Store} {d : PV} {v : V} {ns : List Int} (st : Sta K mg H L Z S) (a : At K mg H L Z d v) (h : intsOf S d = some ns) : ∃ p, v = .ref p ∧ SqL K H p (ns.map V.int) := by
  unfold intsOf at h
  cases e : lstOf S d with
  | none => rw [e] at h; cases h
  | some xs =>
    rw [e] at h
    obtain ⟨q, vs, rfl, h1, h2⟩ := lst_at st a e
    have := ints_some h
    subst this
    have e2 : vs = ns.map V.int := by
      clear h e h1 a st
      induction ns generalizing vs with
      | nil => cases h2; rfl
      | cons n ns ih => cases h2 with
        | cons a b => cases a; rw [ih _ b]; rfl
    subst e2
    exact ⟨q, rfl, .of h1⟩
theorem bools_at {K : PySem.W.Frag} {mg : Str → Option Value} {H : Hp} {L Z : List Addr} {S : Store} {d : PV} {v : V} {ns : List Bool} (st : Sta K mg H L Z S) (a : At K mg H L Z d v) (h : boolsOf S d = some ns) : ∃ p, v = .ref p ∧ SqL K H p (ns.map V.bl) := by
  unfold boolsOf at h
  cases e : lstOf S d with
  | none => rw [e] at h; cases h
  | some xs =>
    rw [e] at h
    obtain ⟨q, vs, rfl, h1, h2⟩ := lst_at st a e
    have := bools_some h
    subst this
    have e2 : vs = ns.map V.bl := by
      clear h e h1 a st
      induction ns generalizing vs with
      | nil => cases h2; rfl
      | cons n ns ih => cases h2 with
        | cons a b => cases a; rw [ih _ b]; rfl
    subst e2
    exact ⟨q, rfl, .of h1⟩
theorem dc_len : DC X W (.builtin "len") vLen := DC.one call_len fun σ H S L Z Q d x st a p => by
  have gen : PostV X W σ Z (match seqOf S d with
    | some xs => .ok (.int xs.length) S
    | none => .bad) H L Q → ∃ x' n, [x] = [x'] ∧ LenV X.K x' H n ∧ Q (.int n) H := fun p => by
    cases h : seqOf S d with
    | none => rw [h] at p; exact p.elim
    | some xs =>
      rw [h] at p
      obtain ⟨q, vs, rfl, hq, b⟩ := seq_at st a h
      refine ⟨_, xs.length, rfl, ?_, post_val p st (.int _)⟩
      rcases hq with hq | hq
      · exact .inl ⟨vs, hq, b.len⟩
      · exact .inr ⟨vs, hq, b.len⟩
  cases d with
  | str z =>
    have p : PostV X W σ Z (if z.length ≤ sizeLine then .ok (.int z.length) S else .bad) H L Q := p
    cases a
    by_cases hz : z.length ≤ sizeLine
    · rw [if_pos hz] at p
      exact ⟨_, z.length, rfl, ⟨hz, rfl⟩, post_val p st (.int _)⟩
    · rw [if_neg hz] at p; exact p.elim
  | non => exact gen p
  | bl _ => exact gen p
  | int _ => exact gen p
  | tup _ => exact gen p
  | lst _ => exact gen p
  | obj _ _ => exact gen p
  | loc _ => exact gen p
  | scr _ => exact gen p
  | ty _ => exact gen p
  | cls _ => exact gen p
  | exc _ => exact gen p
  | dic _ => exact gen p
  | dik _ => exact gen p
theorem dc_tuple : DC X W (.type "tuple") vTuple := DC.one call_tuple_of fun σ H S L Z Q d x st a p => by
  cases h : seqOf S d with
  | none => rw [h] at p; exact p.elim
  | some xs =>
    rw [h] at p
    obtain ⟨q, vs, rfl, hq, b⟩ := seq_at st a h
    refine ⟨q, vs, rfl, ?_⟩
    rcases hq with hq | hq
    · exact .inl ⟨hq, fun l hl => post_tup p st b l hl⟩
    · exact .inr ⟨hq, post_val p st (.tup hq b)⟩
theorem dc_list : DC X W (.type "list") vList := DC.one call_list_of fun σ H S L Z Q d x st a p => by
  cases h : seqOf S d with
  | none => rw [h] at p; exact p.elim
  | some xs =>
    rw [h] at p
    obtain ⟨q, vs, rfl, hq, b⟩ := seq_at st a h
    exact ⟨q, vs, rfl, hq, fun l hl => post_lst p st b l hl⟩
theorem dc_all (hc : X.calm = true) : DC X W (.builtin "all") vAll := DC.one (cr_all hc) fun σ H S L Z Q d x st a p => by
  cases h : boolsOf S d with
  | none => rw [h] at p; exact p.elim
  | some bs =>
    rw [h] at p
    obtain ⟨q, rfl, hq⟩ := bools_at st a h
    exact ⟨q, bs, rfl, hq, post_val p st (.bl _)⟩
theorem dc_any (hc : X.calm = true) : DC X W (.builtin "any") vAny := DC.one (cr_any hc) fun σ H S L Z Q d x st a p => by
  cases h : boolsOf S d with
  | none => rw [h] at p; exact p.elim
  | some bs =>
    rw [h] at p
    obtain ⟨q, rfl, hq⟩ := bools_at st a h
    exact ⟨q, bs, rfl, hq, post_val p st (.bl _)⟩
theorem dc_sum (hc : X.calm = true) : DC X W (.builtin "sum") vSum := DC.one (cr_sum hc) fun σ H S L Z Q d x st a p => by
  cases h : intsOf S d with
  | none => rw [h] at p; exact p.elim
  | some bs =>
    rw [h] at p
    obtain ⟨q, rfl, hq⟩ := ints_at st a h
    exact ⟨q, bs, rfl, hq, post_val p st (.int _)⟩
theorem dc_abs : DC X W (.builtin "abs") vAbs := DC.one call_abs fun σ H S L Z Q d x st a p => by
  cases d with
  | int i =>
    cases a
    refine ⟨i, rfl, ?_⟩
    have e : (if i < 0 then -i else i) = (i.natAbs : Int) := by split <;> omega
    rw [e]
    exact post_val p st (.int _)
  | _ => exact (show False from p).elim
theorem dc_max (hc : X.calm = true) : DC X W (.builtin "max") vMax := by
  intro pins s σ H S L Z Q ds xs us I st a r p
  have gen : ∀ d, ds = [d] → PostV X W σ Z (match intsOf S d with
    | some (n :: ns) => .ok (.int (maxI (n :: ns))) S
    | _ => .bad) H L Q → wpAny (model X.prog X.w) X.A (call (.builtin "max") us) (EP X pins σ Q) X.xe s := fun d e p' => by
    clear p
    have p := p'
    clear p'
    subst e
    obtain ⟨v, rfl, a'⟩ := a.one
    cases h : intsOf S d with
    | none => rw [h] at p; exact p.elim
    | some ns =>
      cases ns with
      | nil => rw [h] at p; exact p.elim
      | cons n ns =>
        rw [h] at p
        obtain ⟨q, rfl, hq⟩ := ints_at st a' h
        refine cr_max hc pins s σ H _ us Q I r ⟨q, n :: ns, rfl, hq, by simp, fun m h1 h2 => ?_⟩
        have h3 := maxI_mem (ns := n :: ns) (by simp)
        have e : m = maxI (n :: ns) := Int.le_antisymm (h3.2 m h1) (h2 _ h3.1)
        rw [e]
        exact post_val p st (.int _)
  match ds, a, p, gen with
  | [], _, p, _ => exact (show False from p).elim
  | [d], a, p, gen => cases d <;> exact gen _ rfl p
  | [d, e], a, p, _ =>
    cases d with
    | int i =>
      cases e with
      | int j =>
        cases a with
        | cons h1 t => cases t with
          | cons h2 t => cases t; cases h1; cases h2; exact call_max2 hc pins s σ H _ us Q I r ⟨i, j, rfl, by
            have e : (if j > i then j else i) = max i j := by split <;> omega
            rw [e]; exact post_val p st (.int _)⟩
      | _ => exact (show False from p).elim
    | _ => exact (show False from p).elim
  | d :: e :: _ :: _, _, p, _ => exact (show False from by cases d <;> (first | exact p | (cases e <;> exact p))).elim
theorem dc_min (hc : X.calm = true) : DC X W (.builtin "min") vMin := by
  intro pins s σ H S L Z Q ds xs us I st a r p
  have gen : ∀ d, ds = [d] → PostV X W σ Z (match intsOf S d with
    | some (n :: ns) => .ok (.int (minI (n :: ns))) S
    | _ => .bad) H L Q → wpAny (model X.prog X.w) X.A (call (.builtin "min") us) (EP X pins σ Q) X.xe s := fun d e p' => by
    clear p
    have p := p'
    clear p'
    subst e
    obtain ⟨v, rfl, a'⟩ := a.one
    cases h : intsOf S d with
    | none => rw [h] at p; exact p.elim
    | some ns =>
      cases ns with
      | nil => rw [h] at p; exact p.elim
      | cons n ns =>
        rw [h] at p
        obtain ⟨q, rfl, hq⟩ := ints_at st a' h
        refine cr_min hc pins s σ H _ us Q I r ⟨q, n :: ns, rfl, hq, by simp, fun m h1 h2 => ?_⟩
        have h3 := minI_mem (ns := n :: ns) (by simp)
        have e : m = minI (n :: ns) := Int.le_antisymm (h2 _ h3.1) (h3.2 m h1)
        rw [e]
        exact post_val p st (.int _)
  match ds, a, p, gen with
  | [], _, p, _ => exact (show False from p).elim
  | [d], a, p, gen => cases d <;> exact gen _ rfl p
  | [d, e], a, p, _ =>
    cases d with
    | int i =>
      cases e with
      | int j =>
        cases a with
        | cons h1 t => cases t with
          | cons h2 t => cases t; cases h1; cases h2; exact call_min2 hc pins s σ H _ us Q I r ⟨i, j, rfl, by
            have e : (if j < i then j else i) = min i j := by split <;> omega
            rw [e]; exact post_val p st (.int _)⟩
      | _ => exact (show False from p).elim
    | _ => exact (show False from p).elim
  | d :: e :: _ :: _, _, p, _ => exact (show False from by cases d <;> (first | exact p | (cases e <;> exact p))).elim
theorem dc_str : DC X W (.type "str") vStr := by
  intro pins s σ H S L Z Q ds xs us I st a r p
  match ds, a, p with
  | [d], a, p =>
    obtain ⟨v, rfl, a'⟩ := a.one
    cases d with
    | int i =>
      have p : PostV X W σ Z (if i.natAbs.log2 < 1920 then .ok (.str (toString i)) S else .bad) H L Q := p
      cases a'
      by_cases hz : i.natAbs.log2 < 1920
      · rw [if_pos hz] at p
        exact call_str_int pins s σ H _ us Q I r ⟨i, rfl, hz, post_val p st (.str _)⟩
      · rw [if_neg hz] at p; exact p.elim
    | str z =>
      cases a'
      exact SkE.call_str_str pins s σ H _ us Q I r ⟨z, rfl, post_val p st (.str _)⟩
    | _ => exact (show False from p).elim
  | [], _, p => exact (show False from p).elim
  | _ :: _ :: _, _, p => exact (show False from p).elim
mutual
theorem reads1 {pins : List (Addr × Obj)} {σ : L2.St} {H : Hp} {s : Shared} {L Z : List Addr} (I : Inv X pins σ H s) : ∀ {d : PV} {v : V} {u : Value} {p : PyData}, At X.K X.mg H L Z d v → data1 d = some p → RelV v u → ∃ as, Reads s.heap u p as ∧ ∀ a ∈ as, ∃ o, H a = some o
  | _, _, _, _, .non, h, r => by simp [data1] at h; subst h; cases r; exact ⟨_, .none, by simp⟩
  | _, _, _, _, .bl b, h, r => by simp [data1] at h; subst h; cases r; exact ⟨_, .bool b, by simp⟩
  | _, _, _, _, .int i, h, r => by simp [data1] at h; subst h; obtain ⟨t, rfl⟩ := r; exact ⟨_, .int i t, by simp⟩
  | _, _, _, _, .str x, h, r => by simp [data1] at h; subst h; obtain ⟨t, rfl⟩ := r; exact ⟨_, .str x t, by simp⟩
  | _, _, _, _, .tup (ds := ds) h1 h2, h, r => by
    simp only [data1] at h
    cases e : data1s ds with
    | none => rw [e] at h; cases h
    | some ps =>
      rw [e] at h; cases h; cases r
      obtain ⟨its, rv, ⟨o, ho, hc, n, hd⟩, hz⟩ := I.tuple h1
      obtain ⟨as, ra, ha⟩ := reads1s I h2 e rv
      exact ⟨as, .tuple ho hc hd (by simpa using ra), ha⟩
  | _, _, _, _, .lst (ds := ds) h1 h2 h3 h4, h, r => by
    simp only [data1] at h
    cases e : data1s ds with
    | none => rw [e] at h; cases h
    | some ps =>
      rw [e] at h; cases h; cases r
      obtain ⟨z, its, n, rv, ho⟩ := I.hok _ _ h1
      obtain ⟨as, ra, ha⟩ := reads1s I h4 e rv
      refine ⟨_ :: as, .list ho rfl rfl (by simpa using ra), fun a h => ?_⟩
      rcases List.mem_cons.mp h with rfl | h
      · exact ⟨_, h1⟩
      · exact ha a h
  | _, _, _, _, .obj .., h, _ => by simp [data1] at h
  | _, _, _, _, .loc .., h, _ => by simp [data1] at h
  | _, _, _, _, .scr .., h, _ => by simp [data1] at h
  | _, _, _, _, .scrk .., h, _ => by simp [data1] at h
  | _, _, _, _, .ty .., h, _ => by simp [data1] at h
  | _, _, _, _, .cls .., h, _ => by simp [data1] at h
  | _, _, _, _, .exc .., h, _ => by simp [data1] at h
  | _, _, _, _, .dic (kvs := kvs) h1 h2 h3 h4, h, r => by
    simp only [data1] at h
    cases e : data1d kvs with
    | none => rw [e] at h; cases h
    | some ps =>
      rw [e] at h; cases h; cases r
      obtain ⟨⟨z, y, nd, xs, rx, o, es, ho, hc, hd, he⟩, _⟩ := (show ObjOk X.prog X.w H s.heap _ (DicO _ _ _) from I.hok _ _ h1)
      obtain ⟨as, bs, ra, rb, ha, hb⟩ := reads1d I h4 e rx
      have k1 : es.toList.map (·.key) = xs.map fun x => Value.ref x.2.1 := by rw [he, List.map_map]; rfl
      have k2 : es.toList.map (·.val) = xs.map fun x => x.2.2 := by rw [he, List.map_map]; rfl
      refine ⟨_, .dict ho hc.1 hd (by rw [k1]; exact ra) (by rw [k2]; exact rb), fun a h => ?_⟩
      simp only [List.cons_append, List.mem_cons, List.mem_append] at h
      rcases h with rfl | h | h
      · exact ⟨_, h1⟩
      · exact ha a h
      · exact hb a h
  | _, _, _, _, .dik (kvs := kvs) h1 h2 h3 h4, h, r => by
    simp only [data1] at h
    cases e : data1d kvs with
    | none => rw [e] at h; cases h
    | some ps =>
      rw [e] at h; cases h; cases r
      obtain ⟨z, y, vs, rx, o, es, ep, ho, hc, hd, hk, hp, nd⟩ := dk_of I.hok h1
      obtain ⟨as, bs, ra, rb, ha, hb⟩ := reads1k I h4 e rx hp
      refine ⟨_, .dict ho hc.1 hd ra rb, fun a h => ?_⟩
      simp only [List.cons_append, List.mem_cons, List.mem_append] at h
      rcases h with rfl | h | h
      · exact ⟨_, h1⟩
      · exact ha a h
      · exact hb a h
theorem reads1s {pins : List (Addr × Obj)} {σ : L2.St} {H : Hp} {s : Shared} {L Z : List Addr} (I : Inv X pins σ H s) : ∀ {ds : List PV} {vs : List V} {us : List Value} {ps : List PyData}, Ats X.K X.mg H L Z ds vs → data1s ds = some ps → Vals vs us → ∃ as, ReadsAll s.heap us ps as ∧ ∀ a ∈ as, ∃ o, H a = some o
  | _, _, _, _, .nil, h, r => by simp [data1s] at h; subst h; cases r; exact ⟨_, .nil, by simp⟩
  | _, _, _, _, .cons (d := d) (ds := ds) h1 h2, h, r => by
    simp only [data1s] at h
    cases e : data1 d with
    | none => rw [e] at h; cases h
    | some p =>
      cases e' : data1s ds with
      | none => rw [e, e'] at h; cases h
      | some ps =>
        rw [e, e'] at h; cases h
        cases r with
        | cons r1 r2 =>
          obtain ⟨as, ra, ha⟩ := reads1 I h1 e r1
          obtain ⟨bs, rb, hb⟩ := reads1s I h2 e' r2
          exact ⟨as ++ bs, .cons ra rb, fun a h => (List.mem_append.mp h).elim (ha a) (hb a)⟩
theorem reads1d {pins : List (Addr × Obj)} {σ : L2.St} {H : Hp} {s : Shared} {L Z : List Addr} (I : Inv X pins σ H s) : ∀ {ds : List (PV × PV)} {vs : List (PyData × Addr × V)} {us : List (PyData × Addr × Value)} {ps : List (PyData × PyData)}, Atd X.K X.mg H L Z ds vs → data1d ds = some ps →
    Paired (fun (p : PyData × Addr × V) (q : PyData × Addr × Value) => p.1 = q.1 ∧ p.2.1 = q.2.1 ∧ RelV p.2.2 q.2.2) vs us → ∃ as bs, ReadsAll s.heap (us.map fun x => Value.ref x.2.1) (ps.map (·.1)) as ∧ ReadsAll s.heap (us.map fun x => x.2.2) (ps.map (·.2)) bs ∧ (∀ a ∈ as, ∃ o, H a = some o) ∧ ∀ a ∈ bs, ∃ o, H a = some o
  | _, _, _, _, .nil, h, r => by simp [data1d] at h; subst h; cases r; exact ⟨_, _, .nil, .nil, by simp, by simp⟩
  | _, _, _, _, .cons (k := k) (d := d) (ds := ds) q1 q2 h0 h1 h2, h, r => by
    simp only [data1d] at h
    cases e : data1 k with
    | none => rw [e] at h; cases h
    | some p =>
      cases e1 : data1 d with
      | none => rw [e, e1] at h; cases h
      | some p1 =>
        cases e' : data1d ds with
        | none => rw [e, e1, e'] at h; cases h
        | some ps =>
          rw [e, e1, e'] at h; cases h
          cases r with
          | cons r1 r2 =>
            obtain ⟨_, r1b, r1c⟩ := r1
            obtain ⟨as, ra, ha⟩ := reads1 I h0 e (show RelV (.ref _) (.ref _) from congrArg Value.ref r1b.symm)
            obtain ⟨bs, rb, hb⟩ := reads1 I h1 e1 r1c
            obtain ⟨as', bs', ra', rb', ha', hb'⟩ := reads1d I h2 e' r2
            exact ⟨as ++ as', bs ++ bs', .cons ra ra', .cons rb rb', fun a h => (List.mem_append.mp h).elim (ha a) (ha' a), fun a h => (List.mem_append.mp h).elim (hb a) (hb' a)⟩
theorem reads1k {pins : List (Addr × Obj)} {σ : L2.St} {H : Hp} {s : Shared} {L Z : List Addr} (I : Inv X pins σ H s) : ∀ {ds : List (PV × PV)} {vs : List (Key × V)} {us : List (Key × Value)} {ps : List (PyData × PyData)} {es : List DictEntry}, Atk X.K X.mg H L Z ds vs → data1d ds = some ps →
    KV vs us → Pairs (mixKind X.prog X.w) es us → ∃ as bs, ReadsAll s.heap (es.map (·.key)) (ps.map (·.1)) as ∧ ReadsAll s.heap (es.map (·.val)) (ps.map (·.2)) bs ∧ (∀ a ∈ as, ∃ o, H a = some o) ∧ ∀ a ∈ bs, ∃ o, H a = some o
  | _, _, _, _, _, .nil, h, r, pr => by simp [data1d] at h; subst h; cases r; cases pr; exact ⟨_, _, .nil, .nil, by simp, by simp⟩
  | _, _, _, _, _, .cons (k := k) (d := d) (ds := ds) h1 h2, h, r, pr => by
    simp only [data1d] at h
    cases e1 : data1 d with
    | none => rw [e1] at h; cases k <;> simp [kPV, data1] at h
    | some p1 =>
      cases e' : data1d ds with
      | none => rw [e1, e'] at h; cases k <;> simp [kPV, data1] at h
      | some ps =>
        cases r with
        | cons r1 r2 =>
          cases pr with
          | cons z1 z2 p2 =>
            obtain ⟨r1a, r1c⟩ := r1
            obtain ⟨bs, rb, hb⟩ := reads1 I h1 e1 r1c
            obtain ⟨as', bs', ra', rb', ha', hb'⟩ := reads1k I h2 e' r2 p2
            rw [e1, e'] at h
            cases k with
            | inl i =>
              simp [kPV, data1] at h
              subst h
              have z1 := (show keyIs _ _ = true from z1)
              rw [← show Sum.inl i = _ from r1a] at z1
              obtain ⟨t, ht⟩ := Value.isInt_shape (k := i) z1
              refine ⟨[] ++ as', bs ++ bs', .cons (show Reads _ (DictEntry.key _) (.int i) [] from ht ▸ .int i t) ra', .cons (show Reads _ (DictEntry.val _) p1 bs from z2 ▸ rb) rb', by simpa using ha', fun a h => (List.mem_append.mp h).elim (hb a) (hb' a)⟩
            | inr x =>
              simp [kPV, data1] at h
              subst h
              have z1 := (show keyIs _ _ = true from z1)
              rw [← show Sum.inr x = _ from r1a] at z1
              obtain ⟨t, ht⟩ := Value.isStrOf_shape (x := x) z1
              refine ⟨[] ++ as', bs ++ bs', .cons (show Reads _ (DictEntry.key _) (.str x) [] from ht ▸ .str x t) ra', .cons (show Reads _ (DictEntry.val _) p1 bs from z2 ▸ rb) rb', by simpa using ha', fun a h => (List.mem_append.mp h).elim (hb a) (hb' a)⟩
end
theorem no_sys {pins : List (Addr × Obj)} {σ : L2.St} {H : Hp} {s : Shared} (I : Inv X pins σ H s) (hy : (X.K.lookup sysModules).isSome = true) : H sysModules = none := by
  obtain ⟨o, ho⟩ := Option.isSome_iff_exists.mp hy
  exact (I.bs _ _ (I.mod.kin _ _ ho)).2
theorem dc_repr (hg : X.A.guards = some []) (hu : X.A.units + 100 < cLine) (hy : (X.K.lookup sysModules).isSome = true) : DC X W (.builtin "repr") vRepr := by
  intro pins s σ H S L Z Q ds xs us I st a r p
  match ds, a, p with
  | [d], a, p =>
    obtain ⟨v, rfl, a'⟩ := a.one
    obtain ⟨u, rfl, ru⟩ := vals1 r
    have go : ∀ (m : PyData) (as : List Addr), Reads s.heap u m as → (m.hasDict = true → sysModules ∉ as) → m.showable = true → m.depth ≤ 64 → m.shown.length ≤ sizeLine → PostV X W σ Z (.ok (.str m.shown) S) H L Q →
        wpAny (model X.prog X.w) X.A (call (.builtin "repr") [u]) (EP X pins σ Q) X.xe s := fun m as rd hs z1 z3 z4 p => by
      have fin := post_val p st (.str _)
      have far : ∀ {b : Addr}, u = .ref b → wpAny (model X.prog X.w) X.A (call (.builtin "repr") [u]) (EP X pins σ Q) X.xe s := fun e => by
        subst e
        exact repr_of_reads' rd z1 hs hg (by omega) (fun _ _ e => e) (fun h' u tk hk => ⟨.str _, H, I.kept (t' := tk) hk, ⟨_, rfl⟩, fin⟩) z4
      cases m with
      | none => cases rd; exact PySem.P.repr_of_none ⟨.str _, H, I.tok _, ⟨_, rfl⟩, fin⟩
      | bool b => cases rd; exact PySem.P.repr_of_bool ⟨.str _, H, I.tok _, ⟨_, rfl⟩, fin⟩
      | int i => cases rd; exact PySem.P.repr_of_int (by simpa [PyData.showable] using z1) ⟨.str _, H, I.tok _, ⟨_, rfl⟩, fin⟩
      | str x => cases rd; exact PySem.P.repr_of_str ⟨.str _, H, I.tok _, ⟨_, rfl⟩, fin⟩ z4
      | list ys =>
        obtain ⟨b, hb⟩ : ∃ b, u = .ref b := by cases rd; exact ⟨_, rfl⟩
        exact far hb
      | tuple ys =>
        obtain ⟨b, hb⟩ : ∃ b, u = .ref b := by cases rd; exact ⟨_, rfl⟩
        exact far hb
      | dict kvs =>
        obtain ⟨b, hb⟩ : ∃ b, u = .ref b := by cases rd; exact ⟨_, rfl⟩
        exact far hb
    have p : PostV X W σ Z (match dataOf S d with
      | some p => if reprOk p then .ok (.str p.shown) S else .bad
      | none => match dataD S d with
        | some p => if reprOkD p then .ok (.str p.shown) S else .bad
        | none => .bad) H L Q := p
    cases h : dataOf S d with
    | some m =>
      rw [h] at p
      have p : PostV X W σ Z (if reprOk m then .ok (.str m.shown) S else .bad) H L Q := p
      by_cases hz : reprOk m
      · rw [if_pos hz] at p
        obtain ⟨z1, z2, z3, z4⟩ := hz
        have hd := dp_at st a' h
        obtain ⟨as, rd⟩ := Dp.reads I m v u hd ru
        exact go m as rd (PyData.noDict_hsm z2) z1 z3 z4 p
      · rw [if_neg hz] at p; exact p.elim
    | none =>
      rw [h] at p
      have p : PostV X W σ Z (match dataD S d with
        | some p => if reprOkD p then .ok (.str p.shown) S else .bad
        | none => .bad) H L Q := p
      cases h1 : dataD S d with
      | none => rw [h1] at p; exact p.elim
      | some m =>
        rw [h1] at p
        have p : PostV X W σ Z (if reprOkD m then .ok (.str m.shown) S else .bad) H L Q := p
        by_cases hz : reprOkD m
        · rw [if_pos hz] at p
          obtain ⟨z1, z3, z4⟩ := hz
          have rd : ∃ as, Reads s.heap u m as ∧ ∀ a ∈ as, ∃ o, H a = some o := by
            unfold dataD at h1
            cases e : lstOf S d with
            | none => rw [e] at h1; exact reads1 I a' h1 ru
            | some xs =>
              rw [e] at h1
              obtain ⟨q, vs, rfl, e1, e2⟩ := lst_at st a' e
              cases ru
              cases e' : data1s xs with
              | none => simp only [e'] at h1; cases h1
              | some ps =>
                simp only [e'] at h1; cases h1
                obtain ⟨z, its, n, rv, ho⟩ := I.hok _ _ e1
                obtain ⟨as, ra, ha⟩ := reads1s I e2 e' rv
                refine ⟨_ :: as, .list ho rfl rfl (by simpa using ra), fun a h => ?_⟩
                rcases List.mem_cons.mp h with rfl | h
                · exact ⟨_, e1⟩
                · exact ha a h
          obtain ⟨as, rd, ha⟩ := rd
          exact go m as rd (fun _ hm => by
            obtain ⟨o, e⟩ := ha _ hm
            rw [no_sys I hy] at e; cases e) z1 z3 z4 p
        · rw [if_neg hz] at p; exact p.elim
  | [], _, p => exact (show False from p).elim
  | _ :: _ :: _, _, p => exact (show False from p).elim
end
end Dn

set_option Elab.async false
set_option linter.all false
set_option maxRecDepth 100000
set_option maxHeartbeats 4000000
namespace Dn
open PySem PySem.Spec PyProof.Rows L2

/-! ### flows -/
inductive Fl where
  | nx (r : Env1) | rt (d : PV) | bk (r : Env1) | ct (r : Env1)
abbrev SM := Env1 → Store → Res Fl
abbrev kW (W : XK) : WX := fun c d _ H => W c d H
def PostS (X : Cx) (W : XK) (Z : List Addr) (x : Res Fl) (H : Hp) (L : List Addr) (D : Ends) : Prop :=
  match x with
  | .ok (.nx r) S' => ∀ σ' H' L', Ext H L H' L' → Slots X.K X.mg H' L' Z r σ' → Sta X.K X.mg H' L' Z S' → D.nx σ' H'
  | .ok (.bk r) S' => ∀ σ' H' L', Ext H L H' L' → Slots X.K X.mg H' L' Z r σ' → Sta X.K X.mg H' L' Z S' → D.bk σ' H'
  | .ok (.ct r) S' => ∀ σ' H' L', Ext H L H' L' → Slots X.K X.mg H' L' Z r σ' → Sta X.K X.mg H' L' Z S' → D.ct σ' H'
  | .ok (.rt d) S' => ∀ v H' L', Ext H L H' L' → Sta X.K X.mg H' L' Z S' → At X.K X.mg H' L' Z d v → D.rt v H'
  | .err c S' => ∀ H' L' cls, Ext H L H' L' → Sta X.K X.mg H' L' Z S' → X.mg c = some cls → W cls none H'
  | .bad => False
theorem PostS.ext {X : Cx} {W : XK} {Z : List Addr} {x : Res Fl} {H H1 : Hp} {L L1 : List Addr} {D : Ends} (h : PostS X W Z x H L D) (e : Ext H L H1 L1) : PostS X W Z x H1 L1 D := by
  cases x with
  | ok f S' => cases f with
    | nx r => exact fun σ' H' L' y => h σ' H' L' (e.trans y)
    | bk r => exact fun σ' H' L' y => h σ' H' L' (e.trans y)
    | ct r => exact fun σ' H' L' y => h σ' H' L' (e.trans y)
    | rt d => exact fun v H' L' y => h v H' L' (e.trans y)
  | err c S' => exact fun H' L' cls y => h H' L' cls (e.trans y)
  | bad => exact h
def DS (X : Cx) (W : XK) (c : Stmt) (g : SM) : Prop := Jd (
  ∀ (pins : List (Addr × Obj)) (s : Shared) (σ : L2.St) (H : Hp) (r : Env1) (S : Store) (L Z : List Addr) (D : Ends), Inv X pins σ H s → Slots X.K X.mg H L Z r σ → Sta X.K X.mg H L Z S → PostS X W Z (g r S) H L D →
    wpAny (model X.prog X.w) X.A (exec c X.env) (SP X pins D) X.xe s)
def DSs (X : Cx) (W : XK) (c : List Stmt) (g : SM) : Prop := Jd (
  ∀ (pins : List (Addr × Obj)) (s : Shared) (σ : L2.St) (H : Hp) (r : Env1) (S : Store) (L Z : List Addr) (D : Ends), Inv X pins σ H s → Slots X.K X.mg H L Z r σ → Sta X.K X.mg H L Z S → PostS X W Z (g r S) H L D →
    wpAny (model X.prog X.w) X.A (execs c X.env) (SP X pins D) X.xe s)

/-! ### the readings of these -/
abbrev rdE (X : Cx) (W : WX) (f : EM) : TE := fun σ H Q => ∃ r S L Z, Slots X.K X.mg H L Z r σ ∧ Sta X.K X.mg H L Z S ∧ PostV X W σ Z (f r S) H L Q
abbrev rdA (X : Cx) (W : WX) (f : LM) : TA := fun σ H Q => ∃ r S L Z, Slots X.K X.mg H L Z r σ ∧ Sta X.K X.mg H L Z S ∧ PostL X W σ Z (f r S) H L Q
abbrev rdT (X : Cx) (W : WX) (f : BM) : TT := fun σ H Q => ∃ r S L Z, Slots X.K X.mg H L Z r σ ∧ Sta X.K X.mg H L Z S ∧ PostB X W σ Z (f r S) H L Q
abbrev rdS (X : Cx) (W : XK) (g : SM) : TS := fun D σ H => ∃ r S L Z, Slots X.K X.mg H L Z r σ ∧ Sta X.K X.mg H L Z S ∧ PostS X W Z (g r S) H L D
section
variable {X : Cx} {W : WX} {V' : XK} {e : Expr} {es : List Expr} {f : EM} {la : LM} {b : BM} {c : Stmt} {cs : List Stmt} {g h : SM}
theorem De.pe (h : De X W e f) : PE X e (rdE X W f) := ⟨fun pins s σ H Q I ⟨r, S, L, Z, sl, st, p⟩ => h.out pins s σ H r S L Z Q I sl st p⟩
theorem DA.pa (h : DA X W es la) : PA X es (rdA X W la) := ⟨fun pos pins s σ H Q I ⟨r, S, L, Z, sl, st, p⟩ => h.out pos pins s σ H r S L Z Q I sl st p⟩
theorem DT.pt (h : DT X W e b) : PT X e (rdT X W b) := ⟨fun pins s σ H Q I ⟨r, S, L, Z, sl, st, p⟩ => h.out pins s σ H r S L Z Q I sl st p⟩
theorem DSs.pss (h : DSs X V' cs g) : PSs X cs (rdS X V' g) := ⟨fun pins s σ H D I ⟨r, S, L, Z, sl, st, p⟩ => h.out pins s σ H r S L Z D I sl st p⟩
theorem DS.ps (h : DS X V' c g) : PS X c (rdS X V' g) := ⟨fun pins s σ H D I ⟨r, S, L, Z, sl, st, p⟩ => h.out pins s σ H r S L Z D I sl st p⟩
end

/-! ### blocks -/
def sNil : SM := fun r S => .ok (.nx r) S
def sSeq (g h : SM) : SM := fun r S => (g r S).bind fun f S1 => match f with
  | .nx r1 => h r1 S1
  | f => .ok f S1
def sRet (a : EM) : SM := fun r S => (a r S).bind fun d S1 => .ok (.rt d) S1
def sRetN : SM := fun _ S => .ok (.rt .non) S
def sExpr (a : EM) : SM := fun r S => (a r S).bind fun _ S1 => .ok (.nx r) S1
def sIf (t : BM) (g h : SM) : SM := fun r S => (t r S).bind fun k S1 => if k = true then g r S1 else h r S1
def sSet (i : Nat) (a : EM) : SM := fun r S => (a r S).bind fun d S1 => .ok (.nx (r.set i (some d))) S1
def sBrk : SM := fun r S => .ok (.bk r) S
def sCnt : SM := fun r S => .ok (.ct r) S
def sBad : SM := fun _ _ => .bad
section
variable {X : Cx} {W : XK} {c : Stmt} {cs : List Stmt} {g h : SM} {e : Expr} {fe : EM} {bt : BM} {pos : Pos}
theorem Slots.set {K : PySem.W.Frag} {mg : Str → Option Value} {H : Hp} {L Z : List Addr} {r : Env1} {σ : L2.St} {i : Nat} {d : PV} {v : V} (sl : Slots K mg H L Z r σ) (a : At K mg H L Z d v) (hi : i < σ.length) : Slots K mg H L Z (r.set i (some d)) (σ.set i (some v)) := fun j d' e => by
  by_cases hj : i = j
  · subst hj
    by_cases hr : i < r.length
    · rw [List.getElem?_set_self hr] at e
      cases e
      exact ⟨v, by rw [List.getElem?_set_self hi], a⟩
    · rw [List.getElem?_eq_none (by simpa using hr)] at e; cases e
  · rw [List.getElem?_set_ne hj] at e
    obtain ⟨v', e1, a1⟩ := sl j d' e
    exact ⟨v', by rw [List.getElem?_set_ne hj]; exact e1, a1⟩
theorem DSs.nil : DSs X W [] sNil := Jd.mk fun pins s σ H r S L Z D I sl st p => wpAny_execs_nil ⟨σ, H, I, p σ H L (Ext.refl H L) sl st⟩
theorem DSs.one (h1 : DS X W c g) : DSs X W [c] g := by
  refine Jd.mk ?_
  intro pins s σ H r S L Z D I sl st p
  refine wpAny_execs_cons (thn (h1.out pins s σ H r S L Z D I sl st p) fun f s1 q => ?_)
  cases f with
  | next => exact wpAny_execs_nil q
  | ret v => exact q
  | brk => exact q
  | cont => exact q
theorem DSs.cons (h1 : DS X W c g) (h2 : DSs X W cs h) : DSs X W (c :: cs) (sSeq g h) := by
  refine Jd.mk ?_
  intro pins s σ H r S L Z D I sl st p
  have go : ∀ D1 : Ends, PostS X W Z (g r S) H L D1 → (∀ f s1, SP X pins D1 f s1 → (match f with
      | .next => wpAny (model X.prog X.w) X.A (execs cs X.env) (SP X pins D) X.xe s1
      | f => SP X pins D f s1)) → wpAny (model X.prog X.w) X.A (execs (c :: cs) X.env) (SP X pins D) X.xe s := fun D1 p1 k => by
    refine wpAny_execs_cons (thn (h1.out pins s σ H r S L Z D1 I sl st p1) fun f s1 q => ?_)
    have := k f s1 q
    cases f <;> exact this
  unfold sSeq at p
  cases q : g r S with
  | bad => rw [q] at p; exact p.elim
  | err cl S1 =>
    rw [q] at p
    refine go { D with nx := fun _ _ => False } (by rw [q]; exact p) fun f s1 hs => ?_
    cases f with
    | next => obtain ⟨_, _, _, z⟩ := hs; exact z.elim
    | ret v => exact hs
    | brk => exact hs
    | cont => exact hs
  | ok f S1 =>
    rw [q] at p
    cases f with
    | nx r1 =>
      have p : PostS X W Z (h r1 S1) H L D := p
      refine go { D with nx := fun σ' H' => ∃ L', Ext H L H' L' ∧ Slots X.K X.mg H' L' Z r1 σ' ∧ Sta X.K X.mg H' L' Z S1 } (by rw [q]; exact fun σ' H' L' a b c => ⟨L', a, b, c⟩) fun f s1 hs => ?_
      cases f with
      | next =>
        obtain ⟨σ', H', I', L', x, sl', st'⟩ := hs
        exact h2.out pins s1 σ' H' r1 S1 L' Z D I' sl' st' (p.ext x)
      | ret v => exact hs
      | brk => exact hs
      | cont => exact hs
    | rt d =>
      refine go { D with nx := fun _ _ => False } (by rw [q]; exact p) fun f s1 hs => ?_
      cases f with
      | next => obtain ⟨_, _, _, z⟩ := hs; exact z.elim
      | ret v => exact hs
      | brk => exact hs
      | cont => exact hs
    | bk d =>
      refine go { D with nx := fun _ _ => False } (by rw [q]; exact p) fun f s1 hs => ?_
      cases f with
      | next => obtain ⟨_, _, _, z⟩ := hs; exact z.elim
      | ret v => exact hs
      | brk => exact hs
      | cont => exact hs
    | ct d =>
      refine go { D with nx := fun _ _ => False } (by rw [q]; exact p) fun f s1 hs => ?_
      cases f with
      | next => obtain ⟨_, _, _, z⟩ := hs; exact z.elim
      | ret v => exact hs
      | brk => exact hs
      | cont => exact hs
/-- the run of an expression within a statement -/
theorem De.stepS (ha : De X (kW W) e fe) {pins : List (Addr × Obj)} {s : Shared} {σ : L2.St} {H : Hp} {r : Env1} {S : Store} {L Z : List Addr} {D : Ends} (I : Inv X pins σ H s) (sl : Slots X.K X.mg H L Z r σ) (st : Sta X.K X.mg H L Z S) {k : PV → Store → Res Fl}
    (p : PostS X W Z ((fe r S).bind k) H L D) {Qf : Value → Shared → Prop}
    (hk : ∀ d S1 v u s1 H1 L1, Inv X pins σ H1 s1 → RelV v u → Slots X.K X.mg H1 L1 Z r σ → Sta X.K X.mg H1 L1 Z S1 → Ext H L H1 L1 → At X.K X.mg H1 L1 Z d v → PostS X W Z (k d S1) H1 L1 D → Qf u s1) :
    wpAny (model X.prog X.w) X.A (eval e X.env) Qf X.xe s := by
  cases q : fe r S with
  | ok d S1 =>
    rw [q] at p
    refine thn (ha.out pins s σ H r S L Z (fun v H1 => ∃ L1, Ext H L H1 L1 ∧ Sta X.K X.mg H1 L1 Z S1 ∧ At X.K X.mg H1 L1 Z d v) I sl st (by rw [q]; exact fun v H' L' x y z => ⟨L', x, y, z⟩)) fun u s1 ⟨v, H1, I1, rv, L1, x1, st1, a1⟩ => ?_
    exact hk d S1 v u s1 H1 L1 I1 rv (sl.mono x1) st1 x1 a1 (p.ext x1)
  | err c S1 =>
    rw [q] at p
    exact thn (ha.out pins s σ H r S L Z (fun v H1 => False) I sl st (by rw [q]; exact p)) fun u s1 ⟨v, H1, _, _, z⟩ => z.elim
  | bad => rw [q] at p; exact p.elim
theorem DT.stepS (ha : DT X (kW W) e bt) {pins : List (Addr × Obj)} {s : Shared} {σ : L2.St} {H : Hp} {r : Env1} {S : Store} {L Z : List Addr} {D : Ends} (I : Inv X pins σ H s) (sl : Slots X.K X.mg H L Z r σ) (st : Sta X.K X.mg H L Z S) {k : Bool → Store → Res Fl}
    (p : PostS X W Z ((bt r S).bind k) H L D) {Qf : Bool → Shared → Prop}
    (hk : ∀ d S1 s1 H1 L1, Inv X pins σ H1 s1 → Slots X.K X.mg H1 L1 Z r σ → Sta X.K X.mg H1 L1 Z S1 → Ext H L H1 L1 → PostS X W Z (k d S1) H1 L1 D → Qf d s1) :
    wpAny (model X.prog X.w) X.A (isTrue e X.env (eval e X.env)) Qf X.xe s := by
  cases q : bt r S with
  | ok d S1 =>
    rw [q] at p
    refine thn (ha.out pins s σ H r S L Z (fun v H1 => d = v ∧ ∃ L1, Ext H L H1 L1 ∧ Sta X.K X.mg H1 L1 Z S1) I sl st (by rw [q]; exact fun v H' L' x y z => ⟨z, L', x, y⟩)) fun b s1 ⟨H1, I1, e1, L1, x1, st1⟩ => ?_
    subst e1
    exact hk d S1 s1 H1 L1 I1 (sl.mono x1) st1 x1 (p.ext x1)
  | err c S1 =>
    rw [q] at p
    exact thn (ha.out pins s σ H r S L Z (fun v H1 => False) I sl st (by rw [q]; exact p)) fun u s1 ⟨H1, _, z⟩ => z.elim
  | bad => rw [q] at p; exact p.elim
theorem DA.stepS {es : List Expr} {la : LM} (ha : DA X (kW W) es la) (pos : Pos) {pins : List (Addr × Obj)} {s : Shared} {σ : L2.St} {H : Hp} {r : Env1} {S : Store} {L Z : List Addr} {D : Ends} (I : Inv X pins σ H s) (sl : Slots X.K X.mg H L Z r σ) (st : Sta X.K X.mg H L Z S) {k : List PV → Store → Res Fl}
    (p : PostS X W Z ((la r S).bind k) H L D) {Qf : List Value → Shared → Prop}
    (hk : ∀ ds S1 vs us s1 H1 L1, Inv X pins σ H1 s1 → Vals vs us → Slots X.K X.mg H1 L1 Z r σ → Sta X.K X.mg H1 L1 Z S1 → Ext H L H1 L1 → Ats X.K X.mg H1 L1 Z ds vs → PostS X W Z (k ds S1) H1 L1 D → Qf us s1) :
    wpAny (model X.prog X.w) X.A (spliced (backTo pos (starEach es X.env))) Qf X.xe s := by
  cases q : la r S with
  | ok d S1 =>
    rw [q] at p
    refine thn (ha.out pos pins s σ H r S L Z (fun v H1 => ∃ L1, Ext H L H1 L1 ∧ Sta X.K X.mg H1 L1 Z S1 ∧ Ats X.K X.mg H1 L1 Z d v) I sl st (by rw [q]; exact fun v H' L' x y z => ⟨L', x, y, z⟩)) fun u s1 ⟨v, H1, I1, rv, L1, x1, st1, a1⟩ => ?_
    exact hk d S1 v u s1 H1 L1 I1 rv (sl.mono x1) st1 x1 a1 (p.ext x1)
  | err c S1 =>
    rw [q] at p
    exact thn (ha.out pos pins s σ H r S L Z (fun v H1 => False) I sl st (by rw [q]; exact p)) fun u s1 ⟨v, H1, _, _, z⟩ => z.elim
  | bad => rw [q] at p; exact p.elim
theorem DS.ret (ha : De X (kW W) e fe) : DS X W (.Return (some e) pos) (sRet fe) := by
  refine Jd.mk ?_
  intro pins s σ H r S L Z D I sl st p
  exact wpAny_Return_some (ha.stepS I sl st p fun d S1 v u s1 H1 L1 I1 r1 sl1 st1 x1 a1 p1 => ⟨v, σ, H1, I1, r1, p1 v H1 L1 (Ext.refl H1 L1) st1 a1⟩)
theorem DS.retN : DS X W (.Return none pos) sRetN := Jd.mk fun pins s σ H r S L Z D I sl st p => wpAny_Return_none ⟨.non, σ, H, I, rfl, p _ H L (Ext.refl H L) st .non⟩
theorem DS.pass : DS X W (.Pass pos) sNil := Jd.mk fun pins s σ H r S L Z D I sl st p => wpAny_Pass ⟨σ, H, I, p σ H L (Ext.refl H L) sl st⟩
theorem DS.brk : DS X W (.Break pos) sBrk := Jd.mk fun pins s σ H r S L Z D I sl st p => wpAny_Break ⟨σ, H, I, p σ H L (Ext.refl H L) sl st⟩
theorem DS.cnt : DS X W (.Continue pos) sCnt := Jd.mk fun pins s σ H r S L Z D I sl st p => wpAny_Continue ⟨σ, H, I, p σ H L (Ext.refl H L) sl st⟩
theorem DS.never : DS X W c sBad := Jd.mk fun pins s σ H r S L Z D I sl st p => p.elim
theorem DS.doc {x j pos'} : DS X W (.Expr (.Constant (.str x) j pos) pos') sNil := Jd.mk fun pins s σ H r S L Z D I sl st p => (ps_doc).run pins s σ H D I (p σ H L (Ext.refl H L) sl st)
theorem DS.expr (ha : De X (kW W) e fe) (hs : swapsWith e none pos.line X.env = pure false := by rfl) : DS X W (.Expr e pos) (sExpr fe) := by
  refine Jd.mk ?_
  intro pins s σ H r S L Z D I sl st p
  exact wpAny_Expr_any (ha.stepS I sl st p fun d S1 v u s1 H1 L1 I1 r1 sl1 st1 x1 a1 p1 => ⟨σ, H1, I1, p1 σ H1 L1 (Ext.refl H1 L1) sl1 st1⟩) I.quiet hs
theorem DS.ite {a b : List Stmt} (hc : DT X (kW W) e bt) (ha : DSs X W a g) (hb : DSs X W b h) : DS X W (.If e a b pos) (sIf bt g h) := by
  refine Jd.mk ?_
  intro pins s σ H r S L Z D I sl st p
  refine wpAny_If (hc.stepS I sl st p fun k S1 s1 H1 L1 I1 sl1 st1 x1 p1 => ?_)
  cases k with
  | true => exact ha.out pins s1 σ H1 r S1 L1 Z D I1 sl1 st1 p1
  | false => exact hb.out pins s1 σ H1 r S1 L1 Z D I1 sl1 st1 p1
theorem lt_of_N {pins : List (Addr × Obj)} {s : Shared} {σ : L2.St} {H : Hp} {i : Nat} {x : Str} (I : Inv X pins σ H s) (hi : X.N[i]? = some x) : i < σ.length := by
  rw [I.len]; exact (List.getElem?_eq_some_iff.mp hi).1
/-- x = e -/
theorem DS.set {i : Nat} {x : Str} {pos' : Pos} (hN : X.N.Nodup) (hi : X.N[i]? = some x) (hx : Loc X.env.scope x) (he : De X (kW W) e fe) (hs : swapsWith e (some (.Name x pos')) pos.line X.env = pure false := by rfl)
    (hf : X.fn x = true ∨ X.env.scope.names.lookup x = some .local := by first | exact .inl rfl | exact .inr rfl | assumption) : DS X W (.Assign [.Name x pos'] e pos) (sSet i fe) := by
  refine Jd.mk ?_
  intro pins s σ H r S L Z D I sl st p
  refine wpAny_Assign_Name (he.stepS I sl st p fun d S1 v u s1 H1 L1 I1 r1 sl1 st1 x1 a1 p1 => ?_) hs
  exact store_ok I1 hN hi hx r1 (fun s2 I2 => ⟨_, H1, I2, p1 _ H1 L1 (Ext.refl H1 L1) (sl1.set a1 (lt_of_N I1 hi)) st1⟩) hf
end

/-! ### mutable lists: a name that holds a new list as an object; xs[i] = e; xs.append(e) -/
/-- a new list stands at its place -/
theorem Sta.own {K : PySem.W.Frag} {mg : Str → Option Value} {H : Hp} {L Z : List Addr} {S : Store} {p : Addr} {ds : List PV} {vs : List V} (st : Sta K mg H L Z S) (e : H p = some (.lst vs)) (hL : p ∉ L) (hZ : p ∉ Z) (a : Ats K mg H (L ++ [p]) Z ds vs)
    (h : ∀ (i : Nat) c b, S[i]? = some c → L[i]? = some b → CellAt K mg H (L ++ [p]) Z b c) : Sta K mg H (L ++ [p]) Z (S ++ [.lst ds]) := by
  refine ⟨?_, by simp [st.len], fun i c b h1 h2 => ?_, st.zt, fun b hb => ?_, st.tabs⟩
  · rw [List.nodup_append]
    exact ⟨st.nd, by simp, fun b hb c hc => by simp at hc; subst hc; exact fun z => hL (z ▸ hb)⟩
  · by_cases hi : i < S.length
    · rw [List.getElem?_append_left hi] at h1
      rw [List.getElem?_append_left (by rw [← st.len]; exact hi)] at h2
      exact h i c b h1 h2
    · have hi' : i = S.length := by
        have := (List.getElem?_eq_some_iff.mp h1).1
        simp at this; omega
      subst hi'
      rw [List.getElem?_append_right (Nat.le_refl _)] at h1
      rw [st.len, List.getElem?_append_right (Nat.le_refl _)] at h2
      simp at h1 h2
      subst h1 h2
      exact ⟨vs, e, a⟩
  · rcases List.mem_append.mp hb with hb | hb
    · exact st.dj b hb
    · simp at hb; subst hb; exact hZ
def cellOf (S : Store) : PV → Option Nat
  | .loc i => some i
  | _ => none
/-- the value of a list display or comprehension becomes an object -/
def asCell (d : PV) (S : Store) : Res PV := match d with
  | .lst ds => .ok (.loc S.length) (S ++ [.lst ds])
  | _ => .bad
end Dn

set_option Elab.async false
set_option linter.all false
set_option maxRecDepth 100000
set_option maxHeartbeats 4000000
namespace Dn
open PySem PySem.Spec PyProof.Rows L2

/-! ### new lists -/
def PostF (X : Cx) (W : WX) (σ : L2.St) (Z : List Addr) (x : Res (List PV)) (H : Hp) (L : List Addr) (Q : VK) : Prop :=
  match x with
  | .ok ds S' => ∀ vs p H' L', Ext H L H' L' → Sta X.K X.mg H' L' Z S' → Ats X.K X.mg H' L' Z ds vs → H' p = none → Q (.ref p) (upd H' p (.lst vs))
  | .err c S' => ∀ H' L' cls, Ext H L H' L' → Sta X.K X.mg H' L' Z S' → X.mg c = some cls → W cls none σ H'
  | .bad => False
theorem PostF.ext {X : Cx} {W : WX} {σ : L2.St} {Z : List Addr} {x : Res (List PV)} {H H1 : Hp} {L L1 : List Addr} {Q : VK} (h : PostF X W σ Z x H L Q) (e : Ext H L H1 L1) : PostF X W σ Z x H1 L1 Q := by
  cases x with
  | ok f S' => exact fun vs p H' L' y => h vs p H' L' (e.trans y)
  | err c S' => exact fun H' L' cls y => h H' L' cls (e.trans y)
  | bad => exact h
def DF (X : Cx) (W : WX) (e : Expr) (f : LM) : Prop := Jd (
  ∀ (pins : List (Addr × Obj)) (s : Shared) (σ : L2.St) (H : Hp) (r : Env1) (S : Store) (L Z : List Addr) (Q : VK), Inv X pins σ H s → Slots X.K X.mg H L Z r σ → Sta X.K X.mg H L Z S → PostF X W σ Z (f r S) H L Q →
    wpAny (model X.prog X.w) X.A (eval e X.env) (EP X pins σ Q) X.xe s)
def eNew (f : LM) : EM := fun r S => (f r S).bind fun ds S1 => .ok (.lst ds) S1
def eCell (f : LM) : EM := fun r S => (f r S).bind fun ds S1 => .ok (.loc S1.length) (S1 ++ [.lst ds])
def lDis (a : LM) : LM := fun r S => (a r S).bind fun ds S1 => if ds.length ≤ sizeLine then .ok ds S1 else .bad
theorem Ext.own {H : Hp} {L : List Addr} {p : Addr} {o : HO} (n : H p = none) : Ext H L (upd H p o) (L ++ [p]) :=
  ⟨⟨[p], rfl, fun a h => by simp at h; subst h; exact n⟩, fun a u h _ _ => by rw [upd_ne (ne_of_none h n)]; exact h, fun a u h => ⟨u, by rw [upd_ne (ne_of_none h n)]; exact h⟩⟩
theorem Sta.new {K : PySem.W.Frag} {mg : Str → Option Value} {H : Hp} {L Z : List Addr} {S : Store} {p : Addr} {ds : List PV} {vs : List V} (st : Sta K mg H L Z S) (n : H p = none) (a : Ats K mg H L Z ds vs) : Sta K mg (upd H p (.lst vs)) (L ++ [p]) Z (S ++ [.lst ds]) := by
  have x : Ext H L (upd H p (.lst vs)) (L ++ [p]) := Ext.own n
  refine Sta.own (st.laid n) upd_same (st.fresh n).1 (st.fresh n).2 (a.mono x) fun i c b h1 h2 => ?_
  obtain ⟨u, hu⟩ := st.has (List.mem_of_getElem? h2)
  exact (st.cells i c b h1 h2).mono x (by rw [upd_ne (ne_of_none hu n)])
section
variable {X : Cx} {W : WX} {V' : XK} {a b c e : Expr} {fa fb fc : EM} {ba bb : BM} {es : List Expr} {la : LM} {pos : Pos}
theorem De.new (h : DF X W e la) : De X W e (eNew la) := by
  refine Jd.mk ?_
  intro pins s σ H r S L Z Q I sl st p
  refine h.out pins s σ H r S L Z Q I sl st ?_
  unfold eNew at p
  cases q : la r S with
  | ok ds S1 =>
    rw [q] at p
    exact fun vs q' H' L' x st' at' n => post_lst (p.ext x) st' at' q' n
  | err c S1 => rw [q] at p; exact p
  | bad => rw [q] at p; exact p
/-- the new list as an object of its own -/
theorem De.cell (h : DF X W e la) : De X W e (eCell la) := by
  refine Jd.mk ?_
  intro pins s σ H r S L Z Q I sl st p
  refine h.out pins s σ H r S L Z Q I sl st ?_
  unfold eCell at p
  cases q : la r S with
  | ok ds S1 =>
    rw [q] at p
    have p : PostV X W σ Z (.ok (.loc S1.length) (S1 ++ [.lst ds])) H L Q := p
    exact fun vs q' H' L' x st' at' n => p _ _ (L' ++ [q']) (x.trans (Ext.own n)) (st'.new n at') (.loc (by rw [st'.len, List.getElem?_append_right (Nat.le_refl _)]; simp))
  | err c S1 => rw [q] at p; exact p
  | bad => rw [q] at p; exact p
theorem DF.lst (h : DA X W es la) : DF X W (.List es pos) (lDis la) := by
  refine Jd.mk ?_
  intro pins s σ H r S L Z Q I sl st p
  unfold lDis at p
  cases q : la r S with
  | err c S1 =>
    rw [q] at p
    refine wpAny_List_spliced (thn (h.out pos pins s σ H r S L Z (fun _ _ => False) I sl st (by rw [q]; exact p)) fun us s1 ⟨_, _, _, _, z⟩ => z.elim)
  | bad => rw [q] at p; exact p.elim
  | ok ds S1 =>
    rw [q] at p
    have p : PostF X W σ Z (if ds.length ≤ sizeLine then .ok ds S1 else .bad) H L Q := p
    by_cases hz : ds.length ≤ sizeLine
    · rw [if_pos hz] at p
      refine wpAny_List_spliced (thn (h.out pos pins s σ H r S L Z (fun v H1 => ∃ L1, Ext H L H1 L1 ∧ Sta X.K X.mg H1 L1 Z S1 ∧ Ats X.K X.mg H1 L1 Z ds v) I sl st (by rw [q]; exact fun v H' L' x y z => ⟨L', x, y, z⟩)) fun us s1 ⟨xs, H1, I1, r1, L1, x1, st1, a1⟩ => ?_)
      have hl := a1.len
      have hf : H1 s1.heap.objs.size = none := I1.hok.fresh (Nat.le_refl _)
      refine ⟨by rw [← r1.length, ← hl]; exact hz, .ref s1.heap.objs.size, upd H1 s1.heap.objs.size (.lst xs), I1.laid (t' := s1.toks) (fun b u e => Heap.get?_push_of_some _ e) (Nat.le_refl _) ?_, rfl, p xs _ H1 L1 x1 st1 a1 hf⟩
      exact ⟨by rw [← hl]; exact hz, us, 0, r1, Heap.get?_push_size _ rfl⟩
    · rw [if_neg hz] at p; exact p.elim

/-! ### a store into a list object -/
theorem Sta.put {K : PySem.W.Frag} {mg : Str → Option Value} {H : Hp} {L Z : List Addr} {S : Store} {k : Nat} {p : Addr} {ds ds' : List PV} {vs' : List V} (st : Sta K mg H L Z S) (e : S[k]? = some (.lst ds)) (hk : L[k]? = some p) (a : Ats K mg H L Z ds' vs') :
    Ext H L (upd H p (.lst vs')) L ∧ Sta K mg (upd H p (.lst vs')) L Z (S.set k (.lst ds')) := by
  have hp : p ∈ L := List.mem_of_getElem? hk
  obtain ⟨vs, h1, _⟩ := st.cells k _ p e hk
  have x : Ext H L (upd H p (.lst vs')) L := by
    refine ⟨⟨[], by simp, fun _ h => nomatch h⟩, fun b u h hm _ => ?_, fun b u h => ?_⟩
    · by_cases hb : b = p
      · subst hb; rw [h1] at h; cases h; exact absurd trivial (hm hp)
      · rw [upd_ne hb]; exact h
    · by_cases hb : b = p
      · subst hb; exact ⟨_, upd_same⟩
      · exact ⟨u, by rw [upd_ne hb]; exact h⟩
  refine ⟨x, st.nd, by simp [st.len], fun i c b h2 h3 => ?_, fun b h => ?_, st.dj, fun p' hp' => tab_but (st.tabs p' hp') h1 fun a ha => upd_ne ha⟩
  · by_cases hi : k = i
    · subst hi
      rw [hk] at h3; cases h3
      have hl : k < S.length := (List.getElem?_eq_some_iff.mp e).1
      rw [List.getElem?_set_self hl] at h2; cases h2
      exact ⟨vs', upd_same, a.mono x⟩
    · rw [List.getElem?_set_ne hi] at h2
      have hb : b ≠ p := fun z => by
        subst z
        obtain ⟨n1, e1⟩ := List.getElem?_eq_some_iff.mp hk
        obtain ⟨n2, e2⟩ := List.getElem?_eq_some_iff.mp h3
        exact hi ((List.getElem_inj st.nd).mp (e1.trans e2.symm))
      exact (st.cells i c b h2 h3).mono x (by rw [upd_ne hb])
  · obtain ⟨u, hu⟩ := st.zt b h
    by_cases hb : b = p
    · subst hb; exact ⟨_, upd_same⟩
    · exact ⟨u, by rw [upd_ne hb]; exact hu⟩
def putIx (o i d : PV) (r : Env1) (S : Store) : Res Fl := match o with
  | .loc k => (match S[k]? with
    | some (.lst ds) => (match i with
      | .int j => (match ixN ds.length j with
        | some m => .ok (.nx r) (S.set k (.lst (ds.set m d)))
        | none => .bad)
      | _ => .bad)
    | _ => .bad)
  | _ => .bad
def sPut (o i v : EM) : SM := fun r S => (v r S).bind fun d S1 => (o r S1).bind fun x S2 => (i r S2).bind fun y S3 => putIx x y d r S3
theorem DS.put {o i : Expr} {fo fi fv : EM} {tpos : Pos} (hv : De X (kW V') e fv) (ho : De X (kW V') o fo) (hi : De X (kW V') i fi) (hs : swapsWithSole [.Subscript o i tpos] e pos.line X.env = pure false := by rfl) (hw : swappedStores [.Subscript o i tpos] e X.env = pure none := by rfl)
    (h1 : (assignEach [.Subscript o i tpos] X.env).map (·.2) = [assign (.Subscript o i tpos) X.env] := by rfl)
    (ha : ∀ v, assign (.Subscript o i tpos) X.env v = (do
      let ov ← holding [v] (eval o X.env)
      let iv ← holding [v, ov] (eval i X.env)
      standAt tpos
      holding [v, ov, iv] (setItem ov iv v)
      release [v, ov, iv] []) := by intro _; rfl) : DS X V' (.Assign [.Subscript o i tpos] e pos) (sPut fo fi fv) := by
  refine Jd.mk ?_
  intro pins s σ H r S L Z D I sl st p
  refine wpAny_Assign_stores (hv.stepS I sl st p fun d S1 x u s1 H1 L1 I1 r1 sl1 st1 x1 a1 p1 => ?_) hs hw
  rw [h1]
  show wpAny _ _ (assign (.Subscript o i tpos) X.env u) _ _ _
  rw [ha]
  refine wpAny_bind (wpAny_holding (ho.stepS I1 sl1 st1 p1 fun y S2 yv ov s2 H2 L2 I2 r2 sl2 st2 x2 a2 p2 => ?_))
  refine wpAny_bind (wpAny_holding (hi.stepS I2 sl2 st2 p2 fun z S3 zv iv s3 H3 L3 I3 r3 sl3 st3 x3 a3 p3 => ?_))
  refine wpAny_bind (wpAny_standAt (wpAny_bind (wpAny_holding ?_)))
  have a1 := (a1.mono x2).mono x3
  have a2 := a2.mono x3
  unfold putIx at p3
  cases y with
  | loc k =>
    cases hc : S3[k]? with
    | none => simp only [hc] at p3; exact p3.elim
    | some cl =>
      cases cl with
      | lst ds =>
        simp only [hc] at p3
        cases z with
        | int j =>
          simp only at p3
          cases hm : ixN ds.length j with
          | none => simp only [hm] at p3; exact p3.elim
          | some m =>
            simp only [hm] at p3
            cases a2 with
            | loc hk =>
              cases a3
              obtain ⟨vs, e1, b1⟩ := st3.cells k _ _ hc hk
              have b2 := b1.set a1 m
              obtain ⟨x4, st4⟩ := st3.put hc hk b2
              refine thn (set_list pins s3 σ H3 _ _ x ov iv u (fun H' => H' = upd H3 _ (.lst (vs.set m x))) I3 r2 r3 r1 ⟨_, vs, j, m, rfl, rfl, e1, by rw [← b1.len]; exact hm, rfl⟩) fun _ s4 ⟨H4, I4, e4⟩ => ?_
              subst e4
              exact wpAny_release ⟨σ, _, I4, p3 σ _ L3 x4 (sl3.mono x4) st4⟩
        | _ => exact (show False from p3).elim
      | ins nm fs => simp only [hc] at p3; exact p3.elim
      | dic kvs ep => simp only [hc] at p3; exact p3.elim
  | _ => exact (show False from p3).elim

/-! ### methods of built-in types -/
def DMt (X : Cx) (W : WX) (T id : String) (g : PV → List PV → Store → Res PV) : Prop :=
  ∀ (pins : List (Addr × Obj)) (s : Shared) (σ : L2.St) (H : Hp) (S : Store) (L Z : List Addr) (Q : VK) (d : PV) (x : V) (ds : List PV) (xs : List V) (v : Value) (us : List Value), Inv X pins σ H s → Sta X.K X.mg H L Z S → At X.K X.mg H L Z d x → Ats X.K X.mg H L Z ds xs → RelV x v → Vals xs us →
    PostV X W σ Z (g d ds S) H L Q → wpAny (model X.prog X.w) X.A (call (.builtin id) (v :: us)) (EP X pins σ Q) X.xe s
/-- the type whose method is asked -/
def isT (T : String) (S : Store) (d : PV) : Bool := match d with
  | .str _ => T == "str"
  | d => match lstOf S d with
    | some _ => T == "list"
    | none => false
def eMt (T : String) (g : PV → List PV → Store → Res PV) (o : EM) (a : LM) : EM := fun r S => (o r S).bind fun d S1 => if isT T S1 d = true then (a r S1).bind fun ds S2 => g d ds S2 else .bad
theorem isT_ty {K : PySem.W.Frag} {mg : Str → Option Value} {H : Hp} {L Z : List Addr} {S : Store} {d : PV} {v : V} {T : String} (st : Sta K mg H L Z S) (a : At K mg H L Z d v) (h : isT T S d = true) : tyV K T v H := by
  have gen : (match lstOf S d with
    | some _ => T == "list"
    | none => false) = true → tyV K T v H := fun h => by
    cases e : lstOf S d with
    | none => rw [e] at h; cases h
    | some xs =>
      rw [e] at h
      obtain ⟨q, vs, rfl, h1, _⟩ := lst_at st a e
      exact .inl ⟨eq_of_beq h, vs, .of h1⟩
  cases d with
  | str z => cases a; exact eq_of_beq h
  | non => exact gen h
  | bl _ => exact gen h
  | int _ => exact gen h
  | tup _ => exact gen h
  | lst _ => exact gen h
  | obj _ _ => exact gen h
  | loc _ => exact gen h
  | scr _ => exact gen h
  | ty _ => exact gen h
  | cls _ => exact gen h
  | exc _ => exact gen h
  | dic _ => exact gen h
  | dik _ => exact gen h
theorem De.bm {T id : String} {name : Str} {g : PV → List PV → Store → Res PV} {o : Expr} {fo : EM} {apos cpos : Pos} (pa : PlainAttrs T) (slot : Slot T name id) (hty : typeOf (.builtin id) = pure (.type "method_descriptor")) (hm : DMt X W T id g) (ho : De X W o fo) (ha : DA X W (e :: es) la)
    (hbase : attributeBase o name X.env (eval o X.env) = eval o X.env := by rfl)
    (hfew : ((backTo cpos (starEach (e :: es) X.env)).all (fun x => !x.1) && (backToKw cpos (keywordEach [] X.env)).all (fun x => x.1.isSome)
      && decide ((e :: es).length + ([] : List Keyword).length + (if ([] : List Keyword).isEmpty then 0 else 1) < 30)) = true := by rfl)
    (hline : (apos.endLine == cpos.line) = true := by rfl) (hs : starEach (e :: es) X.env = (false, eval e X.env) :: starEach es X.env := by rfl) (hplain : (backTo cpos (starEach es X.env)).any (·.1) = false := by rfl) :
    De X W (.Call (.Attribute o name apos) (e :: es) [] cpos) (eMt T g fo la) := by
  refine Jd.mk ?_
  intro pins s σ H r S L Z Q I sl st p
  refine wpAny_Call_method_late hbase hfew hline rfl (ho.step I sl st p fun d S1 x v s1 H1 L1 I1 r1 sl1 st1 x1 a1 p1 => ?_)
  by_cases hT : isT T S1 d = true
  · rw [if_pos hT] at p1
    obtain ⟨h1, h2⟩ := tyV_is I1 r1 (isT_ty st1 a1 hT)
    refine ⟨T, id, pa, slot, hty, h1, h2, ?_⟩
    have hA := ha.step cpos I1 sl1 st1 p1 (Qf := fun us s2 => wpAny (model X.prog X.w) X.A (call (.builtin id) (v :: us)) (EP X pins σ Q) X.xe s2) fun ds S2 xs us s2 H2 L2 I2 r2 sl2 st2 x2 a2 p2 => hm pins s2 σ H2 S2 L2 Z Q d x ds xs v us I2 st2 (a1.mono x2) a2 r1 r2 p2
    rw [hs] at hA ⊢
    exact Calls.callWith_builtin (by show (false || (backTo cpos (starEach es X.env)).any (·.1)) = false; rw [hplain] <;> rfl) (Calls.evalArgs_plain hA)
  · rw [if_neg hT] at p1; exact p1.elim
theorem De.bm0 {T id : String} {name : Str} {g : PV → List PV → Store → Res PV} {o : Expr} {fo : EM} {apos cpos : Pos} (pa : PlainAttrs T) (slot : Slot T name id) (hty : typeOf (.builtin id) = pure (.type "method_descriptor")) (hm : DMt X W T id g) (ho : De X W o fo)
    (hbase : attributeBase o name X.env (eval o X.env) = eval o X.env := by rfl) (hline : (apos.endLine == cpos.line) = true := by rfl) :
    De X W (.Call (.Attribute o name apos) [] [] cpos) (eMt T g fo lNil) := by
  refine Jd.mk ?_
  intro pins s σ H r S L Z Q I sl st p
  refine wpAny_Call_method0_late hbase hline (ho.step I sl st p fun d S1 x v s1 H1 L1 I1 r1 sl1 st1 x1 a1 p1 => ?_)
  by_cases hT : isT T S1 d = true
  · rw [if_pos hT] at p1
    obtain ⟨h1, h2⟩ := tyV_is I1 r1 (isT_ty st1 a1 hT)
    exact ⟨T, id, pa, slot, hty, h1, h2, Calls.callWith_builtin rfl (PySem.evalArgs_none (hm pins s1 σ H1 S1 L1 Z Q d x [] [] v [] I1 st1 a1 .nil r1 .nil p1))⟩
  · rw [if_neg hT] at p1; exact p1.elim
def vAppend (o : PV) (ds : List PV) (S : Store) : Res PV := match o, ds with
  | .loc k, [d] => (match S[k]? with
    | some (.lst xs) => if xs.length < sizeLine then .ok .non (S.set k (.lst (xs ++ [d]))) else .bad
    | _ => .bad)
  | _, _ => .bad
theorem dmt_append : DMt X W "list" "list.append" vAppend := by
  intro pins s σ H S L Z Q d x ds xs v us I st a b r r2 p
  unfold vAppend at p
  match ds, d, a, b, p with
  | [y], .loc k, a, b, p =>
    cases hc : S[k]? with
    | none => simp only [hc] at p; exact p.elim
    | some cl =>
      cases cl with
      | lst zs =>
        simp only [hc] at p
        by_cases hz : zs.length < sizeLine
        · rw [if_pos hz] at p
          cases a with
          | loc hk =>
            obtain ⟨yv, rfl, ay⟩ := b.one
            obtain ⟨vs, e1, b1⟩ := st.cells k _ _ hc hk
            obtain ⟨x4, st4⟩ := st.put hc hk (b1.append (.cons ay .nil))
            exact mt_append pins s σ H _ _ v us Q I r r2 ⟨_, vs, yv, rfl, rfl, e1, by rw [← b1.len]; exact hz, p _ _ L x4 st4 .non⟩
        · rw [if_neg hz] at p; exact p.elim
      | ins nm fs => simp only [hc] at p; exact p.elim
      | dic kvs ep => simp only [hc] at p; exact p.elim
  | [], d, _, _, p => exact (show False from by cases d <;> exact p).elim
  | _ :: _ :: _, d, _, _, p => exact (show False from by cases d <;> exact p).elim
  | [_], .non, _, _, p => exact p.elim
  | [_], .bl _, _, _, p => exact p.elim
  | [_], .int _, _, _, p => exact p.elim
  | [_], .str _, _, _, p => exact p.elim
  | [_], .tup _, _, _, p => exact p.elim
  | [_], .lst _, _, _, p => exact p.elim
  | [_], .obj _ _, _, _, p => exact p.elim
  | [_], .scr _, _, _, p => exact p.elim
  | [_], .ty _, _, _, p => exact p.elim
  | [_], .cls _, _, _, p => exact p.elim
  | [_], .exc _, _, _, p => exact p.elim
  | [_], .dic _, _, _, p => exact p.elim
  | [_], .dik _, _, _, p => exact p.elim
end

/-! ### what a for walks -/
structure Src where
  ds : List PV
  k : Option Nat
def Src.there (x : Src) (S : Store) : Prop := match x.k with
  | none => True
  | some k => S[k]? = some (.lst x.ds)
structure Yld (X : Cx) (Z : List Addr) (J : It) (H0 : Hp) (L0 : List Addr) (x : Src) : Prop where
  go : ∀ i H L S, Ext H0 L0 H L → Sta X.K X.mg H L Z S → x.there S → i < x.ds.length → J.go i H
  stop : ∀ H L S, Ext H0 L0 H L → Sta X.K X.mg H L Z S → x.there S → J.stop x.ds.length H
  yld : ∀ (Y : List Addr) i H L S v H', (∀ q ∈ Y, H0 q = none) → Ext H0 L0 H L → Sta X.K X.mg H L (Y ++ Z) S → x.there S → J.yld i H v H' → i < x.ds.length → ∃ d, x.ds[i]? = some d ∧ Ext H L H' L ∧ Sta X.K X.mg H' L (Y ++ Z) S ∧ At X.K X.mg H' L (Y ++ Z) d v
def PostI (X : Cx) (W : WX) (σ : L2.St) (Z : List Addr) (x : Res Src) (H : Hp) (L : List Addr) (R : It → Hp → Prop) : Prop :=
  match x with
  | .ok c S' => ∀ J H' L', Ext H L H' L' → Sta X.K X.mg H' L' Z S' → Yld X Z J H' L' c → R J H'
  | .err c S' => ∀ H' L' cls, Ext H L H' L' → Sta X.K X.mg H' L' Z S' → X.mg c = some cls → W cls none σ H'
  | .bad => False
abbrev IM := Env1 → Store → Res Src
def DI (X : Cx) (W : WX) (tg iter : Expr) (f : IM) : Prop := Jd (
  ∀ (pins : List (Addr × Obj)) (s : Shared) (σ : L2.St) (H : Hp) (r : Env1) (S : Store) (L Z : List Addr) (R : It → Hp → Prop), Inv X pins σ H s → Slots X.K X.mg H L Z r σ → Sta X.K X.mg H L Z S → PostI X W σ Z (f r S) H L R →
    wpAny (model X.prog X.w) X.A (eval iter X.env) (fun v s1 => wpAny (model X.prog X.w) X.A (pyIter v) (PIE X pins σ tg R) X.xe s1) X.xe s)
abbrev rdI (X : Cx) (W : WX) (f : IM) : TI := fun σ H R => ∃ r S L Z, Slots X.K X.mg H L Z r σ ∧ Sta X.K X.mg H L Z S ∧ PostI X W σ Z (f r S) H L R
theorem DI.pi {X : Cx} {W : WX} {tg iter : Expr} {f : IM} (h : DI X W tg iter f) : PI X tg iter (rdI X W f) := ⟨fun pins s σ H R I ⟨r, S, L, Z, sl, st, p⟩ => h.out pins s σ H r S L Z R I sl st p⟩
def srcOf (d : PV) (S : Store) : Res Src := match d with
  | .tup xs => .ok ⟨xs, none⟩ S
  | .lst xs => .ok ⟨xs, none⟩ S
  | .scr ns => .ok ⟨ns.map PV.int, none⟩ S
  | .loc k => (match S[k]? with
    | some (.lst xs) => .ok ⟨xs, some k⟩ S
    | _ => .bad)
  | _ => .bad
def iVal (a : EM) : IM := fun r S => (a r S).bind srcOf
def rng (lo : Int) (n : Nat) : List PV := (List.range n).map fun (i : Nat) => PV.int (lo + (i : Int))
def iRange1 (a : EM) : IM := fun r S => (a r S).bind fun d S1 => match d with
  | .int n => if -(2 ^ 62) ≤ n ∧ n < 2 ^ 62 then .ok ⟨rng 0 n.toNat, none⟩ S1 else .bad
  | _ => .bad
def rngOf (d e : PV) (S2 : Store) : Res Src := match d with
  | .int n => (match e with
    | .int m => if -(2 ^ 62) ≤ n ∧ n < 2 ^ 62 ∧ -(2 ^ 62) ≤ m ∧ m < 2 ^ 62 then .ok ⟨rng n (m - n).toNat, none⟩ S2 else .bad
    | _ => .bad)
  | _ => .bad
def iRange2 (a b : EM) : IM := fun r S => (a r S).bind fun d S1 => (b r S1).bind fun e S2 => rngOf d e S2
section
variable {X : Cx} {W : WX} {tg e : Expr} {fe : EM} {la : LM} {pos p' : Pos}
theorem yld_list {Z : List Addr} {H : Hp} {L : List Addr} {a : Addr} {ds : List PV} {vs : List V} (h : ∀ H' L', Ext H L H' L' → SqL X.K H' a vs) (b : Ats X.K X.mg H L Z ds vs) : Yld X Z (Itl X.K a) H L ⟨ds, none⟩ := by
  have hl := b.len
  refine ⟨fun i H' L' S x st _ hi => ?_, fun H' L' S x st _ => ?_, fun Y i H' L' S v H2 ny x st _ y hi => ?_⟩
  · exact ⟨vs, vs[i]'(by rw [← hl]; exact hi), h _ _ x, by simp [← hl]⟩
  · exact ⟨vs, h _ _ x, by rw [← hl]; exact Nat.le_refl _⟩
  · obtain ⟨rfl, y⟩ := y
    have q := y vs (h _ _ x)
    have hi' : i < ds.length := hi
    obtain ⟨w, e1, a1⟩ := b.get (i := i) (d := ds[i]) (by simp [hi'])
    rw [e1] at q; cases q
    exact ⟨ds[i], by simp [hi'], Ext.refl _ _, st, (a1.hides ny).mono x⟩
theorem yld_tup {Z : List Addr} {H : Hp} {L : List Addr} {a : Addr} {ds : List PV} {vs : List V} (h : SqT X.K H a vs) (b : Ats X.K X.mg H L Z ds vs) : Yld X Z (Itt X.K a) H L ⟨ds, none⟩ := by
  have hl := b.len
  refine ⟨fun i H' L' S x st _ hi => ?_, fun H' L' S x st _ => ?_, fun Y i H' L' S v H2 ny x st _ y hi => ?_⟩
  · exact ⟨vs, vs[i]'(by rw [← hl]; exact hi), x.sqt h, by simp [← hl]⟩
  · exact ⟨vs, x.sqt h, by rw [← hl]; exact Nat.le_refl _⟩
  · obtain ⟨rfl, y⟩ := y
    have q := y vs (x.sqt h)
    have hi' : i < ds.length := hi
    obtain ⟨w, e1, a1⟩ := b.get (i := i) (d := ds[i]) (by simp [hi'])
    rw [e1] at q; cases q
    exact ⟨ds[i], by simp [hi'], Ext.refl _ _, st, (a1.hides ny).mono x⟩
theorem yld_loc {Z : List Addr} {H : Hp} {L : List Addr} {a : Addr} {k : Nat} {ds : List PV} (hk : L[k]? = some a) : Yld X Z (Itl X.K a) H L ⟨ds, some k⟩ := by
  have at_ : ∀ {H' : Hp} {L' Z' : List Addr} {S : Store}, Ext H L H' L' → Sta X.K X.mg H' L' Z' S → S[k]? = some (.lst ds) → ∃ vs, H' a = some (.lst vs) ∧ Ats X.K X.mg H' L' Z' ds vs := fun {H' L' Z' S} x st e => by
    obtain ⟨n, e1, _⟩ := x.pre
    exact st.cells k _ a e (by rw [e1, List.getElem?_append_left (List.getElem?_eq_some_iff.mp hk).1]; exact hk)
  refine ⟨fun i H' L' S x st t hi => ?_, fun H' L' S x st t => ?_, fun Y i H' L' S v H2 ny x st t y hi => ?_⟩
  · obtain ⟨vs, h1, b⟩ := at_ x st t
    have hi : i < ds.length := hi
    exact ⟨vs, vs[i]'(by rw [← b.len]; exact hi), .of h1, by simp [← b.len]⟩
  · obtain ⟨vs, h1, b⟩ := at_ x st t
    exact ⟨vs, .of h1, by rw [← b.len]; exact Nat.le_refl _⟩
  · obtain ⟨rfl, y⟩ := y
    obtain ⟨vs, h1, b⟩ := at_ x st t
    have q := y vs (.of h1)
    have hi' : i < ds.length := hi
    obtain ⟨w, e1, a1⟩ := b.get (i := i) (d := ds[i]) (by simp [hi'])
    rw [e1] at q; cases q
    exact ⟨ds[i], by simp [hi'], Ext.refl _ _, st, a1⟩
theorem DI.val (h : De X W e fe) : DI X W tg e (iVal fe) := by
  refine Jd.mk ?_
  intro pins s σ H r S L Z R I sl st p
  unfold iVal at p
  cases q : fe r S with
  | bad => rw [q] at p; exact p.elim
  | err c S1 =>
    rw [q] at p
    exact thn (h.out pins s σ H r S L Z (fun _ _ => False) I sl st (by rw [q]; exact p)) fun u s1 ⟨_, _, _, _, z⟩ => z.elim
  | ok d S1 =>
    rw [q] at p
    have p : PostI X W σ Z (srcOf d S1) H L R := p
    have run : ∀ {Q : VK}, (∀ v H' L', Ext H L H' L' → Sta X.K X.mg H' L' Z S1 → At X.K X.mg H' L' Z d v → Q v H') → rdE X W fe σ H Q := fun {Q} k => ⟨r, S, L, Z, sl, st, by rw [q]; exact k⟩
    cases d with
    | tup xs =>
      refine (pi_tup h.pe).run pins s σ H R I (run fun v H' L' x st' a => ?_)
      cases a with
      | tup h1 h2 => exact ⟨_, rfl, ⟨_, h1⟩, p _ H' L' x st' (yld_tup h1 h2)⟩
    | lst xs =>
      refine (pi_list h.pe).run pins s σ H R I (run fun v H' L' x st' a => ?_)
      cases a with
      | lst h1 h2 h3 h4 => exact ⟨_, rfl, ⟨_, .of h1⟩, p _ H' L' x st' (yld_list (fun H2 L2 y => .of (y.keep _ _ h1 (fun z => absurd z h2) (fun _ => nofun))) h4)⟩
    | scr ns =>
      refine (pi_list h.pe).run pins s σ H R I (run fun v H' L' x st' a => ?_)
      cases a with
      | scr h1 h2 _ => exact ⟨_, rfl, ⟨_, .inl h1⟩, p _ H' L' x st' (yld_list (fun H2 L2 y => .inl (y.rd h1 h2 (fun _ => nofun))) (ats_ints ns))⟩
      | scrk h1 => exact ⟨_, rfl, ⟨_, h1 _⟩, p _ H' L' x st' (yld_list (fun H2 L2 y => h1 H2) (ats_ints ns))⟩
    | loc k =>
      refine (pi_list h.pe).run pins s σ H R I (run fun v H' L' x st' a => ?_)
      cases a with
      | loc h1 =>
        have p : PostI X W σ Z (match S1[k]? with
          | some (.lst xs) => .ok ⟨xs, some k⟩ S1
          | _ => .bad) H L R := p
        cases hc : S1[k]? with
        | none => rw [hc] at p; exact p.elim
        | some cl =>
          cases cl with
          | lst xs =>
            rw [hc] at p
            obtain ⟨vs, e1, b1⟩ := st'.cells k _ _ hc h1
            exact ⟨_, rfl, ⟨_, .of e1⟩, p _ H' L' x st' (yld_loc h1)⟩
          | ins nm fs => rw [hc] at p; exact p.elim
          | dic kvs ep => rw [hc] at p; exact p.elim
    | _ => exact (show False from p).elim
theorem yld_range {Z : List Addr} {H : Hp} {L : List Addr} {lo : Int} {n : Nat} : Yld X Z (Itr lo n) H L ⟨rng lo n, none⟩ := by
  refine ⟨fun i H' L' S x st _ hi => by (show i < n; simpa [rng] using hi), fun H' L' S x st _ => by show n ≤ _; simp [rng], fun Y i H' L' S v H2 ny x st _ y hi => ?_⟩
  obtain ⟨rfl, rfl⟩ := y
  have hi : i < n := by simpa [rng] using hi
  exact ⟨.int (lo + i), by simp [rng, hi], Ext.refl _ _, st, .int _⟩
theorem DI.range1 {a : Expr} {fa : EM} (hg : Gl X "range") (hm : X.mg "range" = none) (ha : De X W a fa) (hs : starEach [a] X.env = [(false, eval a X.env)] := by rfl) : DI X W tg (.Call (.Name "range" p') [a] [] pos) (iRange1 fa) := by
  refine Jd.mk ?_
  intro pins s σ H r S L Z R I sl st p
  unfold iRange1 at p
  refine (pi_range1 (p := p') (pos := pos) hg hm (pa_cons ha.pe pa_nil (by rw [hs]; rfl)) hs).run pins s σ H R I ⟨r, S, L, Z, sl, st, ?_⟩
  cases q : fa r S with
  | bad => rw [q] at p; exact p.elim
  | err c S1 => rw [q] at p; exact p
  | ok d S1 =>
    rw [q] at p
    intro v H' L' x st' at'
    cases d with
    | int n =>
      have p : PostI X W σ Z (if -(2 ^ 62) ≤ n ∧ n < 2 ^ 62 then .ok ⟨rng 0 n.toNat, none⟩ S1 else .bad) H L R := p
      cases at'
      by_cases hz : -(2 ^ 62) ≤ n ∧ n < 2 ^ 62
      · rw [if_pos hz] at p
        exact ⟨n, rfl, hz.1, hz.2, p _ H' L' x st' yld_range⟩
      · rw [if_neg hz] at p; exact p.elim
    | _ => exact (show False from p).elim
theorem DI.range2 {a b : Expr} {fa fb : EM} (hg : Gl X "range") (hm : X.mg "range" = none) (ha : De X W a fa) (hb : De X W b fb) (hs : starEach [a, b] X.env = [(false, eval a X.env), (false, eval b X.env)] := by rfl) (hs2 : starEach [b] X.env = [(false, eval b X.env)] := by rfl) :
    DI X W tg (.Call (.Name "range" p') [a, b] [] pos) (iRange2 fa fb) := by
  refine Jd.mk ?_
  intro pins s σ H r S L Z R I sl st p
  unfold iRange2 at p
  refine (pi_range2 (p := p') (pos := pos) hg hm (pa_cons ha.pe (pa_cons hb.pe pa_nil (by rw [hs2]; rfl)) (by rw [hs, hs2])) hs hs2).run pins s σ H R I ⟨r, S, L, Z, sl, st, ?_⟩
  cases q : fa r S with
  | bad => rw [q] at p; exact p.elim
  | err c S1 => rw [q] at p; exact p
  | ok d S1 =>
    rw [q] at p
    have p : PostI X W σ Z ((fb r S1).bind fun e S2 => rngOf d e S2) H L R := p
    intro v H' L' x st' at'
    refine ⟨r, S1, L', Z, sl.mono x, st', ?_⟩
    cases q2 : fb r S1 with
    | bad => rw [q2] at p; exact p.elim
    | err c S2 => rw [q2] at p; exact fun H2 L2 cls y => p H2 L2 cls (x.trans y)
    | ok e S2 =>
      rw [q2] at p
      intro w H2 L2 x2 st2 at2
      cases d with
      | int n =>
        cases e with
        | int m =>
          have p : PostI X W σ Z (if -(2 ^ 62) ≤ n ∧ n < 2 ^ 62 ∧ -(2 ^ 62) ≤ m ∧ m < 2 ^ 62 then .ok ⟨rng n (m - n).toNat, none⟩ S2 else .bad) H L R := p
          cases at'; cases at2
          by_cases hz : -(2 ^ 62) ≤ n ∧ n < 2 ^ 62 ∧ -(2 ^ 62) ≤ m ∧ m < 2 ^ 62
          · rw [if_pos hz] at p
            exact ⟨n, m, rfl, hz, p _ H2 L2 (x.trans x2) st2 yld_range⟩
          · rw [if_neg hz] at p; exact p.elim
        | _ => exact (show False from p).elim
      | _ => exact (show False from p).elim
end

/-! ### targets -/
abbrev GM := PV → Env1 → Option Env1
/-- the frames differ at the places vs alone -/
def Chg (vs : List Nat) (σ σ' : L2.St) : Prop := σ'.length = σ.length ∧ ∀ j, j ∉ vs → σ'[j]? = σ[j]?
def DG (X : Cx) (W : WX) (vs : List Nat) (tg : Expr) (g : GM) : Prop := Jd (
  ∀ (pins : List (Addr × Obj)) (s : Shared) (σ : L2.St) (H : Hp) (r r' : Env1) (S : Store) (L Z : List Addr) (d : PV) (v : V) (u : Value) (Q : L2.St → Hp → Prop), Inv X pins σ H s → Slots X.K X.mg H L Z r σ → Sta X.K X.mg H L Z S → At X.K X.mg H L Z d v → RelV v u → g d r = some r' →
    (∀ σ' H' L', Chg vs σ σ' → Ext H L H' L' → Slots X.K X.mg H' L' Z r' σ' → Sta X.K X.mg H' L' Z S → Q σ' H') → wpAny (model X.prog X.w) X.A (assign tg X.env u) (fun _ s' => ∃ σ' H', Inv X pins σ' H' s' ∧ Q σ' H') X.xe s)
abbrev GsM := List PV → Env1 → Option Env1
def DGs (X : Cx) (W : WX) (vs0 : List Nat) (ts : List Expr) (g : GsM) : Prop := Jd (
  ∀ (pins : List (Addr × Obj)) (s : Shared) (σ : L2.St) (H : Hp) (r r' : Env1) (S : Store) (L Z : List Addr) (ds : List PV) (vs : List V) (us : List Value) (Q : L2.St → Hp → Prop), Inv X pins σ H s → Slots X.K X.mg H L Z r σ → Sta X.K X.mg H L Z S → Ats X.K X.mg H L Z ds vs → Vals vs us → g ds r = some r' →
    (∀ σ' H' L', Chg vs0 σ σ' → Ext H L H' L' → Slots X.K X.mg H' L' Z r' σ' → Sta X.K X.mg H' L' Z S → Q σ' H') → wpAny (model X.prog X.w) X.A (assignInOrder ((assignEach ts X.env).map (·.2)) us) (fun _ s' => ∃ σ' H', Inv X pins σ' H' s' ∧ Q σ' H') X.xe s)
def gNm (i : Nat) : GM := fun d r => some (r.set i (some d))
def gsNil : GsM := fun ds r => match ds with
  | [] => some r
  | _ => none
def gsCons (g : GM) (h : GsM) : GsM := fun ds r => match ds with
  | d :: ds => (g d r).bind fun r1 => h ds r1
  | [] => none
def gTp (n : Nat) (g : GsM) : GM := fun d r => match d with
  | .tup ds => if ds.length = n then g ds r else none
  | _ => none
section
variable {X : Cx} {W : WX} {vs0 : List Nat} {tg : Expr} {tgs : List Expr} {pos : Pos} {g : GM} {gs : GsM}
theorem DG.name {i : Nat} {x : Str} (hv : i ∈ vs0) (hN : X.N.Nodup) (hi : X.N[i]? = some x) (hx : Loc X.env.scope x) (hf : X.fn x = true ∨ X.env.scope.names.lookup x = some .local := by first | exact .inl rfl | exact .inr rfl | assumption) : DG X W vs0 (.Name x pos) (gNm i) := by
  refine Jd.mk ?_
  intro pins s σ H r r' S L Z d v u Q I sl st a rv e q
  cases e
  exact wpAny_assign_Name (store_ok I hN hi hx rv (fun s' I' => ⟨_, H, I', q _ H L ⟨by simp, fun j hj => List.getElem?_set_ne fun (e : i = j) => hj (by rw [← e]; exact hv)⟩ (Ext.refl H L) (sl.set a (lt_of_N I hi)) st⟩) hf)
theorem DGs.nil : DGs X W vs0 [] gsNil := by
  refine Jd.mk ?_
  intro pins s σ H r r' S L Z ds vs us Q I sl st a rv e q
  cases a with
  | nil => cases rv; cases e; exact assignInOrder_nil ⟨σ, H, I, q σ H L ⟨rfl, fun _ _ => rfl⟩ (Ext.refl H L) sl st⟩
  | cons _ _ => cases e
theorem DGs.cons (h1 : DG X W vs0 tg g) (h2 : DGs X W vs0 tgs gs) (hs : (assignEach (tg :: tgs) X.env).map (·.2) = assign tg X.env :: (assignEach tgs X.env).map (·.2) := by rfl) : DGs X W vs0 (tg :: tgs) (gsCons g gs) := by
  refine Jd.mk ?_
  intro pins s σ H r r' S L Z ds vs us Q I sl st a rv e q
  cases a with
  | nil => cases e
  | cons a b =>
    cases rv with
    | cons rv rr =>
      simp only [gsCons] at e
      cases e1 : g _ r with
      | none => rw [e1] at e; cases e
      | some r1 =>
        rw [e1] at e
        rw [hs]
        refine assignInOrder_cons (thn (h1.out pins s σ H r r1 S L Z _ _ _ (fun σ1 H1 => Chg vs0 σ σ1 ∧ ∃ L1, Ext H L H1 L1 ∧ Slots X.K X.mg H1 L1 Z r1 σ1 ∧ Sta X.K X.mg H1 L1 Z S) I sl st a rv e1 fun σ' H' L' c x y z => ⟨c, L', x, y, z⟩) fun _ s1 ⟨σ1, H1, I1, c1, L1, x1, sl1, st1⟩ => ?_)
        exact h2.out pins s1 σ1 H1 r1 r' S L1 Z _ _ _ Q I1 sl1 st1 (b.mono x1) rr e fun σ' H' L' c2 y => q σ' H' L' ⟨c2.1.trans c1.1, fun j hj => (c2.2 j hj).trans (c1.2 j hj)⟩ (x1.trans y)
theorem DG.tup {k : Nat} {n : Nat} (hc : X.calm = true) (h : DGs X W vs0 tgs gs) (hn : (assignEach tgs X.env).length = n := by rfl) (hst : (assignEach tgs X.env).findIdx? (·.1) = none := by rfl) : DG X W vs0 (.Tuple tgs k pos) (gTp n gs) := by
  refine Jd.mk ?_
  intro pins s σ H r r' S L Z d v u Q I sl st a rv e q
  cases a with
  | @tup p vs ds h1 b =>
    simp only [gTp] at e
    by_cases hl : ds.length = n
    · rw [if_pos hl] at e
      cases rv
      obtain ⟨its, rv, ht, hz⟩ := I.tuple h1
      refine assign_Tuple_tuple (I.ok.hd hc) ht (by simp [hn, ← hl, b.len, rv.length]) hst fun h' hx => ?_
      have I1 : Inv X pins σ H { s with heap := h' } := I.kept (t' := s.toks) fun b o e => hx b o (Nat.ne_of_lt (Heap.lt_size e)) e
      exact h.out pins _ σ H r r' S L Z ds vs _ Q I1 sl st b (by simpa using rv) e q
    · rw [if_neg hl] at e; cases e
  | _ => cases e
end

/-! ### for, while -/
noncomputable def forM (b : PV → Env1 → Store → Res Fl) (c : Src) : List PV → Env1 → Store → Res Fl
  | [], r, S => open Classical in if c.there S then .ok (.nx r) S else .bad
  | d :: ds, r, S => open Classical in if c.there S then (b d r S).bind fun f S1 => match f with
    | .nx r1 => forM b c ds r1 S1
    | .ct r1 => forM b c ds r1 S1
    | .bk r1 => .ok (.nx r1) S1
    | .rt v => .ok (.rt v) S1 else .bad
def turn (g : GM) (b : SM) : PV → Env1 → Store → Res Fl := fun d r S => match g d r with
  | some r1 => b r1 S
  | none => .bad
noncomputable def sFor (i : IM) (g : GM) (b : SM) : SM := fun r S => (i r S).bind fun c S1 => forM (turn g b) c c.ds r S1
def whileN (t : BM) (b : SM) : Nat → Env1 → Store → Res Fl
  | 0, _, _ => .bad
  | n + 1, r, S => (t r S).bind fun k S1 => if k = true then (b r S1).bind fun f S2 => match f with
      | .nx r1 => whileN t b n r1 S2
      | .ct r1 => whileN t b n r1 S2
      | .bk r1 => .ok (.nx r1) S2
      | .rt v => .ok (.rt v) S2
    else .ok (.nx r) S1
noncomputable def sWhile (t : BM) (b : SM) : SM := fun r S => open Classical in if h : ∃ n, whileN t b n r S ≠ .bad then whileN t b h.choose r S else .bad
section
variable {X : Cx} {W : XK} {vs0 : List Nat} {e iter tg : Expr} {bt : BM} {i : IM} {g : GM} {b : SM} {body : List Stmt} {pos : Pos}
theorem DS.for (hp : PassesOwn (model X.prog X.w) X.A X.env X.xe) (hc : X.calm = true) (hi : DI X (kW W) tg iter i) (hg : DG X (kW W) vs0 tg g) (hb : DSs X W body b)
    (hs : ∀ x, foldedSetIterable iter X.env x = pure x := by intro _; rfl) : DS X W (.For tg iter body [] pos) (sFor i g b) := by
  refine Jd.mk ?_
  intro pins s σ H r S L Z D I sl st p
  have hpg : PG X tg (fun v σ H Q => ∃ r r' S L Z d, Slots X.K X.mg H L Z r σ ∧ Sta X.K X.mg H L Z S ∧ At X.K X.mg H L Z d v ∧ g d r = some r' ∧ ∀ σ' H' L', Chg vs0 σ σ' → Ext H L H' L' → Slots X.K X.mg H' L' Z r' σ' → Sta X.K X.mg H' L' Z S → Q σ' H') :=
    ⟨fun pins s σ H v u Q I rv ⟨r, r', S, L, Z, d, sl, st, a, e, q⟩ => hg.out pins s σ H r r' S L Z d v u Q I sl st a rv e q⟩
  refine (ps_for (pos := pos) hp hc hi.pi hpg hb.pss hs).run pins s σ H D I ?_
  refine ⟨r, S, L, Z, sl, st, ?_⟩
  unfold sFor at p
  cases q : i r S with
  | bad => rw [q] at p; exact p.elim
  | err c S1 => rw [q] at p; exact p
  | ok c S1 =>
    rw [q] at p
    have p : PostS X W Z (forM (turn g b) c c.ds r S1) H L D := p
    intro J H0 L0 x0 st0 y
    refine ⟨fun i m σ' H' => ∃ r' S' L', i + m = c.ds.length ∧ Ext H0 L0 H' L' ∧ Slots X.K X.mg H' L' Z r' σ' ∧ Sta X.K X.mg H' L' Z S' ∧ PostS X W Z (forM (turn g b) c (c.ds.drop i) r' S') H' L' D,
      ⟨c.ds.length, r, S1, L0, Nat.zero_add _, Ext.refl _ _, sl.mono x0, st0, p.ext x0⟩, ?_⟩
    rintro i m σ1 H1 ⟨r1, S2, L1, hm, x1, sl1, st1, p1⟩
    cases m with
    | zero =>
      have hi : i = c.ds.length := by omega
      subst hi
      rw [List.drop_length] at p1
      unfold forM at p1
      by_cases ht : c.there S2
      · rw [if_pos ht] at p1
        exact .inl ⟨y.stop H1 L1 S2 x1 st1 ht, p1 σ1 H1 L1 (Ext.refl _ _) sl1 st1⟩
      · rw [if_neg ht] at p1; exact p1.elim
    | succ m =>
      have hi : i < c.ds.length := by omega
      rw [List.drop_eq_getElem_cons hi] at p1
      unfold forM at p1
      by_cases ht : c.there S2
      · rw [if_pos ht] at p1
        refine .inr ⟨y.go i H1 L1 S2 x1 st1 ht hi, fun σ' H' => ∃ r' S' L', Ext H0 L0 H' L' ∧ Slots X.K X.mg H' L' Z r' σ' ∧ Sta X.K X.mg H' L' Z S' ∧ PostS X W Z (forM (turn g b) c (c.ds.drop (i + 1)) r' S') H' L' D,
          fun σ' H' ⟨r', S', L', a1, a2, a3, a4⟩ => ⟨m, Nat.lt_succ_self m, r', S', L', by omega, a1, a2, a3, a4⟩, fun v H2 yv => ?_⟩
        obtain ⟨d, hd, x2, st2, a2⟩ := y.yld [] i H1 L1 S2 v H2 (fun _ h => nomatch h) x1 st1 ht yv hi
        have hd' : c.ds[i] = d := by
          rw [List.getElem?_eq_getElem hi] at hd; exact Option.some.inj hd
        rw [hd'] at p1
        cases hg' : g d r1 with
        | none =>
          unfold turn at p1
          rw [hg'] at p1
          exact (show False from p1).elim
        | some r2 =>
          have e0 : turn g b d r1 S2 = b r2 S2 := by unfold turn; rw [hg']
          rw [e0] at p1
          refine ⟨r1, r2, S2, L1, Z, d, sl1.mono x2, st2, a2, hg', fun σ3 H3 L3 _ x3 sl3 st3 => ⟨r2, S2, L3, Z, sl3, st3, ?_⟩⟩
          have p1 := p1.ext (x2.trans x3)
          have x03 := (x1.trans x2).trans x3
          cases q3 : b r2 S2 with
          | bad => rw [q3] at p1; exact p1.elim
          | err cl S3 => rw [q3] at p1; exact p1
          | ok f S3 =>
            rw [q3] at p1
            cases f with
            | nx r3 => exact fun σ4 H4 L4 x4 sl4 st4 => ⟨r3, S3, L4, x03.trans x4, sl4, st4, (show PostS X W Z (forM (turn g b) c (c.ds.drop (i + 1)) r3 S3) H3 L3 D from p1).ext x4⟩
            | ct r3 => exact fun σ4 H4 L4 x4 sl4 st4 => ⟨r3, S3, L4, x03.trans x4, sl4, st4, (show PostS X W Z (forM (turn g b) c (c.ds.drop (i + 1)) r3 S3) H3 L3 D from p1).ext x4⟩
            | bk r3 => exact p1
            | rt d => exact p1
      · rw [if_neg ht] at p1; exact p1.elim
theorem DS.while (hp : PassesOwn (model X.prog X.w) X.A X.env X.xe) (hc : DT X (kW W) e bt) (hb : DSs X W body b) : DS X W (.While e body [] pos) (sWhile bt b) := by
  refine Jd.mk ?_
  intro pins s σ H r S L Z D I sl st p
  refine (ps_while (pos := pos) hp hc.pt hb.pss).run pins s σ H D I ?_
  unfold sWhile at p
  by_cases hn : ∃ n, whileN bt b n r S ≠ .bad
  · rw [dif_pos hn] at p
    generalize hn.choose = n at p
    refine ⟨fun m σ' H' => ∃ r' S' L', Slots X.K X.mg H' L' Z r' σ' ∧ Sta X.K X.mg H' L' Z S' ∧ PostS X W Z (whileN bt b m r' S') H' L' D, ⟨n, r, S, L, sl, st, p⟩, ?_⟩
    rintro m σ1 H1 ⟨r1, S1, L1, sl1, st1, p1⟩
    cases m with
    | zero => exact (show False from p1).elim
    | succ m =>
      unfold whileN at p1
      refine ⟨r1, S1, L1, Z, sl1, st1, ?_⟩
      cases q : bt r1 S1 with
      | bad => rw [q] at p1; exact p1.elim
      | err c S2 => rw [q] at p1; exact p1
      | ok k S2 =>
        rw [q] at p1
        intro k' H2 L2 x2 st2 e2
        have e2 : k = k' := e2
        subst e2
        cases k with
        | false =>
          rw [if_neg Bool.false_ne_true]
          exact (show PostS X W Z (.ok (.nx r1) S2) H1 L1 D from p1) σ1 H2 L2 x2 (sl1.mono x2) st2
        | true =>
          rw [if_pos rfl]
          refine ⟨fun σ' H' => ∃ r' S' L', Slots X.K X.mg H' L' Z r' σ' ∧ Sta X.K X.mg H' L' Z S' ∧ PostS X W Z (whileN bt b m r' S') H' L' D, fun σ' H' h => ⟨m, Nat.lt_succ_self m, h⟩, r1, S2, L2, Z, sl1.mono x2, st2, ?_⟩
          have p1 : PostS X W Z ((b r1 S2).bind fun f S2 => match f with
            | .nx r1 => whileN bt b m r1 S2
            | .ct r1 => whileN bt b m r1 S2
            | .bk r1 => .ok (.nx r1) S2
            | .rt v => .ok (.rt v) S2) H2 L2 D := PostS.ext p1 x2
          cases q3 : b r1 S2 with
          | bad => rw [q3] at p1; exact p1.elim
          | err cl S3 => rw [q3] at p1; exact p1
          | ok f S3 =>
            rw [q3] at p1
            cases f with
            | nx r3 => exact fun σ4 H4 L4 x4 sl4 st4 => ⟨r3, S3, L4, sl4, st4, (show PostS X W Z (whileN bt b m r3 S3) H2 L2 D from p1).ext x4⟩
            | ct r3 => exact fun σ4 H4 L4 x4 sl4 st4 => ⟨r3, S3, L4, sl4, st4, (show PostS X W Z (whileN bt b m r3 S3) H2 L2 D from p1).ext x4⟩
            | bk r3 => exact p1
            | rt d => exact p1
  · rw [dif_neg hn] at p; exact p.elim
end
/-! what while says -/
theorem whileN_more {t : BM} {b : SM} : ∀ {n : Nat} {r : Env1} {S : Store}, whileN t b n r S ≠ .bad → ∀ m, n ≤ m → whileN t b m r S = whileN t b n r S
  | 0, _, _, h, _, _ => absurd rfl h
  | n + 1, r, S, h, 0, hm => absurd hm (by omega)
  | n + 1, r, S, h, m + 1, hm => by
    unfold whileN at h ⊢
    cases q : t r S with
    | bad => rfl
    | err c S1 => rfl
    | ok k S1 =>
      rw [q] at h
      simp only [Res.bind_ok] at h ⊢
      cases k with
      | false => rfl
      | true =>
        simp only [if_true] at h ⊢
        cases q2 : b r S1 with
        | bad => rfl
        | err c S2 => rfl
        | ok f S2 =>
          rw [q2] at h
          simp only [Res.bind_ok] at h ⊢
          cases f with
          | nx r1 => exact whileN_more h m (by omega)
          | ct r1 => exact whileN_more h m (by omega)
          | bk _ => rfl
          | rt _ => rfl
theorem sWhile_of {t : BM} {b : SM} {n : Nat} {r : Env1} {S : Store} (h : whileN t b n r S ≠ .bad) : sWhile t b r S = whileN t b n r S := by
  unfold sWhile
  have hn : ∃ n, whileN t b n r S ≠ .bad := ⟨n, h⟩
  rw [dif_pos hn]
  have h2 := hn.choose_spec
  rcases Nat.le_total n hn.choose with h3 | h3
  · exact whileN_more h _ h3
  · exact (whileN_more h2 _ h3).symm
theorem sWhile_eq (t : BM) (b : SM) (r : Env1) (S : Store) : sWhile t b r S = (t r S).bind fun k S1 => if k = true then (b r S1).bind fun f S2 => match f with
      | .nx r1 => sWhile t b r1 S2
      | .ct r1 => sWhile t b r1 S2
      | .bk r1 => .ok (.nx r1) S2
      | .rt v => .ok (.rt v) S2
    else .ok (.nx r) S1 := by
  -- from a turn more
  have up : ∀ n, whileN t b (n + 1) r S ≠ .bad → whileN t b (n + 1) r S = (t r S).bind fun k S1 => if k = true then (b r S1).bind fun f S2 => match f with
      | .nx r1 => sWhile t b r1 S2
      | .ct r1 => sWhile t b r1 S2
      | .bk r1 => .ok (.nx r1) S2
      | .rt v => .ok (.rt v) S2
    else .ok (.nx r) S1 := fun n h => by
    unfold whileN at h ⊢
    cases q : t r S with
    | bad => rfl
    | err c S1 => rfl
    | ok k S1 =>
      rw [q] at h
      simp only [Res.bind_ok] at h ⊢
      cases k with
      | false => rfl
      | true =>
        simp only [if_true] at h ⊢
        cases q2 : b r S1 with
        | bad => rfl
        | err c S2 => rfl
        | ok f S2 =>
          rw [q2] at h
          simp only [Res.bind_ok] at h ⊢
          cases f with
          | nx r1 => exact (sWhile_of h).symm
          | ct r1 => exact (sWhile_of h).symm
          | bk _ => rfl
          | rt _ => rfl
  by_cases hn : ∃ n, whileN t b n r S ≠ .bad
  · obtain ⟨n, hn⟩ := hn
    have h1 : whileN t b (n + 1) r S = whileN t b n r S := whileN_more hn _ (Nat.le_succ n)
    rw [sWhile_of hn, ← h1]
    exact up n (by rw [h1]; exact hn)
  · have e : sWhile t b r S = .bad := by unfold sWhile; rw [dif_neg hn]
    rw [e]
    cases q : t r S with
    | bad => rfl
    | err c S1 => exact absurd ⟨1, by unfold whileN; rw [q]; simp⟩ hn
    | ok k S1 =>
      simp only [Res.bind_ok]
      cases k with
      | false => exact absurd ⟨1, by unfold whileN; rw [q]; simp⟩ hn
      | true =>
        simp only [if_true]
        cases q2 : b r S1 with
        | bad => rfl
        | err c S2 => exact absurd ⟨1, by unfold whileN; rw [q]; simp [q2]⟩ hn
        | ok f S2 =>
          simp only [Res.bind_ok]
          have more : ∀ r1, (∀ n, whileN t b (n + 1) r S = whileN t b n r1 S2) → Res.bad = sWhile t b r1 S2 := fun r1 h => by
            unfold sWhile
            rw [dif_neg fun ⟨n, z⟩ => hn ⟨n + 1, by rw [h]; exact z⟩]
          cases f with
          | nx r1 => exact more r1 fun n => by rw [whileN]; simp [q, q2]
          | ct r1 => exact more r1 fun n => by rw [whileN]; simp [q, q2]
          | bk r1 => exact absurd ⟨1, by unfold whileN; rw [q]; simp [q2]⟩ hn
          | rt v => exact absurd ⟨1, by unfold whileN; rw [q]; simp [q2]⟩ hn
end Dn

set_option Elab.async false
set_option linter.all false
set_option maxRecDepth 100000
set_option maxHeartbeats 4000000
namespace Dn
open PySem PySem.Spec PyProof.Rows L2

/-! ### what a def leaves: its own objects go, or are handed out as values -/
mutual
def small (n : Nat) : PV → Bool
  | .loc i => decide (i < n)
  | .tup xs => smalls n xs
  | .lst xs => smalls n xs
  | .obj _ fs => smallf n fs
  | .non => true
  | .bl _ => true
  | .int _ => true
  | .str _ => true
  | .scr _ => true
  | .ty _ => true
  | .cls _ => true
  | .exc _ => true
  | .dic kvs => smalld n kvs
  | .dik kvs => smalld n kvs
def smalls (n : Nat) : List PV → Bool
  | [] => true
  | x :: xs => small n x && smalls n xs
def smallf (n : Nat) : List (Str × PV) → Bool
  | [] => true
  | (_, x) :: xs => small n x && smallf n xs
def smalld (n : Nat) : List (PV × PV) → Bool
  | [] => true
  | (x, y) :: xs => small n x && (small n y && smalld n xs)
end
def cellSmall (n : Nat) : Cell → Bool
  | .lst xs => smalls n xs
  | .ins _ fs => smallf n fs
  | .dic kvs _ => smalld n kvs
mutual
def frz (n : Nat) (S : Store) : PV → Option PV
  | .loc i => if i < n then some (.loc i) else match S[i]? with
    | some (.lst ds) => if smalls n ds = true then some (.lst ds) else none
    | some (.ins nm fs) => if smallf n fs = true then some (.obj nm fs) else none
    | some (.dic kvs _) => if smalld n kvs = true then some (.dic kvs) else none
    | none => none
  | .tup xs => (frzs n S xs).map .tup
  | .lst xs => if smalls n xs = true then some (.lst xs) else none
  | .obj m fs => if smallf n fs = true then some (.obj m fs) else none
  | .non => some .non
  | .bl b => some (.bl b)
  | .int i => some (.int i)
  | .str x => some (.str x)
  | .scr a => some (.scr a)
  | .ty a => some (.ty a)
  | .cls a => some (.cls a)
  | .exc a => some (.exc a)
  | .dic kvs => if smalld n kvs = true then some (.dic kvs) else none
  | .dik kvs => if smalld n kvs = true then some (.dik kvs) else none
def frzs (n : Nat) (S : Store) : List PV → Option (List PV)
  | [] => some []
  | x :: xs => (frz n S x).bind fun y => (frzs n S xs).map (y :: ·)
end
def shutR (n : Nat) (d : PV) (S : Store) : Res PV := if S.length ≤ n then .ok d S else if (S.take n).all (cellSmall n) = true then (match frz n S d with
  | some d' => .ok d' (S.take n)
  | none => .bad) else .bad
def shutE (n : Nat) (c : Str) (S : Store) : Res PV := if S.length ≤ n then .err c S else if (S.take n).all (cellSmall n) = true then .err c (S.take n) else .bad
def start1 (N : Nat) (ds : List PV) : Env1 := ds.map some ++ List.replicate (N - ds.length) none
def endOf (kp : Bool) (n : Nat) (x : Res Fl) : Res PV := match x with
  | .ok (.nx _) S => if kp then .ok .non S else shutR n .non S
  | .ok (.rt d) S => if kp then .ok d S else shutR n d S
  | .ok (.bk _) _ => .bad
  | .ok (.ct _) _ => .bad
  | .err c S => if kp then .err c S else shutE n c S
  | .bad => .bad
/-- a def as a function; kp: its new objects are kept -/
def fnM (kp : Bool) (N : Nat) (b : SM) : Fn := fun ds S => endOf kp S.length (b (start1 N ds) S)

section
variable {K : PySem.W.Frag} {mg : Str → Option Value} {H : Hp} {L Z : List Addr} {n : Nat}
mutual
theorem At.small : ∀ {d : PV} {v : V}, At K mg H L Z d v → Dn.small n d = true → At K mg H (L.take n) Z d v
  | _, _, .non, _ => .non
  | _, _, .bl b, _ => .bl b
  | _, _, .int i, _ => .int i
  | _, _, .str s, _ => .str s
  | _, _, .tup h1 h2, h => .tup h1 (Ats.small h2 (by simpa [Dn.small] using h))
  | _, _, .lst h1 h2 h3 h4, h => .lst h1 (fun z => h2 (List.mem_of_mem_take z)) h3 (Ats.small h4 (by simpa [Dn.small] using h))
  | _, _, .obj h0 h1 h2 h3 h4, h => .obj h0 h1 (fun z => h2 (List.mem_of_mem_take z)) h3 (Atf.small h4 (by simpa [Dn.small] using h))
  | _, _, .loc h1, h => .loc (by
      simp only [Dn.small, decide_eq_true_eq] at h
      rw [List.getElem?_take_of_lt h]; exact h1)
  | _, _, .scr h1 h2 h3, _ => .scr h1 (fun z => h2 (List.mem_of_mem_take z)) h3
  | _, _, .scrk h, _ => .scrk h
  | _, _, .ty n, _ => .ty n
  | _, _, .cls h, _ => .cls h
  | _, _, .exc h0 h1 h2 h3 h4 h5, _ => .exc h0 h1 h2 h3 (fun z => h4 (List.mem_of_mem_take z)) h5
  | _, _, .dic h1 h2 h3 h4, h => .dic h1 (fun z => h2 (List.mem_of_mem_take z)) h3 (Atd.small h4 (by simpa [Dn.small] using h))
  | _, _, .dik h1 h2 h3 h4, h => .dik h1 (fun z => h2 (List.mem_of_mem_take z)) h3 (Atk.small h4 (by simpa [Dn.small] using h))
theorem Ats.small : ∀ {ds : List PV} {vs : List V}, Ats K mg H L Z ds vs → smalls n ds = true → Ats K mg H (L.take n) Z ds vs
  | _, _, .nil, _ => .nil
  | _, _, .cons h1 h2, h => by
    simp only [smalls, Bool.and_eq_true] at h
    exact .cons (At.small h1 h.1) (Ats.small h2 h.2)
theorem Atf.small : ∀ {ds : List (Str × PV)} {vs : List (Str × V)}, Atf K mg H L Z ds vs → smallf n ds = true → Atf K mg H (L.take n) Z ds vs
  | _, _, .nil, _ => .nil
  | _, _, .cons h1 h2, h => by
    simp only [smallf, Bool.and_eq_true] at h
    exact .cons (At.small h1 h.1) (Atf.small h2 h.2)
theorem Atd.small : ∀ {ds : List (PV × PV)} {vs : List (PyData × Addr × V)}, Atd K mg H L Z ds vs → smalld n ds = true → Atd K mg H (L.take n) Z ds vs
  | _, _, .nil, _ => .nil
  | _, _, .cons q1 q2 h0 h1 h2, h => by
    simp only [smalld, Bool.and_eq_true] at h
    exact .cons q1 q2 (At.small h0 h.1) (At.small h1 h.2.1) (Atd.small h2 h.2.2)
theorem Atk.small : ∀ {ds : List (PV × PV)} {vs : List (Key × V)}, Atk K mg H L Z ds vs → smalld n ds = true → Atk K mg H (L.take n) Z ds vs
  | _, _, .nil, _ => .nil
  | _, _, .cons h1 h2, h => by
    simp only [smalld, Bool.and_eq_true] at h
    exact .cons (At.small h1 h.2.1) (Atk.small h2 h.2.2)
end
theorem take_not {i : Nat} {a : Addr} (nd : L.Nodup) (h : L[i]? = some a) (hi : n ≤ i) : a ∉ L.take n := fun z => by
  obtain ⟨j, hj, e⟩ := List.mem_iff_getElem.mp z
  rw [List.getElem_take] at e
  have hj' : j < n ∧ j < L.length := by rw [List.length_take] at hj; omega
  obtain ⟨n1, e1⟩ := List.getElem?_eq_some_iff.mp h
  have := (List.getElem_inj nd (h₀ := hj'.2) (h₁ := n1)).mp (e.trans e1.symm)
  omega
mutual
theorem At.frz {S : Store} (st : Sta K mg H L Z S) : ∀ {d d' : PV} {v : V}, At K mg H L Z d v → Dn.frz n S d = some d' → At K mg H (L.take n) Z d' v
  | _, _, _, .non, h => by simp [Dn.frz] at h; subst h; exact .non
  | _, _, _, .bl b, h => by simp [Dn.frz] at h; subst h; exact .bl b
  | _, _, _, .int i, h => by simp [Dn.frz] at h; subst h; exact .int i
  | _, _, _, .str s, h => by simp [Dn.frz] at h; subst h; exact .str s
  | _, _, _, .tup (ds := ds) h1 h2, h => by
    simp only [Dn.frz] at h
    cases e : frzs n S ds with
    | none => rw [e] at h; cases h
    | some xs => rw [e] at h; cases h; exact .tup h1 (Ats.frz st h2 e)
  | _, _, _, .lst h1 h2 h3 h4, h => by
    simp only [Dn.frz] at h
    split at h
    · rename_i hs
      cases h
      exact .lst h1 (fun z => h2 (List.mem_of_mem_take z)) h3 (Ats.small h4 hs)
    · cases h
  | _, _, _, .obj h0 h1 h2 h3 h4, h => by
    simp only [Dn.frz] at h
    split at h
    · rename_i hs
      cases h
      exact .obj h0 h1 (fun z => h2 (List.mem_of_mem_take z)) h3 (Atf.small h4 hs)
    · cases h
  | _, _, _, .loc (i := i) (a := a) h1, h => by
    simp only [Dn.frz] at h
    by_cases hi : i < n
    · rw [if_pos hi] at h
      cases h
      exact .loc (by rw [List.getElem?_take_of_lt hi]; exact h1)
    · rw [if_neg hi] at h
      cases e : S[i]? with
      | none => rw [e] at h; cases h
      | some c =>
        cases c with
        | lst ds =>
          simp only [e] at h
          split at h
          · rename_i hs
            cases h
            obtain ⟨vs, e1, b⟩ := st.cells i _ a e h1
            exact .lst e1 (take_not st.nd h1 (Nat.le_of_not_lt hi)) (st.dj a (List.mem_of_getElem? h1)) (Ats.small b hs)
          · cases h
        | ins nm fs =>
          simp only [e] at h
          split at h
          · rename_i hs
            cases h
            obtain ⟨C, dx, vs, e0, e1, b⟩ := st.cells i _ a e h1
            exact .obj e0 e1 (take_not st.nd h1 (Nat.le_of_not_lt hi)) (st.dj a (List.mem_of_getElem? h1)) (Atf.small b hs)
          · cases h
        | dic kvs ep =>
          simp only [e] at h
          split at h
          · rename_i hs
            cases h
            obtain ⟨us, e1, b⟩ := st.cells i _ a e h1
            exact .dic e1 (take_not st.nd h1 (Nat.le_of_not_lt hi)) (st.dj a (List.mem_of_getElem? h1)) (Atd.small b hs)
          · cases h
  | _, _, _, .scr h1 h2 h3, h => by simp [Dn.frz] at h; subst h; exact .scr h1 (fun z => h2 (List.mem_of_mem_take z)) h3
  | _, _, _, .scrk h1, h => by simp [Dn.frz] at h; subst h; exact .scrk h1
  | _, _, _, .ty n, h => by simp [Dn.frz] at h; subst h; exact .ty n
  | _, _, _, .cls h', h => by simp [Dn.frz] at h; subst h; exact .cls h'
  | _, _, _, .exc h0 h1 h2 h3 h4 h5, h => by simp [Dn.frz] at h; subst h; exact .exc h0 h1 h2 h3 (fun z => h4 (List.mem_of_mem_take z)) h5
  | _, _, _, .dic h1 h2 h3 h4, h => by
    simp only [Dn.frz] at h
    split at h
    · rename_i hs
      cases h
      exact .dic h1 (fun z => h2 (List.mem_of_mem_take z)) h3 (Atd.small h4 hs)
    · cases h
  | _, _, _, .dik h1 h2 h3 h4, h => by
    simp only [Dn.frz] at h
    split at h
    · rename_i hs
      cases h
      exact .dik h1 (fun z => h2 (List.mem_of_mem_take z)) h3 (Atk.small h4 hs)
    · cases h
theorem Ats.frz {S : Store} (st : Sta K mg H L Z S) : ∀ {ds ds' : List PV} {vs : List V}, Ats K mg H L Z ds vs → frzs n S ds = some ds' → Ats K mg H (L.take n) Z ds' vs
  | _, _, _, .nil, h => by simp [frzs] at h; subst h; exact .nil
  | _, _, _, .cons (d := d) (ds := ds) h1 h2, h => by
    simp only [frzs] at h
    cases e : Dn.frz n S d with
    | none => rw [e] at h; cases h
    | some x =>
      cases e2 : frzs n S ds with
      | none => rw [e, e2] at h; cases h
      | some xs => rw [e, e2] at h; cases h; exact .cons (At.frz st h1 e) (Ats.frz st h2 e2)
end
theorem Sta.take {S : Store} (st : Sta K mg H L Z S) (h : (S.take n).all (cellSmall n) = true) : Sta K mg H (L.take n) Z (S.take n) := by
  refine ⟨st.nd.sublist (List.take_sublist _ _), by simp [st.len], fun i c a h1 h2 => ?_, st.zt, fun a ha => st.dj a (List.mem_of_mem_take ha), st.tabs⟩
  have hc : cellSmall n c = true := (List.all_eq_true.mp h) c (List.mem_of_getElem? h1)
  have hi : i < n := by
    have := (List.getElem?_eq_some_iff.mp h1).1
    simp at this; omega
  rw [List.getElem?_take_of_lt hi] at h1 h2
  have := st.cells i c a h1 h2
  cases c with
  | lst ds => obtain ⟨vs, e, b⟩ := this; exact ⟨vs, e, b.small hc⟩
  | ins nm fs => obtain ⟨C, dx, vs, e0, e, b⟩ := this; exact ⟨C, dx, vs, e0, e, b.small hc⟩
  | dic kvs ep => obtain ⟨us, e, b⟩ := this; exact ⟨us, e, b.small hc⟩
end
theorem Ext.take {H H' : Hp} {L L' : List Addr} (x : Ext H L H' L') : Ext H L H' (L'.take L.length) := by
  obtain ⟨n, e, _⟩ := x.pre
  exact ⟨⟨[], by rw [e]; simp, fun _ h => nomatch h⟩, x.keep, x.dom⟩

/-! ### the promise of a def -/
structure RoomG (k : Nat) (A : Around) : Prop where
  rm : Room k A
  gd : A.guards = some []
def PostK (K : PySem.W.Frag) (mg : Str → Option Value) (E : XK) (Z : List Addr) (r : Res PV) (H : Hp) (L : List Addr) (Q : VK) : Prop :=
  match r with
  | .ok d S' => ∀ v H' L', Ext H L H' L' → Sta K mg H' L' Z S' → At K mg H' L' Z d v → Q v H'
  | .err c S' => ∀ H' L' cls, Ext H L H' L' → Sta K mg H' L' Z S' → mg c = some cls → E cls none H'
  | .bad => False
theorem PostK.of {X : Cx} {W : WX} {E : XK} {σ : L2.St} {Z : List Addr} {r : Res PV} {H : Hp} {L : List Addr} {Q : VK} (h : PostV X W σ Z r H L Q) (hE : ∀ cls H', W cls none σ H' → E cls none H') : PostK X.K X.mg E Z r H L Q := by
  cases r with
  | ok d S => exact h
  | err c S => exact fun H' L' cls a b e => hE _ _ (h H' L' cls a b e)
  | bad => exact h
structure FnG (P : Program) (w : World) (K : PySem.W.Frag) (mg : Str → Option Value) (base : Heap) (k : Nat) (f : Addr) (fd : FuncData) (ps : List Str) (m : Fn) : Prop where
  run : ∀ (A : Around) (outer : List Env) (s : Shared) (H : Hp) (args : Args) (us : List Value) (vs : List V) (ds : List PV) (S : Store) (L Z : List Addr) (Q : VK) (E : XK), RoomG k A → Env0 P w K mg base A outer s H → BindsTo s fd args (ps.zip us) → Vals vs us →
    Sta K mg H L Z S → Ats K mg H L Z ds vs → ds.length = ps.length → PostK K mg E Z (m ds S) H L Q → codeAny (model P w) A (.call (.ref f) args) (CR (CX P w) outer P w H s Q E) s
theorem FnG.mono {P : Program} {w : World} {K : PySem.W.Frag} {mg : Str → Option Value} {base : Heap} {j k : Nat} {f : Addr} {fd : FuncData} {ps : List Str} {m : Fn} (F : FnG P w K mg base j f fd ps m) (h : j ≤ k) : FnG P w K mg base k f fd ps m :=
  ⟨fun A outer s H args us vs ds S L Z Q E hr => F.run A outer s H args us vs ds S L Z Q E ⟨hr.rm.mono h, hr.gd⟩⟩
theorem start_slots {K : PySem.W.Frag} {mg : Str → Option Value} {H : Hp} {L Z : List Addr} {N : List Str} {ds : List PV} {vs : List V} (a : Ats K mg H L Z ds vs) : Slots K mg H L Z (start1 N.length ds) (L2.start N vs) := fun i d e => by
  unfold start1 at e
  unfold L2.start
  by_cases hi : i < ds.length
  · rw [List.getElem?_append_left (by simpa using hi), List.getElem?_map] at e
    cases q : ds[i]? with
    | none => rw [q] at e; cases e
    | some d' =>
      rw [q] at e; cases e
      obtain ⟨v, e1, a1⟩ := a.get q
      exact ⟨v, by rw [List.getElem?_append_left (by rw [List.length_map, ← a.len]; exact hi), List.getElem?_map, e1]; rfl, a1⟩
  · rw [List.getElem?_append_right (by simpa using hi), List.getElem?_replicate] at e
    split at e <;> cases e
section
variable {P : Program} {w : World} {K : PySem.W.Frag} {mg : Str → Option Value} {base : Heap} {x qual : Str} {params : Arguments} {body : List Stmt} {scope : Scope} {dvs : List V} {kws : List (Str × V)} {f : Addr} {fd : FuncData}
abbrev cxG (P : Program) (w : World) (K : PySem.W.Frag) (mg : Str → Option Value) (base : Heap) (N : List Str) (qual : Str) (scope : Scope) (f : Addr) (cd : Value) (A : Around) (outer : List Env) (s : Shared) (H : Hp) (E : XK) : Cx := cxOf (CX P w) P w K mg base N qual scope f cd A outer s H E
/-- a def's end: new objects that are kept, or not -/
theorem shut_post {X : Cx} {E : XK} {Z L : List Addr} {kp : Bool} {n : Nat} {b : SM} {ds : List PV} {S : Store} {H : Hp} {Q : VK} (st : Sta X.K X.mg H L Z S) (p : PostK X.K X.mg E Z (fnM kp n b ds S) H L Q) :
    PostS X E Z (b (start1 n ds) S) H L { nx := fun _ H' => Q .non H', rt := Q } := by
  unfold fnM at p
  cases q : b (start1 n ds) S with
  | bad => rw [q] at p; exact p.elim
  | err c S' =>
    rw [q] at p
    intro H' L' cls x' st' e'
    cases kp with
    | true => exact p H' L' cls x' st' e'
    | false =>
      have p : PostK X.K X.mg E Z (shutE S.length c S') H L Q := p
      unfold shutE at p
      by_cases h1 : S'.length ≤ S.length
      · rw [if_pos h1] at p; exact p H' L' cls x' st' e'
      · rw [if_neg h1] at p
        by_cases h2 : (S'.take S.length).all (cellSmall S.length) = true
        · rw [if_pos h2] at p
          have := st'.take h2
          rw [st.len] at this p
          exact p H' _ cls x'.take this e'
        · rw [if_neg h2] at p; exact p.elim
  | ok fl S' =>
    rw [q] at p
    -- the end with a value
    have fin : ∀ (d : PV), PostK X.K X.mg E Z (if kp = true then .ok d S' else shutR S.length d S') H L Q → ∀ v H' L', Ext H L H' L' → Sta X.K X.mg H' L' Z S' → At X.K X.mg H' L' Z d v → Q v H' := fun d p v H' L' x' st' a' => by
      cases kp with
      | true => exact p v H' L' x' st' a'
      | false =>
        have p : PostK X.K X.mg E Z (shutR S.length d S') H L Q := p
        unfold shutR at p
        by_cases h1 : S'.length ≤ S.length
        · rw [if_pos h1] at p; exact p v H' L' x' st' a'
        · rw [if_neg h1] at p
          by_cases h2 : (S'.take S.length).all (cellSmall S.length) = true
          · rw [if_pos h2] at p
            cases q2 : frz S.length S' d with
            | none => simp only [q2] at p; exact p.elim
            | some d' =>
              simp only [q2] at p
              have s2 := st'.take h2
              have a2 := At.frz st' a' q2
              rw [st.len] at s2 a2 p
              exact p v H' _ x'.take s2 a2
          · rw [if_neg h2] at p; exact p.elim
    cases fl with
    | nx r' => exact fun σ' H' L' x' sl' st' => fin .non p .non H' L' x' st' .non
    | rt d => exact fun v H' L' x' st' a' => fin d p v H' L' x' st' a'
    | bk r' => exact (show False from p).elim
    | ct r' => exact (show False from p).elim
/-- THE RULE for a def: its body's function -/
theorem fn_okc {N ps : List Str} {k : Nat} {kp : Bool} {b : SM} (F : FunD K x qual params body scope dvs kws f fd) (Sc : FnScope N ps scope)
    (hbody : ∀ (cdv : Value) (A : Around) (outer : List Env) (s : Shared) (H : Hp) (E : XK), fd.code = cdv → RoomG k (A.deeper (envOfC qual scope s.heap.objs.size f cdv)) → DSs (cxG P w K mg base N qual scope f cdv A outer s H E) E body b) : FnG P w K mg base (k + 1) f fd ps (fnM kp N.length b) := by
  obtain ⟨oc, od, dV, kV, doc, pm, an, cdv, ct, osl, rfl, lk, hcd, _, _⟩ := F.ex
  refine ⟨fun A outer s H args us vs ds S L Z Q E hr e0 hb r st a hl p => ?_⟩
  have hlv : vs.length = ps.length := by rw [← a.len]; exact hl
  have KX : K.In s.heap := e0.mod.kin.keeps fun b o e => (e0.bs b o e).1
  have lim : s.heap.NoLimit := e0.mod.nolimit.keeps fun b o e => (e0.bs b o e).1
  have hkind : ∀ y ∈ ps.zip us, scope.names.lookup y.1 = some .local ∨ (scope.names.lookup y.1 = some .cell ∧ ((cellsFrom (s.heap.objs.size + 1) scope.names []).lookup y.1).isSome = true) := fun ⟨n, v⟩ hy => by
    rcases Sc.par n (List.of_mem_zip hy).1 with q | q
    · exact .inl q
    · exact .inr ⟨q, PySem.W.cellsFrom_some _ _ _ (.inl q)⟩
  refine codeAny_call_function hr.rm.depth (KX _ _ lk) rfl Sc.co Sc.gen rfl (PySem.W.codeRec_of KX hcd) (hb _ _ _ _ ?_)
  refine wpAny_newFunctionEnv_cells Sc.kind hkind fun env he s1 x => ?_
  subst he
  refine ⟨lim.keeps x.toInCall.keep, codeAny_func ?_⟩
  have hr2 : RoomG k (A.deeper (envOfC qual scope s.heap.objs.size f cdv)) := ⟨hr.rm.deeper _, hr.gd⟩
  have ht := hbody cdv A outer s H E rfl hr2
  have I : Inv (cxG P w K mg base N qual scope f cdv A outer s H E) [] (L2.start N vs) H s1 := inv_start Sc hr.rm.hd e0 hlv r x
  have sl := start_slots (N := N) a
  have p' : PostS (cxG P w K mg base N qual scope f cdv A outer s H E) E Z (b (start1 N.length ds) S) H L { nx := fun _ H' => Q .non H', rt := Q } := shut_post (X := cxG P w K mg base N qual scope f cdv A outer s H E) st p
  refine wpAny_mono (ht.out [] s1 (L2.start N vs) H (start1 N.length ds) S L Z _ I sl st p') (fun fl s' hs => ?_) fun e s' hs => hs
  have fin : ∀ {σ' : L2.St} {H' : Hp} {v : V} {u : Value}, Inv (cxG P w K mg base N qual scope f cdv A outer s H E) [] σ' H' s' → RelV v u → Q v H' → CE outer P w H s Q u s' :=
    fun {σ' H' v u} J rv q => ⟨v, H', J.os, J.bare, J.base, J.hok, rv, q⟩
  cases fl with
  | ret u =>
    obtain ⟨v, σ', H', J, rv, q⟩ := hs
    exact fin J rv q
  | next =>
    obtain ⟨σ', H', J, q⟩ := hs
    exact fin (v := V.non) (u := Value.none) J rfl q
  | brk =>
    obtain ⟨_, _, _, q⟩ := hs
    exact False.elim q
  | cont =>
    obtain ⟨_, _, _, q⟩ := hs
    exact False.elim q
theorem fn_ok {N ps : List Str} {k : Nat} {kp : Bool} {b : SM} (F : FunD K x qual params body scope dvs kws f fd) (Sc : FnScope N ps scope)
    (hbody : ∀ (cdv : Value) (A : Around) (outer : List Env) (s : Shared) (H : Hp) (E : XK), RoomG k (A.deeper (envOfC qual scope s.heap.objs.size f cdv)) → DSs (cxG P w K mg base N qual scope f cdv A outer s H E) E body b) : FnG P w K mg base (k + 1) f fd ps (fnM kp N.length b) :=
  fn_okc F Sc fun cdv A outer s H E _ hr => hbody cdv A outer s H E hr
end

/-! ### calls -/
/-- written defaults -/
def sV : PV → V
  | .bl b => .bl b
  | .int i => .int i
  | .str x => .str x
  | _ => .non
def isSc : PV → Bool
  | .non => true
  | .bl _ => true
  | .int _ => true
  | .str _ => true
  | _ => false
theorem sc_at {K : PySem.W.Frag} {mg : Str → Option Value} {H : Hp} {L Z : List Addr} : ∀ {ds : List PV}, ds.all isSc = true → Ats K mg H L Z ds (ds.map sV)
  | [], _ => .nil
  | d :: ds, h => by
    simp only [List.all_cons, Bool.and_eq_true] at h
    refine .cons ?_ (sc_at h.2)
    cases d with
    | non => exact .non
    | bl b => exact .bl b
    | int i => exact .int i
    | str x => exact .str x
    | _ => exact absurd h.1 (by simp [isSc])
def eCall (m : Fn) (dv : List PV) (a : LM) : EM := fun r S => (a r S).bind fun ds S1 => m (ds ++ dv) S1
section
variable {X : Cx} {W : XK} {k : Nat} {f C : Addr} {fd : FuncData} {ps : List Str} {m : Fn} {dv : List PV} {us0 : List Value} {x mn : Str} {p' pos apos : Pos} {e o : Expr} {es : List Expr} {fo : EM} {la : LM} {n : Nat}
/-- the callee runs: n arguments are written, dv fill up -/
theorem run_m {pins : List (Addr × Obj)} {σ : L2.St} {H : Hp} {s : Shared} {Q : VK} {us : List Value} {vs : List V} {ds : List PV} {S : Store} {L Z : List Addr} (F : FnG X.prog X.w X.K X.mg X.base k f fd ps m) (hr : RoomG k X.A) (hb : Binds X.K fd ps us0) (hd : Vals (dv.map sV) us0) (hsc : dv.all isSc = true)
    (tk : Takes X (kW W)) (I : Inv X pins σ H s) (st : Sta X.K X.mg H L Z S) (a : Ats X.K X.mg H L Z ds vs) (r : Vals vs us) (hl : ds.length + dv.length = ps.length) (h : PostV X (kW W) σ Z (m (ds ++ dv) S) H L Q) : wpAny (model X.prog X.w) X.A (call (.ref f) us) (EP X pins σ Q) X.xe s := by
  have r2 : Vals (vs ++ dv.map sV) (us ++ us0) := r.append hd
  have hl2 : (us ++ us0).length = ps.length := by rw [← r2.length, List.length_append, ← a.len, List.length_map]; exact hl
  refine wpAny_call (codeAny_mono (F.run X.A X.stack s H ⟨us, []⟩ (us ++ us0) _ (ds ++ dv) S L Z Q W hr I.env0 (hb s us I.kIn hl2) r2 st (a.append (sc_at hsc)) (by rw [List.length_append]; exact hl) (PostK.of h fun _ _ z => z)) fun r s' hq => ?_)
  cases r with
  | error e => exact passes_call (W := kW W) tk (fun _ _ _ _ z => z) pins σ H s e s' I hq
  | ok fl =>
    cases fl with
    | ret u => exact I.after hq
    | next => exact False.elim hq
    | brk => exact False.elim hq
    | cont => exact False.elim hq
/-- the number of arguments is that of the parameters less the defaults -/
def lenOk (n : Nat) (m : Fn) : Fn := fun ds S => if ds.length = n then m ds S else .bad
def eCallN (n : Nat) (m : Fn) (dv : List PV) (a : LM) : EM := fun r S => (a r S).bind fun ds S1 => if ds.length + dv.length = n then m (ds ++ dv) S1 else .bad
theorem De.call (F : FnG X.prog X.w X.K X.mg X.base k f fd ps m) (hr : RoomG k X.A) (hg : Gl X x) (hm : X.mg x = some (.ref f)) (hk : PySem.W.keepIn X.K (.ref f) = true) (hb : Binds X.K fd ps us0) (hd : Vals (dv.map sV) us0) (hsc : dv.all isSc = true) (tk : Takes X (kW W)) (hn : n = ps.length)
    (ha : DA X (kW W) (e :: es) la) (hdb : (x == ("__debug__" : Str)) = false := by decide) (he : starEach (e :: es) X.env = (false, eval e X.env) :: starEach es X.env := by rfl) (hpl : (backTo pos (starEach es X.env)).any (·.1) = false := by rfl) :
    De X (kW W) (.Call (.Name x p') (e :: es) [] pos) (eCallN n m dv la) := by
  refine Jd.mk ?_
  intro pins s σ H r S L Z Q I sl st p
  refine wpAny_Call_Name_kw (ld_glob I hg hm ?_ hdb)
  refine PySem.W.callWith_K (h₀ := X.base) I.ok.mod.kin hk (ha.step pos I sl st p fun ds S1 vs us s1 H1 L1 I1 r1 sl1 st1 x1 a1 p1 => ⟨I1.kIn, ?_⟩) he hpl
  by_cases hl : ds.length + dv.length = n
  · rw [if_pos hl] at p1
    exact run_m F hr hb hd hsc tk I1 st1 a1 r1 (hl.trans hn) p1
  · rw [if_neg hl] at p1; exact p1.elim
theorem De.call0 (F : FnG X.prog X.w X.K X.mg X.base k f fd ps m) (hr : RoomG k X.A) (hg : Gl X x) (hm : X.mg x = some (.ref f)) (hk : PySem.W.keepIn X.K (.ref f) = true) (hb : Binds X.K fd ps us0) (hd : Vals (dv.map sV) us0) (hsc : dv.all isSc = true) (tk : Takes X (kW W)) (hn : n = ps.length)
    (hdb : (x == ("__debug__" : Str)) = false := by decide) : De X (kW W) (.Call (.Name x p') [] [] pos) (eCallN n m dv lNil) := by
  refine Jd.mk ?_
  intro pins s σ H r S L Z Q I sl st p
  refine wpAny_Call_Name_kw (ld_glob I hg hm ?_ hdb)
  refine PySem.W.callWith_K0 I.kIn hk ?_
  have p : PostV X (kW W) σ Z (if ([] : List PV).length + dv.length = n then m ([] ++ dv) S else .bad) H L Q := p
  by_cases hl : ([] : List PV).length + dv.length = n
  · rw [if_pos hl] at p
    exact run_m (us := []) (vs := []) (ds := []) F hr hb hd hsc tk I st .nil .nil (hl.trans hn) p
  · rw [if_neg hl] at p; exact p.elim

/-! ### objects: properties, methods -/
/-- the object is of the class -/
def ofC (nm : Str) (d : PV) : Bool := match d with
  | .obj n _ => decide (n = nm)
  | _ => false
theorem obj_at {K : PySem.W.Frag} {mg : Str → Option Value} {H : Hp} {L Z : List Addr} {nm : Str} {C : Addr} {d : PV} {v : V} (hm : mg nm = some (.ref C)) (a : At K mg H L Z d v) (h : ofC nm d = true) : ∃ p dx fs, v = .ref p ∧ H p = some (.ins C dx fs) ∧ ∃ vs, d = .obj nm vs ∧ Atf K mg H L Z vs fs := by
  cases a with
  | obj h0 h1 h2 h3 h4 =>
    have h : _ = nm := of_decide_eq_true h
    subst h
    rw [hm] at h0; cases h0
    exact ⟨_, _, _, rfl, h1, _, rfl, h4⟩
  | _ => cases h
def eFld (nm f : Str) (o : EM) : EM := fun r S => (o r S).bind fun d S1 => match d with
  | .obj n fs => if n = nm then ofO (fs.lookup f) S1 else .bad
  | _ => .bad
def noErr (x : Res PV) : Res PV := match x with
  | .ok d S => .ok d S
  | _ => .bad
def eProp (nm : Str) (m : Fn) (o : EM) : EM := fun r S => (o r S).bind fun d S1 => if ofC nm d = true then noErr (m [d] S1) else .bad
def ofM (nm mn : Str) (d : PV) : Bool := match d with
  | .obj n fs => decide (n = nm) && (fs.lookup mn).isNone
  | _ => false
def eMeth (nm mn : Str) (n : Nat) (m : Fn) (dv : List PV) (o : EM) (a : LM) : EM := fun r S => (o r S).bind fun d S1 => if ofM nm mn d = true then (a r S1).bind fun ds S2 => (if (d :: ds).length + dv.length = n then m (d :: ds ++ dv) S2 else .bad) else .bad
theorem Atf.look {K : PySem.W.Frag} {mg : Str → Option Value} {H : Hp} {L Z : List Addr} {f : Str} {d : PV} : ∀ {ds : List (Str × PV)} {vs : List (Str × V)}, Atf K mg H L Z ds vs → ds.lookup f = some d → ∃ v, vs.lookup f = some v ∧ At K mg H L Z d v
  | _, _, .nil, h => by cases h
  | _, _, .cons (n := n) h1 h2, h => by
    simp only [List.lookup] at h ⊢
    cases e : f == n with
    | true => rw [e] at h; cases h; exact ⟨_, rfl, h1⟩
    | false => rw [e] at h; exact Atf.look h2 h
theorem De.fld {nm fl : Str} (hm : X.mg nm = some (.ref C)) (c : Cls X.K C) (na : NoAttr X.K C fl) (ho : De X (kW W) o fo) (hb : attributeBase o fl X.env (eval o X.env) = eval o X.env := by rfl) : De X (kW W) (.Attribute o fl pos) (eFld nm fl fo) := by
  refine Jd.mk ?_
  intro pins s σ H r S L Z Q I sl st p
  refine attr_of hb (ho.step I sl st p fun d S1 v u s1 H1 L1 I1 r1 sl1 st1 x1 a1 p1 => ?_)
  cases d with
  | obj nm' fs =>
    replace p1 : PostV X (kW W) σ Z (if nm' = nm then ofO (fs.lookup fl) S1 else .bad) H1 L1 Q := p1
    by_cases hn : nm' = nm
    · rw [if_pos hn] at p1
      subst hn
      obtain ⟨q, dx, vs, rfl, hq, _, e, b⟩ := obj_at hm a1 (by simp [ofC])
      cases e
      cases hl : fs.lookup fl with
      | none => rw [hl] at p1; exact p1.elim
      | some d' =>
        rw [hl] at p1
        obtain ⟨v', e', a'⟩ := b.look hl
        cases r1
        exact getattr_ok I1 hq c na e' fun u' s2 I2 ru => ⟨v', H1, I2, ru, post_val p1 st1 a'⟩
    · rw [if_neg hn] at p1; exact p1.elim
  | _ => exact (show False from p1).elim
theorem post_noerr {σ : L2.St} {Z : List Addr} {x : Res PV} {H : Hp} {L : List Addr} {Q : VK} {W' : WX} (p : PostV X W' σ Z (noErr x) H L Q) : PostK X.K X.mg E0 Z x H L Q := by
  cases x with
  | ok d S => exact p
  | err c S => exact p.elim
  | bad => exact p
/-- o.f, a property -/
theorem De.prop {nm fl : Str} {pp g : Addr} (hm : X.mg nm = some (.ref C)) (c : Cls X.K C) (hp : PropOf X.K C fl pp g) (F : FnG X.prog X.w X.K X.mg X.base k g fd ps m) (hr : RoomG (k + 1) X.A) (hb : Binds X.K fd ps []) (h1 : ps.length = 1) (ho : De X (kW W) o fo)
    (hab : attributeBase o fl X.env (eval o X.env) = eval o X.env := by rfl) : De X (kW W) (.Attribute o fl pos) (eProp nm m fo) := by
  refine Jd.mk ?_
  intro pins s σ H r S L Z Q I sl st p
  refine attr_of hab (ho.step I sl st p fun d S1 v u s1 H1 L1 I1 r1 sl1 st1 x1 a1 p1 => ?_)
  by_cases hn : ofC nm d = true
  · rw [if_pos hn] at p1
    obtain ⟨a, dx, vs, rfl, ea, _, rfl, b⟩ := obj_at hm a1 hn
    cases r1
    obtain ⟨mA, O, _, _, _, _⟩ := ins_get I1.hok ea
    obtain ⟨od, J, _⟩ := O.look
    obtain ⟨rest, hrec⟩ := hp.rec_
    have I2 := I1.tok (s1.toks + 1)
    have hc : (PySem.W.clsIn X.K C).isSome = true := by
      obtain ⟨cd, hc, _⟩ := PySem.W.any_some c.hd
      rw [hc]
      rfl
    refine PySem.W.get_bind I1.kIn J (PySem.W.plainGet_of (c.get fl)).1 (PySem.W.findObj_data hc hp.at_ hp.get hp.tak) (PySem.W.plainGet_of (c.get fl)).2 (wpAny_call (PySem.W.prop_get (s := { s1 with toks := s1.toks + 1 }) I1.kIn hrec ?_))
    refine codeAny_mono (F.run X.A.in1 X.stack { s1 with toks := s1.toks + 1 } H1 ⟨[.ref a], []⟩ [.ref a] [.ref a] _ S1 L1 Z Q E0 ⟨hr.rm.in1, hr.gd⟩ I2.env0.in1 (hb _ [.ref a] I2.kIn (by rw [h1]; rfl)) (.cons rfl .nil) st1 (.cons a1 .nil) (by rw [h1]; rfl) (post_noerr p1)) fun r s' hq => ?_
    cases r with
    | error er =>
      obtain ⟨_, _, _, _, _, _, _, _, _, _, _, _, z⟩ := hq
      exact z.elim
    | ok fl =>
      cases fl with
      | ret u =>
        obtain ⟨v, H', I3, rv, q3⟩ := I2.after hq
        show wpAny _ _ (handedOut u) _ _ _
        rw [PySem.W.handedOut_of (handed_of rv)]
        exact wpAny_pure ⟨v, H', I3, rv, q3⟩
      | next => exact False.elim hq
      | brk => exact False.elim hq
      | cont => exact False.elim hq
  · rw [if_neg hn] at p1; exact p1.elim
theorem Atf.none {K : PySem.W.Frag} {mg : Str → Option Value} {H : Hp} {L Z : List Addr} {f : Str} : ∀ {ds : List (Str × PV)} {vs : List (Str × V)}, Atf K mg H L Z ds vs → ds.lookup f = Option.none → vs.lookup f = Option.none
  | _, _, .nil, _ => rfl
  | _, _, .cons (n := n) h1 h2, h => by
    simp only [List.lookup] at h ⊢
    cases e : f == n with
    | true => rw [e] at h; cases h
    | false => rw [e] at h; exact Atf.none h2 h
/-- o.m(e, ..) -/
theorem De.meth {nm : Str} {pl : Sem Bool} (hm : X.mg nm = some (.ref C)) (c : Cls X.K C) (hme : Meth X.K C mn f) (F : FnG X.prog X.w X.K X.mg X.base k f fd ps m) (hr : RoomG k X.A) (hb : Binds X.K fd ps us0) (hd : Vals (dv.map sV) us0) (hsc : dv.all isSc = true) (tk : Takes X (kW W)) (hn : n = ps.length)
    (ho : De X (kW W) o fo) (ha : DA X (kW W) (e :: es) la)
    (hst : starEach (e :: es) X.env = (false, eval e X.env) :: starEach es X.env := by rfl) (hpl : (backTo pos (starEach es X.env)).any (·.1) = false := by rfl)
    (ht : eval (.Call (.Attribute o mn apos) (e :: es) [] pos) X.env = (do
      let ov ← eval o X.env
      standAt apos.atName
      let (f, first) ← holding [ov] (getMethod ov mn pl)
      callWith pos f first (backTo pos (starEach (e :: es) X.env)) (backToKw pos (keywordEach [] X.env))) := by rfl) :
    De X (kW W) (.Call (.Attribute o mn apos) (e :: es) [] pos) (eMeth nm mn n m dv fo la) := by
  refine Jd.mk ?_
  intro pins s σ H r S L Z Q I sl st p
  refine PySem.W.methodCall_KW (pl := pl) (ho.step I sl st p fun d S1 v u s1 H1 L1 I1 r1 sl1 st1 x1 a1 p1 => ?_) ht
  by_cases hM : ofM nm mn d = true
  · rw [if_pos hM] at p1
    have hC : ofC nm d = true := by
      cases d with
      | obj n' fs => simp only [ofM, Bool.and_eq_true] at hM; exact hM.1
      | _ => cases hM
    obtain ⟨a, dx, vs, rfl, ea, fs, rfl, b⟩ := obj_at hm a1 hC
    have hl : vs.lookup mn = none := by
      simp only [ofM, Bool.and_eq_true, Option.isNone_iff_eq_none] at hM
      exact Atf.none b hM.2
    cases r1
    refine getmeth_ok I1 ea c hme hl ?_
    refine PySem.W.callWith_K (first := [.ref a]) (h₀ := X.base) I.ok.mod.kin hme.kp (ha.step pos I1 sl1 st1 p1 fun ds S2 xs us s2 H2 L2 I2 r2 sl2 st2 x2 a2 p2 => ⟨I2.kIn, ?_⟩) hst hpl
    by_cases hz : (PV.obj nm fs :: ds).length + dv.length = n
    · have p2 : PostV X (kW W) σ Z (if (PV.obj nm fs :: ds).length + dv.length = n then m (PV.obj nm fs :: ds ++ dv) S2 else .bad) H2 L2 Q := p2
      rw [if_pos hz] at p2
      exact run_m (us := .ref a :: us) (vs := .ref a :: xs) (ds := PV.obj nm fs :: ds) F hr hb hd hsc tk I2 st2 (.cons (a1.mono x2) a2) (.cons rfl r2) (hz.trans hn) p2
    · have p2 : PostV X (kW W) σ Z (if (PV.obj nm fs :: ds).length + dv.length = n then m (PV.obj nm fs :: ds ++ dv) S2 else .bad) H2 L2 Q := p2
      rw [if_neg hz] at p2; exact p2.elim
  · rw [if_neg hM] at p1; exact p1.elim
theorem De.meth0 {nm : Str} {pl : Sem Bool} (hm : X.mg nm = some (.ref C)) (c : Cls X.K C) (hme : Meth X.K C mn f) (F : FnG X.prog X.w X.K X.mg X.base k f fd ps m) (hr : RoomG k X.A) (hb : Binds X.K fd ps us0) (hd : Vals (dv.map sV) us0) (hsc : dv.all isSc = true) (tk : Takes X (kW W)) (hn : n = ps.length)
    (ho : De X (kW W) o fo)
    (ht : eval (.Call (.Attribute o mn apos) [] [] pos) X.env = (do
      let ov ← eval o X.env
      standAt apos.atName
      let (f, first) ← holding [ov] (getMethod ov mn pl)
      callWith pos f first (backTo pos (starEach [] X.env)) (backToKw pos (keywordEach [] X.env))) := by rfl) :
    De X (kW W) (.Call (.Attribute o mn apos) [] [] pos) (eMeth nm mn n m dv fo lNil) := by
  refine Jd.mk ?_
  intro pins s σ H r S L Z Q I sl st p
  refine PySem.W.methodCall_KW (pl := pl) (ho.step I sl st p fun d S1 v u s1 H1 L1 I1 r1 sl1 st1 x1 a1 p1 => ?_) ht
  by_cases hM : ofM nm mn d = true
  · rw [if_pos hM] at p1
    have hC : ofC nm d = true := by
      cases d with
      | obj n' fs => simp only [ofM, Bool.and_eq_true] at hM; exact hM.1
      | _ => cases hM
    obtain ⟨a, dx, vs, rfl, ea, fs, rfl, b⟩ := obj_at hm a1 hC
    have hl : vs.lookup mn = none := by
      simp only [ofM, Bool.and_eq_true, Option.isNone_iff_eq_none] at hM
      exact Atf.none b hM.2
    cases r1
    refine getmeth_ok I1 ea c hme hl ?_
    replace p1 : PostV X (kW W) σ Z (if [PV.obj nm fs].length + dv.length = n then m ([PV.obj nm fs] ++ dv) S1 else .bad) H1 L1 Q := p1
    by_cases hz : [PV.obj nm fs].length + dv.length = n
    · rw [if_pos hz] at p1
      exact PySem.W.callWith_K0 (first := [.ref a]) I1.kIn hme.kp (run_m (us := [.ref a]) (vs := [.ref a]) (ds := [PV.obj nm fs]) F hr hb hd hsc tk I1 st1 (.cons a1 .nil) (.cons rfl .nil) (hz.trans hn) p1)
    · rw [if_neg hz] at p1; exact p1.elim
  · rw [if_neg hM] at p1; exact p1.elim

/-! ### instances made -/
theorem Sta.newI {K : PySem.W.Frag} {mg : Str → Option Value} {H : Hp} {L Z : List Addr} {S : Store} {p : Addr} {nm : Str} {C dx : Addr} (st : Sta K mg H L Z S) (n : H p = none) (hm : mg nm = some (.ref C)) : Sta K mg (upd H p (.ins C dx [])) (L ++ [p]) Z (S ++ [.ins nm []]) := by
  have x : Ext H L (upd H p (.ins C dx [])) (L ++ [p]) := Ext.own n
  have st1 := st.laid (o := .ins C dx []) n
  refine ⟨?_, by simp [st.len], fun i c b h1 h2 => ?_, st1.zt, fun b hb => ?_, st1.tabs⟩
  · rw [List.nodup_append]
    exact ⟨st.nd, by simp, fun b hb c hc => by simp at hc; subst hc; exact fun z => (st.fresh n).1 (z ▸ hb)⟩
  · by_cases hi : i < S.length
    · rw [List.getElem?_append_left hi] at h1
      rw [List.getElem?_append_left (by rw [← st.len]; exact hi)] at h2
      obtain ⟨u, hu⟩ := st.has (List.mem_of_getElem? h2)
      exact (st.cells i c b h1 h2).mono x (by rw [upd_ne (ne_of_none hu n)])
    · have hi' : i = S.length := by
        have := (List.getElem?_eq_some_iff.mp h1).1
        simp at this; omega
      subst hi'
      rw [List.getElem?_append_right (Nat.le_refl _)] at h1
      rw [st.len, List.getElem?_append_right (Nat.le_refl _)] at h2
      simp at h1 h2
      subst h1 h2
      exact ⟨C, dx, [], hm, upd_same, .nil⟩
  · rcases List.mem_append.mp hb with hb | hb
    · exact st.dj b hb
    · simp at hb; subst hb; exact (st.fresh n).2
/-- a new instance by its __init__; fz: it is a value from then on -/
def makeM (fz : Bool) (nm : Str) (init : Fn) : Fn := fun ds S => match init (.loc S.length :: ds) (S ++ [.ins nm []]) with
  | .ok .non S' => if fz then shutR S.length (.loc S.length) S' else .ok (.loc S.length) S'
  | .err c S' => shutE S.length c S'
  | _ => .bad
theorem postK_shut {K : PySem.W.Frag} {mg : Str → Option Value} {E : XK} {H : Hp} {L Z : List Addr} {Q : VK} {d : PV} {S' : Store} {n : Nat} (hn : n = L.length) (p : PostK K mg E Z (shutR n d S') H L Q) {v : V} {H' : Hp} {L' : List Addr} (x' : Ext H L H' L') (st' : Sta K mg H' L' Z S') (a' : At K mg H' L' Z d v) : Q v H' := by
  unfold shutR at p
  by_cases h1 : S'.length ≤ n
  · rw [if_pos h1] at p; exact p v H' L' x' st' a'
  · rw [if_neg h1] at p
    by_cases h2 : (S'.take n).all (cellSmall n) = true
    · rw [if_pos h2] at p
      cases q2 : frz n S' d with
      | none => simp only [q2] at p; exact p.elim
      | some d' =>
        simp only [q2] at p
        have s2 := st'.take h2
        have a2 := At.frz st' a' q2
        rw [hn] at s2 a2 p
        exact p v H' _ x'.take s2 a2
    · rw [if_neg h2] at p; exact p.elim
theorem postK_shutE {K : PySem.W.Frag} {mg : Str → Option Value} {E : XK} {H : Hp} {L Z : List Addr} {Q : VK} {c : Str} {S' : Store} {n : Nat} (hn : n = L.length) (p : PostK K mg E Z (shutE n c S') H L Q) {cls : Value} {H' : Hp} {L' : List Addr} (x' : Ext H L H' L') (st' : Sta K mg H' L' Z S') (e : mg c = some cls) : E cls none H' := by
  unfold shutE at p
  by_cases h1 : S'.length ≤ n
  · rw [if_pos h1] at p; exact p H' L' cls x' st' e
  · rw [if_neg h1] at p
    by_cases h2 : (S'.take n).all (cellSmall n) = true
    · rw [if_pos h2] at p
      have := st'.take h2
      rw [hn] at this p
      exact p H' _ cls x'.take this e
    · rw [if_neg h2] at p; exact p.elim
/-- C(e, ..) -/
theorem De.make {fz : Bool} (M : Mk X.K C f) (F : FnG X.prog X.w X.K X.mg X.base k f fd ps m) (hr : RoomG (k + 1) X.A) (hg : Gl X x) (hm : X.mg x = some (.ref C)) (hb : Binds X.K fd ps us0) (hd : Vals (dv.map sV) us0) (hsc : dv.all isSc = true) (tk : Takes X (kW W)) (hn : n + 1 = ps.length)
    (ha : DA X (kW W) (e :: es) la) (hdb : (x == ("__debug__" : Str)) = false := by decide) (he : starEach (e :: es) X.env = (false, eval e X.env) :: starEach es X.env := by rfl) (hpl : (backTo pos (starEach es X.env)).any (·.1) = false := by rfl) :
    De X (kW W) (.Call (.Name x p') (e :: es) [] pos) (eCallN n (makeM fz x m) dv la) := by
  refine Jd.mk ?_
  intro pins s σ H r S L Z Q I sl st p
  refine wpAny_Call_Name_kw (ld_glob I hg hm ?_ hdb)
  refine PySem.W.callWith_K (h₀ := X.base) I.ok.mod.kin M.kp (ha.step pos I sl st p fun ds S1 vs us s1 H1 L1 I1 r1 sl1 st1 x1 a1 p1 => ⟨I1.kIn, ?_⟩) he hpl
  by_cases hl : ds.length + dv.length = n
  · rw [if_pos hl] at p1
    have hdx : H1 s1.heap.objs.size = none := I1.hok.fresh (Nat.le_refl _)
    have ne : s1.heap.objs.size ≠ s1.heap.objs.size + 1 := Nat.ne_of_lt (Nat.lt_succ_self _)
    have hx : (upd H1 s1.heap.objs.size (.own (s1.heap.objs.size + 1))) (s1.heap.objs.size + 1) = none := by rw [upd_ne ne.symm]; exact I1.hok.fresh (Nat.le_succ _)
    have I2 := Inv.made (C := C) I1
    have r2 : Vals (V.ref (s1.heap.objs.size + 1) :: (vs ++ dv.map sV)) (Value.ref (s1.heap.objs.size + 1) :: (us ++ us0)) := .cons rfl (r1.append hd)
    have e3 : (us ++ us0).length + 1 = ps.length := by
      have := (r1.append hd).length
      rw [← this, List.length_append, ← a1.len, List.length_map, hl]; exact hn
    have x2 : Ext H1 L1 (upd (upd H1 s1.heap.objs.size (.own (s1.heap.objs.size + 1))) (s1.heap.objs.size + 1) (.ins C s1.heap.objs.size [])) (L1 ++ [s1.heap.objs.size + 1]) := (Ext.laid hdx).trans (Ext.own hx)
    have st2 : Sta X.K X.mg (upd (upd H1 s1.heap.objs.size (.own (s1.heap.objs.size + 1))) (s1.heap.objs.size + 1) (.ins C s1.heap.objs.size [])) (L1 ++ [s1.heap.objs.size + 1]) Z (S1 ++ [.ins x []]) := (st1.laid hdx).newI hx hm
    have aself : At X.K X.mg (upd (upd H1 s1.heap.objs.size (.own (s1.heap.objs.size + 1))) (s1.heap.objs.size + 1) (.ins C s1.heap.objs.size [])) (L1 ++ [s1.heap.objs.size + 1]) Z (.loc S1.length) (.ref (s1.heap.objs.size + 1)) := .loc (by rw [st1.len, List.getElem?_append_right (Nat.le_refl _)]; simp)
    have p3 : PostK X.K X.mg W Z (m (.loc S1.length :: (ds ++ dv)) (S1 ++ [.ins x []])) (upd (upd H1 s1.heap.objs.size (.own (s1.heap.objs.size + 1))) (s1.heap.objs.size + 1) (.ins C s1.heap.objs.size [])) (L1 ++ [s1.heap.objs.size + 1]) (fun v H2 => v = .non ∧ Q (.ref (s1.heap.objs.size + 1)) H2) := by
      have p1 : PostV X (kW W) σ Z (makeM fz x m (ds ++ dv) S1) H1 L1 Q := p1
      unfold makeM at p1
      cases q : m (.loc S1.length :: (ds ++ dv)) (S1 ++ [.ins x []]) with
      | bad => rw [q] at p1; exact p1.elim
      | err c S' =>
        rw [q] at p1
        exact fun H' L' cls x' st' e => postK_shutE (Q := Q) st1.len (PostK.of p1 fun _ _ z => z) (x2.trans x') st' e
      | ok d S' =>
        rw [q] at p1
        cases d with
        | non =>
          intro v H' L' x' st' a'
          cases a'
          refine ⟨rfl, ?_⟩
          have p1 : PostV X (kW W) σ Z (if fz = true then shutR S1.length (.loc S1.length) S' else .ok (.loc S1.length) S') H1 L1 Q := p1
          cases fz with
          | true => exact postK_shut (E := W) st1.len (PostK.of (show PostV X (kW W) σ Z (shutR S1.length (.loc S1.length) S') H1 L1 Q from p1) fun _ _ z => z) (x2.trans x') st' (aself.mono x')
          | false => exact (show PostV X (kW W) σ Z (.ok (.loc S1.length) S') H1 L1 Q from p1) _ H' L' (x2.trans x') st' (aself.mono x')
        | _ => exact (show False from p1).elim
    refine wpAny_call (make_map (f := f) I1.kIn M.makes M.init (beq_iff_eq.mp M.fn) (codeAny_mono (F.run _ X.stack _ _ ⟨Value.ref (s1.heap.objs.size + 1) :: us, []⟩ (Value.ref (s1.heap.objs.size + 1) :: (us ++ us0)) _ (.loc S1.length :: (ds ++ dv)) (S1 ++ [.ins x []]) (L1 ++ [s1.heap.objs.size + 1]) Z _ W
      ⟨hr.rm.make C us [], by first | exact hr.gd | (simpa [Around.under, Code.guards, Code.isGuard, guardIds, pushGuards] using hr.gd)⟩ (I2.env0.make C us []) (hb _ (Value.ref (s1.heap.objs.size + 1) :: us) I2.kIn (by simpa using e3)) r2 st2 (.cons aself ((a1.append (sc_at hsc)).mono x2)) (by rw [List.length_cons, List.length_append, hl]; exact hn) p3) fun r s' hq' => ?_))
    cases r with
    | error e => exact passes_call (W := kW W) tk (fun _ _ _ _ z => z) pins σ _ _ e s' I2 hq'
    | ok fl =>
      cases fl with
      | ret u =>
        obtain ⟨v, H', I3, rv, ev, q3⟩ := I2.after hq'
        subst ev
        exact ⟨rv, ⟨V.ref (s1.heap.objs.size + 1), H', I3, rfl, q3⟩⟩
      | next => exact False.elim hq'
      | brk => exact False.elim hq'
      | cont => exact False.elim hq'
  · rw [if_neg hl] at p1; exact p1.elim
/-! ### the attributes of a mutable instance -/
def putA (f : Str) (d : PV) : List (Str × PV) → List (Str × PV)
  | [] => [(f, d)]
  | (g, x) :: r => if g = f then (g, d) :: r else (g, x) :: putA f d r
theorem Atf.put {K : PySem.W.Frag} {mg : Str → Option Value} {H : Hp} {L Z : List Addr} {f : Str} {d : PV} {v : V} (a : At K mg H L Z d v) : ∀ {ds : List (Str × PV)} {vs : List (Str × V)}, Atf K mg H L Z ds vs → Atf K mg H L Z (putA f d ds) (putF f v vs)
  | _, _, .nil => .cons a .nil
  | _, _, .cons (n := n) h1 h2 => by
    show Atf K mg H L Z (if n = f then _ else _) (if n = f then _ else _)
    by_cases e : n = f
    · rw [if_pos e, if_pos e]; exact .cons a h2
    · rw [if_neg e, if_neg e]; exact .cons h1 (Atf.put a h2)
theorem Atf.len {K : PySem.W.Frag} {mg : Str → Option Value} {H : Hp} {L Z : List Addr} : ∀ {ds : List (Str × PV)} {vs : List (Str × V)}, Atf K mg H L Z ds vs → ds.length = vs.length
  | _, _, .nil => rfl
  | _, _, .cons h1 h2 => by simp [h2.len]
/-- o.f = e; cl: the classes that have no f of their own -/
def sFldSet (nms : List Str) (f : Str) (o v : EM) : SM := fun r S => (v r S).bind fun d S1 => (o r S1).bind fun x S2 => match x with
  | .loc k => (match S2[k]? with
    | some (.ins nm fs) => if nm ∈ nms ∧ fs.length < 1000 then .ok (.nx r) (S2.set k (.ins nm (putA f d fs))) else .bad
    | _ => .bad)
  | _ => .bad
theorem Sta.putI {K : PySem.W.Frag} {mg : Str → Option Value} {H : Hp} {L Z : List Addr} {S : Store} {k : Nat} {p C dx : Addr} {nm : Str} {fs fs' : List (Str × PV)} {vs' : List (Str × V)} (st : Sta K mg H L Z S) (e : S[k]? = some (.ins nm fs)) (hk : L[k]? = some p) (hm : mg nm = some (.ref C)) (a : Atf K mg H L Z fs' vs') :
    Ext H L (upd H p (.ins C dx vs')) L ∧ Sta K mg (upd H p (.ins C dx vs')) L Z (S.set k (.ins nm fs')) := by
  have hp : p ∈ L := List.mem_of_getElem? hk
  obtain ⟨C1, dx1, vs, _, h1, _⟩ := st.cells k _ p e hk
  have x : Ext H L (upd H p (.ins C dx vs')) L := by
    refine ⟨⟨[], by simp, fun _ h => nomatch h⟩, fun b u h hm _ => ?_, fun b u h => ?_⟩
    · by_cases hb : b = p
      · subst hb; rw [h1] at h; cases h; exact absurd trivial (hm hp)
      · rw [upd_ne hb]; exact h
    · by_cases hb : b = p
      · subst hb; exact ⟨_, upd_same⟩
      · exact ⟨u, by rw [upd_ne hb]; exact h⟩
  refine ⟨x, st.nd, by simp [st.len], fun i c b h2 h3 => ?_, fun b h => ?_, st.dj, fun p' hp' => tab_but (st.tabs p' hp') h1 fun a ha => upd_ne ha⟩
  · by_cases hi : k = i
    · subst hi
      rw [hk] at h3; cases h3
      have hl : k < S.length := (List.getElem?_eq_some_iff.mp e).1
      rw [List.getElem?_set_self hl] at h2; cases h2
      exact ⟨C, dx, vs', hm, upd_same, a.mono x⟩
    · rw [List.getElem?_set_ne hi] at h2
      have hb : b ≠ p := fun z => by
        subst z
        obtain ⟨n1, e1⟩ := List.getElem?_eq_some_iff.mp hk
        obtain ⟨n2, e2⟩ := List.getElem?_eq_some_iff.mp h3
        exact hi ((List.getElem_inj st.nd).mp (e1.trans e2.symm))
      exact (st.cells i c b h2 h3).mono x (by rw [upd_ne hb])
  · obtain ⟨u, hu⟩ := st.zt b h
    by_cases hb : b = p
    · subst hb; exact ⟨_, upd_same⟩
    · exact ⟨u, by rw [upd_ne hb]; exact hu⟩
theorem DS.fldSet {nms : List Str} {fl : Str} {fv : EM} {pos' : Pos} (hc : ∀ nm ∈ nms, ∀ C, X.mg nm = some (.ref C) → Cls X.K C ∧ NoAttr X.K C fl) (ho : De X (kW W) o fo) (hv : De X (kW W) e fv) (hs : swapsWith e (some (.Attribute o fl pos')) pos.line X.env = pure false := by rfl) :
    DS X W (.Assign [.Attribute o fl pos'] e pos) (sFldSet nms fl fo fv) := by
  refine Jd.mk ?_
  intro pins s σ H r S L Z D I sl st p
  refine plainObj_wpAny_Assign_Attribute (hv.stepS I sl st p fun d S1 y u s1 H1 L1 I1 r1 sl1 st1 x1 a1 p1 => ho.stepS I1 sl1 st1 p1 fun x S2 ov w s2 H2 L2 I2 r2 sl2 st2 x2 a2 p2 => ?_) hs
  have a1 := a1.mono x2
  cases x with
  | loc k' =>
    cases hc2 : S2[k']? with
    | none => simp only [hc2] at p2; exact p2.elim
    | some cl =>
      cases cl with
      | lst ds => simp only [hc2] at p2; exact p2.elim
      | dic kvs ep => simp only [hc2] at p2; exact p2.elim
      | ins nm fs =>
        simp only [hc2] at p2
        by_cases hz : nm ∈ nms ∧ fs.length < 1000
        · rw [if_pos hz] at p2
          cases a2 with
          | loc hk =>
            obtain ⟨C', dx, vs, e0, e1, b1⟩ := st2.cells k' _ _ hc2 hk
            obtain ⟨c, na⟩ := hc nm hz.1 C' e0
            cases r2
            obtain ⟨x4, st4⟩ := st2.putI (dx := dx) hc2 hk e0 (b1.put (f := fl) a1)
            exact setattr_ok I2 e1 c na (by rw [← b1.len]; exact hz.2) r1 fun s3 I3 => ⟨σ, _, I3, p2 σ _ L2 x4 (sl2.mono x4) st4⟩
        · rw [if_neg hz] at p2; exact p2.elim
  | _ => exact (show False from p2).elim
end
end Dn

set_option Elab.async false
set_option linter.all false
set_option maxRecDepth 100000
set_option maxHeartbeats 4000000
namespace Dn
open PySem PySem.Spec PyProof.Rows L2

/-! ### list comprehensions -/
abbrev WN : XK := fun _ _ _ => False
/-- within a comprehension nothing may be raised -/
def okOnly {α : Type} : Res α → Res α
  | .ok a S => .ok a S
  | _ => .bad
@[simp] theorem okOnly_ok {α : Type} (a : α) (S : Store) : okOnly (.ok a S) = .ok a S := nr rfl
def wipeE (r : Env1) : List Nat → Env1
  | [] => r
  | v :: vs => (wipeE r vs).set v none
def bYes : BM := fun _ S => .ok true S
noncomputable def compM (g : GM) (t : BM) (f : EM) (c : Src) (r0 : Env1) : List PV → Store → Res (List PV)
  | [], S => open Classical in if c.there S then .ok [] S else .bad
  | d :: ds, S => open Classical in if c.there S then (match g d r0 with
    | some r1 => (okOnly (t r1 S)).bind fun k S1 => if k = true then (okOnly (f r1 S1)).bind fun v S2 => (compM g t f c r0 ds S2).bind fun vs S3 => .ok (v :: vs) S3
        else compM g t f c r0 ds S1
    | none => .bad) else .bad
noncomputable def lComp (own : List Nat) (i : IM) (g : GM) (t : BM) (f : EM) : LM := fun r S => (i r S).bind fun c S1 => if c.ds.length ≤ sizeLine then compM g t f c (wipeE r own) c.ds S1 else .bad
def DTs (X : Cx) (W : WX) (es : List Expr) (f : BM) : Prop := PTs X es (rdT X W f)
section
variable {X : Cx} {W : WX}
theorem DTs.nil : DTs X W [] bYes := ⟨fun pins s σ H Q I ⟨r, S, L, Z, sl, st, p⟩ => pts_nil.run pins s σ H Q I (p true H L (Ext.refl H L) st rfl)⟩
theorem DTs.one {e : Expr} {b : BM} (h : DT X W e b) : DTs X W [e] b := pts_one h.pt
theorem takes_never {X : Cx} : Takes X (kW WN) := fun u s' x => by
  obtain ⟨_, _, _, _, _, _, _, _, _, _, _, _, _, _, _, _, z⟩ := x
  exact z.elim
theorem wipeE_get {r : Env1} {i : Nat} {d : PV} : ∀ {vs : List Nat}, (wipeE r vs)[i]? = some (some d) → r[i]? = some (some d) ∧ i ∉ vs
  | [], h => ⟨h, by simp⟩
  | v :: vs, h => by
    unfold wipeE at h
    by_cases hi : v = i
    · subst hi
      by_cases hv : v < (wipeE r vs).length
      · rw [List.getElem?_set_self hv] at h; cases h
      · rw [List.getElem?_eq_none (by simpa using hv)] at h; cases h
    · rw [List.getElem?_set_ne hi] at h
      obtain ⟨h1, h2⟩ := wipeE_get h
      exact ⟨h1, by simp only [List.mem_cons, not_or]; exact ⟨fun e => hi e.symm, h2⟩⟩
theorem Slots.wipe {K : PySem.W.Frag} {mg : Str → Option Value} {H : Hp} {L Z : List Addr} {r : Env1} {σ : L2.St} (sl : Slots K mg H L Z r σ) (vs : List Nat) : Slots K mg H L Z (wipeE r vs) (wipe σ vs) := fun i d e => by
  obtain ⟨e1, n⟩ := wipeE_get e
  obtain ⟨v, e2, a⟩ := sl i d e1
  exact ⟨v, by rw [wipe_out n]; exact e2, a⟩
theorem wipe_in {σ : L2.St} {i : Nat} : ∀ {vs : List Nat}, i ∈ vs → (wipe σ vs)[i]? = if i < σ.length then some none else none
  | v :: vs, h => by
    unfold wipe
    by_cases e : v = i
    · subst e
      by_cases hl : v < σ.length
      · rw [if_pos hl, List.getElem?_set_self (by rw [wipe_length]; exact hl)]
      · rw [if_neg hl, List.getElem?_eq_none (by rw [List.length_set, wipe_length]; omega)]
    · rw [List.getElem?_set_ne e]
      exact wipe_in ((List.mem_cons.mp h).elim (fun z => absurd z.symm e) id)
theorem wipe_chg {σ σ' : L2.St} {vs : List Nat} (h : Chg vs (wipe σ vs) σ') : wipe σ' vs = wipe σ vs := by
  refine List.ext_getElem? fun i => ?_
  have hl : σ'.length = σ.length := by rw [h.1, wipe_length]
  by_cases hi : i ∈ vs
  · rw [wipe_in hi, wipe_in hi, hl]
  · rw [wipe_out hi, wipe_out hi, h.2 i hi, wipe_out hi]
variable {tg iter elt : Expr} {ifs : List Expr} {scope : Scope} {own : List (Str × Nat)} {pos : Pos} {i : IM} {g : GM} {t : BM} {f : EM}
/-- the target's reading within a comprehension -/
abbrev rdG (X : Cx) (vs : List Nat) (g : GM) : TG := fun v σ H Q => ∃ r r' S L Z d, Slots X.K X.mg H L Z r σ ∧ Sta X.K X.mg H L Z S ∧ At X.K X.mg H L Z d v ∧ g d r = some r' ∧ ∀ σ' H' L', Chg vs σ σ' → Ext H L H' L' → Slots X.K X.mg H' L' Z r' σ' → Sta X.K X.mg H' L' Z S → Q σ' H'
theorem DG.pg {vs : List Nat} (h : DG X W vs tg g) : PG X tg (rdG X vs g) := ⟨fun pins s σ H v u Q I rv ⟨r, r', S, L, Z, d, sl, st, a, e, q⟩ => h.out pins s σ H r r' S L Z d v u Q I sl st a rv e q⟩
theorem lc_rd {σ : L2.St} {H : Hp} {r : Env1} {S : Store} {L Z : List Addr} {Q : VK} (sl : Slots X.K X.mg H L Z r σ) (st : Sta X.K X.mg H L Z S) (p : PostF X W σ Z (lComp (own.map (·.2)) i g t f r S) H L Q) :
    tLc (rdI X W i) (rdG X (own.map (·.2)) g) (rdT X (kW WN) t) (rdE X (kW WN) f) (own.map (·.2)) σ H Q := by
  refine ⟨r, S, L, Z, sl, st, ?_⟩
  unfold lComp at p
  cases q : i r S with
  | bad => rw [q] at p; exact p.elim
  | err c S1 => rw [q] at p; exact p
  | ok c S1 =>
    rw [q] at p
    replace p : PostF X W σ Z (if c.ds.length ≤ sizeLine then compM g t f c (wipeE r (own.map (·.2))) c.ds S1 else .bad) H L Q := p
    by_cases hz : c.ds.length ≤ sizeLine
    rotate_left
    · rw [if_neg hz] at p; exact p.elim
    rw [if_pos hz] at p
    intro J H0 L0 x0 st0 y D hD
    -- what is wanted at the end, by the items so far
    refine ⟨fun k m H' => ∃ S' L' acc vs, k + m = c.ds.length ∧ Ext H0 L0 H' L' ∧ H' D = some (.lst vs) ∧ Ats X.K X.mg H' L' (D :: Z) acc vs ∧ Sta X.K X.mg H' L' (D :: Z) S' ∧ acc.length ≤ k ∧
        ∃ res : Res (List PV), compM g t f c (wipeE r (own.map (·.2))) (c.ds.drop k) S' = res ∧ (match res with
          | .ok ds S2 => PostF X W σ Z (.ok (acc ++ ds) S2) H L Q
          | _ => False), ⟨c.ds.length, S1, L0, [], [], Nat.zero_add _, Ext.laid hD, upd_same, .nil, st0.hid hD, Nat.zero_le _, _, rfl, ?_⟩, ?_⟩
    · cases q2 : compM g t f c (wipeE r (own.map (·.2))) (c.ds.drop 0) S1 with
      | ok ds S2 => rw [List.drop_zero] at q2; rw [q2] at p; exact p
      | err cl S2 =>
        -- nothing is raised there
        exfalso
        have noerr : ∀ (l : List PV) (S : Store) (cl : Str) (S2 : Store), compM g t f c (wipeE r (own.map (·.2))) l S ≠ .err cl S2 := by
          intro l
          induction l with
          | nil => intro S cl S2; unfold compM; split <;> (intro z; cases z)
          | cons d ds ih =>
            intro S cl S2
            unfold compM
            split
            · cases g d (wipeE r (own.map (·.2))) with
              | none => intro z; cases z
              | some r1 =>
                dsimp only
                cases t r1 S with
                | bad => intro z; cases z
                | err _ _ => intro z; cases z
                | ok k S3 =>
                  simp only [okOnly_ok, Res.bind_ok]
                  cases k with
                  | false => exact ih S3 cl S2
                  | true =>
                    simp only [if_true]
                    cases f r1 S3 with
                    | bad => intro z; cases z
                    | err _ _ => intro z; cases z
                    | ok v S4 =>
                      simp only [okOnly_ok, Res.bind_ok]
                      cases q5 : compM g t f c (wipeE r (own.map (·.2))) ds S4 with
                      | bad => intro z; cases z
                      | err a b => exact absurd q5 (ih S4 a b)
                      | ok a b => intro z; cases z
            · intro z; cases z
        exact noerr _ _ _ _ q2
      | bad => rw [List.drop_zero] at q2; rw [q2] at p; exact p
    · rintro k m H1 ⟨S2, L1, acc, vs, hm, x1, h1, a1, st1, hl, res, hres, pr⟩
      have x1' := x1
      have there : c.there S2 := by
        refine Classical.byContradiction fun z => ?_
        cases hd : c.ds.drop k with
        | nil => rw [hd] at hres; unfold compM at hres; rw [if_neg z] at hres; subst hres; exact pr
        | cons d ds => rw [hd] at hres; unfold compM at hres; rw [if_neg z] at hres; subst hres; exact pr
      have yst : Sta X.K X.mg H1 L1 Z S2 := st1.unhide
      cases m with
      | zero =>
        have hk : k = c.ds.length := by omega
        subst hk
        rw [List.drop_length] at hres
        unfold compM at hres
        rw [if_pos there] at hres
        subst hres
        refine .inl ⟨y.stop H1 L1 S2 x1 yst there, ?_⟩
        have pz : D ∉ Z := fun z => by obtain ⟨u, hu⟩ := st0.zt D z; rw [hD] at hu; cases hu
        have := pr vs D (cut H1 D) L1 (x0.trans (x1.but hD h1 (cut_but H1 D))) (st1.drop pz h1 trivial) (by rw [List.append_nil]; exact (Ats.stirB h1 trivial (cut_but H1 D) a1).unhide) (cut_at H1 D)
        rw [cut_upd h1] at this
        exact this
      | succ m =>
        have hk : k < c.ds.length := by omega
        rw [List.drop_eq_getElem_cons hk] at hres
        unfold compM at hres
        rw [if_pos there] at hres
        refine .inr ⟨y.go k H1 L1 S2 x1 yst there hk, fun H' => ∃ S' L' acc vs, Ext H0 L0 H' L' ∧ H' D = some (.lst vs) ∧ Ats X.K X.mg H' L' (D :: Z) acc vs ∧ Sta X.K X.mg H' L' (D :: Z) S' ∧ acc.length ≤ k + 1 ∧
          ∃ res : Res (List PV), compM g t f c (wipeE r (own.map (·.2))) (c.ds.drop (k + 1)) S' = res ∧ (match res with
          | .ok ds S2 => PostF X W σ Z (.ok (acc ++ ds) S2) H L Q
          | _ => False), fun H' ⟨S', L', acc', vs', b1, b2, b3, b4, b5, b6⟩ => ⟨m, Nat.lt_succ_self m, S', L', acc', vs', by omega, b1, b2, b3, b4, b5, b6⟩, fun v H2 yv => ?_⟩
        obtain ⟨d, hd, x2, st2', a2⟩ := y.yld [D] k H1 L1 S2 v H2 (fun q hq => by simp at hq; subst hq; exact hD) x1 st1 there yv hk
        have hd' : c.ds[k] = d := by
          rw [List.getElem?_eq_getElem hk] at hd; exact Option.some.inj hd
        rw [hd'] at hres
        have x12 := x1.trans x2
        have hD2 : H2 D = some (.lst vs) := x2.keep D _ h1 (fun z => absurd List.mem_cons_self (st1.dj D z)) (fun _ => nofun)
        have sl0 : Slots X.K X.mg H2 L1 (D :: Z) (wipeE r (own.map (·.2))) (wipe σ (own.map (·.2))) := ((((sl.mono x0).wipe (own.map (·.2))).hide hD).mono x12)
        have acc2 := a1.mono x2
        cases hg' : g d (wipeE r (own.map (·.2))) with
        | none => simp only [hg'] at hres; subst hres; exact pr.elim
        | some r1 =>
          simp only [hg'] at hres
          refine ⟨_, r1, S2, L1, D :: Z, d, sl0, st2', a2, hg', fun σ3 H3 L3 chg x3 sl3 st3 => ⟨wipe_chg chg, r1, S2, L3, D :: Z, sl3, st3, ?_⟩⟩
          cases qt : t r1 S2 with
          | bad => rw [qt] at hres; subst hres; exact pr.elim
          | err _ _ => rw [qt] at hres; subst hres; exact pr.elim
          | ok kb S3 =>
            rw [qt] at hres
            simp only [okOnly_ok, Res.bind_ok] at hres
            intro kb' H4 L4 x4 st4 e4
            have e4 : kb = kb' := e4
            subst e4
            have x34 := x3.trans x4
            cases kb with
            | false =>
              rw [if_neg Bool.false_ne_true] at hres ⊢
              exact ⟨S3, L4, acc, vs, x12.trans x34, x34.keep D _ hD2 (fun z => absurd List.mem_cons_self (st2'.dj D z)) (fun _ => nofun), acc2.mono x34, st4, Nat.le_succ_of_le hl, res, hres, pr⟩
            | true =>
              rw [if_pos rfl] at hres ⊢
              refine ⟨r1, S3, L4, D :: Z, sl3.mono x4, st4, ?_⟩
              cases qf : f r1 S3 with
              | bad => rw [qf] at hres; subst hres; exact pr.elim
              | err _ _ => rw [qf] at hres; subst hres; exact pr.elim
              | ok w S5 =>
                rw [qf] at hres
                simp only [okOnly_ok, Res.bind_ok] at hres
                intro yv H5 L5 x5 st5 a5
                have x35 := x34.trans x5
                have hD5 : H5 D = some (.lst vs) := x35.keep D _ hD2 (fun z => absurd List.mem_cons_self (st2'.dj D z)) (fun _ => nofun)
                have acc5 := acc2.mono x35
                cases qc : compM g t f c (wipeE r (own.map (·.2))) (c.ds.drop (k + 1)) S5 with
                | bad => rw [qc] at hres; subst hres; exact pr.elim
                | err _ _ => rw [qc] at hres; subst hres; exact pr.elim
                | ok ds S6 =>
                  rw [qc] at hres
                  simp only [Res.bind_ok] at hres
                  subst hres
                  refine ⟨vs, hD5, by rw [← acc5.len]; omega, S5, L5, acc ++ [w], vs ++ [yv], (x12.trans x35).but hD hD5 (But.upd D H5 _), upd_same, Ats.stir hD5 trivial (acc5.append (.cons a5 .nil)), Sta.stir st5 hD5 trivial, by simp; omega, _, qc, ?_⟩
                  simpa [List.append_assoc] using pr
section
variable (hc : X.calm = true) (hN : X.N.Nodup) (hi : DI X W tg iter i) (ok : BlkOk X.N X.env.scope scope own)
    (hg : ∀ (s : Shared) (H : Hp) (C : Addr) (cl : List (Str × Addr)) (fp : List Addr), DG (X.blk s H scope (compEnvC scope cl C X.env) fp) (kW WN) (own.map (·.2)) tg g)
    (ht : ∀ (s : Shared) (H : Hp) (C : Addr) (cl : List (Str × Addr)) (fp : List Addr), DTs (X.blk s H scope (compEnvC scope cl C X.env) fp) (kW WN) ifs t)
    (he : ∀ (s : Shared) (H : Hp) (C : Addr) (cl : List (Str × Addr)) (fp : List Addr), De (X.blk s H scope (compEnvC scope cl C X.env) fp) (kW WN) elt f)
include hc hN hi ok hg ht he
theorem DF.comp (hs : ∀ x, foldedSetIterable iter X.env x = pure x := by intro _; rfl) : DF X W (.ListComp elt [⟨tg, iter, ifs, 0⟩] scope pos) (lComp (own.map (·.2)) i g t f) := by
  refine Jd.mk ?_
  intro pins s σ H r S L Z Q I sl st p
  exact (pe_lc (pos := pos) (g := rdG X (own.map (·.2)) g) (tt := rdT X (kW WN) t) (te := rdE X (kW WN) f) hc hN hi.pi ok (fun s H C cl fp => (hg s H C cl fp).pg) ht (fun s H C cl fp => (he s H C cl fp).pe) hs).run pins s σ H Q I (lc_rd sl st p)
end
end
section
variable {X : Cx} {W : XK} {tg iter elt : Expr} {ifs : List Expr} {scope : Scope} {own : List (Str × Nat)} {pos spos py : Pos} {i : IM} {g : GM} {t : BM} {f : EM} {j : Nat} {y : Str}
variable (hc : X.calm = true) (hN : X.N.Nodup) (hy : X.N[j]? = some y) (hyl : X.env.scope.names.lookup y = some .local) (hi : DI X (kW W) tg iter i) (ok : BlkOk X.N X.env.scope scope own)
    (hg : ∀ (s : Shared) (H : Hp) (C : Addr) (cl : List (Str × Addr)) (fp : List Addr), DG (X.blk s H scope (compEnvC scope cl C X.env) fp) (kW WN) (own.map (·.2)) tg g)
    (ht : ∀ (s : Shared) (H : Hp) (C : Addr) (cl : List (Str × Addr)) (fp : List Addr), DTs (X.blk s H scope (compEnvC scope cl C X.env) fp) (kW WN) ifs t)
    (he : ∀ (s : Shared) (H : Hp) (C : Addr) (cl : List (Str × Addr)) (fp : List Addr), De (X.blk s H scope (compEnvC scope cl C X.env) fp) (kW WN) elt f)
include hc hN hy hyl hi ok hg ht he
/-- y = [..] on one line, y a local -/
theorem DS.setComp (hsw : swapsWith (.ListComp elt [⟨tg, iter, ifs, 0⟩] scope pos) (some (.Name y py)) spos.line X.env = pure true) (hs : ∀ x, foldedSetIterable iter X.env x = pure x := by intro _; rfl) :
    DS X W (.Assign [.Name y py] (.ListComp elt [⟨tg, iter, ifs, 0⟩] scope pos) spos) (sSet j (eNew (lComp (own.map (·.2)) i g t f))) := by
  refine Jd.mk ?_
  intro pins s σ H r S L Z D I sl st p
  refine (ps_setLc (g := rdG X (own.map (·.2)) g) (tt := rdT X (kW WN) t) (te := rdE X (kW WN) f) hc hN hy hyl hsw hi.pi ok (fun s H C cl fp => (hg s H C cl fp).pg) ht (fun s H C cl fp => (he s H C cl fp).pe) hs).run pins s σ H D I ?_
  have hj := lt_of_N I hy
  refine lc_rd (W := kW W) (Q := fun x H1 => gName j x σ H1 D.nx) sl st ?_
  unfold sSet eNew at p
  rw [Res.bind_assoc] at p
  cases q : lComp (own.map (·.2)) i g t f r S with
  | bad => rw [q] at p; exact p.elim
  | err c S1 => rw [q] at p; exact p
  | ok ds S1 =>
    rw [q] at p
    exact fun vs q' H' L' x st' at' n => (show PostS X W Z (.ok (.nx (r.set j (some (.lst ds)))) S1) H L D from p) _ _ L' (x.trans (Ext.laid n)) (((sl.mono x).mono (Ext.laid n)).set (.lst upd_same (st'.fresh n).1 (st'.fresh n).2 (at'.mono (Ext.laid n))) hj) (st'.laid n)
theorem DS.setCompC (hsw : swapsWith (.ListComp elt [⟨tg, iter, ifs, 0⟩] scope pos) (some (.Name y py)) spos.line X.env = pure true) (hs : ∀ x, foldedSetIterable iter X.env x = pure x := by intro _; rfl) :
    DS X W (.Assign [.Name y py] (.ListComp elt [⟨tg, iter, ifs, 0⟩] scope pos) spos) (sSet j (eCell (lComp (own.map (·.2)) i g t f))) := by
  refine Jd.mk ?_
  intro pins s σ H r S L Z D I sl st p
  refine (ps_setLc (g := rdG X (own.map (·.2)) g) (tt := rdT X (kW WN) t) (te := rdE X (kW WN) f) hc hN hy hyl hsw hi.pi ok (fun s H C cl fp => (hg s H C cl fp).pg) ht (fun s H C cl fp => (he s H C cl fp).pe) hs).run pins s σ H D I ?_
  have hj := lt_of_N I hy
  refine lc_rd (W := kW W) (Q := fun x H1 => gName j x σ H1 D.nx) sl st ?_
  unfold sSet eCell at p
  rw [Res.bind_assoc] at p
  cases q : lComp (own.map (·.2)) i g t f r S with
  | bad => rw [q] at p; exact p.elim
  | err c S1 => rw [q] at p; exact p
  | ok ds S1 =>
    rw [q] at p
    exact fun vs q' H' L' x st' at' n => (show PostS X W Z (.ok (.nx (r.set j (some (.loc S1.length)))) (S1 ++ [.lst ds])) H L D from p) _ _ (L' ++ [q']) (x.trans (Ext.own n)) (((sl.mono x).mono (Ext.own n)).set (.loc (by rw [st'.len, List.getElem?_append_right (Nat.le_refl _)]; simp)) hj) (st'.new n at')
end
end Dn

set_option Elab.async false
set_option linter.all false
set_option maxRecDepth 100000
set_option maxHeartbeats 4000000
namespace Dn
open PySem PySem.Spec PyProof.Rows L2

/-! ### built-ins that call a class's own -/
/-- the class nm has its own sp, a def of n parameters that does m -/
structure Spc (X : Cx) (sp : Str) (k : Nat) (nm : Str) (n : Nat) (m : Fn) : Prop where
  ex : ∃ (C f : Addr) (fd : FuncData) (ps : List Str), X.mg nm = some (.ref C) ∧ PySem.W.findIn X.K (.ref C) sp = some (some (.ref f)) ∧ PySem.W.isFn X.K (.ref f) = true ∧ FnG X.prog X.w X.K X.mg X.base k f fd ps m ∧ Binds X.K fd ps [] ∧ ps.length = n
section
variable {X : Cx} {W : XK}
/-- the callee runs, one deeper -/
theorem run_m1 {k : Nat} {f : Addr} {fd : FuncData} {ps : List Str} {m : Fn} {pins : List (Addr × Obj)} {σ : L2.St} {H : Hp} {s : Shared} {Q : VK} {us : List Value} {vs : List V} {ds : List PV} {S : Store} {L Z : List Addr} (F : FnG X.prog X.w X.K X.mg X.base k f fd ps m) (hr : RoomG (k + 1) X.A) (hb : Binds X.K fd ps [])
    (tk : Takes X (kW W)) (I : Inv X pins σ H s) (st : Sta X.K X.mg H L Z S) (a : Ats X.K X.mg H L Z ds vs) (r : Vals vs us) (hl : ds.length = ps.length) (h : PostV X (kW W) σ Z (m ds S) H L Q) : wpAny (model X.prog X.w) X.A.in1 (call (.ref f) us) (EP X pins σ Q) X.xe s := by
  have hl2 : (us ++ []).length = ps.length := by rw [List.append_nil, ← r.length, ← a.len]; exact hl
  have hb' := hb s us I.kIn hl2
  rw [List.append_nil] at hb'
  refine wpAny_call (codeAny_mono (F.run X.A.in1 X.stack s H ⟨us, []⟩ us _ ds S L Z Q W ⟨hr.rm.in1, hr.gd⟩ I.env0.in1 hb' r st a hl (PostK.of h fun _ _ z => z)) fun r s' hq => ?_)
  cases r with
  | error e => exact passes_call (W := kW W) tk (fun _ _ _ _ z => z) pins σ H s e s' I hq
  | ok fl =>
    cases fl with
    | ret u => exact I.after hq
    | next => exact False.elim hq
    | brk => exact False.elim hq
    | cont => exact False.elim hq
theorem run_m0 {k : Nat} {f : Addr} {fd : FuncData} {ps : List Str} {m : Fn} {pins : List (Addr × Obj)} {σ : L2.St} {H : Hp} {s : Shared} {Q : VK} {us : List Value} {vs : List V} {ds : List PV} {S : Store} {L Z : List Addr} (F : FnG X.prog X.w X.K X.mg X.base k f fd ps m) (hr : RoomG k X.A) (hb : Binds X.K fd ps [])
    (tk : Takes X (kW W)) (I : Inv X pins σ H s) (st : Sta X.K X.mg H L Z S) (a : Ats X.K X.mg H L Z ds vs) (r : Vals vs us) (hl : ds.length = ps.length) (h : PostV X (kW W) σ Z (m ds S) H L Q) : wpAny (model X.prog X.w) X.A (call (.ref f) us) (EP X pins σ Q) X.xe s :=
  run_m (dv := []) (us0 := []) F hr hb .nil rfl tk I st a r (by simpa using hl) (by simpa using h)
def asLen (d : PV) (S : Store) : Res PV := match d with
  | .int n => if 0 ≤ n ∧ n < 2 ^ 63 then .ok (.int n) S else .bad
  | _ => .bad
def asStr (d : PV) (S : Store) : Res PV := match d with
  | .str x => .ok (.str x) S
  | _ => .bad
/-- g, but of an object of the class nm m, then k -/
def vOwn (nm : Str) (m : Fn) (k : PV → Store → Res PV) (g : List PV → Store → Res PV) (ds : List PV) (S : Store) : Res PV := match ds with
  | [.obj n fs] => if n = nm then (m [.obj n fs] S).bind k else .bad
  | ds => g ds S
/-- a value's run with a further step -/
theorem PostV.step {W : WX} {σ : L2.St} {Z : List Addr} {x : Res PV} {k : PV → Store → Res PV} {H : Hp} {L : List Addr} {Q : VK} (p : PostV X W σ Z (x.bind k) H L Q) :
    PostV X W σ Z x H L (fun v H1 => ∃ d S1 L1, Sta X.K X.mg H1 L1 Z S1 ∧ At X.K X.mg H1 L1 Z d v ∧ PostV X W σ Z (k d S1) H1 L1 Q) := by
  cases x with
  | ok d S1 => exact fun v H1 L1 x1 st1 a1 => ⟨d, S1, L1, st1, a1, Post.ext p x1⟩
  | err c S1 => exact p
  | bad => exact p
theorem dc_lenO {k : Nat} {nm : Str} {m : Fn} (hr : RoomG (k + 1) X.A) (h : Spc X "__len__" k nm 1 m) (tk : Takes X (kW W)) : DC X (kW W) (.builtin "len") (vOwn nm m asLen vLen) := by
  intro pins s σ H S L Z Q ds xs us I st a r p0
  have gen : PostV X (kW W) σ Z (vLen ds S) H L Q → wpAny (model X.prog X.w) X.A (call (.builtin "len") us) (EP X pins σ Q) X.xe s := fun p => dc_len pins s σ H S L Z Q ds xs us I st a r p
  match ds, a, p0, gen with
  | [.obj n fs], a, p, _ =>
    replace p : PostV X (kW W) σ Z (if n = nm then (m [.obj n fs] S).bind asLen else .bad) H L Q := p
    by_cases hn : n = nm
    · rw [if_pos hn] at p
      subst hn
      obtain ⟨C, f, fd, ps, hm, hf, hi, F, hb, hl⟩ := h.ex
      have a' := a
      obtain ⟨v, rfl, av⟩ := a'.one
      obtain ⟨q, dx, vs, rfl, hq, _⟩ := obj_at hm av (by simp [ofC])
      obtain ⟨mA, O, _⟩ := ins_get I.hok hq
      obtain ⟨od, J, _⟩ := O.look
      obtain ⟨mm, Fr⟩ := I.fr
      obtain ⟨u, rfl, ru⟩ := vals1 r
      cases ru
      refine PySem.W.len_K Fr I.mod.kin J hf hi (thn (run_m1 F hr hb tk I st a (.cons rfl .nil) (by rw [hl]; rfl) p.step) fun u s1 ⟨w, H1, I1, rw1, d, S1, L1, st1, a1, p1⟩ => ?_)
      cases d with
      | int i =>
        cases a1
        obtain ⟨t, rfl⟩ := rw1
        have p1 : PostV X (kW W) σ Z (if 0 ≤ i ∧ i < 2 ^ 63 then .ok (.int i) S1 else .bad) H1 L1 Q := p1
        by_cases hz : 0 ≤ i ∧ i < 2 ^ 63
        · rw [if_pos hz] at p1
          exact ⟨hz, .int i, H1, I1.tok _, ⟨_, rfl⟩, post_val p1 st1 (.int _)⟩
        · rw [if_neg hz] at p1; exact p1.elim
      | _ => exact (show False from p1).elim
    · rw [if_neg hn] at p; exact p.elim
  | [], _, p, gen => exact gen p
  | [.non], _, p, gen => exact gen p
  | [.bl _], _, p, gen => exact gen p
  | [.int _], _, p, gen => exact gen p
  | [.str _], _, p, gen => exact gen p
  | [.tup _], _, p, gen => exact gen p
  | [.lst _], _, p, gen => exact gen p
  | [.loc _], _, p, gen => exact gen p
  | [.scr _], _, p, gen => exact gen p
  | [.ty _], _, p, gen => exact gen p
  | [.cls _], _, p, gen => exact gen p
  | [.exc _], _, p, gen => exact gen p
  | [.dic _], _, p, gen => exact gen p
  | [.dik _], _, p, gen => exact gen p
  | d :: _ :: _, _, p, gen => exact gen (by cases d <;> exact p)
theorem dc_reprO {k : Nat} {nm : Str} {m : Fn} (hr : RoomG (k + 1) X.A) (h : Spc X "__repr__" k nm 1 m) (tk : Takes X (kW W)) (hy : (X.K.lookup sysModules).isSome = true) : DC X (kW W) (.builtin "repr") (vOwn nm m asStr vRepr) := by
  intro pins s σ H S L Z Q ds xs us I st a r p0
  have gen : PostV X (kW W) σ Z (vRepr ds S) H L Q → wpAny (model X.prog X.w) X.A (call (.builtin "repr") us) (EP X pins σ Q) X.xe s := fun p => dc_repr hr.gd (by have := hr.rm.un; omega) hy pins s σ H S L Z Q ds xs us I st a r p
  match ds, a, p0, gen with
  | [.obj n fs], a, p, _ =>
    replace p : PostV X (kW W) σ Z (if n = nm then (m [.obj n fs] S).bind asStr else .bad) H L Q := p
    by_cases hn : n = nm
    · rw [if_pos hn] at p
      subst hn
      obtain ⟨C, f, fd, ps, hm, hf, hi, F, hb, hl⟩ := h.ex
      have a' := a
      obtain ⟨v, rfl, av⟩ := a'.one
      obtain ⟨q, dx, vs, rfl, hq, _⟩ := obj_at hm av (by simp [ofC])
      obtain ⟨mA, O, _⟩ := ins_get I.hok hq
      obtain ⟨od, J, _⟩ := O.look
      obtain ⟨mm, Fr⟩ := I.fr
      obtain ⟨u, rfl, ru⟩ := vals1 r
      cases ru
      refine PySem.W.repr_K (by have := hr.rm.un; show X.A.units + 1 < cLine; omega) Fr I.mod.kin J hf hi (thn (run_m1 F hr hb tk I st a (.cons rfl .nil) (by rw [hl]; rfl) p.step) fun u s1 ⟨w, H1, I1, rw1, d, S1, L1, st1, a1, p1⟩ => ?_)
      cases d with
      | str z =>
        cases a1
        obtain ⟨t, rfl⟩ := rw1
        exact ⟨.str z, H1, I1, ⟨_, rfl⟩, post_val p1 st1 (.str _)⟩
      | _ => exact (show False from p1).elim
    · rw [if_neg hn] at p; exact p.elim
  | [], _, p, gen => exact gen p
  | [.non], _, p, gen => exact gen p
  | [.bl _], _, p, gen => exact gen p
  | [.int _], _, p, gen => exact gen p
  | [.str _], _, p, gen => exact gen p
  | [.tup _], _, p, gen => exact gen p
  | [.lst _], _, p, gen => exact gen p
  | [.loc _], _, p, gen => exact gen p
  | [.scr _], _, p, gen => exact gen p
  | [.ty _], _, p, gen => exact gen p
  | [.cls _], _, p, gen => exact gen p
  | [.exc _], _, p, gen => exact gen p
  | [.dic _], _, p, gen => exact gen p
  | [.dik _], _, p, gen => exact gen p
  | d :: _ :: _, _, p, gen => exact gen (by cases d <;> exact p)

/-! ### in -/
/-- x in o, o of the class nm by its __contains__ m -/
def vInO (neg : Bool) (nm : Str) (m : Fn) (d e : PV) (S : Store) : Res PV := match e with
  | .obj n fs => if n = nm then (m [.obj n fs, d] S).bind fun z S1 => match z with
      | .bl b => .ok (.bl (if neg then !b else b)) S1
      | _ => .bad
    else .bad
  | _ => .bad
theorem dop_inO {k : Nat} {nm : Str} {m : Fn} (hr : RoomG k X.A) (h : Spc X "__contains__" k nm 2 m) (tk : Takes X (kW W)) : DOp X (kW W) (compareOp .In) (vInO false nm m) := by
  intro pins s σ H S L Z Q d e x y u v I st a1 a2 r1 r2 p
  cases e with
  | obj n fs =>
    replace p : PostV X (kW W) σ Z (if n = nm then (m [.obj n fs, d] S).bind fun z S1 => match z with
      | .bl b => .ok (.bl b) S1
      | _ => .bad else .bad) H L Q := p
    by_cases hn : n = nm
    · rw [if_pos hn] at p
      subst hn
      obtain ⟨C, f, fd, ps, hm, hf, hi, F, hb, hl⟩ := h.ex
      obtain ⟨q, dx, vs, rfl, hq, _⟩ := obj_at hm a2 (by simp [ofC])
      obtain ⟨mA, O, _⟩ := ins_get I.hok hq
      obtain ⟨od, J, _⟩ := O.look
      obtain ⟨mm, Fr⟩ := I.fr
      cases r2
      refine PySem.W.in_K Fr I.mod.kin J hf hi (thn (run_m0 F hr hb tk I st (.cons a2 (.cons a1 .nil)) (.cons rfl (.cons r1 .nil)) (by rw [hl]; rfl) (PostV.step p)) fun u s1 ⟨w, H1, I1, rw1, d, S1, L1, st1, a1, p1⟩ => ?_)
      cases d with
      | bl b => cases a1; cases rw1; exact wpAny_truthy_bool ⟨.bl b, H1, I1, rfl, post_val (show PostV X (kW W) σ Z (.ok (.bl b) S1) H1 L1 Q from p1) st1 (.bl _)⟩
      | _ => exact (show False from p1).elim
    · rw [if_neg hn] at p; exact p.elim
  | _ => exact (show False from p).elim
theorem dop_ninO {k : Nat} {nm : Str} {m : Fn} (hr : RoomG k X.A) (h : Spc X "__contains__" k nm 2 m) (tk : Takes X (kW W)) : DOp X (kW W) (compareOp .NotIn) (vInO true nm m) := by
  intro pins s σ H S L Z Q d e x y u v I st a1 a2 r1 r2 p
  cases e with
  | obj n fs =>
    replace p : PostV X (kW W) σ Z (if n = nm then (m [.obj n fs, d] S).bind fun z S1 => match z with
      | .bl b => .ok (.bl (!b)) S1
      | _ => .bad else .bad) H L Q := p
    by_cases hn : n = nm
    · rw [if_pos hn] at p
      subst hn
      obtain ⟨C, f, fd, ps, hm, hf, hi, F, hb, hl⟩ := h.ex
      obtain ⟨q, dx, vs, rfl, hq, _⟩ := obj_at hm a2 (by simp [ofC])
      obtain ⟨mA, O, _⟩ := ins_get I.hok hq
      obtain ⟨od, J, _⟩ := O.look
      obtain ⟨mm, Fr⟩ := I.fr
      cases r2
      refine PySem.W.notIn_K Fr I.mod.kin J hf hi (thn (run_m0 F hr hb tk I st (.cons a2 (.cons a1 .nil)) (.cons rfl (.cons r1 .nil)) (by rw [hl]; rfl) (PostV.step p)) fun u s1 ⟨w, H1, I1, rw1, d, S1, L1, st1, a1, p1⟩ => ?_)
      cases d with
      | bl b => cases a1; cases rw1; exact wpAny_truthy_bool ⟨.bl (!b), H1, I1, rfl, post_val (show PostV X (kW W) σ Z (.ok (.bl (!b)) S1) H1 L1 Q from p1) st1 (.bl _)⟩
      | _ => exact (show False from p1).elim
    · rw [if_neg hn] at p; exact p.elim
  | _ => exact (show False from p).elim
/-- flat values -/
def flat? : PV → Option V
  | .non => some .non
  | .bl b => some (.bl b)
  | .int i => some (.int i)
  | .str x => some (.str x)
  | _ => none
def flats? : List PV → Option (List V)
  | [] => some []
  | d :: ds => (flat? d).bind fun v => (flats? ds).map (v :: ·)
theorem flat_at {K : PySem.W.Frag} {mg : Str → Option Value} {H : Hp} {L Z : List Addr} {d : PV} {v w : V} (a : At K mg H L Z d v) (h : flat? d = some w) : v = w ∧ flatV v = true := by
  cases d with
  | non => cases a; cases h; exact ⟨rfl, rfl⟩
  | bl b => cases a; cases h; exact ⟨rfl, rfl⟩
  | int i => cases a; cases h; exact ⟨rfl, rfl⟩
  | str x => cases a; cases h; exact ⟨rfl, rfl⟩
  | _ => cases h
theorem flats_at {K : PySem.W.Frag} {mg : Str → Option Value} {H : Hp} {L Z : List Addr} : ∀ {ds : List PV} {vs ws : List V}, Ats K mg H L Z ds vs → flats? ds = some ws → vs = ws ∧ vs.all flatV = true
  | _, _, _, .nil, h => by simp [flats?] at h; subst h; exact ⟨rfl, rfl⟩
  | _, _, _, .cons (d := d) (ds := ds) h1 h2, h => by
    simp only [flats?] at h
    cases e : flat? d with
    | none => rw [e] at h; cases h
    | some w =>
      cases e2 : flats? ds with
      | none => rw [e, e2] at h; cases h
      | some ws =>
        rw [e, e2] at h; cases h
        obtain ⟨rfl, f1⟩ := flat_at h1 e
        obtain ⟨rfl, f2⟩ := flats_at h2 e2
        exact ⟨rfl, by rw [List.all_cons, f1, f2]; rfl⟩
/-- x in a list or a tuple of flat values -/
def vIn (neg : Bool) (d e : PV) (S : Store) : Res PV := match flat? d, (seqOf S e).bind flats? with
  | some x, some xs => .ok (.bl (if neg then !inV x xs else inV x xs)) S
  | _, _ => .bad
theorem dop_in {W : WX} : DOp X W (compareOp .In) (vIn false) := by
  intro pins s σ H S L Z Q d e x y u v I st a1 a2 r1 r2 p
  unfold vIn at p
  cases h1 : flat? d with
  | none => rw [h1] at p; exact p.elim
  | some x' =>
    cases h2 : seqOf S e with
    | none => rw [h1, h2] at p; exact p.elim
    | some ds =>
      cases h3 : flats? ds with
      | none => rw [h1, h2] at p; simp only [Option.bind_some, h3] at p; exact p.elim
      | some xs =>
        rw [h1, h2] at p
        simp only [Option.bind_some, h3] at p
        obtain ⟨rfl, f1⟩ := flat_at a1 h1
        obtain ⟨q, vs, rfl, hq, b⟩ := seq_at st a2 h2
        obtain ⟨rfl, f2⟩ := flats_at b h3
        exact op_in_seq pins s σ H _ _ u v Q I r1 r2 ⟨q, _, rfl, hq, f1, f2, post_val p st (.bl _)⟩
theorem dop_nin {W : WX} : DOp X W (compareOp .NotIn) (vIn true) := by
  intro pins s σ H S L Z Q d e x y u v I st a1 a2 r1 r2 p
  unfold vIn at p
  cases h1 : flat? d with
  | none => rw [h1] at p; exact p.elim
  | some x' =>
    cases h2 : seqOf S e with
    | none => rw [h1, h2] at p; exact p.elim
    | some ds =>
      cases h3 : flats? ds with
      | none => rw [h1, h2] at p; simp only [Option.bind_some, h3] at p; exact p.elim
      | some xs =>
        rw [h1, h2] at p
        simp only [Option.bind_some, h3] at p
        obtain ⟨rfl, f1⟩ := flat_at a1 h1
        obtain ⟨q, vs, rfl, hq, b⟩ := seq_at st a2 h2
        obtain ⟨rfl, f2⟩ := flats_at b h3
        exact op_notIn_seq pins s σ H _ _ u v Q I r1 r2 ⟨q, _, rfl, hq, f1, f2, post_val p st (.bl _)⟩

/-! ### isinstance -/
/-- the name of a value's built-in type -/
def tyN (S : Store) : PV → Option String
  | .non => some "NoneType"
  | .bl _ => some "bool"
  | .int _ => some "int"
  | .str _ => some "str"
  | .tup _ => some "tuple"
  | .dik _ => some "dict"
  | d => match lstOf S d with
    | some _ => some "list"
    | none => none
/-- the program's classes that isinstance may meet (none of them above another) -/
structure InsF (K : PySem.W.Frag) (C : Addr) : Prop where
  cl : Cls K C
  ha : PySem.W.findIn K (.ref C) "__class__" = some (some (.builtin "object.__class__"))
  hn : PySem.W.specialIn K (.builtin "object.__class__") "__get__" = some (some (.builtin "getset_descriptor.__get__"))
  htk : PySem.W.takesIn K (.builtin "object.__class__") = some true
  hm : PySem.W.mroIn K C (.type "object") = some true
structure IsiF (X : Cx) (cl : List Str) : Prop where
  ins : ∀ nm ∈ cl, ∀ C, X.mg nm = some (.ref C) → InsF X.K C
  ty : ∀ nm ∈ cl, ∀ C, X.mg nm = some (.ref C) → ∀ n ∈ (["int", "bool", "str", "tuple", "list", "dict"] : List String), PySem.W.kitOne X.K (.ref C) (.type n) = some false
  own : ∀ nm ∈ cl, ∀ C, X.mg nm = some (.ref C) → ∀ n ∈ (["NoneType", "bool", "int", "str", "tuple", "list", "dict"] : List String), PySem.W.kitOne X.K (.type n) (.ref C) = some false
  two : ∀ nm ∈ cl, ∀ nm' ∈ cl, ∀ C C', X.mg nm = some (.ref C) → X.mg nm' = some (.ref C') → PySem.W.kitOne X.K (.ref C) (.ref C') = some (decide (nm = nm'))
def isiT (t n : String) : Bool := t == n || (t == "bool" && n == "int")
def isi0 (o : Option String) (f : String → Bool) (S : Store) : Res PV := match o with
  | some t => .ok (.bl (f t)) S
  | none => .bad
def isi1 (cl : List Str) (f : String → Bool) (g : Str → Bool) (d : PV) (S : Store) : Res PV := match d with
  | .obj nm _ => if nm ∈ cl then .ok (.bl (g nm)) S else .bad
  | d => isi0 (tyN S d) f S
def vIsi (cl : List Str) (ds : List PV) (S : Store) : Res PV := match ds with
  | [d, .ty n] => if n ∈ (["int", "bool", "str", "tuple", "list", "dict"] : List String) then isi1 cl (fun t => isiT t n) (fun _ => false) d S else .bad
  | [d, .cls nm'] => if nm' ∈ cl then isi1 cl (fun _ => false) (fun nm => decide (nm = nm')) d S else .bad
  | _ => .bad
theorem tyN_at {K : PySem.W.Frag} {mg : Str → Option Value} {H : Hp} {L Z : List Addr} {S : Store} {d : PV} {v : V} {t : String} (st : Sta K mg H L Z S) (a : At K mg H L Z d v) (h : tyN S d = some t) : TyX K H v (.type t) ∧ t ∈ (["NoneType", "bool", "int", "str", "tuple", "list", "dict"] : List String) := by
  have gen : (match lstOf S d with
    | some _ => some "list"
    | none => none) = some t → TyX K H v (.type t) ∧ t ∈ (["NoneType", "bool", "int", "str", "tuple", "list", "dict"] : List String) := fun h => by
    cases e : lstOf S d with
    | none => rw [e] at h; cases h
    | some xs =>
      rw [e] at h; cases h
      obtain ⟨q, vs, rfl, h1, _⟩ := lst_at st a e
      exact ⟨.base (.lst h1), by simp⟩
  cases d with
  | non => cases a; cases h; exact ⟨.base .non, by simp⟩
  | bl b => cases a; cases h; exact ⟨.base (.bl b), by simp⟩
  | int i => cases a; cases h; exact ⟨.base (.int i), by simp⟩
  | str x => cases a; cases h; exact ⟨.base (.str x), by simp⟩
  | tup xs =>
    cases h
    cases a with
    | tup h1 h2 =>
      refine ⟨?_, by simp⟩
      rcases h1 with (h1 | ⟨o, h1⟩) | ⟨o, its, n, h1, h2, _⟩
      · exact .base (.tup h1)
      · exact .fTuple h1
      · exact .kTuple h1 h2
  | lst _ => exact gen h
  | obj _ _ => exact gen h
  | loc _ => exact gen h
  | scr _ => exact gen h
  | ty _ => exact gen h
  | cls _ => exact gen h
  | exc _ => exact gen h
  | dic _ => exact gen h
  | dik _ =>
    cases h
    cases a with
    | dik h1 _ _ _ => exact ⟨.base (.dK h1), by simp⟩
theorem kit_two {K : PySem.W.Frag} {t n : String} (ht : t ∈ (["NoneType", "bool", "int", "str", "tuple", "list", "dict"] : List String)) (hn : n ∈ (["int", "bool", "str", "tuple", "list", "dict"] : List String)) : PySem.W.kitOne K (.type t) (.type n) = some (isiT t n) := by
  have all : ∀ t ∈ (["NoneType", "bool", "int", "str", "tuple", "list", "dict"] : List String), ∀ n ∈ (["int", "bool", "str", "tuple", "list", "dict"] : List String), kitB t n = some (isiT t n) := by decide +kernel
  exact kit_ty (all t ht n hn)
theorem dc_isi {W : WX} {cl : List Str} (hi : IsiF X cl) : DC X W (.builtin "isinstance") (vIsi cl) := DC.of call_isi fun σ H S L Z Q ds xs st a p => by
  match ds, a, p with
  | [d, .ty n], .cons a1 (.cons a2 .nil), p =>
    cases a2
    replace p : PostV X W σ Z (if n ∈ (["int", "bool", "str", "tuple", "list", "dict"] : List String) then isi1 cl (fun t => isiT t n) (fun _ => false) d S else .bad) H L Q := p
    by_cases hn : n ∈ (["int", "bool", "str", "tuple", "list", "dict"] : List String)
    · rw [if_pos hn] at p
      have gen : PostV X W σ Z (isi0 (tyN S d) (fun t => isiT t n) S) H L Q → ∀ v, At X.K X.mg H L Z d v → rIsi X.K [v, .ty n] H Q := fun p v a1 => by
        cases h : tyN S d with
        | none => rw [h] at p; exact p.elim
        | some t =>
          rw [h] at p
          obtain ⟨ty, ht⟩ := tyN_at st a1 h
          exact ⟨v, .ty n, .type t, .type n, _, rfl, .ty n, ty, kit_two ht hn, post_val p st (.bl _)⟩
      cases d with
      | obj nm fs =>
        replace p : PostV X W σ Z (if nm ∈ cl then .ok (.bl false) S else .bad) H L Q := p
        by_cases hc : nm ∈ cl
        · rw [if_pos hc] at p
          cases a1 with
          | obj h0 h1 _ _ _ =>
            have z := hi.ins nm hc _ h0
            exact ⟨_, .ty n, _, .type n, false, rfl, .ty n, .base (.ins h1 z.cl z.ha z.hn z.htk z.hm), hi.ty nm hc _ h0 n hn, post_val p st (.bl _)⟩
        · rw [if_neg hc] at p; exact p.elim
      | non => exact gen p _ a1
      | bl _ => exact gen p _ a1
      | int _ => exact gen p _ a1
      | str _ => exact gen p _ a1
      | tup _ => exact gen p _ a1
      | lst _ => exact gen p _ a1
      | loc _ => exact gen p _ a1
      | scr _ => exact gen p _ a1
      | ty _ => exact gen p _ a1
      | cls _ => exact gen p _ a1
      | exc _ => exact gen p _ a1
      | dic _ => exact gen p _ a1
      | dik _ => exact gen p _ a1
    · rw [if_neg hn] at p; exact p.elim
  | [d, .cls nm'], .cons a1 (.cons a2 .nil), p =>
    replace p : PostV X W σ Z (if nm' ∈ cl then isi1 cl (fun _ => false) (fun nm => decide (nm = nm')) d S else .bad) H L Q := p
    by_cases hn : nm' ∈ cl
    · rw [if_pos hn] at p
      cases a2 with
      | cls h2 =>
        have gen : PostV X W σ Z (isi0 (tyN S d) (fun _ => false) S) H L Q → ∀ v, At X.K X.mg H L Z d v → rIsi X.K [v, .ref _] H Q := fun p v a1 => by
          cases h : tyN S d with
          | none => rw [h] at p; exact p.elim
          | some t =>
            rw [h] at p
            obtain ⟨ty, ht⟩ := tyN_at st a1 h
            exact ⟨v, .ref _, .type t, .ref _, _, rfl, .own _, ty, hi.own nm' hn _ h2 t ht, post_val p st (.bl _)⟩
        cases d with
        | obj nm fs =>
          replace p : PostV X W σ Z (if nm ∈ cl then .ok (.bl (decide (nm = nm'))) S else .bad) H L Q := p
          by_cases hc : nm ∈ cl
          · rw [if_pos hc] at p
            cases a1 with
            | obj h0 h1 _ _ _ =>
              have z := hi.ins nm hc _ h0
              exact ⟨_, .ref _, _, .ref _, _, rfl, .own _, .base (.ins h1 z.cl z.ha z.hn z.htk z.hm), hi.two nm hc nm' hn _ _ h0 h2, post_val p st (.bl _)⟩
          · rw [if_neg hc] at p; exact p.elim
        | non => exact gen p _ a1
        | bl _ => exact gen p _ a1
        | int _ => exact gen p _ a1
        | str _ => exact gen p _ a1
        | tup _ => exact gen p _ a1
        | lst _ => exact gen p _ a1
        | loc _ => exact gen p _ a1
        | scr _ => exact gen p _ a1
        | ty _ => exact gen p _ a1
        | cls _ => exact gen p _ a1
        | exc _ => exact gen p _ a1
        | dic _ => exact gen p _ a1
        | dik _ => exact gen p _ a1
    · rw [if_neg hn] at p; exact p.elim
  | [], _, p => exact (show False from p).elim
  | [_], _, p => exact (show False from p).elim
  | _ :: _ :: _ :: _, _, p => exact (show False from by first | exact p | (rename_i y _ _ _; cases y <;> exact p)).elim
  | [_, .non], _, p => exact p.elim
  | [_, .bl _], _, p => exact p.elim
  | [_, .int _], _, p => exact p.elim
  | [_, .str _], _, p => exact p.elim
  | [_, .tup _], _, p => exact p.elim
  | [_, .lst _], _, p => exact p.elim
  | [_, .obj _ _], _, p => exact p.elim
  | [_, .loc _], _, p => exact p.elim
  | [_, .scr _], _, p => exact p.elim
  | [_, .exc _], _, p => exact p.elim
  | [_, .dic _], _, p => exact p.elim
  | [_, .dik _], _, p => exact p.elim
end
end Dn

set_option Elab.async false
set_option linter.all false
set_option maxRecDepth 100000
set_option maxHeartbeats 4000000
namespace Dn
open PySem PySem.Spec PyProof.Rows L2
/-! ### f-strings -/
def fmtOf (d : PV) (S : Store) : Res PV := match d with
  | .str y => if y.length ≤ sizeLine then .ok (.str y) S else .bad
  | .int i => if i.natAbs.log2 < 1920 then .ok (.str (toString i)) S else .bad
  | _ => .bad
def eFmt (a : EM) : EM := fun r S => (a r S).bind fmtOf
def joinM : List EM → Str → Env1 → Store → Res PV
  | [], acc, _, S => .ok (.str acc) S
  | f :: fs, acc, r, S => (f r S).bind fun d S1 => match d with
    | .str y => if (acc ++ y).length ≤ sizeLine then joinM fs (acc ++ y) r S1 else .bad
    | _ => .bad
def eJoin (fs : List EM) : EM := joinM fs Str.empty
inductive DJ (X : Cx) (W : WX) : List Expr → List EM → Prop where
  | nil : DJ X W [] []
  | cons {e : Expr} {f : EM} {es : List Expr} {fs : List EM} (h : De X W e f) (r : DJ X W es fs) : DJ X W (e :: es) (f :: fs)
section
variable {X : Cx} {W : WX} {e : Expr} {f : EM} {pos : Pos}
theorem De.fmt (h : De X W e f) : De X W (.FormattedValue e (-1) none pos) (eFmt f) := by
  refine Jd.mk ?_
  intro pins s σ H r S L Z Q I sl st p
  refine wpAny_FormattedValue_plain (h.step I sl st p fun d S1 x v s1 H1 L1 I1 r1 sl1 st1 x1 a1 p1 => ?_)
  cases d with
  | str y =>
    cases a1
    replace p1 : PostV X W σ Z (if y.length ≤ sizeLine then .ok (.str y) S1 else .bad) H1 L1 Q := p1
    by_cases hz : y.length ≤ sizeLine
    · rw [if_pos hz] at p1
      obtain ⟨t, rfl⟩ := r1
      exact wpAny_formatField_str ⟨.str y, H1, I1, ⟨t, rfl⟩, post_val p1 st1 (.str _)⟩ ⟨.str y, H1, I1.tok _, ⟨_, rfl⟩, post_val p1 st1 (.str _)⟩ hz
    · rw [if_neg hz] at p1; exact p1.elim
  | int i =>
    cases a1
    replace p1 : PostV X W σ Z (if i.natAbs.log2 < 1920 then .ok (.str (toString i)) S1 else .bad) H1 L1 Q := p1
    by_cases hz : i.natAbs.log2 < 1920
    · rw [if_pos hz] at p1
      obtain ⟨t, rfl⟩ := r1
      exact wpAny_formatField_int hz ⟨.str (toString i), H1, I1.tok _, ⟨_, rfl⟩, post_val p1 st1 (.str _)⟩
    · rw [if_neg hz] at p1; exact p1.elim
  | _ => exact (show False from p1).elim
theorem DJ.pj {es : List Expr} {fs : List EM} (h : DJ X W es fs) : PJ X es (fs.map (rdE X W)) := by
  induction h with
  | nil => exact .nil
  | cons h r ih => exact .cons h.pe ih
theorem join_rd : ∀ {fs : List EM} {acc : Str} {σ : L2.St} {H : Hp} {r : Env1} {S : Store} {L Z : List Addr} {Q : VK}, Slots X.K X.mg H L Z r σ → Sta X.K X.mg H L Z S → PostV X W σ Z (joinM fs acc r S) H L Q → tJs (fs.map (rdE X W)) acc σ H (fun x H1 => Q (.str x) H1)
  | [], acc, σ, H, r, S, L, Z, Q, sl, st, p => post_val p st (.str _)
  | f :: fs, acc, σ, H, r, S, L, Z, Q, sl, st, p => by
    refine ⟨r, S, L, Z, sl, st, ?_⟩
    unfold joinM at p
    cases q : f r S with
    | bad => rw [q] at p; exact p.elim
    | err c S1 => rw [q] at p; exact p
    | ok d S1 =>
      rw [q] at p
      intro v H' L' x st' a'
      cases d with
      | str y =>
        cases a'
        replace p : PostV X W σ Z (if (acc ++ y).length ≤ sizeLine then joinM fs (acc ++ y) r S1 else .bad) H L Q := p
        by_cases hz : (acc ++ y).length ≤ sizeLine
        · rw [if_pos hz] at p
          exact ⟨y, rfl, hz, join_rd (sl.mono x) st' (Post.ext p x)⟩
        · rw [if_neg hz] at p; exact p.elim
      | _ => exact (show False from p).elim
theorem De.joined {v1 v2 : Expr} {rest : List Expr} {fs : List EM} (h : DJ X W (v1 :: v2 :: rest) fs) : De X W (.JoinedStr (v1 :: v2 :: rest) pos) (eJoin fs) := by
  refine Jd.mk ?_
  intro pins s σ H r S L Z Q I sl st p
  exact (pe_joined h.pj).run pins s σ H Q I (join_rd sl st p)
end
/-! ### further statements -/
def sAsg (g : GM) (a : EM) : SM := fun r S => (a r S).bind fun d S1 => match g d r with
  | some r1 => .ok (.nx r1) S1
  | none => .bad
def sPar (i j : Nat) (a : LM) : SM := fun r S => (a r S).bind fun ds S1 => match ds with
  | [d, e] => .ok (.nx ((r.set i (some d)).set j (some e))) S1
  | _ => .bad
def sRaise (c : Str) : SM := fun _ S => .err c S
def sAug (i : Nat) (g : PV → PV → Store → Res PV) (a : EM) : SM := fun r S => (eVar i r S).bind fun d S0 => (a r S0).bind fun e S1 => (g d e S1).bind fun z S2 => .ok (.nx (r.set i (some z))) S2
section
variable {X : Cx} {W : XK} {e tg : Expr} {fe : EM} {la : LM} {g : GM} {pos : Pos} {vs0 : List Nat}
theorem DS.asg (he : De X (kW W) e fe) (hg : DG X (kW W) vs0 tg g) (hs : swapsWithSole [tg] e pos.line X.env = pure false := by rfl) (hw : swappedStores [tg] e X.env = pure none := by rfl)
    (h1 : (assignEach [tg] X.env).map (·.2) = [assign tg X.env] := by rfl) : DS X W (.Assign [tg] e pos) (sAsg g fe) := by
  refine Jd.mk ?_
  intro pins s σ H r S L Z D I sl st p
  refine wpAny_Assign_stores (he.stepS I sl st p fun d S1 x u s1 H1 L1 I1 r1 sl1 st1 x1 a1 p1 => ?_) hs hw
  rw [h1]
  cases q : g d r with
  | none => rw [q] at p1; exact p1.elim
  | some r2 =>
    rw [q] at p1
    exact thn (hg.out pins s1 σ H1 r r2 S1 L1 Z d x u (fun σ' H' => D.nx σ' H') I1 sl1 st1 a1 r1 q fun σ' H' L' _ x' sl' st' => p1 σ' H' L' x' sl' st') fun _ s2 q => q
theorem DS.par {i j : Nat} {x y : Str} {a b : Expr} {px py pt : Pos} {kt k2 pt2} (hc : X.calm = true) (hN : X.N.Nodup) (hi : X.N[i]? = some x) (hj : X.N[j]? = some y) (hij : i ≠ j)
    (hx : X.env.scope.names.lookup x = some .local) (hy : X.env.scope.names.lookup y = some .local) (ha : DA X (kW W) [a, b] la)
    (hw : swappedStores [.Tuple [.Name x px, .Name y py] kt pt] (.Tuple [a, b] k2 pt2) X.env = pure (some [x, y]))
    (hs : swapsWithSole [.Tuple [.Name x px, .Name y py] kt pt] (.Tuple [a, b] k2 pt2) pos.line X.env = pure false := by rfl) :
    DS X W (.Assign [.Tuple [.Name x px, .Name y py] kt pt] (.Tuple [a, b] k2 pt2) pos) (sPar i j la) := by
  refine Jd.mk ?_
  intro pins s σ H r S L Z D I sl st p
  refine (ps_par hc hN hi hj hij hx hy ha.pa hw hs).run pins s σ H D I ⟨r, S, L, Z, sl, st, ?_⟩
  have li := lt_of_N I hi
  have lj := lt_of_N I hj
  unfold sPar at p
  cases q : la r S with
  | bad => rw [q] at p; exact p.elim
  | err c S1 => rw [q] at p; exact p
  | ok ds S1 =>
    rw [q] at p
    intro vs H' L' x' st' a'
    match ds, a', p with
    | [d, e], .cons a1 (.cons a2 .nil), p =>
      exact ⟨_, _, rfl, (show PostS X W Z (.ok (.nx ((r.set i (some d)).set j (some e))) S1) H L D from p) _ H' L' x' (((sl.mono x').set a1 li).set a2 (by rw [List.length_set]; exact lj)) st'⟩
    | [], _, p => exact (show False from p).elim
    | [_], _, p => exact (show False from p).elim
    | _ :: _ :: _ :: _, _, p => exact (show False from p).elim
theorem DS.raise {c : Str} {C : Addr} (hc : X.calm = true) (tk : Takes X (kW W)) (hm : X.mg c = some (.ref C)) (he : PMk X e (fun _ H Q => Q (.ref C) none H)) : DS X W (.Raise (some e) none pos) (sRaise c) := by
  refine Jd.mk ?_
  intro pins s σ H r S L Z D I sl st p
  exact (ps_raise hc tk he).run pins s σ H D I (p H L _ (Ext.refl H L) st hm)
end
end Dn

set_option Elab.async false
set_option linter.all false
set_option maxRecDepth 100000
set_option maxHeartbeats 4000000
namespace Dn
open PySem PySem.Spec PyProof.Rows L2

/-! ### the end of a law: its def as a function says True -/
/-- the addresses of the tables -/
def tadr (K : PySem.W.Frag) : List Addr := (tabsOf K).map (·.1)
/-- what stands at first: the script, where it isn't known to K; the tables, empty -/
def hp0 (K : PySem.W.Frag) (a : Addr) (so : Obj) (ns : List Int) : Hp := fun b =>
  if b = a then (if (K.lookup a).isSome then none else some (.frz so (.lst (ns.map V.int)))) else if b ∈ tadr K then some (.tbl #[]) else none
theorem hp0_cases {K : PySem.W.Frag} {a b : Addr} {so : Obj} {ns : List Int} {u : HO} (h : hp0 K a so ns b = some u) : (b = a ∧ K.lookup a = none ∧ u = .frz so (.lst (ns.map V.int))) ∨ (b ≠ a ∧ b ∈ tadr K ∧ u = .tbl #[]) := by
  unfold hp0 at h
  by_cases z : b = a
  · rw [if_pos z] at h
    cases q : K.lookup a with
    | some o => rw [q] at h; simp at h
    | none => rw [q] at h; simp at h; exact .inl ⟨z, rfl, h.symm⟩
  · rw [if_neg z] at h
    by_cases z2 : b ∈ tadr K
    · rw [if_pos z2] at h; cases h; exact .inr ⟨z, z2, rfl⟩
    · rw [if_neg z2] at h; cases h
theorem law_run {P : Program} {w : World} {K : PySem.W.Frag} {mg mb : Str → Option Value} {k : Nat} {fa a : Addr} {fd : FuncData} {x : Str} {m : Fn} {s₁ : Shared} {vs : List Value} {ns : List Int}
    (KX : K.In s₁.heap) (hns : s₁.heap.Ns mainGlobals mg) (hb : s₁.heap.Ns builtinsNs mb) (hbb : ∀ x : Str, x ≠ "__name__" → mb x = bootBuiltins x) (hlim : s₁.heap.NoLimit) (hg : s₁.gens = #[])
    (bmn : ∃ (bm : Addr) (ob : Obj), mg "__builtins__" = some (.ref bm) ∧ bm ≠ builtinsNs ∧ s₁.heap.get? bm = some ob ∧ ob.cls = .type "module" ∧ ob.dict = some builtinsNs ∧ ob.data = .plain)
    (tE : ∀ b ∈ tadr K, s₁.heap.get? b = some { cls := .none, data := .fields #[] }) (tN : ∀ b ∈ tadr K, K.lookup b = none) (tC : ∀ b ∈ tadr K, ∃ c, PySem.W.CodeHd s₁.heap c b)
    (ha : s₁.heap.get? a = some { cls := .type "list", data := .seq vs.toArray }) (hi : IntsAre vs ns) (hl : ns.length ≤ sizeLine) (hr : Room k callerA)
    (F : ∀ base : Heap, K.In base → base.Ns mainGlobals mg → (∀ b ∈ tadr K, base.BuiltinsAt mg b) → FnG P w K mg base k fa fd [x] m) (hbind : ∀ (s : Shared) (u : Value), BindsTo s fd ⟨[u], []⟩ [(x, u)]) (hm : ∃ S, m [.scr ns] [] = .ok (.bl true) S) :
    codeAny (model P w) callerA (.call (.ref fa) ⟨[.ref a], []⟩) (fun r s' => r = .ok (.ret (.bool true)) ∧ OldK s₁.heap s'.heap ∧ s'.os = s₁.os ∧ AllBare s'.gens) s₁ := by
  obtain ⟨Sm, hm⟩ := hm
  have rv := vals_ints hi
  let so : Obj := { cls := .type "list", data := .seq vs.toArray }
  let H : Hp := hp0 K a so ns
  have aT : a ∉ tadr K := fun z => by
    have q := tE a z
    rw [ha] at q
    cases (show Data.seq vs.toArray _ = Data.fields #[] from congrArg Obj.data (Option.some.inj q))
  have hTab : ∀ b ∈ tadr K, H b = some (.tbl #[]) := fun b hb => by
    show hp0 K a so ns b = _
    unfold hp0
    rw [if_neg (fun z : b = a => aT (z ▸ hb)), if_pos hb]
  have hok : HOk P w H s₁.heap := fun b u h => by
    rcases hp0_cases h with ⟨rfl, _, rfl⟩ | ⟨_, hb, rfl⟩
    · exact ⟨ha, by rw [List.length_map]; exact hl, vs, _, rv, ha⟩
    · exact tE b hb
  have at_ : At K mg H [] [] (.scr ns) (.ref a) := by
    cases hk : K.lookup a with
    | some o =>
      have e := KX a o hk
      rw [ha] at e; cases e
      exact .scrk fun H' => .inr ⟨_, vs.toArray, _, hk, rfl, rfl, rfl, by rw [List.size_toArray, hi.length]; exact hl, by simpa using rv⟩
    | none =>
      refine .scr (.inr ⟨so, ?_⟩) (fun h => nomatch h) (fun h => nomatch h)
      show hp0 K a so ns a = _
      unfold hp0
      rw [if_pos rfl, hk]; rfl
  have kept : ∀ {b : Addr} {o : Obj}, s₁.heap.get? b = some o → H b = none → (hidT s₁.heap H).get? b = some o := fun e h => hidT_get e h
  -- an object of another kind isn't tracked
  have free : ∀ {b : Addr} {o : Obj}, s₁.heap.get? b = some o → o.data ≠ .seq vs.toArray → o.data ≠ .fields #[] → H b = none := fun {b o} e n1 n2 => by
    cases q : H b with
    | none => rfl
    | some u =>
      rcases hp0_cases q with ⟨rfl, _, _⟩ | ⟨_, hb, _⟩
      · rw [ha] at e; cases e; exact absurd rfl n1
      · rw [tE b hb] at e; cases e; exact absurd rfl n2
  have dicts : ∀ {b : Addr} {m : Str → Option Value}, s₁.heap.Ns b m → (hidT s₁.heap H).Ns b m := fun {b m} ⟨o, es, ep, e, d, r⟩ =>
    ⟨o, es, ep, kept e (free e (fun z => by rw [d] at z; cases z) (fun z => by rw [d] at z; cases z)), d, r⟩
  have KH : K.In (hidT s₁.heap H) := fun b o e => kept (KX b o e) (by
    cases q : H b with
    | none => rfl
    | some u =>
      rcases hp0_cases q with ⟨rfl, z, _⟩ | ⟨_, hb, _⟩
      · rw [z] at e; cases e
      · rw [tN b hb] at e; cases e)
  have md : Mod K mg (hidT s₁.heap H) := ⟨KH, dicts hns, ⟨mb, dicts hb, hbb⟩, let ⟨mc, h1, h2⟩ := hlim; ⟨mc, dicts h1, h2⟩⟩
  have bAt : ∀ b ∈ tadr K, (hidT s₁.heap H).BuiltinsAt mg b := fun b hb => by
    obtain ⟨bm, ob, b1, b2, b3, b4, b5, b6⟩ := bmn
    refine ⟨bm, ob, b1, b2, fun q => ?_, fun q => ?_, kept b3 (free b3 (fun z => by rw [b6] at z; cases z) (fun z => by rw [b6] at z; cases z)), b4, b5, b6⟩
    · obtain ⟨o, es, ep, e, hd, _⟩ := hns
      rw [q, e] at b3; cases b3
      rw [hd] at b6; cases b6
    · rw [q, tE b hb] at b3; cases b3; cases b6
  have e0 : Env0 P w K mg (hidT s₁.heap H) callerA [] s₁ H := ⟨rfl, md, fun b o e => of_hidT e, Nat.le_of_eq (hidT_size _ _), trivial, fun b hb => absurd (show b ∈ ([] : List Addr) from hb) (by simp), hok, .of_eq hg⟩
  have tabs : LamX.Tabs (tabsOf K) H := fun p hp => LamX.TabS.nil (hTab p.1 (List.mem_map.mpr ⟨p, hp, rfl⟩))
  have st : Sta K mg H [] [] [] := ⟨List.nodup_nil, rfl, fun i c b h => by simp at h, fun _ h => (nomatch h), fun _ h => (nomatch h), tabs⟩
  refine codeAny_mono ((F _ KH (dicts hns) bAt).run callerA [] s₁ H ⟨[.ref a], []⟩ [.ref a] [.ref a] [.scr ns] [] [] [] (fun v _ => v = .bl true) (fun _ _ _ => False) ⟨hr, rfl⟩ e0 (hbind s₁ (.ref a)) (.cons rfl .nil) st (.cons at_ .nil) rfl (by
    rw [hm]
    exact fun v H' L' _ _ at' => by cases at'; rfl)) fun r s' h => ?_
  cases r with
  | error e =>
    obtain ⟨_, _, _, _, _, _, _, _, _, _, _, _, z⟩ := h
    exact z.elim
  | ok fl =>
    cases fl with
    | next => exact False.elim h
    | brk => exact False.elim h
    | cont => exact False.elim h
    | ret u =>
      obtain ⟨v, H', os, bare, un, hok', r', q⟩ := h
      have q' : v = .bl true := q
      subst q'
      obtain rfl : u = Value.bool true := r'
      have stay : ∀ b o, b ∉ tadr K → s₁.heap.get? b = some o → s'.heap.get? b = some o := fun b o nb e => by
        cases q : H b with
        | none => exact un.keep b o e q (fun z => absurd (show b ∈ ([] : List Addr) from z) (by simp)) (by simp)
        | some u =>
          rcases hp0_cases q with ⟨rfl, _, rfl⟩ | ⟨_, hb, _⟩
          · obtain ⟨e1, _⟩ := hok b _ q
            obtain ⟨e2, _⟩ := hok' b _ (un.frzs b so _ q)
            rw [e] at e1; cases e1
            exact e2
          · exact absurd hb nb
      have more : ∀ b ∈ tadr K, ∃ ps : Array Value, s'.heap.get? b = some { cls := .none, data := .fields ps } := fun b hb => by
        obtain ⟨ps, z⟩ := un.tbls b #[] (hTab b hb)
        exact ⟨_, hok' b _ z⟩
      refine ⟨rfl, ⟨fun b o e => ?_, fun b o e => ?_⟩, os, bare⟩
      · by_cases hb : b ∈ tadr K
        · obtain ⟨ps, z⟩ := more b hb
          obtain ⟨c, hc⟩ := tC b hb
          have z0 := tE b hb
          rw [z0] at e; cases e
          exact .inr (.inl ⟨(hc.tab z0).isCodeTable, rfl, #[], ps, rfl, by rw [Array.empty_append]; exact z⟩)
        · exact .inl (stay b o hb e)
      · by_cases hb : b ∈ tadr K
        · obtain ⟨ps, z⟩ := more b hb
          exact ⟨_, z⟩
        · exact ⟨o, stay b o hb e⟩
/-- THE END of a law: F gives the written part, the function object, its function over every base -/
theorem walk_G {l : PySem.W.OpenLaw} {n k : Nat} {q : Program} {loose : List Str} {XP : (Str → Option Value) → Heap → Prop} {YP : World → Heap → Prop} {d : DefRec} {x : Str} {m : Fn}
    (hn : l.most = some n) (hn2 : n ≤ sizeLine) (hdf : d.params.defaults = []) (hr : Room k callerA)
    (F : ∀ (w : World) (mg : Str → Option Value) (fa : Addr) (h : Heap), YP w h → h.Ns mainGlobals mg → mg d.name = some (.ref fa) →
      ∃ (K : PySem.W.Frag) (fd : FuncData), K.In h ∧ ((∀ b ∈ tadr K, h.get? b = some { cls := .none, data := .fields #[] }) ∧ (∀ b ∈ tadr K, K.lookup b = none) ∧ ∀ b ∈ tadr K, ∃ c, PySem.W.CodeHd h c b) ∧ (∀ (s : Shared) (u : Value), BindsTo s fd ⟨[u], []⟩ [(x, u)]) ∧
        ∀ base : Heap, K.In base → base.Ns mainGlobals mg → (∀ b ∈ tadr K, base.BuiltinsAt mg b) → FnG l.prog w K mg base k fa fd [x] m)
    (hm : ∀ ns : List Int, ns.length ≤ n → (∀ z ∈ ns, Builtin.Int.intBits z ≤ 1048576) → ∃ S, m [.scr ns] [] = .ok (.bl true) S) :
    PySem.W.WalkO q loose XP YP l.row.toRowW d [] (fun f vs => PySem.call f vs) := by
  refine Att.attach_callB hn hdf fun w s₀ s₁ mg mb fa o pm cd doc a vs ns G Y ho hd hcd hmg hobj hints hlen hbits hg => ?_
  obtain ⟨K, fd, KX, ⟨t1, t2, t3⟩, hb, hF⟩ := F w mg fa _ Y G.T.g hmg
  exact law_run KX G.T.g G.T.b G.T.builtins G.T.nolimit hg G.T.bmain t1 t2 t3 hobj hints (Nat.le_trans hlen hn2) hr hF hb (hm ns hlen hbits)
end Dn

set_option Elab.async false
set_option linter.all false
set_option maxRecDepth 100000
set_option maxHeartbeats 4000000
namespace Dn
open PySem PySem.Spec PyProof.Rows L2

/-! ### what the head tells: functions by their places, facts -/
/-- where a def stands: a name of the module, a class's method, a property's getter, a classmethod's def -/
inductive Pl where
  | glo (x : Str) | meth (c m : Str) | get (c m : Str) | cm (c m : Str)
def recFst (K : PySem.W.Frag) (p : Addr) (t : String) : Addr := match PySem.W.recIn K p t with
  | some (.ref g :: _) => g
  | _ => 0
abbrev ga := He.ga
abbrev ma (K : PySem.W.Frag) (c m : Str) : Addr := He.ma K (He.ga K c) m
def Pl.ad (K : PySem.W.Frag) : Pl → Addr
  | .glo x => ga K x
  | .meth c m => ma K c m
  | .get c m => recFst K (ma K c m) "property"
  | .cm c m => recFst K (ma K c m) "classmethod"
structure Df where
  pl : Pl
  name : Str
  qual : Str
  params : Arguments
  body : List Stmt
  scope : Scope
  dfl : List He.Dv := []
abbrev FV : Type := Option (Str × Str × Arguments × FuncBody × Scope × Addr × List (Str × Addr) × Addr)
/-- a def's data at an address, less what is checked by a Bool -/
def fvAt (K : PySem.W.Frag) (a : Addr) : FV := (K.lookup a).bind fun o => match o.data with
  | .func fd => some (fd.name, fd.qualname, fd.params, fd.body, fd.scope, fd.globals, fd.closure, fd.builtins)
  | _ => none
def Df.val (d : Df) : FV := some (d.name, d.qual, d.params, .stmts d.body, d.scope, mainGlobals, [], builtinsNs)
def Df.dvs (K : PySem.W.Frag) (d : Df) : List V := d.dfl.map (He.Dv.v K)
def Df.ok (K : PySem.W.Frag) (d : Df) : Bool := PySem.W.keepIn K (.ref (d.pl.ad K)) && (match (K.lookup (d.pl.ad K)).map Obj.data with
  | some (.func fd) => PySem.W.codeIn K fd.code d.qual && He.dflB K fd.defaults (d.dvs K)
  | _ => false)
def fdAt (K : PySem.W.Frag) (a : Addr) : FuncData := match (K.lookup a).map Obj.data with
  | some (.func fd) => fd
  | _ => PySem.W.fnOf "" "" ⟨[], [], none, [], [], none, []⟩ [] ⟨.function, [], false, false, []⟩ .none .none .none .none none .none .none
theorem Df.funD {K : PySem.W.Frag} {d : Df} (e : fvAt K (d.pl.ad K) = d.val) (c : d.ok K = true) : FunD K d.name d.qual d.params d.body d.scope (d.dvs K) [] (d.pl.ad K) (fdAt K (d.pl.ad K)) := by
  obtain ⟨kp, c⟩ := He.ba c
  unfold fvAt at e
  unfold fdAt
  generalize d.pl.ad K = a at *
  cases q : K.lookup a with
  | none => rw [q] at e; cases e
  | some o =>
    obtain ⟨oc, od, dt, osl⟩ := o
    rw [q] at e c
    cases dt with
    | func fd =>
      obtain ⟨m1, m2, m3, m4, m5, m6, m7, m8, m9, m10, m11, m12, m13, m14, m15⟩ := fd
      have e2 : (some (m1, m2, m3, m4, m5, m6, m7, m15) : FV) = some (d.name, d.qual, d.params, .stmts d.body, d.scope, mainGlobals, [], builtinsNs) := e
      simp only [Option.some.injEq, Prod.mk.injEq] at e2
      obtain ⟨h1, h2, h3, h4, h5, h6, h7, h8⟩ := e2
      subst h1 h2 h3 h4 h5 h6 h7 h8
      obtain ⟨k1, k2⟩ := He.ba (show (PySem.W.codeIn K m13 d.qual && He.dflB K m8 (d.dvs K)) = true from c)
      exact ⟨⟨oc, od, m8, m9, m10, m11, m12, m13, m14, osl, rfl, q, k1, He.dflB_ok k2, .inl rfl⟩, kp⟩
    | _ => cases e
/-! facts about classes -/
def propB (c m : Str) (K : PySem.W.Frag) : Bool := He.eqO (PySem.W.findIn K (.ref (ga K c)) m) (some (some (.ref (ma K c m)))) && (He.eqO (PySem.W.specialIn K (.ref (ma K c m)) "__get__") (some (some (.builtin "property.__get__"))) &&
  (decide (PySem.W.takesIn K (.ref (ma K c m)) = some true) && (match PySem.W.recIn K (ma K c m) "property" with
    | some (.ref _ :: _) => true
    | _ => false)))
theorem propB_ok {c m : Str} {K : PySem.W.Frag} (h : propB c m K = true) : PropOf K (ga K c) m (ma K c m) ((Pl.get c m).ad K) := by
  obtain ⟨h1, h⟩ := He.ba h
  obtain ⟨h2, h⟩ := He.ba h
  obtain ⟨h3, h4⟩ := He.ba h
  refine ⟨He.eqO_ok h1, He.eqO_ok h2, of_decide_eq_true h3, ?_⟩
  show ∃ rest, PySem.W.recIn K (ma K c m) "property" = some (.ref (recFst K (ma K c m) "property") :: rest)
  unfold recFst
  split at h4
  · rename_i a rest e
    rw [e]
    exact ⟨rest, rfl⟩
  · cases h4
def insB (c : Str) (K : PySem.W.Frag) : Bool := (He.Fa.cls c).ok K && (He.eqO (PySem.W.findIn K (.ref (ga K c)) "__class__") (some (some (.builtin "object.__class__"))) && (He.eqO (PySem.W.specialIn K (.builtin "object.__class__") "__get__") (some (some (.builtin "getset_descriptor.__get__"))) &&
  (decide (PySem.W.takesIn K (.builtin "object.__class__") = some true) && decide (PySem.W.mroIn K (ga K c) (.type "object") = some true))))
theorem insB_ok {c : Str} {K : PySem.W.Frag} (h : insB c K = true) : InsF K (ga K c) := by
  obtain ⟨h1, h⟩ := He.ba h
  obtain ⟨h2, h⟩ := He.ba h
  obtain ⟨h3, h⟩ := He.ba h
  obtain ⟨h4, h5⟩ := He.ba h
  exact ⟨He.cls_ok h1, He.eqO_ok h2, He.eqO_ok h3, of_decide_eq_true h4, of_decide_eq_true h5⟩
def isiB (cl : List Str) (K : PySem.W.Frag) : Bool := (cl.all fun c => insB c K && He.eqO (PySem.W.nsIn K mainGlobals c) (some (some (.ref (ga K c))))) && ((cl.all fun c => (["int", "bool", "str", "tuple", "list", "dict"] : List String).all fun n => decide (PySem.W.kitOne K (.ref (ga K c)) (.type n) = some false)) &&
  ((cl.all fun c => (["NoneType", "bool", "int", "str", "tuple", "list", "dict"] : List String).all fun n => decide (PySem.W.kitOne K (.type n) (.ref (ga K c)) = some false)) && (cl.all fun c => cl.all fun c' => decide (PySem.W.kitOne K (.ref (ga K c)) (.ref (ga K c')) = some (decide (c = c'))))))
theorem isiB_ok {cl : List Str} {X : Cx} {h : Heap} (KX : X.K.In h) (G : h.Ns mainGlobals X.mg) (e : isiB cl X.K = true) : IsiF X cl := by
  obtain ⟨h1, e⟩ := He.ba e
  obtain ⟨h2, e⟩ := He.ba e
  obtain ⟨h3, h4⟩ := He.ba e
  have ad : ∀ nm ∈ cl, ∀ C, X.mg nm = some (.ref C) → C = ga X.K nm := fun nm hn C hC => by
    have z := (He.ba (List.all_eq_true.mp h1 nm hn)).2
    rw [PySem.W.mg_of KX G (He.eqO_ok z)] at hC
    cases hC; rfl
  refine ⟨fun nm hn C hC => ?_, fun nm hn C hC n hN => ?_, fun nm hn C hC n hN => ?_, fun nm hn nm' hn' C C' hC hC' => ?_⟩
  · rw [ad nm hn C hC]; exact insB_ok (He.ba (List.all_eq_true.mp h1 nm hn)).1
  · rw [ad nm hn C hC]; exact of_decide_eq_true (List.all_eq_true.mp (List.all_eq_true.mp h2 nm hn) n hN)
  · rw [ad nm hn C hC]; exact of_decide_eq_true (List.all_eq_true.mp (List.all_eq_true.mp h3 nm hn) n hN)
  · rw [ad nm hn C hC, ad nm' hn' C' hC']; exact of_decide_eq_true (List.all_eq_true.mp (List.all_eq_true.mp h4 nm hn) nm' hn')
/-! the hook -/
abbrev Ft : Type := PySem.W.Frag → Bool
abbrev fa (f : He.Fa) : Ft := fun K => f.ok K
abbrev AlN : Type := Bool × List FV
def obsN (fs : List Ft) (ds : List Df) (K : PySem.W.Frag) : AlN := ((fs.all fun f => f K) && ds.all fun d => d.ok K, ds.map fun d => fvAt K (d.pl.ad K))
def valN (ds : List Df) : AlN := (true, ds.map Df.val)
def SaysN (fs : List Ft) (ds : List Df) (K : PySem.W.Frag) : Prop := obsN fs ds K = valN ds
/-! tables of code objects -/
def codeTab (K : PySem.W.Frag) (f : Addr) : Option (Addr × Addr) := match (K.lookup f).map Obj.data with
  | some (.func fn) => (match fn.code with
    | .ref c => (match (K.lookup c).map Obj.data with
      | some (.fields vs) => (match (vs[11]? : Option Value) with
        | some (.ref P) => some (c, P)
        | _ => none)
      | _ => none)
    | _ => none)
  | _ => none
/-- the defs that make lambdas, the name of these; (code, table, name) -/
def lamsOf (ls : List (Pl × Str)) (K : PySem.W.Frag) : List (Addr × Addr × Str) := ls.filterMap fun l => (codeTab K (l.1.ad K)).map fun cp => (cp.1, cp.2, l.2)
def markO (P : Addr) (q : Str) : Obj := { cls := .none, data := .fields #[.str "a table of code objects" 0, .ref P, .str q 0] }
def mkT (ls : List (Pl × Str)) (K : PySem.W.Frag) : PySem.W.Frag := match K.filter (fun p => !((lamsOf ls K).any fun c => c.2.1 == p.1)) with
  | [] => []
  | (a, o) :: r => (a, o) :: (r ++ (lamsOf ls K).map fun c => (a, markO c.2.1 c.2.2))
theorem look_filter {K : PySem.W.Frag} {f : Addr → Bool} {a : Addr} {o : Obj} : (K.filter fun p => f p.1).lookup a = some o → K.lookup a = some o ∧ f a = true := by
  induction K with
  | nil => intro h; cases h
  | cons p K ih =>
    obtain ⟨b, u⟩ := p
    intro h
    by_cases hf : f b = true
    · rw [List.filter_cons_of_pos (p := fun p : Addr × Obj => f p.1) (show (fun p : Addr × Obj => f p.1) (b, u) = true from hf), List.lookup_cons] at h
      rw [List.lookup_cons]
      cases hab : a == b with
      | true => rw [hab] at h; rw [beq_iff_eq.mp hab]; exact ⟨h, hf⟩
      | false => rw [hab] at h; exact ih h
    · rw [List.filter_cons_of_neg (p := fun p : Addr × Obj => f p.1) (show ¬ (fun p : Addr × Obj => f p.1) (b, u) = true from hf)] at h
      obtain ⟨h1, h2⟩ := ih h
      refine ⟨?_, h2⟩
      rw [List.lookup_cons]
      cases hab : a == b with
      | true => rw [beq_iff_eq.mp hab] at h2; exact absurd h2 hf
      | false => exact h1
theorem look_marks {a b : Addr} {o : Obj} {cs : List (Addr × Addr × Str)} (h : (cs.map fun c => (a, markO c.2.1 c.2.2)).lookup b = some o) : b = a := by
  induction cs with
  | nil => cases h
  | cons c cs ih =>
    rw [List.map_cons, List.lookup_cons] at h
    cases hab : b == a with
    | true => exact beq_iff_eq.mp hab
    | false => rw [hab] at h; exact ih h
theorem look_app {a : Addr} {o : Obj} {K K' : PySem.W.Frag} (h : (K ++ K').lookup a = some o) : K.lookup a = some o ∨ K'.lookup a = some o := by
  induction K with
  | nil => exact .inr h
  | cons p K ih =>
    obtain ⟨b, u⟩ := p
    rw [List.cons_append, List.lookup_cons] at h
    rw [List.lookup_cons]
    cases hab : a == b with
    | true => rw [hab] at h; exact .inl h
    | false => rw [hab] at h; exact ih h
theorem mkT_look {ls : List (Pl × Str)} {K : PySem.W.Frag} {a : Addr} {o : Obj} (h : (mkT ls K).lookup a = some o) : K.lookup a = some o ∧ ((lamsOf ls K).any fun c => c.2.1 == a) = false := by
  unfold mkT at h
  cases q : K.filter (fun p => !((lamsOf ls K).any fun c => c.2.1 == p.1)) with
  | nil => rw [q] at h; cases h
  | cons p r =>
    obtain ⟨b, u⟩ := p
    rw [q] at h
    have fin : ∀ o, ((b, u) :: r).lookup a = some o → K.lookup a = some o ∧ ((lamsOf ls K).any fun c => c.2.1 == a) = false := fun o h => by
      rw [← q] at h
      obtain ⟨h1, h2⟩ := look_filter (f := fun a => !((lamsOf ls K).any fun c => c.2.1 == a)) h
      exact ⟨h1, by simpa using h2⟩
    simp only [List.lookup_cons] at h fin
    cases hab : a == b with
    | true => rw [hab] at h; have := fin o (by rw [hab]; exact h); exact this
    | false =>
      rw [hab] at h
      rcases look_app h with h | h
      · exact fin o (by rw [hab]; exact h)
      · rw [look_marks h] at hab; simp at hab
theorem mkT_in {ls : List (Pl × Str)} {K : PySem.W.Frag} {h : Heap} (k : K.In h) : (mkT ls K).In h := fun a o e => k a o (mkT_look e).1
def isE (o : Obj) : Bool := match o with
  | ⟨.none, none, .fields vs, sl⟩ => vs.isEmpty && sl.isEmpty
  | _ => false
theorem isE_ok {o : Obj} (h : isE o = true) : o = { cls := .none, data := .fields #[] } := by
  unfold isE at h
  split at h
  · rename_i vs sl
    obtain ⟨h1, h2⟩ := He.ba h
    have e1 : vs = #[] := by simpa using h1
    have e2 : sl = #[] := by simpa using h2
    subst e1 e2; rfl
  · cases h
def isTy (n : String) : Value → Bool
  | .type m => m == n
  | _ => false
/-- the code object at c has the table P -/
def codeB (K : PySem.W.Frag) (c P : Addr) : Bool := (match K.lookup c with
  | some o => isTy "code" o.cls && (match o.data with
    | .fields vs => (match (vs[11]? : Option Value) with
      | some (.ref p) => p == P
      | _ => false) && ((match vs.getD 11 .none with
      | .ref p => p == P
      | _ => false) && ((match vs.getD 18 .none with
      | .str _ _ => true
      | _ => false) && ((match vs.getD 7 .none with
      | .int _ _ => true
      | _ => false) && ((match vs.getD 9 .none with
      | .bool _ => true
      | _ => false) && (match vs.getD 10 .none with
      | .int _ _ => true
      | _ => false)))))
    | _ => false)
  | none => false) && !(c == P)
theorem codeB_ok {K : PySem.W.Frag} {c P : Addr} {h : Heap} (k : K.In h) (e : codeB K c P = true) : PySem.W.CodeHd h c P := by
  unfold codeB at e
  obtain ⟨e1, e2⟩ := He.ba e
  cases q : K.lookup c with
  | none => rw [q] at e1; cases e1
  | some o =>
    rw [q] at e1
    obtain ⟨a1, a2⟩ := He.ba e1
    have hc : o.cls = .type "code" := by
      unfold isTy at a1
      split at a1
      · rename_i m hm; rw [hm, beq_iff_eq.mp a1]
      · cases a1
    cases hd : o.data with
    | fields vs =>
      rw [hd] at a2
      obtain ⟨b1, a2⟩ := He.ba a2
      obtain ⟨b2, a2⟩ := He.ba a2
      obtain ⟨b3, a2⟩ := He.ba a2
      obtain ⟨b4, a2⟩ := He.ba a2
      obtain ⟨b5, b6⟩ := He.ba a2
      have c1 : vs[11]? = some (.ref P) := by
        split at b1
        · rename_i p hp; rw [hp, beq_iff_eq.mp b1]
        · cases b1
      have c2 : vs.getD 11 .none = .ref P := by
        split at b2
        · rename_i p hp; rw [hp, beq_iff_eq.mp b2]
        · cases b2
      have c3 : ∃ f t, vs.getD 18 .none = .str f t := by
        split at b3
        · rename_i f t hp; exact ⟨f, t, hp⟩
        · cases b3
      have c4 : ∃ f t, vs.getD 7 .none = .int f t := by
        split at b4
        · rename_i f t hp; exact ⟨f, t, hp⟩
        · cases b4
      have c5 : ∃ f, vs.getD 9 .none = .bool f := by
        split at b5
        · rename_i f hp; exact ⟨f, hp⟩
        · cases b5
      have c6 : ∃ f t, vs.getD 10 .none = .int f t := by
        split at b6
        · rename_i f t hp; exact ⟨f, t, hp⟩
        · cases b6
      obtain ⟨f3, t3, c3⟩ := c3
      obtain ⟨f4, t4, c4⟩ := c4
      obtain ⟨f5, c5⟩ := c5
      obtain ⟨f6, t6, c6⟩ := c6
      exact ⟨o, vs, f3, t3, f4, t4, f5, f6, t6, k _ _ q, hc, hd, c1, c2, c3, c4, c5, c6, by simpa using e2⟩
    | _ => rw [hd] at a2; cases a2
/-- the tables are as the law's end wants them -/
def tchk (ls : List (Pl × Str)) (K : PySem.W.Frag) : Bool := decide (tabsOf (mkT ls K) = (lamsOf ls K).map fun c => (c.2.1, c.2.2)) && (lamsOf ls K).all fun c => (match K.lookup c.2.1 with
  | some o => isE o
  | none => false) && codeB K c.1 c.2.1
theorem tchk_ok {ls : List (Pl × Str)} {K : PySem.W.Frag} {h : Heap} (k : K.In h) (e : tchk ls K = true) : (∀ b ∈ tadr (mkT ls K), h.get? b = some { cls := .none, data := .fields #[] }) ∧ (∀ b ∈ tadr (mkT ls K), (mkT ls K).lookup b = none) ∧ ∀ b ∈ tadr (mkT ls K), ∃ c, PySem.W.CodeHd h c b := by
  obtain ⟨e1, e2⟩ := He.ba e
  have e1 := of_decide_eq_true e1
  have mem : ∀ b ∈ tadr (mkT ls K), ∃ c ∈ lamsOf ls K, c.2.1 = b := fun b hb => by
    unfold tadr at hb
    rw [e1, List.map_map] at hb
    obtain ⟨c, hc, rfl⟩ := List.mem_map.mp hb
    exact ⟨c, hc, rfl⟩
  refine ⟨fun b hb => ?_, fun b hb => ?_, fun b hb => ?_⟩
  · obtain ⟨c, hc, rfl⟩ := mem b hb
    obtain ⟨q1, _⟩ := He.ba (List.all_eq_true.mp e2 c hc)
    cases q : K.lookup c.2.1 with
    | none => rw [q] at q1; cases q1
    | some o => rw [q] at q1; rw [k _ _ q, isE_ok q1]
  · obtain ⟨c, hc, rfl⟩ := mem b hb
    cases q : (mkT ls K).lookup c.2.1 with
    | none => rfl
    | some o =>
      have := (mkT_look q).2
      rw [List.any_eq_false] at this
      exact absurd (by simp) (this c hc)
  · obtain ⟨c, hc, rfl⟩ := mem b hb
    obtain ⟨_, q2⟩ := He.ba (List.all_eq_true.mp e2 c hc)
    exact ⟨c.1, codeB_ok k q2⟩
abbrev AlT : Type := Bool × AlN
def obsNG (n : Nat) (ls : List (Pl × Str)) (fs : List Ft) (ds : List Df) (g : Addr → Option Obj) : AlT := let K := He.frG g (He.asD g n ++ [sysModules]); (tchk ls K, obsN fs ds (mkT ls K))
def hookN (n : Nat) (ls : List (Pl × Str)) (fs : List Ft) (ds : List Df) : PySem.W.Hook where
  α := AlT
  obs := fun s => obsNG n ls fs ds s.heap.get?
  val := fun _ => (true, valN ds)
  says := fun _ h => ∃ K : PySem.W.Frag, K.In h ∧ tchk ls K = true ∧ SaysN fs ds (mkT ls K)
  of := fun _ _ e => ⟨_, He.frG_in, congrArg (fun z : AlT => z.1) e, congrArg (fun z : AlT => z.2) e⟩
  keeps := fun _ _ _ ⟨K, hK, c⟩ k => ⟨K, PySem.W.Frag.In.keeps hK k, c⟩
theorem obsNG_eq {n : Nat} {ls : List (Pl × Str)} {fs : List Ft} {ds : List Df} {g : Addr → Option Obj} {s : Shared} (h : ∀ a, g a = s.heap.get? a) : obsNG n ls fs ds g = (hookN n ls fs ds).obs s := by
  have e : g = s.heap.get? := funext h
  rw [e] <;> rfl
section
variable {fs : List Ft} {ds : List Df} {K : PySem.W.Frag}
theorem SaysN.fact (c : SaysN fs ds K) (i : Nat) {f : Ft} (h : fs[i]? = some f := by rfl) : f K = true := by
  have c1 := (He.ba (show ((fs.all fun f => f K) && ds.all fun d => d.ok K) = true from congrArg (fun z : AlN => z.1) c)).1
  exact List.all_eq_true.mp c1 f (List.mem_of_getElem? h)
theorem SaysN.def_ (c : SaysN fs ds K) (i : Nat) {d : Df} (h : ds[i]? = some d := by rfl) : FunD K d.name d.qual d.params d.body d.scope (d.dvs K) [] (d.pl.ad K) (fdAt K (d.pl.ad K)) := by
  have c2 := (He.ba (show ((fs.all fun f => f K) && ds.all fun d => d.ok K) = true from congrArg (fun z : AlN => z.1) c)).2
  have e : ds.map (fun d => fvAt K (d.pl.ad K)) = ds.map Df.val := congrArg (fun z : AlN => z.2) c
  have e2 : (ds.map fun d => fvAt K (d.pl.ad K))[i]? = (ds.map Df.val)[i]? := by rw [e]
  rw [List.getElem?_map, List.getElem?_map, h] at e2
  exact Df.funD (Option.some.inj e2) (List.all_eq_true.mp c2 d (List.mem_of_getElem? h))
end
/-- what every def's proof leans on -/
structure Bas (fs : List Ft) (ds : List Df) (K : PySem.W.Frag) (mg : Str → Option Value) (base : Heap) : Prop where
  c : SaysN fs ds K
  k : K.In base
  g : base.Ns mainGlobals mg
  bt : ∀ b ∈ tadr K, base.BuiltinsAt mg b
theorem RoomG.le {j k : Nat} {A : Around} (r : RoomG k A) (h : j ≤ k) : RoomG j A := ⟨r.rm.mono h, r.gd⟩
section
variable {fs : List Ft} {ds : List Df} {K : PySem.W.Frag} {mg : Str → Option Value} {base : Heap}
theorem Bas.glo (b : Bas fs ds K mg base) (i : Nat) {x : Str} (h : fs[i]? = some (fa (.glo x)) := by rfl) : mg x = some (.ref (ga K x)) := He.glo_ok b.k b.g (b.c.fact i h)
theorem Bas.free (b : Bas fs ds K mg base) (i : Nat) {x : Str} (h : fs[i]? = some (fa (.free x)) := by rfl) : mg x = none := He.free_ok b.k b.g (b.c.fact i h)
theorem Bas.int (b : Bas fs ds K mg base) (i : Nat) {x : Str} {j : Int} (h : fs[i]? = some (fa (.int x j)) := by rfl) : ∃ t, mg x = some (.int j t) := He.int_ok b.k b.g (b.c.fact i h)
theorem Bas.str (b : Bas fs ds K mg base) (i : Nat) {x z : Str} (h : fs[i]? = some (fa (.str x z)) := by rfl) : ∃ t, mg x = some (.str z t) := He.str_ok b.k b.g (b.c.fact i h)
end
theorem De.gInt' {X : Cx} {W : WX} {x : Str} {i : Int} {pos : Pos} (hm : ∃ t, X.mg x = some (.int i t)) (hg : Gl X x) (hd : (x == ("__debug__" : Str)) = false := by decide) : De X W (.Name x pos) (eC (.int i)) := let ⟨_, h⟩ := hm; De.gInt hg h hd
theorem De.gStr' {X : Cx} {W : WX} {x : Str} {i : Str} {pos : Pos} (hm : ∃ t, X.mg x = some (.str i t)) (hg : Gl X x) (hd : (x == ("__debug__" : Str)) = false := by decide) : De X W (.Name x pos) (eC (.str i)) := let ⟨_, h⟩ := hm; De.gStr hg h hd
section
variable {P : Program} {w : World} {K : PySem.W.Frag} {mg : Str → Option Value} {base : Heap} {N : List Str} {qual : Str} {scope : Scope} {f : Addr} {cd : Value} {A : Around} {outer : List Env} {s : Shared} {H : Hp} {E : XK}
theorem takesG : Takes (cxG P w K mg base N qual scope f cd A outer s H E) (kW E) := takes_of (X := cxG P w K mg base N qual scope f cd A outer s H E) rfl rfl rfl rfl
theorem passesG : PassesOwn (model P w) (cxG P w K mg base N qual scope f cd A outer s H E).A (cxG P w K mg base N qual scope f cd A outer s H E).env (cxG P w K mg base N qual scope f cd A outer s H E).xe :=
  passes_of (X := cxG P w K mg base N qual scope f cd A outer s H E) (K := fun e s'' => CX P w outer H s E e s'') rfl
end
end Dn

set_option Elab.async false
set_option linter.all false
set_option maxRecDepth 100000
set_option maxHeartbeats 4000000
namespace Dn
open PySem PySem.Spec PyProof.Rows L2

theorem RoomG.h64 {k : Nat} {A : Around} (r : RoomG k A) : A.units + 64 < cLine := r.rm.units
theorem RoomG.h100 {k : Nat} {A : Around} (r : RoomG k A) : A.units + 100 < cLine := by have := r.rm.un; omega
theorem gl {X : Cx} {x : Str} (h : X.env.kindOf x = some .globalImplicit) : Gl X x := h
/-! ### callables as they are found by their names -/
/-- the def x: n parameters, dv the written defaults of those that lack -/
structure Fx (P : Program) (w : World) (K : PySem.W.Frag) (mg : Str → Option Value) (base : Heap) (j : Nat) (x : Str) (n : Nat) (dv : List PV) (m : Fn) : Prop where
  ex : ∃ (f : Addr) (fd : FuncData) (ps : List Str) (us0 : List Value), mg x = some (.ref f) ∧ PySem.W.keepIn K (.ref f) = true ∧ FnG P w K mg base j f fd ps m ∧ Binds K fd ps us0 ∧ Vals (dv.map sV) us0 ∧ dv.all isSc = true ∧ n = ps.length
/-- the class x: its __init__ has n + 1 parameters -/
structure Mx (P : Program) (w : World) (K : PySem.W.Frag) (mg : Str → Option Value) (base : Heap) (j : Nat) (x : Str) (n : Nat) (dv : List PV) (m : Fn) : Prop where
  ex : ∃ (C f : Addr) (fd : FuncData) (ps : List Str) (us0 : List Value), mg x = some (.ref C) ∧ Mk K C f ∧ FnG P w K mg base j f fd ps m ∧ Binds K fd ps us0 ∧ Vals (dv.map sV) us0 ∧ dv.all isSc = true ∧ n + 1 = ps.length
/-- the class nm: its method mn -/
structure Ox (P : Program) (w : World) (K : PySem.W.Frag) (mg : Str → Option Value) (base : Heap) (j : Nat) (nm mn : Str) (n : Nat) (dv : List PV) (m : Fn) : Prop where
  ex : ∃ (C f : Addr) (fd : FuncData) (ps : List Str) (us0 : List Value), mg nm = some (.ref C) ∧ Cls K C ∧ Meth K C mn f ∧ FnG P w K mg base j f fd ps m ∧ Binds K fd ps us0 ∧ Vals (dv.map sV) us0 ∧ dv.all isSc = true ∧ n = ps.length
/-- its property pn -/
structure Px (P : Program) (w : World) (K : PySem.W.Frag) (mg : Str → Option Value) (base : Heap) (j : Nat) (nm pn : Str) (m : Fn) : Prop where
  ex : ∃ (C g p : Addr) (fd : FuncData) (ps : List Str), mg nm = some (.ref C) ∧ Cls K C ∧ PropOf K C pn p g ∧ FnG P w K mg base j g fd ps m ∧ Binds K fd ps [] ∧ ps.length = 1
section
variable {X : Cx} {W : XK} {j k n : Nat} {x nm mn : Str} {m : Fn} {dv : List PV} {p' pos apos : Pos} {e o : Expr} {es : List Expr} {fo : EM} {la : LM}
theorem De.fx (F : Fx X.prog X.w X.K X.mg X.base j x n dv m) (hr : RoomG k X.A) (tk : Takes X (kW W)) (ha : DA X (kW W) (e :: es) la) (hg : Gl X x) (hjk : j ≤ k := by decide)
    (hdb : (x == ("__debug__" : Str)) = false := by decide) (he : starEach (e :: es) X.env = (false, eval e X.env) :: starEach es X.env := by rfl) (hpl : (backTo pos (starEach es X.env)).any (·.1) = false := by rfl) :
    De X (kW W) (.Call (.Name x p') (e :: es) [] pos) (eCallN n m dv la) := by
  obtain ⟨f, fd, ps, us0, hm, hk, F, hb, hd, hsc, hn⟩ := F.ex
  exact De.call F (hr.le hjk) hg hm hk hb hd hsc tk hn ha hdb he hpl
theorem De.fx0 (F : Fx X.prog X.w X.K X.mg X.base j x n dv m) (hr : RoomG k X.A) (tk : Takes X (kW W)) (hg : Gl X x) (hjk : j ≤ k := by decide) (hdb : (x == ("__debug__" : Str)) = false := by decide) :
    De X (kW W) (.Call (.Name x p') [] [] pos) (eCallN n m dv lNil) := by
  obtain ⟨f, fd, ps, us0, hm, hk, F, hb, hd, hsc, hn⟩ := F.ex
  exact De.call0 F (hr.le hjk) hg hm hk hb hd hsc tk hn hdb
theorem De.mx (fz : Bool) (F : Mx X.prog X.w X.K X.mg X.base j x n dv m) (hr : RoomG k X.A) (tk : Takes X (kW W)) (ha : DA X (kW W) (e :: es) la) (hg : Gl X x) (hjk : j + 1 ≤ k := by decide)
    (hdb : (x == ("__debug__" : Str)) = false := by decide) (he : starEach (e :: es) X.env = (false, eval e X.env) :: starEach es X.env := by rfl) (hpl : (backTo pos (starEach es X.env)).any (·.1) = false := by rfl) :
    De X (kW W) (.Call (.Name x p') (e :: es) [] pos) (eCallN n (makeM fz x m) dv la) := by
  obtain ⟨C, f, fd, ps, us0, hm, M, F, hb, hd, hsc, hn⟩ := F.ex
  exact De.make M F (hr.le hjk) hg hm hb hd hsc tk hn ha hdb he hpl
theorem De.ox {pl : Sem Bool} (F : Ox X.prog X.w X.K X.mg X.base j nm mn n dv m) (hr : RoomG k X.A) (tk : Takes X (kW W)) (ho : De X (kW W) o fo) (ha : DA X (kW W) (e :: es) la) (hjk : j ≤ k := by decide)
    (hst : starEach (e :: es) X.env = (false, eval e X.env) :: starEach es X.env := by rfl) (hpl : (backTo pos (starEach es X.env)).any (·.1) = false := by rfl)
    (ht : eval (.Call (.Attribute o mn apos) (e :: es) [] pos) X.env = (do
      let ov ← eval o X.env
      standAt apos.atName
      let (f, first) ← holding [ov] (getMethod ov mn pl)
      callWith pos f first (backTo pos (starEach (e :: es) X.env)) (backToKw pos (keywordEach [] X.env))) := by rfl) :
    De X (kW W) (.Call (.Attribute o mn apos) (e :: es) [] pos) (eMeth nm mn n m dv fo la) := by
  obtain ⟨C, f, fd, ps, us0, hm, c, hme, F, hb, hd, hsc, hn⟩ := F.ex
  exact De.meth hm c hme F (hr.le hjk) hb hd hsc tk hn ho ha hst hpl ht
theorem De.ox0 {pl : Sem Bool} (F : Ox X.prog X.w X.K X.mg X.base j nm mn n dv m) (hr : RoomG k X.A) (tk : Takes X (kW W)) (ho : De X (kW W) o fo) (hjk : j ≤ k := by decide)
    (ht : eval (.Call (.Attribute o mn apos) [] [] pos) X.env = (do
      let ov ← eval o X.env
      standAt apos.atName
      let (f, first) ← holding [ov] (getMethod ov mn pl)
      callWith pos f first (backTo pos (starEach [] X.env)) (backToKw pos (keywordEach [] X.env))) := by rfl) :
    De X (kW W) (.Call (.Attribute o mn apos) [] [] pos) (eMeth nm mn n m dv fo lNil) := by
  obtain ⟨C, f, fd, ps, us0, hm, c, hme, F, hb, hd, hsc, hn⟩ := F.ex
  exact De.meth0 hm c hme F (hr.le hjk) hb hd hsc tk hn ho ht
theorem De.px (F : Px X.prog X.w X.K X.mg X.base j nm mn m) (hr : RoomG k X.A) (ho : De X (kW W) o fo) (hjk : j + 1 ≤ k := by decide)
    (hab : attributeBase o mn X.env (eval o X.env) = eval o X.env := by rfl) : De X (kW W) (.Attribute o mn pos) (eProp nm m fo) := by
  obtain ⟨C, g, p, fd, ps, hm, c, hp, F, hb, h1⟩ := F.ex
  exact De.prop hm c hp F (hr.le hjk) hb h1 ho hab
/-- a field -/
theorem De.fl {fs : List Ft} {ds : List Df} {h : Heap} {C : Str} {i i2 i3 : Nat} (B : Bas fs ds X.K X.mg h) (ho : De X (kW W) o fo) (h1 : fs[i]? = some (fa (.glo C)) := by rfl) (h2 : fs[i2]? = some (fa (.cls C)) := by rfl) (h3 : fs[i3]? = some (fa (.noat C mn)) := by rfl)
    (hb : attributeBase o mn X.env (eval o X.env) = eval o X.env := by rfl) : De X (kW W) (.Attribute o mn pos) (eFld C mn fo) :=
  De.fld (He.glo_ok B.k B.g (B.c.fact i h1)) (He.cls_ok (B.c.fact i2 h2)) (He.noat_ok (B.c.fact i3 h3)) ho hb
/-- o.f = e in a class's own __init__ -/
theorem DS.fs {fs : List Ft} {ds : List Df} {h : Heap} {C : Str} {i i2 i3 : Nat} {fl : Str} {fv : EM} {pos' : Pos} (B : Bas fs ds X.K X.mg h) (ho : De X (kW W) o fo) (hv : De X (kW W) e fv) (h1 : fs[i]? = some (fa (.glo C)) := by rfl) (h2 : fs[i2]? = some (fa (.cls C)) := by rfl) (h3 : fs[i3]? = some (fa (.noat C fl)) := by rfl)
    (hs : swapsWith e (some (.Attribute o fl pos')) pos.line X.env = pure false := by rfl) : DS X W (.Assign [.Attribute o fl pos'] e pos) (sFldSet [C] fl fo fv) :=
  DS.fldSet (fun nm hn C' hC => by
    obtain rfl := List.mem_singleton.mp hn
    rw [He.glo_ok B.k B.g (B.c.fact i h1)] at hC
    cases hC
    exact ⟨He.cls_ok (B.c.fact i2 h2), He.noat_ok (B.c.fact i3 h3)⟩) ho hv hs
/-- raise C('..') -/
theorem DS.rs {fs : List Ft} {ds : List Df} {h : Heap} {c m : Str} {i i2 jj : Nat} {p1 p2 p3 : Pos} (B : Bas fs ds X.K X.mg h) (tk : Takes X (kW W)) (hc : X.calm = true) (hg : Gl X c) (h1 : fs[i]? = some (fa (.glo c)) := by rfl) (h2 : fs[i2]? = some (fa (.exc c)) := by rfl) (hdb : (c == ("__debug__" : Str)) = false := by decide) :
    DS X W (.Raise (some (.Call (.Name c p1) [.Constant (.str m) jj p2] [] p3)) none pos) (sRaise c) := by
  obtain ⟨e1, e2, e3, e4⟩ := He.exc_ok (B.c.fact i2 h2)
  have hm := He.glo_ok B.k B.g (B.c.fact i h1)
  exact DS.raise hc tk hm (pmk_own PySem.F.excBase_ValueError e1 hm e2 (raises_own e3 e4) hg hdb)
end
section
variable {P : Program} {w : World} {K : PySem.W.Frag} {mg : Str → Option Value} {base : Heap} {fs : List Ft} {ds : List Df} {j n : Nat} {dv : List PV} {m : Fn}
theorem Bas.binds (B : Bas fs ds K mg base) (i : Nat) {d : Df} {ps : List Str} (h : ds[i]? = some d) (h0 : d.dfl = [])
    (hb : ∀ (kV doc pm : Value) (an : Option Addr) (cdv ct : Value) (us : List Value), us.length = ps.length → bindArgs (PySem.W.fnOf d.name d.qual d.params d.body d.scope .none kV doc pm an cdv ct) ⟨us, []⟩ = pure (ps.zip us)) : Binds K (fdAt K (d.pl.ad K)) ps [] := by
  have F := B.c.def_ i h
  have e : d.dvs K = [] := by unfold Df.dvs; rw [h0]; rfl
  rw [e] at F
  exact F.bindsN hb
theorem Bas.bindsD (B : Bas fs ds K mg base) (i : Nat) {d : Df} {ps : List Str} (n j : Nat) (h : ds[i]? = some d) (dv : List PV) (hd : d.dvs K ≠ []) (hv : (d.dvs K).drop j = dv.map sV) (hn : n + ((d.dvs K).length - j) = ps.length)
    (hb : ∀ (T : Addr) (kV doc pm : Value) (an : Option Addr) (cdv ct : Value) (us its : List Value), us.length = n → its.length = (d.dvs K).length →
      ∃ k, bindArgs (PySem.W.fnOf d.name d.qual d.params d.body d.scope (.ref T) kV doc pm an cdv ct) ⟨us, []⟩ = seqItems? (.ref T) >>= k ∧ k (some its.toArray) = pure (ps.zip (us ++ its.drop j))) : ∃ us0, Vals (dv.map sV) us0 ∧ Binds K (fdAt K (d.pl.ad K)) ps us0 := by
  have F := B.c.def_ i h
  rw [← hv]
  exact F.binds1 n j hd hn hb
theorem Bas.kp (B : Bas fs ds K mg base) (i : Nat) {d : Df} (h : ds[i]? = some d) : PySem.W.keepIn K (.ref (d.pl.ad K)) = true := (B.c.def_ i h).kp
end
end Dn

set_option Elab.async false
set_option linter.all false
set_option maxRecDepth 100000
set_option maxHeartbeats 4000000
namespace Dn
open PySem PySem.Spec PyProof.Rows L2

/-! ### starred items -/
def starK (d : PV) (S : Store) : Res (List PV) := match seqOf S d with
  | some xs => .ok xs S
  | none => .bad
def lStar (a : EM) (b : LM) : LM := fun r S => (a r S).bind fun d S1 => (starK d S1).bind fun xs S2 => (b r S2).bind fun ys S3 => .ok (xs ++ ys) S3
/-! ### zip of two tuples or two lists that are values -/
def zipW (xs ys : List PV) : List PV := (xs.zip ys).map fun p => .tup [p.1, p.2]
def zipOf (d e : PV) (S : Store) : Res Src := match d with
  | .tup xs => (match e with
    | .tup ys => .ok ⟨zipW xs ys, none⟩ S
    | _ => .bad)
  | .lst xs => (match e with
    | .lst ys => .ok ⟨zipW xs ys, none⟩ S
    | _ => .bad)
  | _ => .bad
def iZip (a b : EM) : IM := fun r S => (a r S).bind fun d S1 => (b r S1).bind fun e S2 => zipOf d e S2
section
variable {X : Cx} {W : WX} {e e2 : Expr} {es : List Expr} {fe fe2 : EM} {la : LM} {p pos tpos : Pos} {elts : List Expr} {kk : Nat}
theorem DA.star (he : De X W e fe) (hr : DA X W es la) (hs : starEach (.Starred e p :: es) X.env = (true, eval e X.env) :: starEach es X.env := by rfl) : DA X W (.Starred e p :: es) (lStar fe la) := by
  refine Jd.mk fun pos pins s σ H r S L Z Q I sl st q => ?_
  refine PySem.W.items_star (he.step I sl st q fun d S1 y v s1 H1 L1 I1 ry sl1 st1 x1 a1 q1 => ?_) hs
  cases h : seqOf S1 d with
  | none => unfold starK at q1; rw [h] at q1; exact q1.elim
  | some xs =>
    unfold starK at q1
    rw [h] at q1
    replace q1 : PostL X W σ Z ((la r S1).bind fun ys S3 => .ok (xs ++ ys) S3) H1 L1 Q := q1
    obtain ⟨a, vs, rfl, hq, b⟩ := seq_at st1 a1 h
    obtain rfl : v = Value.ref a := ry
    refine StX.star_any I1 (hq.symm) fun us s2 I2 rv => ?_
    exact hr.step pos I2 sl1 st1 q1 fun ys S3 ws ts s3 H3 L3 I3 r3 sl3 st3 x3 a3 q3 => ⟨vs ++ ws, H3, I3, rv.append r3, q3 (vs ++ ws) H3 L3 (Ext.refl H3 L3) st3 ((b.mono x3).append a3)⟩
theorem zipW_get {xs ys : List PV} {vs ws : List V} {K : PySem.W.Frag} {mg : Str → Option Value} {H : Hp} {L Z : List Addr} (a : Ats K mg H L Z xs vs) (b : Ats K mg H L Z ys ws) {i : Nat} (hi : i < (zipW xs ys).length) :
    ∃ d e x y, xs[i]? = some d ∧ ys[i]? = some e ∧ vs[i]? = some x ∧ ws[i]? = some y ∧ At K mg H L Z d x ∧ At K mg H L Z e y ∧ (zipW xs ys)[i]? = some (.tup [d, e]) := by
  have h : i < xs.length ∧ i < ys.length := by
    simp [zipW] at hi; omega
  obtain ⟨x, ex, ax⟩ := a.get (i := i) (d := xs[i]) (by simp [h.1])
  obtain ⟨y, ey, ay⟩ := b.get (i := i) (d := ys[i]) (by simp [h.2])
  refine ⟨xs[i], ys[i], x, y, by simp [h.1], by simp [h.2], ex, ey, ax, ay, ?_⟩
  rw [List.getElem?_eq_getElem hi]
  simp [zipW]
theorem yld_pair {Y Z : List Addr} {H : Hp} {L : List Addr} {S : Store} {d e : PV} {x y : V} {T : Addr} (st : Sta X.K X.mg H L (Y ++ Z) S) (hT : H T = none) (ax : At X.K X.mg H L (Y ++ Z) d x) (ay : At X.K X.mg H L (Y ++ Z) e y) :
    Ext H L (upd H T (.tup [x, y])) L ∧ Sta X.K X.mg (upd H T (.tup [x, y])) L (Y ++ Z) S ∧ At X.K X.mg (upd H T (.tup [x, y])) L (Y ++ Z) (.tup [d, e]) (.ref T) :=
  ⟨Ext.laid hT, st.laid hT, .tup (.inl (.inl upd_same)) (.cons (ax.mono (Ext.laid hT)) (.cons (ay.mono (Ext.laid hT)) .nil))⟩
theorem DI.zip (hg : Gl X "zip") (hm : X.mg "zip" = none) (ha : De X W e fe) (hb : De X W e2 fe2) (hs : starEach [e, e2] X.env = (false, eval e X.env) :: starEach [e2] X.env := by rfl) (hs2 : starEach [e2] X.env = [(false, eval e2 X.env)] := by rfl)
    (hpl : (backTo pos (starEach [e2] X.env)).any (·.1) = false := by rfl) : DI X W (.Tuple elts kk tpos) (.Call (.Name "zip" p) [e, e2] [] pos) (iZip fe fe2) := by
  refine Jd.mk fun pins s σ H r S L Z R I sl st q => ?_
  refine (RZ.pi_zipA (p := p) (pos := pos) (elts := elts) (kk := kk) (tpos := tpos) hg hm (pa_cons ha.pe (pa_cons hb.pe pa_nil (by rw [hs2]; rfl)) (by rw [hs])) hs hpl).run pins s σ H R I ⟨r, S, L, Z, sl, st, ?_⟩
  unfold iZip at q
  cases h1 : fe r S with
  | bad => rw [h1] at q; exact q.elim
  | err c S1 => rw [h1] at q; exact q
  | ok d S1 =>
    rw [h1] at q
    replace q : PostI X W σ Z ((fe2 r S1).bind fun e S2 => zipOf d e S2) H L R := q
    intro v H' L' x st' at'
    refine ⟨r, S1, L', Z, sl.mono x, st', ?_⟩
    cases h2 : fe2 r S1 with
    | bad => rw [h2] at q; exact q.elim
    | err c S2 => rw [h2] at q; exact fun H2 L2 cls y => q H2 L2 cls (x.trans y)
    | ok e S2 =>
      rw [h2] at q
      replace q : PostI X W σ Z (zipOf d e S2) H L R := q
      intro w H2 L2 x2 st2 at2
      have at1 := at'.mono x2
      have x02 := x.trans x2
      show ∃ a b xs ys, [v, w] = [V.ref a, V.ref b] ∧ _
      cases d with
      | tup xs =>
        cases e with
        | tup ys =>
          cases at1 with
          | tup h3 b3 => cases at2 with
            | tup h4 b4 =>
              refine ⟨_, _, _, _, rfl, .inr ⟨h3, h4, q _ H2 L2 x02 st2 ?_⟩⟩
              have ln : ∀ {i : Nat}, (zipW xs ys).length ≤ i ↔ xs.length ≤ i ∨ ys.length ≤ i := fun {i} => by simp [zipW]; omega
              refine ⟨fun i H5 L5 S5 x5 st5 _ hi => ?_, fun H5 L5 S5 x5 st5 _ => ?_, fun Y i H5 L5 S5 u H6 ny x5 st5 _ yy hi => ?_⟩
              · obtain ⟨_, _, x6, y6, _, _, e6, e7, _, _, _⟩ := zipW_get b3 b4 hi
                exact ⟨_, _, x6, y6, x5.sqt h3, x5.sqt h4, e6, e7⟩
              · refine ⟨_, _, x5.sqt h3, x5.sqt h4, ?_⟩
                rw [← b3.len, ← b4.len]
                exact ln.mp (Nat.le_refl _)
              · obtain ⟨T, x6, y6, rfl, hT, rfl, k1, k2⟩ := yy
                obtain ⟨d7, e7, x7, y7, _, _, e8, e9, ax, ay, ez⟩ := zipW_get b3 b4 hi
                have k1 := k1 _ (x5.sqt h3)
                have k2 := k2 _ (x5.sqt h4)
                rw [e8] at k1; cases k1
                rw [e9] at k2; cases k2
                obtain ⟨z1, z2, z3⟩ := yld_pair st5 hT ((ax.hides ny).mono x5) ((ay.hides ny).mono x5)
                exact ⟨_, ez, z1, z2, z3⟩
        | _ => exact (show False from q).elim
      | lst xs =>
        cases e with
        | lst ys =>
          cases at1 with
          | lst h3 n3 _ b3 => cases at2 with
            | lst h4 n4 _ b4 =>
              have g3 : ∀ {H5 : Hp} {L5 : List Addr}, Ext H2 L2 H5 L5 → SqL X.K H5 _ _ := fun y => .of (y.keep _ _ h3 (fun z => absurd z n3) (fun _ => nofun))
              have g4 : ∀ {H5 : Hp} {L5 : List Addr}, Ext H2 L2 H5 L5 → SqL X.K H5 _ _ := fun y => .of (y.keep _ _ h4 (fun z => absurd z n4) (fun _ => nofun))
              refine ⟨_, _, _, _, rfl, .inl ⟨.of h3, .of h4, q _ H2 L2 x02 st2 ?_⟩⟩
              have ln : ∀ {i : Nat}, (zipW xs ys).length ≤ i ↔ xs.length ≤ i ∨ ys.length ≤ i := fun {i} => by simp [zipW]; omega
              refine ⟨fun i H5 L5 S5 x5 st5 _ hi => ?_, fun H5 L5 S5 x5 st5 _ => ?_, fun Y i H5 L5 S5 u H6 ny x5 st5 _ yy hi => ?_⟩
              · obtain ⟨_, _, x6, y6, _, _, e6, e7, _, _, _⟩ := zipW_get b3 b4 hi
                exact ⟨_, _, x6, y6, g3 x5, g4 x5, e6, e7⟩
              · refine ⟨_, _, g3 x5, g4 x5, ?_⟩
                rw [← b3.len, ← b4.len]
                exact ln.mp (Nat.le_refl _)
              · obtain ⟨T, x6, y6, rfl, hT, rfl, k1, k2⟩ := yy
                obtain ⟨d7, e7, x7, y7, _, _, e8, e9, ax, ay, ez⟩ := zipW_get b3 b4 hi
                have k1 := k1 _ (g3 x5)
                have k2 := k2 _ (g4 x5)
                rw [e8] at k1; cases k1
                rw [e9] at k2; cases k2
                obtain ⟨z1, z2, z3⟩ := yld_pair st5 hT ((ax.hides ny).mono x5) ((ay.hides ny).mono x5)
                exact ⟨_, ez, z1, z2, z3⟩
        | _ => exact (show False from q).elim
      | _ => exact (show False from q).elim
end
/-! ### xs.extend(ys) -/
def extK (k : Nat) (o : Option (List PV)) (xs : List PV) (S : Store) : Res PV := match o with
  | some ys => if xs.length + ys.length ≤ sizeLine then .ok .non (S.set k (.lst (xs ++ ys))) else .bad
  | none => .bad
def extC (k : Nat) (c : Option Cell) (d : PV) (S : Store) : Res PV := match c with
  | some (.lst xs) => extK k (lstOf S d) xs S
  | _ => .bad
def vExtend (o : PV) (ds : List PV) (S : Store) : Res PV := match o with
  | .loc k => (match ds with
    | [d] => extC k S[k]? d S
    | _ => .bad)
  | _ => .bad
theorem dmt_extend {X : Cx} {W : WX} : DMt X W "list" "list.extend" vExtend := by
  intro pins s σ H S L Z Q d x ds xs v us I st a b r r2 p
  cases a with
  | @loc ad k hk =>
    match ds, b, p with
    | [y], b, p =>
      replace p : PostV X W σ Z (extC k S[k]? y S) H L Q := p
      cases hc : S[k]? with
      | none => rw [hc] at p; exact p.elim
      | some cl =>
        cases cl with
        | ins nm fs => rw [hc] at p; exact p.elim
        | dic kvs ep => rw [hc] at p; exact p.elim
        | lst zs =>
          rw [hc] at p
          replace p : PostV X W σ Z (extK k (lstOf S y) zs S) H L Q := p
          cases hl : lstOf S y with
          | none => rw [hl] at p; exact p.elim
          | some ys =>
            rw [hl] at p
            unfold extK at p
            by_cases hz : zs.length + ys.length ≤ sizeLine
            · simp only [if_pos hz] at p
              obtain ⟨yv, rfl, ay⟩ := b.one
              obtain ⟨vs, e1, b1⟩ := st.cells k _ _ hc hk
              obtain ⟨q, ws, rfl, e2, b2⟩ := lst_at st ay hl
              obtain ⟨x4, st4⟩ := st.put hc hk (b1.append b2)
              exact mt_extend pins s σ H _ _ v us Q I r r2 ⟨_, q, vs, ws, rfl, rfl, e1, e2, by rw [← b1.len, ← b2.len]; exact hz, p _ _ L x4 st4 .non⟩
            · simp only [if_neg hz] at p
              exact p.elim
    | [], _, p => exact (show False from p).elim
    | _ :: _ :: _, _, p => exact (show False from p).elim
  | _ => exact (show False from p).elim
/-! ### an instance called -/
theorem fn_in {K : PySem.W.Frag} {x qual : Str} {params : Arguments} {body : List Stmt} {scope : Scope} {dvs : List V} {kws : List (Str × V)} {f : Addr} {fd : FuncData} (F : FunD K x qual params body scope dvs kws f fd) : PySem.W.fnIn K f = true := by
  obtain ⟨oc, od, _, _, _, _, _, _, _, osl, _, lk, _⟩ := F.ex
  unfold PySem.W.fnIn
  rw [lk]
/-- the class nm: its __call__ -/
structure Kx (P : Program) (w : World) (K : PySem.W.Frag) (mg : Str → Option Value) (base : Heap) (j : Nat) (nm : Str) (n : Nat) (dv : List PV) (m : Fn) : Prop where
  ex : ∃ (C f : Addr) (fd : FuncData) (ps : List Str) (us0 : List Value), mg nm = some (.ref C) ∧ StX.CallO K C f ∧ FnG P w K mg base j f fd ps m ∧ Binds K fd ps us0 ∧ Vals (dv.map sV) us0 ∧ dv.all isSc = true ∧ n = ps.length
def eCallO (nm : Str) (n : Nat) (m : Fn) (dv : List PV) (o : EM) (a : LM) : EM := fun r S => (o r S).bind fun d S1 => if ofC nm d = true then (a r S1).bind fun ds S2 => (if (d :: ds).length + dv.length = n then m (d :: ds ++ dv) S2 else .bad) else .bad
section
variable {X : Cx} {W : XK} {j k n : Nat} {nm : Str} {m : Fn} {dv : List PV} {pos : Pos} {fe e : Expr} {es : List Expr} {fo : EM} {la : LM}
theorem De.kx (F : Kx X.prog X.w X.K X.mg X.base j nm n dv m) (hr : RoomG k X.A) (tk : Takes X (kW W)) (ho : De X (kW W) fe fo) (ha : DA X (kW W) (e :: es) la) (hjk : j ≤ k := by decide)
    (ht : eval (.Call fe (e :: es) [] pos) X.env = (do callWith pos (← eval fe X.env) [] (backTo pos (starEach (e :: es) X.env)) (backToKw pos (keywordEach [] X.env))) := by rfl)
    (he : starEach (e :: es) X.env = (false, eval e X.env) :: starEach es X.env := by rfl) (hpl : (backTo pos (starEach es X.env)).any (·.1) = false := by rfl) :
    De X (kW W) (.Call fe (e :: es) [] pos) (eCallO nm n m dv fo la) := by
  obtain ⟨C, f, fd, ps, us0, hm, c, F, hb, hd, hsc, hn⟩ := F.ex
  refine Jd.mk fun pins s σ H r S L Z Q I sl st p => ?_
  refine Call_ (ho.step I sl st p fun d S1 v u s1 H1 L1 I1 r1 sl1 st1 x1 a1 p1 => ?_) ht
  by_cases hC : ofC nm d = true
  · rw [if_pos hC] at p1
    obtain ⟨a, dx, vs, rfl, ea, fs, rfl, b⟩ := obj_at hm a1 hC
    obtain rfl : u = Value.ref a := r1
    refine StX.callO_with (ha.step pos I1 sl1 st1 p1 fun ds S2 xs us s2 H2 L2 I2 r2 sl2 st2 x2 a2 p2 => ?_) he hpl
    obtain ⟨a', dx', vs', ea', ea2, _⟩ := obj_at hm (a1.mono x2) hC
    cases ea'
    obtain ⟨mA, O, _⟩ := ins_get I2.hok ea2
    obtain ⟨od, J, _⟩ := O.look
    refine ⟨⟨_, _, _, J, rfl⟩, ?_⟩
    by_cases hz : (PV.obj nm fs :: ds).length + dv.length = n
    · rw [if_pos hz] at p2
      have hl := hz
      have rr : Vals (V.ref a :: xs ++ dv.map sV) (Value.ref a :: us ++ us0) := .cons rfl (r2.append hd)
      have aa : Ats X.K X.mg H2 L2 Z (PV.obj nm fs :: ds ++ dv) (V.ref a :: xs ++ dv.map sV) := .cons (a1.mono x2) (a2.append (sc_at hsc))
      have l2 : (Value.ref a :: us ++ us0).length = ps.length := by rw [← rr.length, ← aa.len, List.length_append, hl]; exact hn
      refine wpAny_call (PySem.W.kco_code I2.kIn J rfl c.at_ c.fn c.fi (codeAny_mono (F.run X.A X.stack s2 H2 ⟨Value.ref a :: us, []⟩ (Value.ref a :: us ++ us0) _ (PV.obj nm fs :: ds ++ dv) S2 L2 Z Q W (hr.le hjk) I2.env0 (hb s2 (Value.ref a :: us) I2.kIn l2) rr st2 aa (by rw [List.length_append, hl]; exact hn) (PostK.of p2 fun _ _ z => z)) fun r s' hq => ?_))
      cases r with
      | error e => exact passes_call (W := kW W) tk (fun _ _ _ _ z => z) pins σ H2 s2 e s' I2 hq
      | ok fl =>
        cases fl with
        | ret u => exact I2.after hq
        | next => exact False.elim hq
        | brk => exact False.elim hq
        | cont => exact False.elim hq
    · rw [if_neg hz] at p2; exact p2.elim
  · rw [if_neg hC] at p1; exact p1.elim
end
end Dn

set_option Elab.async false
set_option linter.all false
set_option maxRecDepth 100000
set_option maxHeartbeats 4000000
namespace Dn
open PySem PySem.Spec PyProof.Rows L2
/-! ### isinstance over all classes; some of them are not there -/
def HC : List Str := ["Chain", "Filter", "Loop", "Short", "ShortStrict", "Strict"]
def isiU (here gone : List Str) (K : PySem.W.Frag) : Bool := isiB here K && ((gone.all fun c => (He.Fa.free c).ok K) && HC.all fun c => decide (c ∈ here ∨ c ∈ gone))
theorem isiU_ok {here gone : List Str} {X : Cx} {h : Heap} (KX : X.K.In h) (G : h.Ns mainGlobals X.mg) (e : isiU here gone X.K = true) : IsiF X HC := by
  obtain ⟨h1, e⟩ := He.ba e
  obtain ⟨h2, h3⟩ := He.ba e
  have I := isiB_ok KX G h1
  have mem : ∀ nm ∈ HC, ∀ C, X.mg nm = some (.ref C) → nm ∈ here := fun nm hn C hC => by
    rcases of_decide_eq_true (List.all_eq_true.mp h3 nm hn) with z | z
    · exact z
    · have f := He.free_ok KX G (List.all_eq_true.mp h2 nm z)
      rw [f] at hC; cases hC
  exact ⟨fun nm hn C hC => I.ins nm (mem nm hn C hC) C hC, fun nm hn C hC => I.ty nm (mem nm hn C hC) C hC, fun nm hn C hC => I.own nm (mem nm hn C hC) C hC, fun nm hn nm' hn' C C' hC hC' => I.two nm (mem nm hn C hC) nm' (mem nm' hn' C' hC') C C' hC hC'⟩
/-! ### one of several classes -/
/-- each class of the table is there, with P, or not at all -/
inductive Tb (mg : Str → Option Value) (P : Str → Fn → Prop) : List (Str × Fn) → Prop
  | nil : Tb mg P []
  | here {c : Str} {m : Fn} {tb : List (Str × Fn)} : P c m → Tb mg P tb → Tb mg P ((c, m) :: tb)
  | gone {c : Str} {m : Fn} {tb : List (Str × Fn)} : mg c = none → Tb mg P tb → Tb mg P ((c, m) :: tb)
theorem Tb.look {mg : Str → Option Value} {P : Str → Fn → Prop} {n : Str} {m : Fn} : ∀ {tb : List (Str × Fn)}, Tb mg P tb → tb.lookup n = some m → P n m ∨ mg n = none
  | _, .nil, e => by simp at e
  | _, .here (c := c) h t, e => by
    rw [List.lookup_cons] at e
    by_cases z : n = c
    · subst z; simp at e; subst e; exact .inl h
    · have : (n == c) = false := by simpa using z
      rw [this] at e; exact t.look e
  | _, .gone (c := c) h t, e => by
    rw [List.lookup_cons] at e
    by_cases z : n = c
    · subst z; exact .inr h
    · have : (n == c) = false := by simpa using z
      rw [this] at e; exact t.look e
def vInT (neg : Bool) (tb : List (Str × Fn)) (d e : PV) (S : Store) : Res PV := match e with
  | .obj n fs => (match tb.lookup n with
    | some m => vInO neg n m d (.obj n fs) S
    | none => .bad)
  | _ => .bad
section
variable {X : Cx} {W : XK}
theorem dop_inT' {neg : Bool} {op : CmpOp} {k : Nat} {tb : List (Str × Fn)} (hT : Tb X.mg (fun nm m => DOp X (kW W) (compareOp op) (vInO neg nm m)) tb) : DOp X (kW W) (compareOp op) (vInT neg tb) := by
  intro pins s σ H S L Z Q d e x y u v I st a1 a2 r1 r2 p
  cases e with
  | obj n fs =>
    replace p : PostV X (kW W) σ Z (match tb.lookup n with
      | some m => vInO neg n m d (.obj n fs) S
      | none => .bad) H L Q := p
    cases h : tb.lookup n with
    | none => rw [h] at p; exact p.elim
    | some m =>
      rw [h] at p
      rcases hT.look h with z | z
      · exact z pins s σ H S L Z Q d _ x y u v I st a1 a2 r1 r2 p
      · cases a2 with
        | obj h0 _ _ _ _ => rw [z] at h0; cases h0
  | _ => exact (show False from p).elim
theorem Tb.imp {mg : Str → Option Value} {P P' : Str → Fn → Prop} (f : ∀ c m, P c m → P' c m) : ∀ {tb : List (Str × Fn)}, Tb mg P tb → Tb mg P' tb
  | _, .nil => .nil
  | _, .here h t => .here (f _ _ h) (t.imp f)
  | _, .gone h t => .gone h (t.imp f)
theorem Spc.mono {X : Cx} {sp nm : Str} {j k n : Nat} {m : Fn} (h : Spc X sp j nm n m) (l : j ≤ k) : Spc X sp k nm n m := by
  obtain ⟨C, f, fd, ps, h1, h2, h3, F, h4⟩ := h.ex
  exact ⟨C, f, fd, ps, h1, h2, h3, F.mono l, h4⟩
theorem dop_inT {k : Nat} {tb : List (Str × Fn)} (hr : RoomG k X.A) (h : Tb X.mg (fun nm m => Spc X "__contains__" k nm 2 m) tb) (tk : Takes X (kW W)) : DOp X (kW W) (compareOp .In) (vInT false tb) := dop_inT' (k := k) (h.imp fun _ _ z => dop_inO hr z tk)
theorem dop_ninT {k : Nat} {tb : List (Str × Fn)} (hr : RoomG k X.A) (h : Tb X.mg (fun nm m => Spc X "__contains__" k nm 2 m) tb) (tk : Takes X (kW W)) : DOp X (kW W) (compareOp .NotIn) (vInT true tb) := dop_inT' (k := k) (h.imp fun _ _ z => dop_ninO hr z tk)
end
theorem Px.le {P : Program} {w : World} {K : PySem.W.Frag} {mg : Str → Option Value} {base : Heap} {j k : Nat} {nm pn : Str} {m : Fn} (F : Px P w K mg base j nm pn m) (l : j ≤ k) : Px P w K mg base k nm pn m := by
  obtain ⟨C, g, p, fd, ps, h1, h2, h3, F, h4, h5⟩ := F.ex
  exact ⟨C, g, p, fd, ps, h1, h2, h3, F.mono l, h4, h5⟩
/-- a property of an object of one of several classes -/
def propT (tb : List (Str × Fn)) (d : PV) (S : Store) : Res PV := match d with
  | .obj n fs => (match tb.lookup n with
    | some m => noErr (m [.obj n fs] S)
    | none => .bad)
  | _ => .bad
def ePropT (tb : List (Str × Fn)) (o : EM) : EM := fun r S => (o r S).bind fun d S1 => propT tb d S1
section
variable {X : Cx} {W : XK} {pos : Pos} {o : Expr} {fo : EM} {mn : Str}
theorem De.pxT {j k : Nat} {tb : List (Str × Fn)} (hT : Tb X.mg (fun nm m => Px X.prog X.w X.K X.mg X.base j nm mn m) tb) (hr : RoomG k X.A) (ho : De X (kW W) o fo) (hjk : j + 1 ≤ k := by decide)
    (hab : attributeBase o mn X.env (eval o X.env) = eval o X.env := by rfl) : De X (kW W) (.Attribute o mn pos) (ePropT tb fo) := by
  refine Jd.mk ?_
  intro pins s σ H r S L Z Q I sl st p
  refine attr_of hab (ho.step I sl st p fun d S1 v u s1 H1 L1 I1 r1 sl1 st1 x1 a1 p1 => ?_)
  cases d with
  | obj n fs =>
    replace p1 : PostV X (kW W) σ Z (match tb.lookup n with
      | some m => noErr (m [.obj n fs] S1)
      | none => .bad) H1 L1 Q := p1
    cases h : tb.lookup n with
    | none => rw [h] at p1; exact p1.elim
    | some m =>
      rw [h] at p1
      rcases hT.look h with z | z
      · obtain ⟨C, g, pp, fd, ps, hm, c, hp, F, hb, h1⟩ := z.ex
        obtain ⟨a, dx, vs, rfl, ea, _⟩ := obj_at hm a1 (by simp [ofC])
        have hr' : RoomG (j + 1) X.A := hr.le hjk
        cases r1
        obtain ⟨mA, O, _, _, _, _⟩ := ins_get I1.hok ea
        obtain ⟨od, J, _⟩ := O.look
        obtain ⟨rest, hrec⟩ := hp.rec_
        have I2 := I1.tok (s1.toks + 1)
        have hc : (PySem.W.clsIn X.K C).isSome = true := by
          obtain ⟨cd, hc, _⟩ := PySem.W.any_some c.hd
          rw [hc]
          rfl
        refine PySem.W.get_bind I1.kIn J (PySem.W.plainGet_of (c.get mn)).1 (PySem.W.findObj_data hc hp.at_ hp.get hp.tak) (PySem.W.plainGet_of (c.get mn)).2 (wpAny_call (PySem.W.prop_get (s := { s1 with toks := s1.toks + 1 }) I1.kIn hrec ?_))
        refine codeAny_mono (F.run X.A.in1 X.stack { s1 with toks := s1.toks + 1 } H1 ⟨[.ref a], []⟩ [.ref a] [.ref a] _ S1 L1 Z Q E0 ⟨hr'.rm.in1, hr'.gd⟩ I2.env0.in1 (hb _ [.ref a] I2.kIn (by rw [h1]; rfl)) (.cons rfl .nil) st1 (.cons a1 .nil) (by rw [h1]; rfl) (post_noerr p1)) fun r s' hq => ?_
        cases r with
        | error er =>
          obtain ⟨_, _, _, _, _, _, _, _, _, _, _, _, z⟩ := hq
          exact z.elim
        | ok fl =>
          cases fl with
          | ret u =>
            obtain ⟨v, H', I3, rv, q3⟩ := I2.after hq
            show wpAny _ _ (handedOut u) _ _ _
            rw [PySem.W.handedOut_of (handed_of rv)]
            exact wpAny_pure ⟨v, H', I3, rv, q3⟩
          | next => exact False.elim hq
          | brk => exact False.elim hq
          | cont => exact False.elim hq
      · cases a1 with
        | obj h0 _ _ _ _ => rw [z] at h0; cases h0
  | _ => exact p1.elim
end
end Dn

set_option Elab.async false
set_option linter.all false
set_option maxRecDepth 100000
set_option maxHeartbeats 4000000
namespace Dn
open PySem PySem.Spec PyProof.Rows L2
/-! ### is -/
def isN : PV → Option Bool
  | .non => some true
  | .bl _ => some false
  | .int _ => some false
  | .str _ => some false
  | .tup _ => some false
  | .lst _ => some false
  | .obj _ _ => some false
  | .loc _ => some false
  | .scr _ => some false
  | .ty _ => some false
  | .cls _ => some false
  | .exc _ => some false
  | .dic _ => some false
  | .dik _ => some false
def vIs (neg : Bool) (d e : PV) (S : Store) : Res PV := match e with
  | .non => (match isN d with
    | some b => okB (xor neg b) S
    | none => .bad)
  | .bl b => (match d with
    | .bl a => okB (xor neg (decide (a = b))) S
    | _ => .bad)
  | _ => .bad
section
variable {X : Cx} {W : WX}
theorem is_none {pins : List (Addr × Obj)} {σ : L2.St} {H : Hp} {s : Shared} {L Z : List Addr} {Q : VK} {d : PV} {x : V} {u : Value} (I : Inv X pins σ H s) (a1 : At X.K X.mg H L Z d x) (r1 : RelV x u) {b : Bool} (h : isN d = some b) (q : Q (.bl b) H) :
    wpAny (model X.prog X.w) X.A (compareOp .Is u .none) (EP X pins σ Q) X.xe s := by
  cases d with
  | non => cases a1; cases r1; cases h; exact wpAny_is_self rfl ⟨.bl true, H, I, rfl, q⟩
  | bl _ => cases a1; cases r1; cases h; exact wpAny_is_other rfl (fun z => nomatch z) ⟨.bl false, H, I, rfl, q⟩
  | int _ => cases a1; obtain ⟨t, rfl⟩ := r1; cases h; exact wpAny_is_other rfl (fun z => nomatch z) ⟨.bl false, H, I, rfl, q⟩
  | str _ => cases a1; obtain ⟨t, rfl⟩ := r1; cases h; exact wpAny_is_other rfl (fun z => nomatch z) ⟨.bl false, H, I, rfl, q⟩
  | ty _ => cases a1; cases r1; cases h; exact wpAny_is_other rfl (fun z => nomatch z) ⟨.bl false, H, I, rfl, q⟩
  | tup _ => cases a1; cases r1; cases h; exact wpAny_is_other rfl (fun z => nomatch z) ⟨.bl false, H, I, rfl, q⟩
  | lst _ => cases a1; cases r1; cases h; exact wpAny_is_other rfl (fun z => nomatch z) ⟨.bl false, H, I, rfl, q⟩
  | obj _ _ => cases a1; cases r1; cases h; exact wpAny_is_other rfl (fun z => nomatch z) ⟨.bl false, H, I, rfl, q⟩
  | loc _ => cases a1; cases r1; cases h; exact wpAny_is_other rfl (fun z => nomatch z) ⟨.bl false, H, I, rfl, q⟩
  | scr _ => cases a1 <;> (cases r1; cases h; exact wpAny_is_other rfl (fun z => nomatch z) ⟨.bl false, H, I, rfl, q⟩)
  | cls _ => cases a1; cases r1; cases h; exact wpAny_is_other rfl (fun z => nomatch z) ⟨.bl false, H, I, rfl, q⟩
  | exc _ => cases a1; cases r1; cases h; exact wpAny_is_other rfl (fun z => nomatch z) ⟨.bl false, H, I, rfl, q⟩
  | dic _ => cases a1; cases r1; cases h; exact wpAny_is_other rfl (fun z => nomatch z) ⟨.bl false, H, I, rfl, q⟩
  | dik _ => cases a1; cases r1; cases h; exact wpAny_is_other rfl (fun z => nomatch z) ⟨.bl false, H, I, rfl, q⟩
theorem isnot_none {pins : List (Addr × Obj)} {σ : L2.St} {H : Hp} {s : Shared} {L Z : List Addr} {Q : VK} {d : PV} {x : V} {u : Value} (I : Inv X pins σ H s) (a1 : At X.K X.mg H L Z d x) (r1 : RelV x u) {b : Bool} (h : isN d = some b) (q : Q (.bl (!b)) H) :
    wpAny (model X.prog X.w) X.A (compareOp .IsNot u .none) (EP X pins σ Q) X.xe s := by
  cases d with
  | non => cases a1; cases r1; cases h; exact wpAny_isNot_self rfl ⟨.bl false, H, I, rfl, q⟩
  | bl _ => cases a1; cases r1; cases h; exact wpAny_isNot_other rfl (fun z => nomatch z) ⟨.bl true, H, I, rfl, q⟩
  | int _ => cases a1; obtain ⟨t, rfl⟩ := r1; cases h; exact wpAny_isNot_other rfl (fun z => nomatch z) ⟨.bl true, H, I, rfl, q⟩
  | str _ => cases a1; obtain ⟨t, rfl⟩ := r1; cases h; exact wpAny_isNot_other rfl (fun z => nomatch z) ⟨.bl true, H, I, rfl, q⟩
  | ty _ => cases a1; cases r1; cases h; exact wpAny_isNot_other rfl (fun z => nomatch z) ⟨.bl true, H, I, rfl, q⟩
  | tup _ => cases a1; cases r1; cases h; exact wpAny_isNot_other rfl (fun z => nomatch z) ⟨.bl true, H, I, rfl, q⟩
  | lst _ => cases a1; cases r1; cases h; exact wpAny_isNot_other rfl (fun z => nomatch z) ⟨.bl true, H, I, rfl, q⟩
  | obj _ _ => cases a1; cases r1; cases h; exact wpAny_isNot_other rfl (fun z => nomatch z) ⟨.bl true, H, I, rfl, q⟩
  | loc _ => cases a1; cases r1; cases h; exact wpAny_isNot_other rfl (fun z => nomatch z) ⟨.bl true, H, I, rfl, q⟩
  | scr _ => cases a1 <;> (cases r1; cases h; exact wpAny_isNot_other rfl (fun z => nomatch z) ⟨.bl true, H, I, rfl, q⟩)
  | cls _ => cases a1; cases r1; cases h; exact wpAny_isNot_other rfl (fun z => nomatch z) ⟨.bl true, H, I, rfl, q⟩
  | exc _ => cases a1; cases r1; cases h; exact wpAny_isNot_other rfl (fun z => nomatch z) ⟨.bl true, H, I, rfl, q⟩
  | dic _ => cases a1; cases r1; cases h; exact wpAny_isNot_other rfl (fun z => nomatch z) ⟨.bl true, H, I, rfl, q⟩
  | dik _ => cases a1; cases r1; cases h; exact wpAny_isNot_other rfl (fun z => nomatch z) ⟨.bl true, H, I, rfl, q⟩
theorem dop_is : DOp X W (compareOp .Is) (vIs false) := by
  intro pins s σ H S L Z Q d e x y u v I st a1 a2 r1 r2 p
  cases e with
  | non =>
    cases a2; cases r2
    replace p : PostV X W σ Z (match isN d with
      | some b => okB (xor false b) S
      | none => .bad) H L Q := p
    cases h : isN d with
    | none => rw [h] at p; exact p.elim
    | some b =>
      rw [h] at p
      exact is_none I a1 r1 h (by simpa using post_val p st (.bl _))
  | bl b =>
    cases d with
    | bl a => cases a1; cases a2; exact op_isBl pins s σ H _ _ u v Q I r1 r2 ⟨a, b, rfl, rfl, by simpa using post_val (show PostV X W σ Z (okB (xor false (decide (a = b))) S) H L Q from p) st (.bl _)⟩
    | _ => exact (show False from p).elim
  | _ => exact (show False from p).elim
theorem dop_isnot : DOp X W (compareOp .IsNot) (vIs true) := by
  intro pins s σ H S L Z Q d e x y u v I st a1 a2 r1 r2 p
  cases e with
  | non =>
    cases a2; cases r2
    replace p : PostV X W σ Z (match isN d with
      | some b => okB (xor true b) S
      | none => .bad) H L Q := p
    cases h : isN d with
    | none => rw [h] at p; exact p.elim
    | some b =>
      rw [h] at p
      exact isnot_none I a1 r1 h (by simpa using post_val p st (.bl _))
  | bl b =>
    cases d with
    | bl a => cases a1; cases a2; exact op_notBl pins s σ H _ _ u v Q I r1 r2 ⟨a, b, rfl, rfl, by simpa using post_val (show PostV X W σ Z (okB (xor true (decide (a = b))) S) H L Q from p) st (.bl _)⟩
    | _ => exact (show False from p).elim
  | _ => exact (show False from p).elim
/-! ### int(x) -/
def vInt : List PV → Store → Res PV := one1 fun d S => match d with
  | .int i => .ok (.int i) S
  | .bl k => .ok (.int (if k then 1 else 0)) S
  | .str a => (match PySem.intText? a with
    | some n => if a.length ≤ 640 then .ok (.int n) S else .bad
    | none => .bad)
  | _ => .bad
theorem dc_int : DC X W (.type "int") vInt := by
  intro pins s σ H S L Z Q ds xs us I st a r p
  match ds, a, p with
  | [d], a, p =>
    obtain ⟨v, rfl, a'⟩ := a.one
    cases d with
    | int i => cases a'; exact call_int1 pins s σ H _ us Q I r (.inl ⟨i, rfl, post_val (show PostV X W σ Z (.ok (.int i) S) H L Q from p) st (.int _)⟩)
    | bl k => cases a'; exact call_int1 pins s σ H _ us Q I r (.inr ⟨k, rfl, post_val (show PostV X W σ Z (.ok (.int (if k then 1 else 0)) S) H L Q from p) st (.int _)⟩)
    | str z =>
      cases a'
      replace p : PostV X W σ Z (match PySem.intText? z with
        | some n => if z.length ≤ 640 then .ok (.int n) S else .bad
        | none => .bad) H L Q := p
      cases h : PySem.intText? z with
      | none => rw [h] at p; exact p.elim
      | some n =>
        rw [h] at p
        replace p : PostV X W σ Z (if z.length ≤ 640 then .ok (.int n) S else .bad) H L Q := p
        by_cases hl : z.length ≤ 640
        · rw [if_pos hl] at p
          exact call_int_str pins s σ H _ us Q I r ⟨z, n, rfl, h, hl, post_val p st (.int _)⟩
        · rw [if_neg hl] at p; exact p.elim
    | _ => exact (show False from p).elim
  | [], _, p => exact (show False from p).elim
  | _ :: _ :: _, _, p => exact (show False from p).elim
/-! ### readings of the hand layer, used here -/
theorem PostV.stepX {γ : Type} {σ : L2.St} {Z : List Addr} {x : Res PV} {k : PV → Store → Res γ} {β : Type} {rel : Hp → List Addr → γ → β → Prop} {H : Hp} {L : List Addr} {Q : β → Hp → Prop} (p : Post X W σ Z rel (x.bind k) H L Q) :
    PostV X W σ Z x H L (fun v H1 => ∃ d S1 L1, Ext H L H1 L1 ∧ Sta X.K X.mg H1 L1 Z S1 ∧ At X.K X.mg H1 L1 Z d v ∧ Post X W σ Z rel (k d S1) H1 L1 Q) := by
  cases x with
  | ok d S1 => exact fun v H1 L1 x1 st1 a1 => ⟨d, S1, L1, x1, st1, a1, Post.ext p x1⟩
  | err c S1 => exact p
  | bad => exact p
theorem Post.mono {α β : Type} {σ : L2.St} {Z : List Addr} {rel : Hp → List Addr → α → β → Prop} {x : Res α} {H : Hp} {L : List Addr} {Q Q' : β → Hp → Prop} (p : Post X W σ Z rel x H L Q) (h : ∀ v H1, Q v H1 → Q' v H1) : Post X W σ Z rel x H L Q' := by
  cases x with
  | ok d S1 => exact fun v H1 L1 x1 st1 a1 => h _ _ (p v H1 L1 x1 st1 a1)
  | err c S1 => exact p
  | bad => exact p
theorem De.ofS {e : Expr} {t : TE} {f : EM} (h : PE X e t) (hq : ∀ (σ : L2.St) (H : Hp) (r : Env1) (S : Store) (L Z : List Addr) (Q : VK), Slots X.K X.mg H L Z r σ → Sta X.K X.mg H L Z S → PostV X W σ Z (f r S) H L Q → t σ H Q) : De X W e f :=
  Jd.mk fun pins s σ H r S L Z Q I sl st p => h.run pins s σ H Q I (hq σ H r S L Z Q sl st p)
/-- tuple(range(a, b)) -/
def tupRg (d e : PV) (S : Store) : Res PV := match d, e with
  | .int i, .int j => if -(2 ^ 62) ≤ i ∧ i < 2 ^ 62 ∧ -(2 ^ 62) ≤ j ∧ j < 2 ^ 62 ∧ (j - i).toNat ≤ 2 ^ 24 then .ok (.tup (rng i (j - i).toNat)) S else .bad
  | _, _ => .bad
def eTupRg (a b : EM) : EM := fun r S => (a r S).bind fun d S1 => (b r S1).bind fun e S2 => tupRg d e S2
theorem ats_rng {K : PySem.W.Frag} {mg : Str → Option Value} {H : Hp} {L Z : List Addr} (i j : Int) : Ats K mg H L Z (rng i (j - i).toNat) (rgV i j) := by
  have := ats_ints (K := K) (mg := mg) (H := H) (L := L) (Z := Z) ((List.range (j - i).toNat).map fun (k : Nat) => i + (k : Int))
  rw [List.map_map, List.map_map] at this
  exact this
theorem De.tupRg {a b : Expr} {fa fb : EM} {p p2 pos pos2 : Pos} (hc : X.calm = true) (hg : Gl X "tuple") (hm : X.mg "tuple" = none) (hg2 : Gl X "range") (hm2 : X.mg "range" = none) (ha : De X W a fa) (hb : De X W b fb)
    (na : starEach [a, b] X.env = (false, eval a X.env) :: starEach [b] X.env := by rfl) (nb : starEach [b] X.env = (false, eval b X.env) :: starEach [] X.env := by rfl) (hp : (backTo pos2 (starEach [b] X.env)).any (·.1) = false := by rfl)
    (ne : starEach [.Call (.Name "range" p2) [a, b] [] pos2] X.env = (false, eval (.Call (.Name "range" p2) [a, b] [] pos2) X.env) :: starEach [] X.env := by rfl) :
    De X W (.Call (.Name "tuple" p) [.Call (.Name "range" p2) [a, b] [] pos2] [] pos) (eTupRg fa fb) := by
  refine De.ofS (pe_tupRg hc hg hm (prg_2 hg2 hm2 ha.pe hb.pe na nb hp) ne) fun σ H r S L Z Q sl st p => ?_
  refine ⟨r, S, L, Z, sl, st, Post.mono (PostV.stepX p) fun x H1 ⟨d, S1, L1, x1, st1, a1, p1⟩ => ?_⟩
  refine ⟨r, S1, L1, Z, sl.mono x1, st1, Post.mono (PostV.stepX p1) fun y H2 ⟨e, S2, L2, x2, st2, a2, p2⟩ => ?_⟩
  cases d with
  | int i =>
    cases e with
    | int j =>
      cases a1; cases a2
      replace p2 : PostV X W σ Z (if -(2 ^ 62) ≤ i ∧ i < 2 ^ 62 ∧ -(2 ^ 62) ≤ j ∧ j < 2 ^ 62 ∧ (j - i).toNat ≤ 2 ^ 24 then .ok (.tup (rng i (j - i).toNat)) S2 else .bad) H2 L2 Q := p2
      by_cases h : -(2 ^ 62) ≤ i ∧ i < 2 ^ 62 ∧ -(2 ^ 62) ≤ j ∧ j < 2 ^ 62 ∧ (j - i).toNat ≤ 2 ^ 24
      · rw [if_pos h] at p2
        exact ⟨i, j, rfl, rfl, h, post_tup p2 st2 (ats_rng i j)⟩
      · rw [if_neg h] at p2; exact p2.elim
    | _ => exact (show False from p2).elim
  | _ => exact (show False from p2).elim
end
/-! ### a, b, c = x, y, z -/
def par3K (i j l : Nat) (r : Env1) (ds : List PV) (S1 : Store) : Res Fl := match ds with
  | [d, e, f] => .ok (.nx (((r.set i (some d)).set j (some e)).set l (some f))) S1
  | _ => .bad
def sPar3 (i j l : Nat) (a : LM) : SM := fun r S => (a r S).bind fun ds S1 => par3K i j l r ds S1
section
variable {X : Cx} {W : XK} {la : LM} {pos : Pos}
theorem DS.par3 {i j l : Nat} {x y z : Str} {a b c : Expr} {px py pz pt : Pos} {kt k2 pt2} (hc : X.calm = true) (hN : X.N.Nodup) (hi : X.N[i]? = some x) (hj : X.N[j]? = some y) (hl : X.N[l]? = some z) (hij : i ≠ j) (hil : i ≠ l) (hjl : j ≠ l)
    (hx : X.env.scope.names.lookup x = some .local) (hy : X.env.scope.names.lookup y = some .local) (hz : X.env.scope.names.lookup z = some .local) (ha : DA X (kW W) [a, b, c] la)
    (hw : swappedStores [.Tuple [.Name x px, .Name y py, .Name z pz] kt pt] (.Tuple [a, b, c] k2 pt2) X.env = pure (some [x, y, z]))
    (hs : swapsWithSole [.Tuple [.Name x px, .Name y py, .Name z pz] kt pt] (.Tuple [a, b, c] k2 pt2) pos.line X.env = pure false := by rfl) :
    DS X W (.Assign [.Tuple [.Name x px, .Name y py, .Name z pz] kt pt] (.Tuple [a, b, c] k2 pt2) pos) (sPar3 i j l la) := by
  refine Jd.mk ?_
  intro pins s σ H r S L Z D I sl st p
  refine (ps_par3 hc hN hi hj hl hij hil hjl hx hy hz ha.pa hw hs).run pins s σ H D I ⟨r, S, L, Z, sl, st, ?_⟩
  have li := lt_of_N I hi
  have lj := lt_of_N I hj
  have ll := lt_of_N I hl
  unfold sPar3 at p
  cases q : la r S with
  | bad => rw [q] at p; exact p.elim
  | err c S1 => rw [q] at p; exact p
  | ok ds S1 =>
    rw [q] at p
    intro vs H' L' x' st' a'
    match ds, a', p with
    | [d, e, f], .cons a1 (.cons a2 (.cons a3 .nil)), p =>
      exact ⟨_, _, _, rfl, (show PostS X W Z (.ok (.nx (((r.set i (some d)).set j (some e)).set l (some f))) S1) H L D from p) _ H' L' x' ((((sl.mono x').set a1 li).set a2 (by rw [List.length_set]; exact lj)).set a3 (by rw [List.length_set, List.length_set]; exact ll)) st'⟩
    | [], _, p => exact (show False from p).elim
    | [_], _, p => exact (show False from p).elim
    | [_, _], _, p => exact (show False from p).elim
    | _ :: _ :: _ :: _ :: _, _, p => exact (show False from p).elim
end
end Dn

set_option Elab.async false
set_option linter.all false
set_option maxRecDepth 100000
set_option maxHeartbeats 4000000
namespace Dn
open PySem PySem.Spec PyProof.Rows L2
/-! ### isinstance of exceptions -/
def subE (c n : Str) : Bool := decide (c = n) || decide (n = "HushError")
/-- what is known of the classes of exceptions -/
structure IsxF (X : Cx) : Prop where
  ex : ∀ nm ∈ EXN, ∀ C, X.mg nm = some (.ref C) → ExcC X.K C
  ty : ∀ nm ∈ EXN, ∀ C, X.mg nm = some (.ref C) → ∀ n ∈ (["int", "bool", "str", "tuple", "list", "dict"] : List String), PySem.W.kitOne X.K (.ref C) (.type n) = some false
  ve : ∀ nm ∈ EXN, ∀ C, X.mg nm = some (.ref C) → PySem.W.kitOne X.K (.ref C) (.type "ValueError") = some true
  two : ∀ nm ∈ EXN, ∀ nm' ∈ EXN, ∀ C C', X.mg nm = some (.ref C) → X.mg nm' = some (.ref C') → PySem.W.kitOne X.K (.ref C) (.ref C') = some (subE nm nm')
  exm : ∀ nm ∈ EXN, ∀ C C', X.mg nm = some (.ref C) → X.mg "HushError" = some (.ref C') → PySem.W.exmOne X.K (.ref C) (.ref C') = some true
def vIsiU (ds : List PV) (S : Store) : Res PV := match ds with
  | [.exc c, .cls n] => if n ∈ EXN then okB (subE c n) S else .bad
  | [.exc c, .ty n] => if n = "ValueError" then okB true S else if n ∈ (["int", "bool", "str", "tuple", "list", "dict"] : List String) then okB false S else .bad
  | ds => vIsi HC ds S
section
variable {X : Cx} {W : WX}
theorem isi_exc {pins : List (Addr × Obj)} {σ : L2.St} {H : Hp} {s : Shared} {Q : VK} {C a : Addr} {φ : Heap → Prop} {u cv : Value} {b : Bool} (E : ExcC X.K C) (I : Inv X pins σ H s) (hH : H a = some (.ext φ)) (hφ : IsExc C a φ) (e : PySem.W.kitOne X.K (.ref C) cv = some b) (hu : u = .ref a) (q : Q (.bl b) H) :
    wpAny (model X.prog X.w) X.A (call (.builtin "isinstance") [u, cv]) (EP X pins σ Q) X.xe s := by
  subst hu
  obtain ⟨p, _, _⟩ := I.hok a _ hH
  obtain ⟨oe, vs, hget, hz, hd⟩ := hφ _ p
  have J : PySem.W.InstAt s.heap a oe C none := by
    obtain ⟨oc, od, oda, osl⟩ := oe
    obtain ⟨h1, h2⟩ := hz
    dsimp only at h1 h2 hd
    subst h1 h2 hd
    exact ⟨hget, rfl, rfl, trivial⟩
  exact PySem.W.kia_one (PySem.W.handS_kitx_exc E.hg E.hk E.hs E.hd E.ha E.hn E.ht E.hm) I.kIn J e (fun z => nomatch z) fun tk => ⟨.bl b, H, I.kept (t' := tk) fun _ _ z => z, rfl, q⟩
theorem dc_isiU (hi : IsiF X HC) (hx : IsxF X) : DC X W (.builtin "isinstance") vIsiU := by
  intro pins s σ H S L Z Q ds xs us I st a r p
  have old : PostV X W σ Z (vIsi HC ds S) H L Q → wpAny (model X.prog X.w) X.A (call (.builtin "isinstance") us) (EP X pins σ Q) X.xe s := fun p => dc_isi hi pins s σ H S L Z Q ds xs us I st a r p
  match ds, a, r, p, old with
  | [.exc c, .cls n], .cons a1 (.cons a2 .nil), .cons r1 (.cons r2 .nil), p, _ =>
    replace p : PostV X W σ Z (if n ∈ EXN then okB (subE c n) S else .bad) H L Q := p
    by_cases hn : n ∈ EXN
    · rw [if_pos hn] at p
      cases a1 with
      | exc h0 h1 h2 h3 _ _ =>
        cases a2 with
        | cls g1 =>
          obtain rfl : _ = Value.ref _ := r2
          exact isi_exc (hx.ex c h0 _ h1) I h2 h3 (hx.two c h0 n hn _ _ h1 g1) r1 (post_val p st (.bl _))
    · rw [if_neg hn] at p; exact p.elim
  | [.exc c, .ty n], .cons a1 (.cons a2 .nil), .cons r1 (.cons r2 .nil), p, _ =>
    replace p : PostV X W σ Z (if n = "ValueError" then okB true S else if n ∈ (["int", "bool", "str", "tuple", "list", "dict"] : List String) then okB false S else .bad) H L Q := p
    cases a1 with
    | exc h0 h1 h2 h3 _ _ =>
      cases a2
      obtain rfl : _ = Value.type n := r2
      by_cases hv : n = "ValueError"
      · rw [if_pos hv] at p
        subst hv
        exact isi_exc (hx.ex c h0 _ h1) I h2 h3 (hx.ve c h0 _ h1) r1 (post_val p st (.bl _))
      · rw [if_neg hv] at p
        by_cases hn : n ∈ (["int", "bool", "str", "tuple", "list", "dict"] : List String)
        · rw [if_pos hn] at p
          exact isi_exc (hx.ex c h0 _ h1) I h2 h3 (hx.ty c h0 _ h1 n hn) r1 (post_val p st (.bl _))
        · rw [if_neg hn] at p; exact p.elim
  | [], _, _, p, old => exact old p
  | [d0], _, _, p, old => exact old (by cases d0 <;> exact p)
  | d1 :: d2 :: d3 :: ds', _, _, p, old => exact old (by cases d1 <;> first | exact p | (cases d2 <;> exact p))
  | [.non, _], _, _, p, old => exact old p
  | [.bl _, _], _, _, p, old => exact old p
  | [.int _, _], _, _, p, old => exact old p
  | [.str _, _], _, _, p, old => exact old p
  | [.tup _, _], _, _, p, old => exact old p
  | [.lst _, _], _, _, p, old => exact old p
  | [.obj _ _, _], _, _, p, old => exact old p
  | [.loc _, _], _, _, p, old => exact old p
  | [.scr _, _], _, _, p, old => exact old p
  | [.ty _, _], _, _, p, old => exact old p
  | [.cls _, _], _, _, p, old => exact old p
  | [.exc _, .non], _, _, p, old => exact old p
  | [.exc _, .bl _], _, _, p, old => exact old p
  | [.exc _, .int _], _, _, p, old => exact old p
  | [.exc _, .str _], _, _, p, old => exact old p
  | [.exc _, .tup _], _, _, p, old => exact old p
  | [.exc _, .lst _], _, _, p, old => exact old p
  | [.exc _, .obj _ _], _, _, p, old => exact old p
  | [.exc _, .loc _], _, _, p, old => exact old p
  | [.exc _, .scr _], _, _, p, old => exact old p
  | [.exc _, .exc _], _, _, p, old => exact old p
  | [.exc _, .dic _], _, _, p, old => exact old p
  | [.exc _, .dik _], _, _, p, old => exact old p
  | [.dic _, _], _, _, p, old => exact old p
  | [.dik _, _], _, _, p, old => exact old p
/-! ### xs.count(x), xs.index(x) of flat values -/
def flatsOf (S : Store) (o : PV) (d : PV) : Option (List V × V) := match (lstOf S o).bind flats?, flat? d with
  | some vs, some v => some (vs, v)
  | _, _ => none
def vCount (o : PV) (ds : List PV) (S : Store) : Res PV := match ds with
  | [d] => (match flatsOf S o d with
    | some (vs, v) => .ok (.int (vs.countP fun z => eqV z v)) S
    | none => .bad)
  | _ => .bad
def vIndex (o : PV) (ds : List PV) (S : Store) : Res PV := match ds with
  | [d] => (match flatsOf S o d with
    | some (vs, v) => (match vs.findIdx? fun z => eqV z v with
      | some j => .ok (.int j) S
      | none => .bad)
    | none => .bad)
  | _ => .bad
theorem flatsOf_at {H : Hp} {S : Store} {L Z : List Addr} {o d : PV} {x y v : V} {vs : List V} (st : Sta X.K X.mg H L Z S) (a : At X.K X.mg H L Z o x) (b : At X.K X.mg H L Z d y) (h : flatsOf S o d = some (vs, v)) :
    ∃ p, x = .ref p ∧ H p = some (.lst vs) ∧ vs.all flatV = true ∧ y = v ∧ flatV v = true := by
  unfold flatsOf at h
  cases h1 : lstOf S o with
  | none => rw [h1] at h; cases h
  | some xs =>
    rw [h1] at h
    cases h2 : flats? xs with
    | none => simp only [Option.bind_some, h2] at h; cases h
    | some ws =>
      simp only [Option.bind_some, h2] at h
      cases h3 : flat? d with
      | none => rw [h3] at h; cases h
      | some w =>
        rw [h3] at h; cases h
        obtain ⟨p, zs, rfl, hp, bz⟩ := lst_at st a h1
        obtain ⟨rfl, f⟩ := flats_at bz h2
        obtain ⟨rfl, f2⟩ := flat_at b h3
        exact ⟨p, rfl, hp, f, rfl, f2⟩
theorem count_run {pins : List (Addr × Obj)} {σ : L2.St} {H : Hp} {s : Shared} {Q : VK} {p : Addr} {ys : List V} {y : V} {u : Value} (I : Inv X pins σ H s) (hs : H p = some (.lst ys)) (fys : ys.all flatV = true) (fy : flatV y = true) (ry : RelV y u) (q : Q (.int (ys.countP fun z => eqV z y)) H) :
    wpAny (model X.prog X.w) X.A (call (.builtin "list.count") [.ref p, u]) (EP X pins σ Q) X.xe s := by
  obtain ⟨its, rv, ⟨⟨cls, dd, data, sl⟩, n, ho, hc, hdn, hd⟩, hlen⟩ := I.list (SqL.of hs)
  simp only at hc hd
  subst hc hd
  have ec : ∀ {ys : List V} {us : List Value}, Vals ys us → ys.all flatV = true → us.countP (eqU y) = ys.countP (fun z => eqV z y) := by
    intro ys us h
    induction h with
    | nil => intro _; rfl
    | cons r t ih =>
      intro f
      rw [List.all_cons, Bool.and_eq_true] at f
      rw [List.countP_cons, List.countP_cons, ih f.2, eqU_of r f.1]
  refine call_meets PySem.F.slot_list_count ⟨_, ho, rfl⟩ PySem.F.entry_list_count (PySem.F.args_list_count_2 _ _)
    (SeqAt.list_countAt p its.toArray n dd sl u (eqU y)) ⟨ho, fun u' hu' => mem_eqAt ry fy rv fys u' (by simpa using hu'), ?_⟩
  refine ⟨.int (ys.countP fun z => eqV z y), H, I.tok _, ⟨s.toks, ?_⟩, q⟩
  show Value.int ((its.toArray.toList.countP (eqU y) : Nat) : Int) s.toks = _
  rw [ec rv fys]
theorem dmt_count : DMt X W "list" "list.count" vCount := by
  intro pins s σ H S L Z Q d x ds xs v us I st a b r r2 p
  match ds, b, r2, p with
  | [y], .cons b1 .nil, .cons ry .nil, p =>
    replace p : PostV X W σ Z (match flatsOf S d y with
      | some (vs, v) => .ok (.int (vs.countP fun z => eqV z v)) S
      | none => .bad) H L Q := p
    cases h : flatsOf S d y with
    | none => rw [h] at p; exact p.elim
    | some q =>
      obtain ⟨vs, w⟩ := q
      rw [h] at p
      obtain ⟨a', rfl, hp, f, rfl, f2⟩ := flatsOf_at st a b1 h
      cases r
      exact count_run I hp f f2 ry (post_val p st (.int _))
  | [], _, _, p => exact (show False from p).elim
  | _ :: _ :: _, _, _, p => exact (show False from p).elim
theorem dmt_index : DMt X W "list" "list.index" vIndex := by
  intro pins s σ H S L Z Q d x ds xs v us I st a b r r2 p
  match ds, b, r2, p with
  | [y], .cons b1 .nil, .cons ry .nil, p =>
    replace p : PostV X W σ Z (match flatsOf S d y with
      | some (vs, v) => (match vs.findIdx? fun z => eqV z v with
        | some j => .ok (.int j) S
        | none => .bad)
      | none => .bad) H L Q := p
    cases h : flatsOf S d y with
    | none => rw [h] at p; exact p.elim
    | some q =>
      obtain ⟨vs, w⟩ := q
      rw [h] at p
      replace p : PostV X W σ Z (match vs.findIdx? fun z => eqV z w with
        | some j => .ok (.int j) S
        | none => .bad) H L Q := p
      cases hj : vs.findIdx? fun z => eqV z w with
      | none => rw [hj] at p; exact p.elim
      | some j =>
        rw [hj] at p
        obtain ⟨a', rfl, hp, f, rfl, f2⟩ := flatsOf_at st a b1 h
        obtain ⟨hl, h1, h2⟩ := List.findIdx?_eq_some_iff_getElem.mp hj
        exact mt_index pins s σ H _ _ v _ Q I r (.cons ry .nil) ⟨a', vs, _, j, vs[j], rfl, rfl, SqL.of hp, f2, f, List.getElem?_eq_getElem hl, h1, fun m z' hm hz => by
          obtain ⟨hml, hme⟩ := List.getElem?_eq_some_iff.mp hz
          have := h2 m hm
          rw [hme] at this
          simpa using this, post_val p st (.int _)⟩
  | [], _, _, p => exact (show False from p).elim
  | _ :: _ :: _, _, _, p => exact (show False from p).elim
end
end Dn

set_option Elab.async false
set_option linter.all false
set_option maxRecDepth 100000
set_option maxHeartbeats 4000000
namespace Dn
open PySem PySem.Spec PyProof.Rows L2
/-! ### where an exception is handled -/
/-- the context of a suite that holds the exception at a, which is tracked like any other object -/
abbrev hotX (X : Cx) (a : Addr) (pn : List (Addr × Obj)) : Cx := { X with A := X.A.mark (some (.ref a)), calm := false, pn := pn, xe := fun _ _ => False }
theorem Un.track {fs ex : List Addr} {H0 H : Hp} {h0 h : Heap} {a : Addr} {o : HO} (u : Un fs ex H0 H h0 h) (n : h0.get? a = none) (na : H a = none) : Un fs ex H0 (upd H a o) h0 h :=
  ⟨u.keep, u.slot, fun b ob e q hx => by rw [upd_ne (fun z => by rw [z, n] at e; cases e)]; exact u.free b ob e q hx, u.there,
    fun b xs e => by have := u.tups b xs e; rw [upd_ne (ne_of_none this na)]; exact this,
    fun b ob v e => by have := u.frzs b ob v e; rw [upd_ne (ne_of_none this na)]; exact this,
    fun b ps e => by obtain ⟨m, z⟩ := u.tbls b ps e; exact ⟨m, by rw [upd_ne (ne_of_none z na)]; exact z⟩⟩
/-- the exception's object is tracked from now on -/
theorem Inv.hotIn {X : Cx} {pins : List (Addr × Obj)} {σ : L2.St} {H : Hp} {s : Shared} {a : Addr} {oe : Obj} {vs : Array Value} {φ : Heap → Prop} (I : Inv X pins σ H s) (ha : s.heap.get? a = some oe) (hd : oe.data = .fields vs) (na : H a = none) (nL : a ≠ X.env.locals)
    (n0 : X.s_0.heap.get? a = none) (np : ∀ p ∈ X.pn ++ pins, p.1 ≠ a) (hφ : ObjOk X.prog X.w (upd H a (.ext φ)) s.heap a (.ext φ)) : Inv (hotX X a (X.pn ++ pins)) [] σ (upd H a (.ext φ)) s := by
  have ok : (hotX X a (X.pn ++ pins)).Ok := ⟨I.ok.mod, I.ok.kind, I.ok.glob, I.ok.blt, I.ok.above, I.ok.inj, I.ok.has, I.ok.cab, fun z => Bool.noConfusion z, (I.ok.suite a (X.pn ++ pins)).frames, I.ok.stk, I.ok.exf, I.ok.bs, I.ok.bsz, I.ok.noex, I.ok.exfs, I.ok.funs, I.ok.frf⟩
  refine ⟨ok, I.os, I.bare, Un.track I.base n0 na, I.loc, I.cell, ?_, fun x c e => ?_, fun p hp => ?_, fun b u e => ?_, I.len⟩
  · show upd H a (.ext φ) X.env.locals = none
    rw [upd_ne (fun z => nL z.symm)]; exact I.free
  · obtain ⟨v, o, h1, h2⟩ := I.cell x c e
    rw [upd_ne (fun z => by rw [z, ha] at h1; cases h1; rw [hd] at h2; cases h2)]
    exact I.freeC x c e
  · have hp' : p ∈ X.pn ++ pins := by rw [List.append_nil] at hp; exact hp
    obtain ⟨p1, p2, p3⟩ := I.pin p hp'
    exact ⟨p1, by rw [upd_ne (np p hp')]; exact p2, p3⟩
  · by_cases hb : b = a
    · subst hb
      rw [upd_same] at e; cases e
      exact hφ
    · rw [upd_ne hb] at e
      exact (I.hok b u e).stay (fun c v _ q => q) (fun c q => by rw [upd_ne (ne_of_none q na)]; exact q) fun c xs q => by rw [upd_ne (ne_of_none q na)]; exact q
theorem Inv.hotOut {X : Cx} {pins : List (Addr × Obj)} {σ : L2.St} {H : Hp} {s : Shared} {a : Addr} (I : Inv (hotX X a (X.pn ++ pins)) [] σ H s) (ok : X.Ok) : Inv X pins σ H s :=
  ⟨ok, I.os, I.bare, I.base, I.loc, I.cell, I.free, I.freeC, fun p hp => I.pin p (List.mem_append_left _ hp), I.hok, I.len⟩
/-- what the suite of 'except x as n' wishes: a is the exception, n's slot is i -/
def wHot (K : PySem.W.Frag) (c : Value) (i : Nat) (ts : TS) (D : Ends) : WX := fun cls d σ H =>
  PySem.W.exmOne K cls c = some true ∧ d = none ∧ ∃ C, cls = .ref C ∧ ∀ (a : Addr) (φ : Heap → Prop), H a = none → IsExc C a φ →
    ts { nx := fun σ' H' => D.nx (σ'.set i none) H', rt := D.rt, bk := fun σ' H' => D.bk (σ'.set i none) H', ct := fun σ' H' => D.ct (σ'.set i none) H' } (σ.set i (some (.ref a))) (upd H a (.ext φ))
theorem ps_try_hot {X : Cx} {x n : Str} {c : Value} {i : Nat} {body suite : List Stmt} {b₀ : Stmt} {np pos pos' : Pos} {tb : WX → TS} {ts : TS} (hs : X.stack = X.env :: X.outer) (hf : X.env.frame = some X.env.locals) (hN : X.N.Nodup) (hi : X.N[i]? = some n) (hln : X.env.kindOf n = some .local) (hc : Names X x c) (hx0 : X.ex = [])
    (hb : ∀ (W : WX) (pn : List (Addr × Obj)) (xe : Value → Shared → Prop), Takes (X.tr pn xe) W → PSs (X.tr pn xe) body (tb W))
    (hsu : ∀ (a : Addr) (pn : List (Addr × Obj)), PSs (hotX X a pn) (b₀ :: suite) ts) :
    PS X (.Try body [.ExceptHandler (some (.Name x np)) (some n) (b₀ :: suite) pos'] [] [] pos) (fun D σ H => tb (wHot X.K c i ts D) D σ H) := by
  refine ⟨fun pins s σ H D I h => ?_⟩
  have ok := I.ok
  have hfr : X.A.frames = some (X.env :: X.outer) := ok.frames.trans (congrArg some hs)
  refine wpAny_Try_except (wpAny_mono ((hb (wHot X.K c i ts D) (X.pn ++ pins) (fun e s₁ => wpAny (model X.prog X.w) X.A (noteFrame e X.env) (fun _ s₂ => wpAny (model X.prog X.w) X.A (setFlight e none) (fun _ s₃ =>
    wpAny (model X.prog X.w) X.A (handleBy e X.env [.ExceptHandler (some (.Name x np)) (some n) (b₀ :: suite) pos']) (SP X pins D) X.xe s₃) X.xe s₂) X.xe s₁) (fun u s' air => ?_)).run [] s σ H D (I.toTry _) h) (fun f s1 hsp => ?_) (fun _ _ he => he))
  · obtain ⟨a, B, sI, pins', σ1, H1, cls, d, rfl, J', nb, up, sky, na, os, ag, exm, rfl, C, rfl, go⟩ := air
    have J : Inv X pins σ1 H1 sI := J'.ofTry ok
    show wpAny (model X.prog X.w) X.A (noteFrame (.ref a) X.env) _ _ _
    have sky2 : Sky B (X.env :: X.outer) a (Zc (.ref C) none) X.env.locals s'.heap := by
      rw [hs] at sky
      exact sky
    refine Sky.land Zc.steady hfr hf sky2 fun h3 fl3 up3 => ?_
    have up13 := up.trans up3
    have J3 : Inv X pins σ1 H1 { s' with heap := h3 } := J.landed nb fl3.1 up13 os ag
    have Ba : B.get? a = none := fl3.2.1
    obtain ⟨oe3, vs3, g3, z3, d3⟩ := fl3.there
    have nfr : a ∉ frs (X.env :: X.outer) := fun hm => by
      obtain ⟨_, o', e', hnf⟩ := fl3.2.2.1.mem hm
      rw [g3] at e'; cases e'
      exact hnf _ d3
    have nL : a ≠ X.env.locals := fun z => nfr (List.mem_filterMap.mpr ⟨X.env, List.mem_cons_self, hf.trans (congrArg some z.symm)⟩)
    have nF : a ∉ X.fs := fun hm => by
      obtain ⟨e, he, q⟩ := List.mem_filterMap.mp hm
      exact nfr (List.mem_filterMap.mpr ⟨e, List.mem_cons_of_mem _ he, q⟩)
    -- it is newer than all that was there
    have nI : sI.heap.get? a = none := by
      cases q : sI.heap.get? a with
      | none => rfl
      | some o => exact absurd (nb a o q (by rw [hs]; exact nfr)) (by rw [Ba]; simp)
    have nex : a ∉ X.ex → X.s_0.heap.get? a = none := fun hx => by
      cases q : X.s_0.heap.get? a with
      | none => rfl
      | some o =>
        obtain ⟨o', z⟩ := J.base.there a o q hx
        rw [nI] at z; cases z
    have S3 := J3.suite g3 d3 na nL nF
    refine wpAny_handleBy_cons (codeAny_handlers_test ?_) (by intro q; cases q)
    have LT : PySem.W.Looks (model X.prog X.w) h3 (typeOf (.ref a)) (.ref C) := fun A Q E s k q => wpAny_typeOf_ref (k _ _ g3) (by rw [z3.1]; exact q)
    have test : ∀ {Q : Value → Shared → Prop} {E : Value → Shared → Prop}, Q c { s' with heap := h3 } → wpAny (model X.prog X.w) (X.A.mark (some (.ref a))) (eval (.Name x np) X.env) Q E { s' with heap := h3 } := fun q => by
      obtain ⟨hg, hdbg, hm | ⟨hm, hv, hnn⟩⟩ := hc
      · exact ld_glob (X := X.suite a ((a, oe3) :: (X.pn ++ pins))) S3 hg hm q hdbg
      · exact ld_blt (X := X.suite a ((a, oe3) :: (X.pn ++ pins))) S3 hg hm hv q hnn hdbg
    refine test ((PySem.W.exm_one (M := model X.prog X.w) J3.kIn LT exm).here ?_)
    refine codeAny_handlers_suite_as (HandSPX.lands_againZ fl3 fun h4 fl4 up4 => ?_)
    have J4 : Inv X pins σ1 H1 { s' with heap := h4 } := J.landed nb fl4.1 (up13.trans up4) os ag
    obtain ⟨oe4, vs4, g4, z4, d4⟩ := fl4.there
    let φ : Heap → Prop := fun h => ∃ (oe : Obj) (vs : Array Value), h.get? a = some oe ∧ Zc (.ref C) none oe ∧ oe.data = .fields vs
    have hφ : IsExc C a φ := fun h p => p
    have n0 : X.s_0.heap.get? a = none := by
      exact nex (by rw [hx0]; exact fun z => nomatch z)
    have T4 := Inv.hotIn (φ := φ) J4 g4 d4 na nL n0 (fun p hp z => by
      have := (J.pin p hp).1
      rw [z, nI] at this; cases this) ⟨⟨oe4, vs4, g4, z4, d4⟩, ⟨oe4, g4⟩, fun h1 h2 ⟨oe, vs, e1, e2, e3⟩ st => ⟨oe, vs, st _ e1, e2, e3⟩⟩
    refine store_ok (X := hotX X a (X.pn ++ pins)) (v := .ref a) T4 hN hi (.inl hln) rfl (fun s5 S5 => ?_) (.inr hln)
    refine wpAny_mono ((hsu a (X.pn ++ pins)).run [] s5 _ (upd H1 a (.ext φ)) _ S5 (go a φ na hφ)) (fun f s6 hsp => ?_) (fun _ _ z => False.elim z)
    have end_ : ∀ {σ6 : L2.St} {H6 : Hp} {Q : Shared → Prop}, Inv (hotX X a (X.pn ++ pins)) [] σ6 H6 s6 → (∀ s7, Inv X pins (σ6.set i none) H6 s7 → Q s7) →
        wpAny (model X.prog X.w) X.A (do bindName X.env n .none; unbindBehindTheSuite X.env n pos') (fun _ s7 => Q s7) X.xe s6 := fun S6 hq => gone_ok (Inv.hotOut S6 ok) hN hi hln hq
    cases f with
    | next =>
      obtain ⟨σ6, H6, S6, q6⟩ := hsp
      exact end_ S6 fun s7 J7 => ⟨_, _, J7, q6⟩
    | brk =>
      obtain ⟨σ6, H6, S6, q6⟩ := hsp
      exact end_ S6 fun s7 J7 => ⟨_, _, J7, q6⟩
    | cont =>
      obtain ⟨σ6, H6, S6, q6⟩ := hsp
      exact end_ S6 fun s7 J7 => ⟨_, _, J7, q6⟩
    | ret u =>
      obtain ⟨v6, σ6, H6, S6, r6, q6⟩ := hsp
      exact end_ S6 fun s7 J7 => ⟨_, _, _, J7, r6, q6⟩
  · cases f with
    | next =>
      obtain ⟨σ', H', J', q⟩ := hsp
      exact wpAny_execs_nil ⟨σ', H', J'.ofTry ok, q⟩
    | brk =>
      obtain ⟨σ', H', J', q⟩ := hsp
      exact ⟨σ', H', J'.ofTry ok, q⟩
    | cont =>
      obtain ⟨σ', H', J', q⟩ := hsp
      exact ⟨σ', H', J'.ofTry ok, q⟩
    | ret u =>
      obtain ⟨v, σ', H', J', r, q⟩ := hsp
      exact ⟨v, σ', H', J'.ofTry ok, r, q⟩
end Dn

set_option Elab.async false
set_option linter.all false
set_option maxRecDepth 100000
set_option maxHeartbeats 4000000
namespace Dn
open PySem PySem.Spec PyProof.Rows L2
/-! ### a def that may run while an exception is handled -/
/-- as if nothing were handled -/
abbrev cool (A : Around) : Around := { A with handled := none }
/-- cxG, not calm -/
abbrev cxGh (P : Program) (w : World) (K : PySem.W.Frag) (mg : Str → Option Value) (base : Heap) (N : List Str) (qual : Str) (scope : Scope) (f : Addr) (cd : Value) (A : Around) (outer : List Env) (s : Shared) (H : Hp) (E : XK) : Cx := { cxG P w K mg base N qual scope f cd A outer s H E with calm := false }
structure FnGh (P : Program) (w : World) (K : PySem.W.Frag) (mg : Str → Option Value) (base : Heap) (k : Nat) (f : Addr) (fd : FuncData) (ps : List Str) (m : Fn) : Prop where
  run : ∀ (A : Around) (outer : List Env) (s : Shared) (H : Hp) (args : Args) (us : List Value) (vs : List V) (ds : List PV) (S : Store) (L Z : List Addr) (Q : VK) (E : XK), RoomG k (cool A) → Env0 P w K mg base A outer s H → BindsTo s fd args (ps.zip us) → Vals vs us →
    Sta K mg H L Z S → Ats K mg H L Z ds vs → ds.length = ps.length → PostK K mg E Z (m ds S) H L Q → codeAny (model P w) A (.call (.ref f) args) (CR (CX P w) outer P w H s Q E) s
theorem env0_mark {P : Program} {w : World} {K : PySem.W.Frag} {mg : Str → Option Value} {base : Heap} {A : Around} {outer : List Env} {s : Shared} {H : Hp} (e : Env0 P w K mg base A outer s H) : Env0 P w K mg base (cool A) outer s H := ⟨e.frames, e.mod, e.bs, e.bsz, e.funs, e.frf, e.hok, e.bare⟩
section
variable {P : Program} {w : World} {K : PySem.W.Frag} {mg : Str → Option Value} {base : Heap} {x qual : Str} {params : Arguments} {body : List Stmt} {scope : Scope} {dvs : List V} {kws : List (Str × V)} {f : Addr} {fd : FuncData}
theorem inv_calmless {N : List Str} {cd : Value} {A : Around} {outer : List Env} {s s1 : Shared} {H : Hp} {E : XK} {σ : L2.St} (e0 : Env0 P w K mg base A outer s H) (I : Inv (cxG P w K mg base N qual scope f cd (cool A) outer s H E) [] σ H s1) : Inv (cxGh P w K mg base N qual scope f cd A outer s H E) [] σ H s1 :=
  ⟨⟨I.ok.mod, I.ok.kind, I.ok.glob, I.ok.blt, I.ok.above, I.ok.inj, I.ok.has, I.ok.cab, fun z => Bool.noConfusion z, Around.frames_deeper e0.frames, I.ok.stk, I.ok.exf, I.ok.bs, I.ok.bsz, I.ok.noex, I.ok.exfs, I.ok.funs, I.ok.frf⟩,
    I.os, I.bare, I.base, I.loc, I.cell, I.free, I.freeC, I.pin, I.hok, I.len⟩
/-- a def without raise: its body's function, also while an exception is handled -/
theorem fn_okh {N ps : List Str} {k : Nat} {kp : Bool} {b : SM} (F : FunD K x qual params body scope dvs kws f fd) (Sc : FnScope N ps scope)
    (hbody : ∀ (cdv : Value) (A : Around) (outer : List Env) (s : Shared) (H : Hp) (E : XK), RoomG k ((cool A).deeper (envOfC qual scope s.heap.objs.size f cdv)) → DSs (cxGh P w K mg base N qual scope f cdv A outer s H E) E body b) : FnGh P w K mg base (k + 1) f fd ps (fnM kp N.length b) := by
  obtain ⟨oc, od, dV, kV, doc, pm, an, cdv, ct, osl, rfl, lk, hcd, _, _⟩ := F.ex
  refine ⟨fun A outer s H args us vs ds S L Z Q E hr e0 hb r st a hl p => ?_⟩
  have lv : vs.length = ps.length := a.len ▸ hl
  have kx : K.In s.heap := e0.mod.kin.keeps fun b o e => (e0.bs b o e).1
  have nl : s.heap.NoLimit := e0.mod.nolimit.keeps fun b o e => (e0.bs b o e).1
  have kinds : ∀ y ∈ ps.zip us, scope.names.lookup y.1 = some .local ∨ (scope.names.lookup y.1 = some .cell ∧ ((cellsFrom (s.heap.objs.size + 1) scope.names []).lookup y.1).isSome = true) := fun ⟨n, v⟩ hy =>
    (Sc.par n (List.of_mem_zip hy).1).elim .inl fun q => .inr ⟨q, PySem.W.cellsFrom_some _ _ _ (.inl q)⟩
  have dp : A.depth < recursionLimit := Room.depth (A := cool A) hr.rm
  refine codeAny_call_function dp (kx _ _ lk) rfl Sc.co Sc.gen rfl (PySem.W.codeRec_of kx hcd) (hb _ _ _ _ ?_)
  refine wpAny_newFunctionEnv_cells Sc.kind kinds fun env he s1 x => ?_
  subst he
  refine ⟨nl.keeps x.toInCall.keep, codeAny_func ?_⟩
  have rm : RoomG k ((cool A).deeper (envOfC qual scope s.heap.objs.size f cdv)) := ⟨hr.rm.deeper _, hr.gd⟩
  have I : Inv (cxGh P w K mg base N qual scope f cdv A outer s H E) [] (L2.start N vs) H s1 := inv_calmless e0 (inv_start Sc rfl (env0_mark e0) lv r x)
  have sl := start_slots (N := N) a
  have p' : PostS (cxGh P w K mg base N qual scope f cdv A outer s H E) E Z (b (start1 N.length ds) S) H L { nx := fun _ H' => Q .non H', rt := Q } := shut_post (X := cxGh P w K mg base N qual scope f cdv A outer s H E) st p
  refine wpAny_mono ((hbody cdv A outer s H E rm).out [] s1 (L2.start N vs) H (start1 N.length ds) S L Z _ I sl st p') (fun fl s' hs => ?_) fun e s' hs => hs
  cases fl with
  | ret u =>
    obtain ⟨v, σ', H', J, rv, q⟩ := hs
    exact ⟨v, H', J.os, J.bare, J.base, J.hok, rv, q⟩
  | next =>
    obtain ⟨σ', H', J, q⟩ := hs
    exact ⟨.non, H', J.os, J.bare, J.base, J.hok, rfl, q⟩
  | brk => obtain ⟨_, _, _, q⟩ := hs; exact False.elim q
  | cont => obtain ⟨_, _, _, q⟩ := hs; exact False.elim q
theorem takesGh {N : List Str} {cd : Value} {A : Around} {outer : List Env} {s : Shared} {H : Hp} {E : XK} : Takes (cxGh P w K mg base N qual scope f cd A outer s H E) (kW E) := takes_of (X := cxGh P w K mg base N qual scope f cd A outer s H E) rfl rfl rfl rfl
end
section
variable {X : Cx} {W : XK}
/-- f(..), f such a def -/
theorem De.callh {k n : Nat} {f : Addr} {fd : FuncData} {ps : List Str} {m : Fn} {x : Str} {p' pos : Pos} {e : Expr} {es : List Expr} {la : LM} (F : FnGh X.prog X.w X.K X.mg X.base k f fd ps m) (hr : RoomG k (cool X.A)) (hg : Gl X x) (hm : X.mg x = some (.ref f)) (hk : PySem.W.keepIn X.K (.ref f) = true) (hb : Binds X.K fd ps []) (tk : Takes X (kW W)) (hn : n = ps.length)
    (ha : DA X (kW W) (e :: es) la) (hdb : (x == ("__debug__" : Str)) = false := by decide) (he : starEach (e :: es) X.env = (false, eval e X.env) :: starEach es X.env := by rfl) (hpl : (backTo pos (starEach es X.env)).any (·.1) = false := by rfl) :
    De X (kW W) (.Call (.Name x p') (e :: es) [] pos) (eCallN n m [] la) := by
  refine Jd.mk ?_
  intro pins s σ H r S L Z Q I sl st p
  refine wpAny_Call_Name_kw (ld_glob I hg hm ?_ hdb)
  refine PySem.W.callWith_K (h₀ := X.base) I.ok.mod.kin hk (ha.step pos I sl st p fun ds S1 vs us s1 H1 L1 I1 r1 sl1 st1 x1 a1 p1 => ⟨I1.kIn, ?_⟩) he hpl
  by_cases hl : ds.length + ([] : List PV).length = n
  · rw [if_pos hl, List.append_nil] at p1
    have hl1 : ds.length = ps.length := hl.trans hn
    have hl2 : (us ++ []).length = ps.length := by rw [List.append_nil, ← r1.length, ← a1.len]; exact hl1
    have bb := hb s1 us I1.kIn hl2
    rw [List.append_nil] at bb
    refine wpAny_call (codeAny_mono (F.run X.A X.stack s1 H1 ⟨us, []⟩ us _ ds S1 L1 Z Q W hr I1.env0 bb r1 st1 a1 hl1 (PostK.of p1 fun _ _ z => z)) fun r s' hq => ?_)
    cases r with
    | error e => exact passes_call (W := kW W) tk (fun _ _ _ _ z => z) pins σ H1 s1 e s' I1 hq
    | ok fl =>
      cases fl with
      | ret u => exact I1.after hq
      | next => exact False.elim hq
      | brk => exact False.elim hq
      | cont => exact False.elim hq
  · rw [if_neg hl] at p1; exact p1.elim
end
/-! ### lambdas -/
/-- the maker's code object and its table of code objects -/
structure LamF (K : PySem.W.Frag) (mk c P : Addr) (q : Str) : Prop where
  tab : codeTab K mk = some (c, P)
  hd : ∀ h : Heap, K.In h → PySem.W.CodeHd h c P
  mem : (P, q) ∈ tabsOf K
  un : ∀ p ∈ tabsOf K, p.1 = P → p.2 = q
  ng : mainGlobals ≠ P
def lamB (pl : Pl) (q : Str) : Ft := fun K => match codeTab K (pl.ad K) with
  | some (c, P) => codeB K c P && (decide ((P, q) ∈ tabsOf K) && (((tabsOf K).all fun p => !(p.1 == P) || decide (p.2 = q)) && !(mainGlobals == P)))
  | none => false
def lamC (K : PySem.W.Frag) (mk : Addr) : Addr := match codeTab K mk with
  | some (c, _) => c
  | none => 0
def lamP (K : PySem.W.Frag) (mk : Addr) : Addr := match codeTab K mk with
  | some (_, P) => P
  | none => 0
theorem lamB_ok {pl : Pl} {q : Str} {K : PySem.W.Frag} (h : lamB pl q K = true) : LamF K (pl.ad K) (lamC K (pl.ad K)) (lamP K (pl.ad K)) q := by
  unfold lamB at h
  unfold lamC lamP
  cases e : codeTab K (pl.ad K) with
  | none => rw [e] at h; cases h
  | some cp =>
    obtain ⟨c, P⟩ := cp
    rw [e] at h
    obtain ⟨h1, h⟩ := He.ba h
    obtain ⟨h2, h⟩ := He.ba h
    obtain ⟨h3, h4⟩ := He.ba h
    refine ⟨e, fun h k => codeB_ok k h1, of_decide_eq_true h2, fun p hp hq => ?_, fun z => by simp [z] at h4⟩
    have := List.all_eq_true.mp h3 p hp
    rw [hq] at this
    simpa using this
/-- the code of a def that is known -/
theorem codeTab_fn {K : PySem.W.Frag} {f c P : Addr} {o : Obj} {fd : FuncData} (h : codeTab K f = some (c, P)) (lk : K.lookup f = some o) (hd : o.data = .func fd) : fd.code = .ref c := by
  unfold codeTab at h
  rw [lk] at h
  simp only [Option.map_some, hd] at h
  split at h
  · rename_i c' e
    rw [e]
    split at h
    · split at h
      · cases h; rfl
      · cases h
    · cases h
  · cases h
section
variable {X : Cx}
/-- the table grows by one code -/
theorem Sta.grown {K : PySem.W.Frag} {mg : Str → Option Value} {H : Hp} {L Z : List Addr} {S : Store} {P c' : Addr} {ps ps' : Array Value} {o : HO} (st : Sta K mg H L Z S) (hP : H P = some (.tbl ps)) (nC : H c' = none) (T : LamX.Tabs (tabsOf K) (upd (upd H P (.tbl ps')) c' o)) :
    Ext H L (upd (upd H P (.tbl ps')) c' o) L ∧ Sta K mg (upd (upd H P (.tbl ps')) c' o) L Z S := by
  have other : ∀ b u, H b = some u → noTbl u → upd (upd H P (.tbl ps')) c' o b = some u := fun b u e nt => by
    rw [upd_ne (ne_of_none e nC), upd_ne (fun z => by rw [z, hP] at e; exact nt ps (Option.some.inj e).symm)]; exact e
  have some_ : ∀ b u, H b = some u → ∃ u', upd (upd H P (.tbl ps')) c' o b = some u' := fun b u e => by
    by_cases hb : b = P
    · exact ⟨_, by rw [upd_ne (ne_of_none e nC), hb, upd_same]⟩
    · exact ⟨u, by rw [upd_ne (ne_of_none e nC), upd_ne hb]; exact e⟩
  have x : Ext H L (upd (upd H P (.tbl ps')) c' o) L := ⟨⟨[], by simp, fun _ h => nomatch h⟩, fun a u e _ nt => other a u e nt, fun a u e => some_ a u e⟩
  refine ⟨x, st.nd, st.len, fun i c a h1 h2 => ?_, fun a ha => ?_, st.dj, T⟩
  · have := st.cells i c a h1 h2
    cases c with
    | lst ds => obtain ⟨vs, e, b⟩ := this; exact ⟨vs, other a _ e (fun _ => nofun), b.mono x⟩
    | ins nm fs => obtain ⟨C, dx, vs, e0, e, b⟩ := this; exact ⟨C, dx, vs, e0, other a _ e (fun _ => nofun), b.mono x⟩
    | dic kvs ep => obtain ⟨us, e, b⟩ := this; exact ⟨us, other a _ e (fun _ => nofun), b.mono x⟩
  · obtain ⟨u, q⟩ := st.zt a ha
    exact some_ a u q
/-- a lambda comes to be -/
theorem lam_new {pins : List (Addr × Obj)} {σ : L2.St} {H : Hp} {s : Shared} {L Z : List Addr} {S : Store} {mk c P : Addr} {params : Arguments} {body : Expr} {scope : Scope} {pos : Pos} {Ex Q : Value → Shared → Prop} (I : Inv X pins σ H s) (st : Sta X.K X.mg H L Z S) (F : LamF X.K mk c P (X.env.qual ++ "<lambda>")) (bt : X.base.BuiltinsAt X.mg P)
    (hcode : X.env.code = .ref c) (hdef : defaultsOf params X.env = ([], [])) (hfree : ∀ y ∈ scope.names, y.2 = .free → ∃ c, X.env.cells.lookup y.1 = some c)
    (h : ∀ (f c' : Addr) (pm ctv : Value) (H1 : Hp) (s' : Shared), Inv X pins σ H1 s' → Ext H L H1 L → Sta X.K X.mg H1 L Z S → s'.heap.get? f = some (PySem.W.kla_obj "<lambda>" (X.env.qual ++ "<lambda>") params body scope (cloFrom X.env.cells scope.names []) pm c' ctv) → H1 f = none → f ∉ frs X.stack →
      H1 c' = some (LamX.CodeO c' (X.env.qual ++ "<lambda>")) → Q (.ref f) s') : wpAny (model X.prog X.w) X.A (eval (.Lambda params body scope pos) X.env) Q Ex s := by
  have hT := st.tabs
  have CB : PySem.W.CodeHd X.base c P := F.hd _ I.ok.mod.kin
  obtain ⟨ps, hP, ht, ha⟩ := hT _ F.mem
  refine PySem.W.kla_eval hdef ?_
  have bP := bt.keeps I.bk
  have sP : s.heap.get? P = some { cls := .none, data := .fields ps } := I.hok P _ hP
  have young : ∀ f, s.heap.objs.size ≤ f → f ∉ frs X.stack := fun f hf z => by
    rcases List.mem_cons.mp (I.stkSub _ z) with e | e
    · have lt := I.lt
      rw [← e] at lt; exact Nat.lt_irrefl _ (Nat.lt_of_lt_of_le lt hf)
    · exact I.nofs hf e
  cases hc : codeAmong pos ps.toList with
  | some cv =>
    obtain ⟨c', rfl, hco⟩ := ha pos cv hc
    refine PySem.W.kla_makeFunctionHit (mg := X.mg) (c := c) (P := P) (ps := ps) (closure_ok hfree) I.ok.glob (I.mod.glob.keeps I.bk) hcode (CB.keeps I.bk) sP ht hc bP fun ctv h' tk hx hsz => ?_
    exact h h'.objs.size c' _ ctv H _ (I.kept (h' := h'.push (PySem.W.kla_obj "<lambda>" (X.env.qual ++ "<lambda>") params body scope (cloFrom X.env.cells scope.names []) ((X.mg "__name__").getD .none) c' ctv)) (t' := tk) fun b o e => Heap.get?_push_of_some _ (hx b o e)) (Ext.refl H L) st (Heap.get?_push_size _ rfl) (I.hok.fresh hsz) (young _ hsz) hco
  | none =>
    refine PySem.W.kla_makeFunction (mg := X.mg) (c := c) (P := P) (ps := ps) (closure_ok hfree) I.ok.glob (I.mod.glob.keeps I.bk) hcode (CB.keeps I.bk) sP ht hc F.ng bP fun c' ctv h' tk hx hge hlt hrec htb => ?_
    obtain ⟨c2, oc, vs, t, e2, hoc, hd, hv⟩ := hrec
    cases e2
    have hsz : s.heap.objs.size ≤ h'.objs.size := by omega
    have nC : H c' = none := I.hok.fresh hge
    let more : Array Value := #[rawInt pos.line, rawInt pos.col, .ref c']
    let H1 : Hp := upd (upd H P (.tbl (ps ++ more))) c' (LamX.CodeO c' (X.env.qual ++ "<lambda>"))
    have eL : (ps ++ more).toList = ps.toList ++ [rawInt pos.line, rawInt pos.col, .ref c'] := by simp [more]
    have old : ∀ b q, H b = some (LamX.CodeO b q) → H1 b = some (LamX.CodeO b q) := fun b q e => by
      show upd _ _ _ b = _
      rw [upd_ne (ne_of_none e nC), upd_ne (fun z => by rw [z, hP] at e; exact LamX.codeO_ne ps (Option.some.inj e).symm)]; exact e
    have T1 : LamX.Tabs (tabsOf X.K) H1 := fun p hp => by
      by_cases hb : p.1 = P
      · rw [F.un p hp hb, hb]
        refine ⟨_, by show upd _ _ _ P = _; rw [upd_ne (ne_of_none hP nC), upd_same], by rw [eL]; exact PySem.TriplesOk_snoc _ _ _ _ ht, fun p' cv hcv => ?_⟩
        rw [eL] at hcv
        rcases LamX.among_app _ ht hcv with z | z
        · obtain ⟨c0, e1, e2⟩ := ha p' cv z
          exact ⟨c0, e1, old _ _ e2⟩
        · exact ⟨c', z, upd_same⟩
      · obtain ⟨ps', a1, a2, a3⟩ := hT p hp
        refine ⟨ps', by show upd _ _ _ p.1 = _; rw [upd_ne (ne_of_none a1 nC), upd_ne hb]; exact a1, a2, fun p' cv hcv => ?_⟩
        obtain ⟨c0, e1, e2⟩ := a3 p' cv hcv
        exact ⟨c0, e1, old _ _ e2⟩
    obtain ⟨x1, st1⟩ := st.grown hP nC T1
    have I1 := LamX.inv_table (t' := tk) (more := more) (h' := h'.push (PySem.W.kla_obj "<lambda>" (X.env.qual ++ "<lambda>") params body scope (cloFrom X.env.cells scope.names []) ((X.mg "__name__").getD .none) c' ctv)) (q := X.env.qual ++ "<lambda>") I hP
      (fun b o hb e => Heap.get?_push_of_some _ (hx b o hb e)) (Heap.get?_push_of_some _ htb) hge ⟨oc, vs, t, Heap.get?_push_of_some _ hoc, hd, hv⟩
    refine h h'.objs.size c' _ ctv H1 _ I1 x1 st1 (Heap.get?_push_size _ rfl) ?_ (young _ hsz) upd_same
    show upd _ _ _ h'.objs.size = _
    rw [upd_ne (Nat.ne_of_gt hlt), upd_ne (Nat.ne_of_gt (Nat.lt_of_lt_of_le (Heap.lt_size sP) hsz))]
    exact I.hok.fresh hsz
end
end Dn

set_option Elab.async false
set_option linter.all false
set_option maxRecDepth 100000
set_option maxHeartbeats 4000000
namespace Dn
open PySem PySem.Spec PyProof.Rows L2
/-! ### a def that is handed a lambda: try: return repr(a()) / except x as e: .. -/
/-- where a lambda's body runs -/
abbrev cxL (X : Cx) (A : Around) (outer : List Env) (s : Shared) (H : Hp) (E : XK) (scope : Scope) (f c' : Addr) : Cx := LamX.lamCx X A outer s H E scope f c'
theorem takesL {X : Cx} {A : Around} {outer : List Env} {s : Shared} {H : Hp} {E : XK} {scope : Scope} {f c' : Addr} : Takes (cxL X A outer s H E scope f c') (kW E) := takes_of (X := cxL X A outer s H E scope f c') rfl rfl rfl rfl
theorem takesN {X : Cx} : Takes X (kW fun _ _ _ => False) := fun _ _ h => by
  obtain ⟨_, _, _, _, _, _, _, _, _, _, _, _, _, _, _, _, z⟩ := h
  exact z.elim
section
variable {X : Cx}
/-- the lambda f, called by the name a in the def that got it -/
theorem act_run {pins pinsZ : List (Addr × Obj)} {σ σZ : L2.St} {H HZ : Hp} {s sZ : Shared} {Ez : XK} {Ng : List Str} {qg : Str} {sg : Scope} {g f c' : Addr} {cdg pm ctv : Value} {params : Arguments} {body : Expr} {scope : Scope} {k i : Nat} {a : Str} {pn : List (Addr × Obj)} {xe : Value → Shared → Prop} {W : WX} {fl : EM} {p1 p2 : Pos} {r : Env1} {S : Store} {L Z : List Addr} {Q : VK}
    (I : Inv X pins σ H s) (Ls : LamX.LamS X.env.scope scope) (hf : s.heap.get? f = some (PySem.W.kla_obj "<lambda>" (X.env.qual ++ "<lambda>") params body scope (cloFrom X.env.cells scope.names []) pm c' ctv)) (hfn : H f = none) (hfr : f ∉ frs X.stack)
    (hbind : bindArgs (PySem.W.kla_fn "<lambda>" (X.env.qual ++ "<lambda>") params body scope (cloFrom X.env.cells scope.names []) pm (.ref c') ctv) ⟨[], []⟩ = pure [])
    (tk : Takes ((cxG X.prog X.w X.K X.mg X.base Ng qg sg g cdg X.A X.stack s H Ez).tr pn xe) W) (hr : RoomG (k + 1) (X.A.deeper (envOfC qg sg s.heap.objs.size g cdg)))
    (hbody : ∀ (A : Around) (outer : List Env) (s : Shared) (H : Hp) (E : XK) (f c' : Addr), RoomG k (A.deeper (LamX.lamEnv X scope s.heap.objs.size f c')) → De (cxL X A outer s H E scope f c') (kW E) body fl)
    (hN : Ng[i]? = some a) (hv : Vis sg a) (hd : (a == ("__debug__" : Str)) = false) (hcd : (a == ("__classdict__" : Str)) = false)
    (IZ : Inv ((cxG X.prog X.w X.K X.mg X.base Ng qg sg g cdg X.A X.stack s H Ez).tr pn xe) pinsZ σZ HZ sZ) (hs : σZ[i]? = some (some (.ref f))) (hc : HZ c' = some (LamX.CodeO c' (X.env.qual ++ "<lambda>")))
    (sl : Slots X.K X.mg HZ L Z r σ) (st : Sta X.K X.mg HZ L Z S) (p : PostV ((cxG X.prog X.w X.K X.mg X.base Ng qg sg g cdg X.A X.stack s H Ez).tr pn xe) W σZ Z (fl r S) HZ L Q) :
    wpAny (model X.prog X.w) (X.A.deeper (envOfC qg sg s.heap.objs.size g cdg)) (eval (.Call (.Name a p1) [] [] p2) (envOfC qg sg s.heap.objs.size g cdg)) (EP ((cxG X.prog X.w X.K X.mg X.base Ng qg sg g cdg X.A X.stack s H Ez).tr pn xe) pinsZ σZ Q) xe sZ := by
  let Zx : Cx := (cxG X.prog X.w X.K X.mg X.base Ng qg sg g cdg X.A X.stack s H Ez).tr pn xe
  have nm := (pe_var (X := Zx) (pos := p1) (i := i) hN hv hd hcd).run pinsZ sZ σZ HZ (fun v H1 => v = .ref f ∧ H1 = HZ) IZ ⟨.ref f, hs, rfl, rfl⟩
  refine wpAny_Call_Name_kw (thn nm fun u s1 ⟨v, H1, I1, r1, ev, eH⟩ => ?_)
  subst ev eH
  obtain rfl : u = Value.ref f := r1
  have of1 : s1.heap.get? f = some (PySem.W.kla_obj "<lambda>" (X.env.qual ++ "<lambda>") params body scope (cloFrom X.env.cells scope.names []) pm c' ctv) := I1.base.keep f _ hf hfn hfr (fun z => nomatch (show f ∈ ([] : List Addr) from z))
  refine PySem.W.callWith_F0 ⟨_, _, _, _, of1⟩ ?_
  have un : Un (frs X.stack) [] H H1 s.heap s1.heap := I1.base
  obtain ⟨⟨oc, vs, t, hoc, hdc, hvc⟩, _, _⟩ := I1.hok c' _ hc
  -- what the body lets out is what is wished at these slots
  let E : XK := fun cls d H' => W cls d σZ H'
  have rc : codeAny (model X.prog X.w) (X.A.deeper (envOfC qg sg s.heap.objs.size g cdg)) (.call (.ref f) ⟨[], []⟩) (CR (L2.CX X.prog X.w) (envOfC qg sg s.heap.objs.size g cdg :: X.stack) X.prog X.w H1 s1 Q E) s1 := by
    refine PySem.W.kla_callFunE hr.rm.depth of1 rfl Ls.co Ls.gen rfl ⟨c', oc, vs, t, rfl, hoc, hdc, hvc⟩ ?_
    rw [hbind]
    refine wpAny_pure (wpAny_newFunctionEnv (fun y hy => (Ls.own y hy).2) (fun y hy => absurd hy (by simp)) (fun h₁ hns hsb => ⟨I1.nolimit.fresh _ hsb, ?_⟩) Ls.kind)
    show codeAny _ _ (.expr body (LamX.lamEnv X scope s1.heap.objs.size f c')) _ _
    have kp : ∀ b o, s1.heap.get? b = some o → h₁.get? b = some o := fun b o e => hsb.extBut b o (Nat.ne_of_lt (Heap.lt_size e)) (Heap.get?_push_of_some _ e)
    have J : Inv (cxL X (X.A.deeper (envOfC qg sg s.heap.objs.size g cdg)) (envOfC qg sg s.heap.objs.size g cdg :: X.stack) s1 H1 E scope f c') [] σ H1 { s1 with heap := h₁, toks := s1.toks + ([] : List (Str × Value)).length } :=
      LamX.lam_start2 I Ls I1.env0 hr.rm.hd un hns kp
    have run := (hbody _ _ s1 H1 E f c' ⟨hr.rm.deeper _, hr.gd⟩).out [] _ σ H1 r S L Z Q J sl st (by
      cases q : fl r S with
      | ok d S1 => rw [q] at p; exact p
      | err c S1 => rw [q] at p; exact p
      | bad => rw [q] at p; exact p.elim)
    refine PySem.W.kla_codeExpr (wpAny_mono run (fun v s' hq => ?_) fun e s' hq => hq)
    obtain ⟨w', H', J', rv, q⟩ := hq
    exact ⟨w', H', J'.os, J'.bare, J'.base, J'.hok, rv, q⟩
  refine wpAny_call (codeAny_mono rc fun r s' hq => ?_)
  cases r with
  | error e => exact tk e s' (XE.of_call I1 (fun _ _ _ h => h) hq)
  | ok fl =>
    cases fl with
    | ret u => exact I1.after hq
    | next => exact False.elim hq
    | brk => exact False.elim hq
    | cont => exact False.elim hq
end
/-- the def x of one parameter a: try: return repr(a()) / except hn as e: .. -/
structure SaidF (P : Program) (w : World) (K : PySem.W.Frag) (mg : Str → Option Value) (base : Heap) (k : Nat) (x a e rn hn : Str) (g CS : Addr) (fd : FuncData) (pg : Arguments) (sg : Scope) (p0 p1 p2 p3 p4 p5 p6 p7 : Pos) (b0 : Stmt) (suite : List Stmt) (rp : List PV → Store → Res PV) (su : SM) : Prop where
  hm : mg x = some (.ref g)
  F : FunD K x x pg [.Try [.Return (some (.Call (.Name rn p0) [.Call (.Name a p1) [] [] p2] [] p3)) p4] [.ExceptHandler (some (.Name hn p5)) (some e) (b0 :: suite) p6] [] [] p7] sg [] [] g fd
  Sc : FnScope [a, e] [a] sg
  B : Binds K fd [a] []
  la : sg.names.lookup a = some .local
  le : sg.names.lookup e = some .local
  lr : sg.names.lookup rn = some .globalImplicit
  lh : sg.names.lookup hn = some .globalImplicit
  mr : mg rn = none
  br : bootBuiltins rn = some (.builtin "repr")
  mh : mg hn = some (.ref CS)
  d1 : (a == ("__debug__" : Str)) = false
  d2 : (a == ("__classdict__" : Str)) = false
  d3 : (hn == ("__debug__" : Str)) = false
  d4 : (rn == ("__debug__" : Str)) = false
  d5 : rn ≠ "__name__"
  ixf : ∀ X : Cx, X.K = K → X.mg = mg → IsxF X
  rf : ∀ n ∈ EXN, ∀ v, mg n = some v → ∃ C, v = .ref C
  hsn : hn = "HushError"
  rp_ : ∀ (cd : Value) (A : Around) (outer : List Env) (s : Shared) (H : Hp) (E : XK) (pn : List (Addr × Obj)) (xe : Value → Shared → Prop) (W : WX), RoomG k (A.deeper (envOfC x sg s.heap.objs.size g cd)) → DC ((cxG P w K mg base [a, e] x sg g cd A outer s H E).tr pn xe) W (.builtin "repr") rp
  su_ : ∀ (cd : Value) (A : Around) (outer : List Env) (s : Shared) (H : Hp) (E : XK) (b : Addr) (pn : List (Addr × Obj)), RoomG k (cool ((A.deeper (envOfC x sg s.heap.objs.size g cd)).mark (some (.ref b)))) → DSs (hotX (cxG P w K mg base [a, e] x sg g cd A outer s H E) b pn) (fun _ _ _ => False) (b0 :: suite) su
structure Sd (P : Program) (w : World) (K : PySem.W.Frag) (mg : Str → Option Value) (base : Heap) (k : Nat) (x : Str) (rp : List PV → Store → Res PV) (su : SM) : Prop where
  ex : ∃ a e rn hn g CS fd pg sg p0 p1 p2 p3 p4 p5 p6 p7 b0 suite, SaidF P w K mg base k x a e rn hn g CS fd pg sg p0 p1 p2 p3 p4 p5 p6 p7 b0 suite rp su
/-- what it returns -/
def eSaid (rp : List PV → Store → Res PV) (su : SM) (f : EM) : EM := fun r S => match f r S with
  | .ok d S1 => noErr (rp [d] S1)
  | .err c S1 => if c ∈ EXN then (match su [none, some (.exc c)] S1 with
    | .ok (.rt d) S2 => .ok d S2
    | _ => .bad) else .bad
  | .bad => .bad
section
variable {X : Cx} {W : XK}
theorem De.said {k : Nat} {x : Str} {rp : List PV → Store → Res PV} {su : SM} {mk c P : Addr} {params : Arguments} {body : Expr} {scope : Scope} {fl : EM} {p lpos pos : Pos} (D : Sd X.prog X.w X.K X.mg X.base k x rp su) (hr : RoomG (k + 2) X.A) (hg : Gl X x)
    (LF : LamF X.K mk c P (X.env.qual ++ "<lambda>")) (bt : X.base.BuiltinsAt X.mg P) (hcode : X.env.code = .ref c) (Ls : LamX.LamS X.env.scope scope)
    (hbody : ∀ (A : Around) (outer : List Env) (s : Shared) (H : Hp) (E : XK) (f c' : Addr), RoomG k (A.deeper (LamX.lamEnv X scope s.heap.objs.size f c')) → De (cxL X A outer s H E scope f c') (kW E) body fl)
    (hdb : (x == ("__debug__" : Str)) = false := by decide) (hdef : defaultsOf params X.env = ([], []) := by rfl)
    (hbind : ∀ (q : Str) (cl : List (Str × Addr)) (pm cv ctv : Value), bindArgs (PySem.W.kla_fn "<lambda>" q params body scope cl pm cv ctv) ⟨[], []⟩ = pure [] := by intros; rfl) :
    De X (kW W) (.Call (.Name x p) [.Lambda params body scope lpos] [] pos) (eSaid rp su fl) := by
  obtain ⟨a, e, rn, hn, g, CS, fd, pg, sg, p0, p1, p2, p3, p4, p5, p6, p7, b0, suite, SF⟩ := D.ex
  refine Jd.mk ?_
  intro pins s σ H r S L Z Q I sl st p
  refine wpAny_Call_Name_kw (ld_glob I hg SF.hm ?_ hdb)
  refine PySem.W.callWith_K (h₀ := X.base) I.ok.mod.kin SF.F.kp ?_ (by rfl) (by rfl)
  show wpAny _ _ (spliced ((false, eval (.Lambda params body scope lpos) X.env) :: backTo pos (starEach [] X.env))) _ _ s
  refine Calls.spliced_cons (lam_new I st LF bt hcode hdef (Ls.has I.ok) fun f c' pm ctv H1 s1 I1 x1 st1 hf hfn hfr hco => ?_)
  refine Calls.spliced_nil ⟨I1.kIn, ?_⟩
  have sl1 : Slots X.K X.mg H1 L Z r σ := sl.mono x1
  have rc : codeAny (model X.prog X.w) X.A (.call (.ref g) ⟨[.ref f], []⟩) (CR (L2.CX X.prog X.w) X.stack X.prog X.w H1 s1 Q (fun _ _ _ => False)) s1 := by
    have B := SF.B s1 [.ref f] I1.kIn rfl
    obtain ⟨oc, od, dV, kV, doc, pm', an, cdv, ct, osl, efd, lk, hcd, _, _⟩ := SF.F.ex
    subst efd
    refine LamX.run_ofS (N := [a, e]) (ps := [a]) (us := [.ref f]) (vs := [.ref f]) (k := k + 1) lk hcd SF.Sc hr.rm I1.env0 B (.cons rfl .nil) rfl fun hr' => ?_
    have hr1 : RoomG (k + 1) (X.A.deeper (envOfC x sg s1.heap.objs.size g cdv)) := ⟨hr', hr.gd⟩
    have hr0 : RoomG k (X.A.deeper (envOfC x sg s1.heap.objs.size g cdv)) := hr1.le (Nat.le_succ k)
    let tb : WX → TS := fun W D σ2 H2 => σ2[0]? = some (some (.ref f)) ∧ H2 c' = some (LamX.CodeO c' (X.env.qual ++ "<lambda>")) ∧ ∃ L2 Z2 S2, Slots X.K X.mg H2 L2 Z2 r σ ∧ Sta X.K X.mg H2 L2 Z2 S2 ∧ PostV X W σ2 Z2 ((fl r S2).bind fun d S3 => noErr (rp [d] S3)) H2 L2 D.rt
    let ts : TS := fun D σ2 H2 => ∃ r2 S2 L2 Z2, Slots X.K X.mg H2 L2 Z2 r2 σ2 ∧ Sta X.K X.mg H2 L2 Z2 S2 ∧ PostS X (fun _ _ _ => False) Z2 (su r2 S2) H2 L2 D
    refine ⟨_, pss_one (ps_try_hot (X := cxG X.prog X.w X.K X.mg X.base [a, e] x sg g cdv X.A X.stack s1 H1 (fun _ _ _ => False)) (i := 1) (c := .ref CS) (tb := tb) (ts := ts) rfl rfl SF.Sc.nd rfl SF.le ⟨SF.lh, SF.d3, .inl SF.mh⟩ rfl (fun W pn xe tk => ?_) (fun b pn => ⟨fun pins2 s2 σ2 H2 D2 I2 ⟨r2, S2, L2, Z2, sl2, st2, q2⟩ => (SF.su_ cdv X.A X.stack s1 H1 (fun _ _ _ => False) b pn ⟨⟨rfl, hr0.rm.dp, hr0.rm.un⟩, hr0.gd⟩).out pins2 s2 σ2 H2 r2 S2 L2 Z2 D2 I2 sl2 st2 q2⟩)), ?_⟩
    · refine pss_one ⟨fun pins2 s2 σ2 H2 D2 I2 ⟨h1, h2, L2, Z2, S2, sl2, st2, q2⟩ => wpAny_Return_some ?_⟩
      refine wpAny_Call_Name_kw (ld_blt I2 SF.lr SF.mr SF.br ?_ SF.d5 SF.d4)
      refine PyProof.Rows.callWith_builtin1 (e := .Call (.Name a p1) [] [] p2) (rest := []) ?_ (by rfl) (by rfl)
      show wpAny _ _ (spliced ((false, eval (.Call (.Name a p1) [] [] p2) (envOfC x sg s1.heap.objs.size g cdv)) :: backTo p3 (starEach [] (envOfC x sg s1.heap.objs.size g cdv)))) _ _ s2
      cases q : fl r S2 with
      | bad => rw [q] at q2; exact q2.elim
      | err c1 S3 =>
        rw [q] at q2
        refine Calls.spliced_cons (thn (act_run (Q := fun _ _ => False) I1 Ls hf hfn hfr (hbind _ _ _ _ _) tk hr1 hbody (i := 0) rfl (.inl SF.la) SF.d1 SF.d2 I2 h1 h2 sl2 st2 (by rw [q]; exact q2)) fun u s3 ⟨v, H3, _, _, z⟩ => z.elim)
      | ok d S3 =>
        rw [q] at q2
        refine Calls.spliced_cons (thn (act_run (Q := fun v H3 => ∃ L3, Ext H2 L2 H3 L3 ∧ Sta X.K X.mg H3 L3 Z2 S3 ∧ At X.K X.mg H3 L3 Z2 d v) I1 Ls hf hfn hfr (hbind _ _ _ _ _) tk hr1 hbody (i := 0) rfl (.inl SF.la) SF.d1 SF.d2 I2 h1 h2 sl2 st2 (by rw [q]; exact fun v H' L' x y z => ⟨L', x, y, z⟩)) fun u s3 ⟨v, H3, I3, rv, L3, x3, st3, a3⟩ => ?_)
        refine Calls.spliced_nil ?_
        have q3 := q2.ext x3
        refine thn (SF.rp_ cdv X.A X.stack s1 H1 (fun _ _ _ => False) pn xe W hr0 pins2 s3 σ2 H3 S3 L3 Z2 D2.rt [d] [v] [u] I3 st3 (.cons a3 .nil) (.cons rv .nil) ?_) fun u4 s4 ⟨v4, H4, I4, rv4, q4⟩ => ⟨v4, σ2, H4, I4, rv4, q4⟩
        have q3 : PostV _ W σ2 Z2 (noErr (rp [d] S3)) H3 L3 D2.rt := q3
        cases e4 : rp [d] S3 with
        | ok d4 S4 => rw [e4] at q3; exact q3
        | err c4 S4 => rw [e4] at q3; exact q3.elim
        | bad => rw [e4] at q3; exact q3.elim
    · refine ⟨rfl, hco, L, Z, S, sl1, st1, ?_⟩
      unfold eSaid at p
      cases q : fl r S with
      | bad => rw [q] at p; exact p.elim
      | ok d S3 =>
        rw [q] at p
        have p : PostV X (kW W) σ Z (noErr (rp [d] S3)) H L Q := p
        show PostV _ _ _ Z (noErr (rp [d] S3)) H1 L _
        cases e4 : rp [d] S3 with
        | ok d4 S4 => rw [e4] at p; exact Post.ext p x1
        | err c4 S4 => rw [e4] at p; exact p.elim
        | bad => rw [e4] at p; exact p.elim
      | err c1 S3 =>
        rw [q] at p
        have p : PostV X (kW W) σ Z (if c1 ∈ EXN then (match su [none, some (.exc c1)] S3 with
          | .ok (.rt d) S2 => .ok d S2
          | _ => .bad) else .bad) H L Q := p
        by_cases hc1 : c1 ∈ EXN
        · rw [if_pos hc1] at p
          intro H' L' cls x' st' hcls
          obtain ⟨C, rfl⟩ := SF.rf c1 hc1 _ hcls
          have hx := SF.ixf X rfl rfl
          have hn' := SF.hsn
          subst hn'
          refine ⟨hx.exm c1 hc1 C CS hcls SF.mh, rfl, C, rfl, fun b φ nb hφ => ?_⟩
          refine ⟨[none, some (.exc c1)], S3, L', Z, fun j d e => ?_, st'.laid nb, ?_⟩
          · match j, e with
            | 0, e => cases e
            | 1, e =>
              cases e
              exact ⟨.ref b, rfl, .exc hc1 hcls upd_same hφ (st'.fresh nb).1 (st'.fresh nb).2⟩
            | j + 2, e => cases e
          · have x2 : Ext H L (upd H' b (.ext φ)) L' := (x1.trans x').trans (Ext.laid nb)
            cases e5 : su [none, some (.exc c1)] S3 with
            | bad => rw [e5] at p; exact p.elim
            | err c5 S5 => rw [e5] at p; exact p.elim
            | ok fl5 S5 =>
              rw [e5] at p
              cases fl5 with
              | rt d5 => exact fun v H'' L'' y sy ay => p v H'' L'' (x2.trans y) sy ay
              | nx _ => exact p.elim
              | bk _ => exact p.elim
              | ct _ => exact p.elim
        · rw [if_neg hc1] at p; exact p.elim
  refine wpAny_call (codeAny_mono rc fun r s2 hq => ?_)
  cases r with
  | error e =>
    obtain ⟨_, _, _, _, _, _, _, _, _, _, _, _, z⟩ := hq
    exact z.elim
  | ok fl =>
    cases fl with
    | ret u => exact I1.after hq
    | next => exact False.elim hq
    | brk => exact False.elim hq
    | cont => exact False.elim hq
end
end Dn

set_option Elab.async false
set_option linter.all false
set_option maxRecDepth 100000
set_option maxHeartbeats 4000000
namespace Dn
open PySem PySem.Spec PyProof.Rows L2
/-! ### what the head tells of the exceptions -/
def freeB (nm : Str) : Ft := fa (.free nm)
def excOne (K : PySem.W.Frag) (nm : Str) : Bool :=
  He.eqO (PySem.W.nsIn K mainGlobals nm) (some (some (.ref (ga K nm)))) && (He.eqO (PySem.W.findIn K (.ref (ga K nm)) "__getattribute__") (some (some (.builtin "BaseException.__getattribute__"))) && (He.eqO (PySem.W.findIn K (.ref (ga K nm)) "__getattr__") (some none) &&
  (decide (PySem.W.subIn K (.ref (ga K nm)) (.type "BaseException") = some true) && (decide (PySem.W.hasDictIn K (ga K nm) = true) && (He.eqO (PySem.W.findIn K (.ref (ga K nm)) "__class__") (some (some (.builtin "object.__class__"))) &&
  (decide (PySem.W.mroIn K (ga K nm) (.type "object") = some true) && (((["int", "bool", "str", "tuple", "list", "dict"] : List String).all fun n => decide (PySem.W.kitOne K (.ref (ga K nm)) (.type n) = some false)) &&
  decide (PySem.W.kitOne K (.ref (ga K nm)) (.type "ValueError") = some true))))))))
def excB : Ft := fun K => He.eqO (PySem.W.specialIn K (.builtin "object.__class__") "__get__") (some (some (.builtin "getset_descriptor.__get__"))) && (decide (PySem.W.takesIn K (.builtin "object.__class__") = some true) &&
  ((EXN.all fun nm => freeB nm K || excOne K nm) && ((EXN.all fun nm => EXN.all fun nm' => freeB nm K || (freeB nm' K || decide (PySem.W.kitOne K (.ref (ga K nm)) (.ref (ga K nm')) = some (subE nm nm')))) &&
  (freeB "HushError" K || EXN.all fun nm => freeB nm K || decide (PySem.W.exmOne K (.ref (ga K nm)) (.ref (ga K "HushError")) = some true)))))
theorem orB {a b : Bool} (h : (a || b) = true) : a = true ∨ b = true := by
  cases a with
  | true => exact .inl rfl
  | false => exact .inr h
theorem excB_at {K : PySem.W.Frag} {mg : Str → Option Value} {h : Heap} (KX : K.In h) (G : h.Ns mainGlobals mg) (e : excB K = true) {nm : Str} (hn : nm ∈ EXN) {v : Value} (hv : mg nm = some v) : v = .ref (ga K nm) ∧ excOne K nm = true ∧ freeB nm K = false := by
  obtain ⟨h1, e⟩ := He.ba e
  obtain ⟨h2, e⟩ := He.ba e
  obtain ⟨h3, e⟩ := He.ba e
  have nf : freeB nm K = false := by
    cases q : freeB nm K with
    | false => rfl
    | true => rw [He.free_ok KX G q] at hv; cases hv
  rcases orB (List.all_eq_true.mp h3 nm hn) with z | z
  · rw [nf] at z; cases z
  · have w := (He.ba z).1
    rw [PySem.W.mg_of KX G (He.eqO_ok w)] at hv
    cases hv
    exact ⟨rfl, z, nf⟩
theorem excB_ok {X : Cx} {h : Heap} (KX : X.K.In h) (G : h.Ns mainGlobals X.mg) (e : excB X.K = true) : IsxF X := by
  have at_ : ∀ nm ∈ EXN, ∀ C, X.mg nm = some (.ref C) → C = ga X.K nm ∧ excOne X.K nm = true ∧ freeB nm X.K = false := fun nm hn C hC => by
    obtain ⟨h1, h2, h3⟩ := excB_at KX G e hn hC
    cases h1; exact ⟨rfl, h2, h3⟩
  obtain ⟨h1, e⟩ := He.ba e
  obtain ⟨h2, e⟩ := He.ba e
  obtain ⟨h3, e⟩ := He.ba e
  obtain ⟨h4, h5⟩ := He.ba e
  refine ⟨fun nm hn C hC => ?_, fun nm hn C hC n hN => ?_, fun nm hn C hC => ?_, fun nm hn nm' hn' C C' hC hC' => ?_, fun nm hn C C' hC hC' => ?_⟩
  · obtain ⟨rfl, o, _⟩ := at_ nm hn C hC
    obtain ⟨_, o⟩ := He.ba o
    obtain ⟨o1, o⟩ := He.ba o
    obtain ⟨o2, o⟩ := He.ba o
    obtain ⟨o3, o⟩ := He.ba o
    obtain ⟨o4, o⟩ := He.ba o
    obtain ⟨o5, o⟩ := He.ba o
    obtain ⟨o6, o⟩ := He.ba o
    exact ⟨He.eqO_ok o1, He.eqO_ok o2, of_decide_eq_true o3, of_decide_eq_true o4, He.eqO_ok o5, He.eqO_ok h1, of_decide_eq_true h2, of_decide_eq_true o6⟩
  · obtain ⟨rfl, o, _⟩ := at_ nm hn C hC
    obtain ⟨_, o⟩ := He.ba o
    obtain ⟨o1, o⟩ := He.ba o
    obtain ⟨o2, o⟩ := He.ba o
    obtain ⟨o3, o⟩ := He.ba o
    obtain ⟨o4, o⟩ := He.ba o
    obtain ⟨o5, o⟩ := He.ba o
    obtain ⟨o6, o⟩ := He.ba o
    exact of_decide_eq_true (List.all_eq_true.mp (He.ba o).1 n hN)
  · obtain ⟨rfl, o, _⟩ := at_ nm hn C hC
    obtain ⟨_, o⟩ := He.ba o
    obtain ⟨o1, o⟩ := He.ba o
    obtain ⟨o2, o⟩ := He.ba o
    obtain ⟨o3, o⟩ := He.ba o
    obtain ⟨o4, o⟩ := He.ba o
    obtain ⟨o5, o⟩ := He.ba o
    obtain ⟨o6, o⟩ := He.ba o
    exact of_decide_eq_true (He.ba o).2
  · obtain ⟨rfl, _, f1⟩ := at_ nm hn C hC
    obtain ⟨rfl, _, f2⟩ := at_ nm' hn' C' hC'
    have z := List.all_eq_true.mp (List.all_eq_true.mp h4 nm hn) nm' hn'
    rw [f1, f2] at z
    exact of_decide_eq_true z
  · obtain ⟨rfl, _, f1⟩ := at_ nm hn C hC
    obtain ⟨rfl, _, f2⟩ := at_ "HushError" (by decide) C' hC'
    rcases orB h5 with z | z
    · rw [f2] at z; cases z
    · have z := List.all_eq_true.mp z nm hn
      rw [f1] at z
      exact of_decide_eq_true z
section
variable {fs : List Ft} {ds : List Df} {K : PySem.W.Frag} {mg : Str → Option Value} {base : Heap}
theorem Bas.isx (b : Bas fs ds K mg base) (i : Nat) (h : fs[i]? = some excB := by rfl) {X : Cx} (e1 : X.K = K) (e2 : X.mg = mg) : IsxF X := by
  subst e1 e2
  exact excB_ok b.k b.g (b.c.fact i h)
theorem Bas.exr (b : Bas fs ds K mg base) (i : Nat) (h : fs[i]? = some excB := by rfl) : ∀ n ∈ EXN, ∀ v, mg n = some v → ∃ C, v = .ref C := fun n hn v hv => by
  exact ⟨_, (excB_at b.k b.g (b.c.fact i h) hn hv).1⟩
theorem Bas.lam (b : Bas fs ds K mg base) (i : Nat) {pl : Pl} {q : Str} (h : fs[i]? = some (lamB pl q) := by rfl) : LamF K (pl.ad K) (lamC K (pl.ad K)) (lamP K (pl.ad K)) q := lamB_ok (b.c.fact i h)
theorem Bas.lbt (b : Bas fs ds K mg base) {mk c P : Addr} {q : Str} (F : LamF K mk c P q) : base.BuiltinsAt mg P := b.bt P (List.mem_map.mpr ⟨(P, q), F.mem, rfl⟩)
end
theorem LamF.code {K : PySem.W.Frag} {mk c P : Addr} {q x qual : Str} {params : Arguments} {body : List Stmt} {scope : Scope} {dvs : List V} {kws : List (Str × V)} {fd : FuncData} {cdv : Value} (L : LamF K mk c P q) (F : FunD K x qual params body scope dvs kws mk fd) (e : fd.code = cdv) : cdv = .ref c := by
  obtain ⟨_, _, _, _, _, _, _, _, _, _, rfl, lk, _, _, _⟩ := F.ex
  rw [← e]
  exact codeTab_fn L.tab lk rfl
/-! ### defs called while an exception is handled, by their names -/
structure Fxh (P : Program) (w : World) (K : PySem.W.Frag) (mg : Str → Option Value) (base : Heap) (j : Nat) (x : Str) (n : Nat) (m : Fn) : Prop where
  ex : ∃ (f : Addr) (fd : FuncData) (ps : List Str), mg x = some (.ref f) ∧ PySem.W.keepIn K (.ref f) = true ∧ FnGh P w K mg base j f fd ps m ∧ Binds K fd ps [] ∧ n = ps.length
theorem De.fxh {X : Cx} {W : XK} {j k n : Nat} {x : Str} {m : Fn} {p' pos : Pos} {e : Expr} {es : List Expr} {la : LM} (F : Fxh X.prog X.w X.K X.mg X.base j x n m) (hr : RoomG k (cool X.A)) (tk : Takes X (kW W)) (ha : DA X (kW W) (e :: es) la) (hg : Gl X x) (hjk : j ≤ k := by decide)
    (hdb : (x == ("__debug__" : Str)) = false := by decide) (he : starEach (e :: es) X.env = (false, eval e X.env) :: starEach es X.env := by rfl) (hpl : (backTo pos (starEach es X.env)).any (·.1) = false := by rfl) :
    De X (kW W) (.Call (.Name x p') (e :: es) [] pos) (eCallN n m [] la) := by
  obtain ⟨f, fd, ps, hm, hk, F, hb, hn⟩ := F.ex
  exact De.callh F (hr.le hjk) hg hm hk hb tk hn ha hdb he hpl
/-! ### a new list made of two, as an object -/
def lCat (fa fb : EM) : LM := fun r S => (fa r S).bind fun d S1 => (fb r S1).bind fun e S2 => match lstOf S2 d, lstOf S2 e with
  | some xs, some ys => if xs.length + ys.length ≤ sizeLine then .ok (xs ++ ys) S2 else .bad
  | _, _ => .bad
section
variable {X : Cx} {W : WX} {a b e : Expr} {f fa fb : EM} {pos : Pos}
theorem De.stepF (ha : De X W e f) {pins : List (Addr × Obj)} {s : Shared} {σ : L2.St} {H : Hp} {r : Env1} {S : Store} {L Z : List Addr} {Q : VK} (I : Inv X pins σ H s) (sl : Slots X.K X.mg H L Z r σ) (st : Sta X.K X.mg H L Z S) {k : PV → Store → Res (List PV)}
    (p : PostF X W σ Z ((f r S).bind k) H L Q) {Qf : Value → Shared → Prop}
    (hk : ∀ d S1 v u s1 H1 L1, Inv X pins σ H1 s1 → RelV v u → Slots X.K X.mg H1 L1 Z r σ → Sta X.K X.mg H1 L1 Z S1 → Ext H L H1 L1 → At X.K X.mg H1 L1 Z d v → PostF X W σ Z (k d S1) H1 L1 Q → Qf u s1) :
    wpAny (model X.prog X.w) X.A (eval e X.env) Qf X.xe s := by
  cases q : f r S with
  | bad => rw [q] at p; exact p.elim
  | err c S1 =>
    rw [q] at p
    exact thn (ha.out pins s σ H r S L Z (fun _ _ => False) I sl st (by rw [q]; exact p)) fun u s1 ⟨v, H1, _, _, z⟩ => z.elim
  | ok d S1 =>
    rw [q] at p
    refine thn (ha.out pins s σ H r S L Z (fun v H1 => ∃ L1, Ext H L H1 L1 ∧ Sta X.K X.mg H1 L1 Z S1 ∧ At X.K X.mg H1 L1 Z d v) I sl st (by rw [q]; exact fun v H' L' x y z => ⟨L', x, y, z⟩)) fun u s1 ⟨v, H1, I1, rv, L1, x1, st1, a1⟩ => ?_
    exact hk d S1 v u s1 H1 L1 I1 rv (sl.mono x1) st1 x1 a1 (p.ext x1)
theorem DF.cat (ha : De X W a fa) (hb : De X W b fb) : DF X W (.BinOp a .Add b pos) (lCat fa fb) := by
  refine Jd.mk ?_
  intro pins s σ H r S L Z Q I sl st p
  refine wpAny_BinOp (ha.stepF I sl st p fun d S1 x u s1 H1 L1 I1 r1 sl1 st1 x1 a1 p1 => ?_)
  refine hb.stepF I1 sl1 st1 p1 fun e S2 y v s2 H2 L2 I2 r2 sl2 st2 x2 a2 p2 => ?_
  cases h1 : lstOf S2 d with
  | none => rw [h1] at p2; exact p2.elim
  | some xs =>
    cases h2 : lstOf S2 e with
    | none => rw [h1, h2] at p2; exact p2.elim
    | some ys =>
      rw [h1, h2] at p2
      obtain ⟨q1, vs1, rfl, e1, b1⟩ := lst_at st2 (a1.mono x2) h1
      obtain ⟨q2, vs2, rfl, e2, b2⟩ := lst_at st2 a2 h2
      by_cases hz : xs.length + ys.length ≤ sizeLine
      · have p2 : PostF X W σ Z (if xs.length + ys.length ≤ sizeLine then .ok (xs ++ ys) S2 else .bad) H2 L2 Q := p2
        rw [if_pos hz] at p2
        exact op_cat pins s2 σ H2 _ _ u v Q I2 r1 r2 ⟨q1, q2, vs1, vs2, rfl, rfl, e1, e2, by rw [← b1.len, ← b2.len]; exact hz, fun q n => p2 _ q H2 L2 (Ext.refl H2 L2) st2 (b1.append b2) n⟩
      · have p2 : PostF X W σ Z (if xs.length + ys.length ≤ sizeLine then .ok (xs ++ ys) S2 else .bad) H2 L2 Q := p2
        rw [if_neg hz] at p2; exact p2.elim
end
end Dn

set_option Elab.async false
set_option linter.all false
set_option maxRecDepth 100000
set_option maxHeartbeats 4000000
namespace Dn
open PySem PySem.Spec PyProof.Rows L2
/-! ### hot defs, called where nothing is handled -/
theorem FnGh.cold {P : Program} {w : World} {K : PySem.W.Frag} {mg : Str → Option Value} {base : Heap} {k : Nat} {f : Addr} {fd : FuncData} {ps : List Str} {m : Fn} (F : FnGh P w K mg base k f fd ps m) : FnG P w K mg base k f fd ps m :=
  ⟨fun A outer s H args us vs ds S L Z Q E hr => F.run A outer s H args us vs ds S L Z Q E ⟨⟨rfl, hr.rm.dp, hr.rm.un⟩, hr.gd⟩⟩
/-! ### exceptions made, as values -/
def eExc (c : Str) (a : LM) : EM := fun r S => (a r S).bind fun ds S1 => if ds.length ≤ sizeLine then .ok (.exc c) S1 else .bad
section
variable {X : Cx} {W : WX} {x : Str} {C : Addr} {p pos : Pos} {e : Expr} {es : List Expr} {la : LM}
theorem exc_new {pins : List (Addr × Obj)} {σ : L2.St} {H : Hp} {s : Shared} {Q : VK} {S : Store} {L Z : List Addr} {us : List Value} {bmB : List Value} {B newId initId : String} (F : ExcBaseFacts B newId initId bmB) (q : PySem.W.excIn X.K C bmB newId = true) (hx : x ∈ EXN) (gC : X.mg x = some (.ref C)) (I : Inv X pins σ H s) (st : Sta X.K X.mg H L Z S)
    (hl : us.length ≤ sizeLine) (h : PostV X W σ Z (.ok (.exc x) S) H L Q) : wpAny (model X.prog X.w) X.A (call (.ref C) us) (EP X pins σ Q) X.xe s := by
  obtain ⟨bm, N, nm, qn, bs, hdct, sn, sub, ab, col, dd, k0, k1, k2, k3, k5, mN, hC, hN, hni, T⟩ := exc_obj I.kIn q
  refine wpAny_call_exc_subT F T hC hN hni (fun h' a hm => ?_) hl
  have hn : H a = none := I.hok.gone hm.new
  obtain ⟨t, ht, _, _⟩ := hm.there
  refine ⟨.ref a, upd H a (ExO (.ref C) a), I.laidN hm.keeps hm.new hn (exO_ok ht ⟨rfl, rfl⟩ rfl rfl rfl (show 4 < 6 by decide)), rfl, h _ _ L (Ext.laid hn) (st.laid hn) (.exc hx gC upd_same (fun h ⟨oe, vs, e1, e2, e3, _⟩ => ⟨oe, vs, e1, e2, e3⟩) (st.fresh hn).1 (st.fresh hn).2)⟩
theorem De.exc {bmB : List Value} {B newId initId : String} (F : ExcBaseFacts B newId initId bmB) (q : PySem.W.excIn X.K C bmB newId = true) (hx : x ∈ EXN) (gC : X.mg x = some (.ref C)) (kC : PySem.W.keepIn X.K (.ref C) = true) (hg : Gl X x)
    (ha : DA X W (e :: es) la) (hdb : (x == ("__debug__" : Str)) = false := by decide) (he : starEach (e :: es) X.env = (false, eval e X.env) :: starEach es X.env := by rfl) (hpl : (backTo pos (starEach es X.env)).any (·.1) = false := by rfl) : De X W (.Call (.Name x p) (e :: es) [] pos) (eExc x la) := by
  refine Jd.mk ?_
  intro pins s σ H r S L Z Q I sl st p
  refine wpAny_Call_Name_kw (ld_glob I hg gC ?_ hdb)
  refine PySem.W.callWith_K (h₀ := X.base) I.ok.mod.kin kC (ha.step pos I sl st p fun ds S1 vs us s1 H1 L1 I1 r1 sl1 st1 x1 a1 p1 => ⟨I1.kIn, ?_⟩) he hpl
  by_cases hz : ds.length ≤ sizeLine
  · rw [if_pos hz] at p1
    exact exc_new (us := us) F q hx gC I1 st1 (by rw [← r1.length, ← a1.len]; exact hz) p1
  · rw [if_neg hz] at p1; exact p1.elim
theorem De.exc0 {bmB : List Value} {B newId initId : String} (F : ExcBaseFacts B newId initId bmB) (q : PySem.W.excIn X.K C bmB newId = true) (hx : x ∈ EXN) (gC : X.mg x = some (.ref C)) (kC : PySem.W.keepIn X.K (.ref C) = true) (hg : Gl X x)
    (hdb : (x == ("__debug__" : Str)) = false := by decide) : De X W (.Call (.Name x p) [] [] pos) (eExc x lNil) := by
  refine Jd.mk ?_
  intro pins s σ H r S L Z Q I sl st p
  refine wpAny_Call_Name_kw (ld_glob I hg gC ?_ hdb)
  refine PySem.W.callWith_K0 I.kIn kC ?_
  have p : PostV X W σ Z (if ([] : List PV).length ≤ sizeLine then .ok (.exc x) S else .bad) H L Q := p
  rw [if_pos (show ([] : List PV).length ≤ sizeLine from Nat.zero_le _)] at p
  exact exc_new F q hx gC I st (Nat.zero_le _) p
theorem De.ex1 {fs : List Ft} {ds : List Df} {h : Heap} {i i2 : Nat} (B : Bas fs ds X.K X.mg h) (hx : x ∈ EXN) (hg : Gl X x) (ha : DA X W (e :: es) la) (h1 : fs[i]? = some (fa (.glo x)) := by rfl) (h2 : fs[i2]? = some (fa (.exc x)) := by rfl)
    (hdb : (x == ("__debug__" : Str)) = false := by decide) (he : starEach (e :: es) X.env = (false, eval e X.env) :: starEach es X.env := by rfl) (hpl : (backTo pos (starEach es X.env)).any (·.1) = false := by rfl) : De X W (.Call (.Name x p) (e :: es) [] pos) (eExc x la) := by
  obtain ⟨e1, e2, e3, e4⟩ := He.exc_ok (B.c.fact i2 h2)
  exact De.exc PySem.F.excBase_ValueError e1 hx (He.glo_ok B.k B.g (B.c.fact i h1)) e2 hg ha hdb he hpl
theorem De.ex0 {fs : List Ft} {ds : List Df} {h : Heap} {i i2 : Nat} (B : Bas fs ds X.K X.mg h) (hx : x ∈ EXN) (hg : Gl X x) (h1 : fs[i]? = some (fa (.glo x)) := by rfl) (h2 : fs[i2]? = some (fa (.exc x)) := by rfl)
    (hdb : (x == ("__debug__" : Str)) = false := by decide) : De X W (.Call (.Name x p) [] [] pos) (eExc x lNil) := by
  obtain ⟨e1, e2, e3, e4⟩ := He.exc_ok (B.c.fact i2 h2)
  exact De.exc0 PySem.F.excBase_ValueError e1 hx (He.glo_ok B.k B.g (B.c.fact i h1)) e2 hg hdb
end
/-! ### keywords -/
def DKw (X : Cx) (W : WX) (kws : List Keyword) (f : LM) : Prop := Jd (
  ∀ (pos : Pos) (pins : List (Addr × Obj)) (s : Shared) (σ : L2.St) (H : Hp) (r : Env1) (S : Store) (L Z : List Addr) (Q : List V → Hp → Prop), Inv X pins σ H s → Slots X.K X.mg H L Z r σ → Sta X.K X.mg H L Z S → PostL X W σ Z (f r S) H L Q →
    wpAny (model X.prog X.w) X.A (evalAll ((backToKw pos (keywordEach kws X.env)).map (·.2))) (AP X pins σ Q) X.xe s)
section
variable {X : Cx} {W : WX} {e : Expr} {fa : EM} {la : LM} {kws : List Keyword} {nm : Option Str} {kpos : Pos}
theorem DKw.step {β γ : Type} (ha : DKw X W kws la) (pos : Pos) {pins : List (Addr × Obj)} {s : Shared} {σ : L2.St} {H : Hp} {r : Env1} {S : Store} {L Z : List Addr} (I : Inv X pins σ H s) (sl : Slots X.K X.mg H L Z r σ) (st : Sta X.K X.mg H L Z S) {g : List PV → Store → Res β} {rel : Hp → List Addr → β → γ → Prop} {Q : γ → Hp → Prop}
    (p : Post X W σ Z rel ((la r S).bind g) H L Q) {Qf : List Value → Shared → Prop}
    (hk : ∀ ds S1 vs us s1 H1 L1, Inv X pins σ H1 s1 → Vals vs us → Slots X.K X.mg H1 L1 Z r σ → Sta X.K X.mg H1 L1 Z S1 → Ext H L H1 L1 → Ats X.K X.mg H1 L1 Z ds vs → Post X W σ Z rel (g ds S1) H1 L1 Q → Qf us s1) :
    wpAny (model X.prog X.w) X.A (evalAll ((backToKw pos (keywordEach kws X.env)).map (·.2))) Qf X.xe s := by
  cases q : la r S with
  | bad => rw [q] at p; exact p.elim
  | err c S1 =>
    rw [q] at p
    exact thn (ha.out pos pins s σ H r S L Z (fun _ _ => False) I sl st (by rw [q]; exact p)) fun u s1 ⟨v, H1, _, _, z⟩ => z.elim
  | ok d S1 =>
    rw [q] at p
    refine thn (ha.out pos pins s σ H r S L Z (fun v H1 => ∃ L1, Ext H L H1 L1 ∧ Sta X.K X.mg H1 L1 Z S1 ∧ Ats X.K X.mg H1 L1 Z d v) I sl st (by rw [q]; exact fun v H' L' x y z => ⟨L', x, y, z⟩)) fun u s1 ⟨v, H1, I1, rv, L1, x1, st1, a1⟩ => ?_
    exact hk d S1 v u s1 H1 L1 I1 rv (sl.mono x1) st1 x1 a1 (p.ext x1)
theorem DKw.nil : DKw X W [] lNil := Jd.mk fun pos pins s σ H r S L Z Q I sl st p => wpAny_evalAll_nil ⟨[], H, I, .nil, p [] H L (Ext.refl H L) st .nil⟩
theorem DKw.cons (ha : De X W e fa) (hr : DKw X W kws la) : DKw X W (⟨nm, e, kpos⟩ :: kws) (lCons fa la) := by
  refine Jd.mk ?_
  intro pos pins s σ H r S L Z Q I sl st p
  show wpAny _ _ (evalAll ((do let v ← eval e X.env; standAt pos; pure v) :: (backToKw pos (keywordEach kws X.env)).map (·.2))) _ _ s
  refine wpAny_evalAll_cons (wpAny_bind (ha.step I sl st p fun d S1 x u s1 H1 L1 I1 r1 sl1 st1 x1 a1 p1 => wpAny_bind (wpAny_standAt (wpAny_pure ?_))))
  refine hr.step pos I1 sl1 st1 p1 fun ds S2 xs us s2 H2 L2 I2 r2 sl2 st2 x2 a2 p2 => ?_
  exact ⟨x :: xs, H2, I2, .cons r1 r2, p2 (x :: xs) H2 L2 (Ext.refl H2 L2) st2 (.cons (a1.mono x2) a2)⟩
end
/-- values put by their places: (0, i) the i-th written one, (1, i) the i-th default, (2, i) the i-th keyword's -/
def arr {α : Type} (ix : List (Nat × Nat)) (us its ws : List α) : List α := ix.filterMap fun q => if q.1 = 0 then us[q.2]? else if q.1 = 1 then its[q.2]? else ws[q.2]?
theorem arr_rel {α β : Type} {R : α → β → Prop} {RL : List α → List β → Prop} (nil : RL [] []) (cons : ∀ {a b as bs}, R a b → RL as bs → RL (a :: as) (b :: bs)) {us its ws : List α} {us' its' ws' : List β} (h0 : ∀ i : Nat, (us[i]? = none ∧ us'[i]? = none) ∨ ∃ a b, us[i]? = some a ∧ us'[i]? = some b ∧ R a b)
    (h1 : ∀ i : Nat, (its[i]? = none ∧ its'[i]? = none) ∨ ∃ a b, its[i]? = some a ∧ its'[i]? = some b ∧ R a b) (h2 : ∀ i : Nat, (ws[i]? = none ∧ ws'[i]? = none) ∨ ∃ a b, ws[i]? = some a ∧ ws'[i]? = some b ∧ R a b) : ∀ ix : List (Nat × Nat), RL (arr ix us its ws) (arr ix us' its' ws')
  | [] => nil
  | (k, i) :: ix => by
    have ih := arr_rel nil cons h0 h1 h2 ix
    have go : ∀ (o : Option α) (o' : Option β), ((o = none ∧ o' = none) ∨ ∃ a b, o = some a ∧ o' = some b ∧ R a b) → (if k = 0 then us[i]? else if k = 1 then its[i]? else ws[i]?) = o → (if k = 0 then us'[i]? else if k = 1 then its'[i]? else ws'[i]?) = o' → RL (arr ((k, i) :: ix) us its ws) (arr ((k, i) :: ix) us' its' ws') := fun o o' h e e' => by
      unfold arr
      rw [List.filterMap_cons, List.filterMap_cons]
      simp only [e, e']
      rcases h with ⟨rfl, rfl⟩ | ⟨a, b, rfl, rfl, hr⟩
      · exact ih
      · exact cons hr ih
    by_cases k0 : k = 0
    · exact go _ _ (h0 i) (if_pos k0) (if_pos k0)
    · by_cases k1 : k = 1
      · exact go _ _ (h1 i) (by rw [if_neg k0, if_pos k1]) (by rw [if_neg k0, if_pos k1])
      · exact go _ _ (h2 i) (by rw [if_neg k0, if_neg k1]) (by rw [if_neg k0, if_neg k1])
theorem vals_at : ∀ {vs : List V} {us : List Value}, Vals vs us → ∀ i : Nat, (vs[i]? = none ∧ us[i]? = none) ∨ ∃ a b, vs[i]? = some a ∧ us[i]? = some b ∧ RelV a b
  | _, _, .nil, i => .inl ⟨by simp, by simp⟩
  | _, _, .cons r t, 0 => .inr ⟨_, _, rfl, rfl, r⟩
  | _, _, .cons r t, i + 1 => by
    simpa using vals_at t i
theorem ats_at {K : PySem.W.Frag} {mg : Str → Option Value} {H : Hp} {L Z : List Addr} : ∀ {ds : List PV} {vs : List V}, Ats K mg H L Z ds vs → ∀ i : Nat, (ds[i]? = none ∧ vs[i]? = none) ∨ ∃ a b, ds[i]? = some a ∧ vs[i]? = some b ∧ At K mg H L Z a b
  | _, _, .nil, i => .inl ⟨by simp, by simp⟩
  | _, _, .cons r t, 0 => .inr ⟨_, _, rfl, rfl, r⟩
  | _, _, .cons r t, i + 1 => by
    simpa using ats_at t i
theorem arr_vals {vs zs : List V} {us ws its : List Value} {dvs : List V} (ix : List (Nat × Nat)) (a : Vals vs us) (b : Vals dvs its) (c : Vals zs ws) : Vals (arr ix vs dvs zs) (arr ix us its ws) := arr_rel (R := RelV) (RL := Vals) .nil .cons (vals_at a) (vals_at b) (vals_at c) ix
theorem arr_ats {K : PySem.W.Frag} {mg : Str → Option Value} {H : Hp} {L Z : List Addr} {ds des zs : List PV} {vs dvs ws : List V} (ix : List (Nat × Nat)) (a : Ats K mg H L Z ds vs) (b : Ats K mg H L Z des dvs) (c : Ats K mg H L Z zs ws) : Ats K mg H L Z (arr ix ds des zs) (arr ix vs dvs ws) := arr_rel (R := At K mg H L Z) (RL := Ats K mg H L Z) .nil .cons (ats_at a) (ats_at b) (ats_at c) ix
/-- behind the first -/
def sh (q : Nat × Nat) : Nat × Nat := if q.1 = 0 then (0, q.2 + 1) else q
theorem arr_sh {α : Type} (a : α) (us its ws : List α) : ∀ ix : List (Nat × Nat), arr (ix.map sh) (a :: us) its ws = arr ix us its ws
  | [] => rfl
  | (k, i) :: ix => by
    have ih := arr_sh a us its ws ix
    unfold arr at ih ⊢
    rw [List.map_cons, List.filterMap_cons, List.filterMap_cons, ih]
    by_cases k0 : k = 0
    · subst k0; rfl
    · have e : sh (k, i) = (k, i) := if_neg k0
      rw [e]
      simp only [k0, if_false]
theorem arr_self {α : Type} (a : α) (us its ws : List α) (ix : List (Nat × Nat)) : arr ((0, 0) :: ix.map sh) (a :: us) its ws = a :: arr ix us its ws := by
  rw [← arr_sh a us its ws ix]; rfl
/-- the class x, called with n values and keywords ks; dv: all defaults of its __init__ -/
structure Mkx (P : Program) (w : World) (K : PySem.W.Frag) (mg : Str → Option Value) (base : Heap) (j : Nat) (x : Str) (n : Nat) (ks : List Str) (ix : List (Nat × Nat)) (dv : List PV) (m : Fn) : Prop where
  ex : ∃ (C f : Addr) (fd : FuncData) (ps : List Str) (its : List Value), mg x = some (.ref C) ∧ Mk K C f ∧ FnG P w K mg base j f fd ps m ∧ KBn K fd ps (n + 1) ks (fun us ws => arr ((0, 0) :: ix.map sh) us its ws) (fun vs zs => arr ((0, 0) :: ix.map sh) vs (dv.map sV) zs) ∧ dv.all isSc = true ∧
    ∀ (ds zs : List PV), ds.length = n → zs.length = ks.length → (arr ix ds dv zs).length + 1 = ps.length
def eMakeK (fz : Bool) (x : Str) (m : Fn) (n q : Nat) (ix : List (Nat × Nat)) (dv : List PV) (a k : LM) : EM := fun r S => (a r S).bind fun ds S1 => (k r S1).bind fun zs S2 => if ds.length = n ∧ zs.length = q then makeM fz x m (arr ix ds dv zs) S2 else .bad
section
variable {X : Cx} {W : XK} {x : Str} {p' pos : Pos} {e : Expr} {es : List Expr} {kws : List Keyword} {la lk : LM}
/-- C(e, .., k = v, ..) -/
theorem De.mkw {j k n : Nat} {ks : List Str} {ix : List (Nat × Nat)} {dv : List PV} {m : Fn} (fz : Bool) (Fm : Mkx X.prog X.w X.K X.mg X.base j x n ks ix dv m) (hr0 : RoomG k X.A) (tk : Takes X (kW W)) (hg : Gl X x) (ha : DA X (kW W) (e :: es) la) (hkw : DKw X (kW W) kws lk) (hjk : j + 1 ≤ k := by decide)
    (hall : (backToKw pos (keywordEach kws X.env)).all (·.1.isSome) = true := by rfl) (hks : (backToKw pos (keywordEach kws X.env)).filterMap (·.1) = ks := by rfl) (hdb : (x == ("__debug__" : Str)) = false := by decide) (he : starEach (e :: es) X.env = (false, eval e X.env) :: starEach es X.env := by rfl)
    (hpl : ((backTo pos (starEach (e :: es) X.env)).any (·.1) || (backToKw pos (keywordEach kws X.env)).any (·.1.isNone)) = false := by rfl) : De X (kW W) (.Call (.Name x p') (e :: es) kws pos) (eMakeK fz x m n ks.length ix dv la lk) := by
  obtain ⟨C, f, fd, ps, its, hm, M, F, hb, hsc, hn⟩ := Fm.ex
  have hr : RoomG (j + 1) X.A := hr0.le hjk
  refine Jd.mk ?_
  intro pins s σ H r S L Z Q I sl st p
  refine wpAny_Call_Name_kw (ld_glob I hg hm ?_ hdb)
  refine PySem.W.callWith_KW (h₀ := X.base) I.ok.mod.kin M.kp hall (ha.step pos I sl st p fun ds S0 vs us s0 H0 L0 I0 r0 sl0 st0 x0 a0 p0 => ?_) hpl he
  refine hkw.step pos I0 sl0 st0 p0 fun zs S1 ws zus s1 H1 L1 I1 r1 sl1 st1 x1 a1 p1 => ⟨I1.kIn, ?_⟩
  rw [hks]
  by_cases hl : ds.length = n ∧ zs.length = ks.length
  · rw [if_pos hl] at p1
    have a0' := a0.mono x1
    have hdx : H1 s1.heap.objs.size = none := I1.hok.fresh (Nat.le_refl _)
    have ne : s1.heap.objs.size ≠ s1.heap.objs.size + 1 := Nat.ne_of_lt (Nat.lt_succ_self _)
    have hx : (upd H1 s1.heap.objs.size (.own (s1.heap.objs.size + 1))) (s1.heap.objs.size + 1) = none := by rw [upd_ne ne.symm]; exact I1.hok.fresh (Nat.le_succ _)
    have I2 := Inv.made (C := C) I1
    have r2 := hb.rel (.cons (show RelV (V.ref (s1.heap.objs.size + 1)) (Value.ref (s1.heap.objs.size + 1)) from rfl) r0) r1
    simp only [arr_self] at r2
    have l1 : (Value.ref (s1.heap.objs.size + 1) :: us).length = n + 1 := by rw [List.length_cons, ← r0.length, ← a0.len, hl.1]
    have l2 : zus.length = ks.length := by rw [← r1.length, ← a1.len, hl.2]
    have x2 : Ext H1 L1 (upd (upd H1 s1.heap.objs.size (.own (s1.heap.objs.size + 1))) (s1.heap.objs.size + 1) (.ins C s1.heap.objs.size [])) (L1 ++ [s1.heap.objs.size + 1]) := (Ext.laid hdx).trans (Ext.own hx)
    have st2 : Sta X.K X.mg (upd (upd H1 s1.heap.objs.size (.own (s1.heap.objs.size + 1))) (s1.heap.objs.size + 1) (.ins C s1.heap.objs.size [])) (L1 ++ [s1.heap.objs.size + 1]) Z (S1 ++ [.ins x []]) := (st1.laid hdx).newI hx hm
    have aself : At X.K X.mg (upd (upd H1 s1.heap.objs.size (.own (s1.heap.objs.size + 1))) (s1.heap.objs.size + 1) (.ins C s1.heap.objs.size [])) (L1 ++ [s1.heap.objs.size + 1]) Z (.loc S1.length) (.ref (s1.heap.objs.size + 1)) := .loc (by rw [st1.len, List.getElem?_append_right (Nat.le_refl _)]; simp)
    have aall := arr_ats ix (a0'.mono x2) (sc_at hsc) (a1.mono x2)
    have p3 : PostK X.K X.mg W Z (m (.loc S1.length :: arr ix ds dv zs) (S1 ++ [.ins x []])) (upd (upd H1 s1.heap.objs.size (.own (s1.heap.objs.size + 1))) (s1.heap.objs.size + 1) (.ins C s1.heap.objs.size [])) (L1 ++ [s1.heap.objs.size + 1]) (fun v H2 => v = .non ∧ Q (.ref (s1.heap.objs.size + 1)) H2) := by
      have p1 : PostV X (kW W) σ Z (makeM fz x m (arr ix ds dv zs) S1) H1 L1 Q := p1
      unfold makeM at p1
      cases q : m (.loc S1.length :: arr ix ds dv zs) (S1 ++ [.ins x []]) with
      | bad => rw [q] at p1; exact p1.elim
      | err c S' =>
        rw [q] at p1
        exact fun H' L' cls x' st' e => postK_shutE (Q := Q) st1.len (PostK.of p1 fun _ _ z => z) (x2.trans x') st' e
      | ok d S' =>
        rw [q] at p1
        cases d with
        | non =>
          intro v H' L' x' st' a'
          cases a'
          refine ⟨rfl, ?_⟩
          have p1 : PostV X (kW W) σ Z (if fz = true then shutR S1.length (.loc S1.length) S' else .ok (.loc S1.length) S') H1 L1 Q := p1
          cases fz with
          | true => exact postK_shut (E := W) st1.len (PostK.of (show PostV X (kW W) σ Z (shutR S1.length (.loc S1.length) S') H1 L1 Q from p1) fun _ _ z => z) (x2.trans x') st' (aself.mono x')
          | false => exact (show PostV X (kW W) σ Z (.ok (.loc S1.length) S') H1 L1 Q from p1) _ H' L' (x2.trans x') st' (aself.mono x')
        | _ => exact (show False from p1).elim
    refine wpAny_call (make_map (f := f) I1.kIn M.makes M.init (beq_iff_eq.mp M.fn) (codeAny_mono (F.run _ X.stack _ _ ⟨Value.ref (s1.heap.objs.size + 1) :: us, ks.zip zus⟩ (arr ((0, 0) :: ix.map sh) (Value.ref (s1.heap.objs.size + 1) :: us) its zus) _ (.loc S1.length :: arr ix ds dv zs) (S1 ++ [.ins x []]) (L1 ++ [s1.heap.objs.size + 1]) Z _ W
      ⟨hr.rm.make C us (ks.zip zus), by first | exact hr.gd | (simpa [Around.under, Code.guards, Code.isGuard, guardIds, pushGuards] using hr.gd)⟩ (I2.env0.make C us (ks.zip zus)) (hb.to _ (Value.ref (s1.heap.objs.size + 1) :: us) zus I2.kIn l1 l2) (by rw [arr_self]; exact r2) st2 (.cons aself aall) (by rw [List.length_cons]; exact hn ds zs hl.1 hl.2) p3) fun r s' hq' => ?_))
    cases r with
    | error e => exact passes_call (W := kW W) tk (fun _ _ _ _ z => z) pins σ _ _ e s' I2 hq'
    | ok fl =>
      cases fl with
      | ret u =>
        obtain ⟨v, H', I3, rv, ev, q3⟩ := I2.after hq'
        subst ev
        exact ⟨rv, ⟨V.ref (s1.heap.objs.size + 1), H', I3, rfl, q3⟩⟩
      | next => exact False.elim hq'
      | brk => exact False.elim hq'
      | cont => exact False.elim hq'
  · rw [if_neg hl] at p1; exact p1.elim
end
end Dn

set_option Elab.async false
set_option linter.all false
set_option maxRecDepth 100000
set_option maxHeartbeats 4000000
namespace Dn
open PySem PySem.Spec PyProof.Rows L2
/-! ### dict displays -/
/-- the address of sys.modules is an object of the head's -/
def sysB : Ft := fun K => (K.lookup sysModules).isSome
def eDk0 : EM := fun _ S => .ok (.dik []) S
def eDks (ks : List Key) (a : LM) : EM := fun r S => (a r S).bind fun ds S1 => if ks.length = ds.length ∧ ks.Nodup ∧ ks.length ≤ 15 then .ok (.dik ((ks.map kPV).zip ds)) S1 else .bad
inductive KsE : List Expr → List Key → Prop
  | nil : KsE [] []
  | int {i j pos es ks} : KsE es ks → KsE (.Constant (.int i) j pos :: es) (.inl i :: ks)
  | str {x j pos es ks} : KsE es ks → KsE (.Constant (.str x) j pos :: es) (.inr x :: ks)
inductive DLs (X : Cx) (W : WX) : List Expr → List EM → Prop
  | nil : DLs X W [] []
  | cons {e f es fs} : De X W e f → DLs X W es fs → DLs X W (e :: es) (f :: fs)
def lEs : List EM → LM
  | [] => lNil
  | f :: fs => lCons f (lEs fs)
section
variable {X : Cx} {W : WX} {K : PySem.W.Frag} {mg : Str → Option Value} {H : Hp} {L Z : List Addr} {p : Addr} {o o' : HO}
theorem De.dk0 {pos : Pos} : De X W (.Dict [] [] pos) eDk0 := De.of pe_dnewK fun σ H r S L Z Q st p q n =>
  p _ _ L (Ext.laid n) (st.laid n) (.dik upd_same (st.fresh n).1 (st.fresh n).2 .nil)
abbrev tV (v : V) : TE := fun _ H Q => Q v H
theorem pps_vals {pos : Pos} : ∀ {es : List Expr} {ks : List Key} {vs : List Expr} {fs : List EM}, KsE es ks → DLs X W vs fs → es.length = vs.length → PPs X pos (es.map some) vs ((ks.zip fs).map fun p => (tV (kV p.1), rdE X W p.2))
  | _, _, _, _, .nil, .nil, _ => pps_nil
  | _, _, _, _, .int h, .cons d r, hl => pps_cons (pe_int) d.pe (pps_vals h r (by simpa using hl))
  | _, _, _, _, .str h, .cons d r, hl => pps_cons (pe_str) d.pe (pps_vals h r (by simpa using hl))
  | _, _, _, _, .nil, .cons _ _, hl => by simp at hl
  | _, _, _, _, .int _, .nil, hl => by simp at hl
  | _, _, _, _, .str _, .nil, hl => by simp at hl
theorem tpairs_of {σ : L2.St} {r : Env1} : ∀ {ks : List Key} {fs : List EM} {H : Hp} {L : List Addr} {S : Store} {Qp : List (V × V) → Hp → Prop}, ks.length = fs.length → Slots X.K X.mg H L Z r σ → Sta X.K X.mg H L Z S →
    PostL X W σ Z (lEs fs r S) H L (fun vs H' => vs.length = ks.length → Qp ((ks.zip vs).map fun q => (kV q.1, q.2)) H') →
    tPairs ((ks.zip fs).map fun p => (tV (kV p.1), rdE X W p.2)) σ H Qp
  | [], [], H, L, S, Q, _, sl, st, p => p [] H L (Ext.refl H L) st .nil rfl
  | k :: ks, f :: fs, H, L, S, Q, hl, sl, st, p => by
    show rdE X W f σ H _
    have p : PostL X W σ Z ((f r S).bind fun d S1 => (lEs fs r S1).bind fun ds S2 => .ok (d :: ds) S2) H L _ := p
    refine ⟨r, S, L, Z, sl, st, ?_⟩
    cases q : f r S with
    | bad => rw [q] at p; exact p.elim
    | err c S1 => rw [q] at p; exact p
    | ok d S1 =>
      rw [q] at p
      intro v H1 L1 x1 st1 a1
      have p := Post.ext p x1
      refine tpairs_of (ks := ks) (fs := fs) (Qp := fun ps H' => Q ((kV k, v) :: ps) H') (by simpa using hl) (sl.mono x1) st1 ?_
      have p : PostL X W σ Z ((lEs fs r S1).bind fun ds S2 => .ok (d :: ds) S2) H1 L1 _ := p
      cases q2 : lEs fs r S1 with
      | bad => rw [q2] at p; exact p.elim
      | err c S2 => rw [q2] at p; exact p
      | ok ds S2 =>
        rw [q2] at p
        exact fun vs H2 L2 x2 st2 a2 hl => p (v :: vs) H2 L2 x2 st2 (.cons (a1.mono x2) a2) (by simp [hl])
  | [], _ :: _, _, _, _, _, hl, _, _, _ => by simp at hl
  | _ :: _, [], _, _, _, _, hl, _, _, _ => by simp at hl
theorem Sta.stirK {S : Store} {zs : List (Key × V)} (st : Sta K mg H L (p :: Z) S) (h : H p = some (.dK zs)) (m : Mut (some (HO.dK zs)) := by exact True.intro) : Sta K mg (upd H p o') L (p :: Z) S := by
  refine ⟨st.nd, st.len, fun i c a h1 h2 => (st.cells i c a h1 h2).stir h m fun e => st.dj a (List.mem_of_getElem? h2) (by rw [e]; exact List.mem_cons_self), fun a ha => ?_, st.dj, fun p' hp => tab_but (st.tabs p' hp) h (But.upd p H o')⟩
  by_cases e : a = p
  · exact ⟨o', by rw [e, upd_same]⟩
  · obtain ⟨u, q⟩ := st.zt a ha
    exact ⟨u, by rw [upd_ne e]; exact q⟩
theorem Ext.butK {H0 H1 H2 : Hp} {L0 L1 : List Addr} (x : Ext H0 L0 H1 L1) (n : H0 p = none) (b : But p H1 H2) : Ext H0 L0 H2 L1 := by
  refine ⟨x.pre, fun a u e hm nt => ?_, fun a u e => ?_⟩
  · rw [b a (ne_of_none e n)]; exact x.keep a u e hm nt
  · rw [b a (ne_of_none e n)]; exact x.dom a u e
theorem merge_new : ∀ {ks : List Key} {vs : List V} (acc : List (Key × V)), ks.Nodup → (∀ k ∈ ks, k ∉ acc.map (·.1)) → ks.length = vs.length → mergeK acc (ks.zip vs) = acc ++ ks.zip vs
  | [], [], acc, _, _, _ => by simp [mergeK]
  | k :: ks, v :: vs, acc, hn, hk, hl => by
    have e : putK acc k v = acc ++ [(k, v)] := putK_new v (by
      cases q : valV acc k with
      | none => rfl
      | some x =>
        exfalso
        have := valV_any k acc
        rw [q] at this
        obtain ⟨z, hz, hd⟩ := List.any_eq_true.mp this
        exact hk k List.mem_cons_self (List.mem_map.mpr ⟨z, hz, of_decide_eq_true hd⟩))
    show mergeK (putK acc k v) (ks.zip vs) = _
    rw [e, merge_new (acc ++ [(k, v)]) (List.nodup_cons.mp hn).2 (fun j hj => ?_) (by simpa using hl)]
    · simp
    · rw [List.map_append, List.mem_append, not_or]
      refine ⟨hk j (List.mem_cons_of_mem _ hj), ?_⟩
      simp only [List.map_cons, List.map_nil, List.mem_singleton]
      exact fun z => (List.nodup_cons.mp hn).1 (z ▸ hj)
  | [], _ :: _, _, _, _, hl => by simp at hl
  | _ :: _, [], _, _, _, hl => by simp at hl
theorem atk_of : ∀ {ks : List Key} {ds : List PV} {vs : List V}, Ats K mg H L Z ds vs → ks.length = vs.length → Atk K mg H L Z ((ks.map kPV).zip ds) (ks.zip vs)
  | [], _, _, .nil, _ => .nil
  | _ :: _, _, _, .cons a b, hl => .cons a (atk_of b (by simpa using hl))
  | [], _, _, .cons _ _, hl => by simp at hl
  | _ :: _, _, _, .nil, hl => by simp at hl
theorem KsE.len : ∀ {es : List Expr} {ks : List Key}, KsE es ks → es.length = ks.length
  | _, _, .nil => rfl
  | _, _, .int h => by simp [h.len]
  | _, _, .str h => by simp [h.len]
theorem DLs.len : ∀ {es : List Expr} {fs : List EM}, DLs X W es fs → es.length = fs.length
  | _, _, .nil => rfl
  | _, _, .cons _ h => by simp [h.len]
theorem De.dks {pos : Pos} {es vs : List Expr} {ks : List Key} {fs : List EM} (hk : KsE es ks) (hv : DLs X W vs fs) (hl : es.length = vs.length) (h0 : es ≠ []) (h15 : es.length ≤ 15) :
    De X W (.Dict (es.map some) vs pos) (eDks ks (lEs fs)) := by
  refine Jd.mk ?_
  intro pins s σ H r S L Z Q I sl st p
  refine (pe_disp (pps_vals hk hv hl) (by simp) (by simpa using hl) (by simpa using h0) (by simpa using h15)).run pins s σ H Q I ?_
  intro d n
  refine tpairs_of (L := L) (S := S) (Z := d :: Z) (by rw [← hk.len, hl, hv.len]) (sl.hid n) (st.hid n) ?_
  have p : PostV X W σ Z ((lEs fs r S).bind fun ds S1 => if ks.length = ds.length ∧ ks.Nodup ∧ ks.length ≤ 15 then .ok (.dik ((ks.map kPV).zip ds)) S1 else .bad) H L Q := p
  cases q : lEs fs r S with
  | bad => rw [q] at p; exact p.elim
  | err c S1 =>
    rw [q] at p
    intro H' L' cls x st' e
    exact p H' L' cls (Ext.trans (Ext.laid n) x) st'.unhide e
  | ok ds S1 =>
    rw [q] at p
    intro ws H2 L2 x2 st2 a2 hlen
    have p : PostV X W σ Z (if ks.length = ds.length ∧ ks.Nodup ∧ ks.length ≤ 15 then .ok (.dik ((ks.map kPV).zip ds)) S1 else .bad) H L Q := p
    by_cases hz : ks.length = ds.length ∧ ks.Nodup ∧ ks.length ≤ 15
    · rw [if_pos hz] at p
      have nL := (st.fresh n).1
      have e2 : H2 d = some (.dK []) := x2.keep d _ upd_same (fun z => absurd z nL) (fun _ => nofun)
      refine ⟨e2, ks.zip ws, rfl, by rw [List.length_zip]; omega, ?_⟩
      rw [merge_new [] hz.2.1 (by simp) hlen.symm, List.nil_append]
      have x02 : Ext H L H2 L2 := Ext.trans (Ext.laid n) x2
      refine p _ _ L2 (x02.butK n (But.upd d H2 _)) (st2.stirK e2).unhide (.dik upd_same ?_ (st.fresh n).2 (atk_of (Ats.stir e2 True.intro a2).unhide hlen.symm))
      exact x2.notin (o := .dK []) upd_same nL
    · rw [if_neg hz] at p; exact p.elim
end
end Dn

set_option Elab.async false
set_option linter.all false
set_option maxRecDepth 100000
set_option maxHeartbeats 4000000
namespace Dn
open PySem PySem.Spec PyProof.Rows L2
/-! ### repr of instances by tables, whatever is wished of what is raised -/
/-- classes with a __repr__ of their own that does m -/
inductive RpT (X : Cx) (k : Nat) : List (Str × Fn) → Prop
  | nil : RpT X k []
  | cons {j : Nat} {nm : Str} {m : Fn} {tb : List (Str × Fn)} : j ≤ k → Spc X "__repr__" j nm 1 m → RpT X k tb → RpT X k ((nm, m) :: tb)
/-- repr(d); of an object by the table -/
def vReprT (tb : List (Str × Fn)) (ds : List PV) (S : Store) : Res PV := match ds with
  | [.obj n fs] => (match tb.lookup n with
    | some m => (noErr (m [.obj n fs] S)).bind asStr
    | none => .bad)
  | ds => vRepr ds S
section
variable {X : Cx} {W : WX}
theorem RpT.look {k : Nat} {n : Str} {m : Fn} : ∀ {tb : List (Str × Fn)}, RpT X k tb → tb.lookup n = some m → ∃ j, j ≤ k ∧ Spc X "__repr__" j n 1 m
  | _, .nil, h => by cases h
  | _, .cons (nm := nm) hj s t, h => by
    rw [List.lookup_cons] at h
    cases e : n == nm with
    | true =>
      rw [e] at h
      cases h
      rw [eq_of_beq e]
      exact ⟨_, hj, s⟩
    | false => rw [e] at h; exact t.look h
theorem dc_reprT {k : Nat} {tb : List (Str × Fn)} (hr : RoomG (k + 1) X.A) (h : RpT X k tb) (hy : (X.K.lookup sysModules).isSome = true) : DC X W (.builtin "repr") (vReprT tb) := by
  intro pins s σ H S L Z Q ds xs us I st a r p0
  have gen : PostV X W σ Z (vRepr ds S) H L Q → wpAny (model X.prog X.w) X.A (call (.builtin "repr") us) (EP X pins σ Q) X.xe s := fun p => dc_repr hr.gd (by have := hr.rm.un; omega) hy pins s σ H S L Z Q ds xs us I st a r p
  match ds, a, p0, gen with
  | [.obj n fs], a, p, _ =>
    replace p : PostV X W σ Z (match tb.lookup n with
      | some m => (noErr (m [.obj n fs] S)).bind asStr
      | none => .bad) H L Q := p
    cases e : tb.lookup n with
    | none => rw [e] at p; exact p.elim
    | some m =>
      rw [e] at p
      obtain ⟨j, hj, sp⟩ := h.look e
      obtain ⟨C, f, fd, ps, hm, hf, hi, F, hb, hl⟩ := sp.ex
      have a' := a
      obtain ⟨v, rfl, av⟩ := a'.one
      obtain ⟨q, dx, vs, rfl, hq, _⟩ := obj_at hm av (by simp [ofC])
      obtain ⟨mA, O, _⟩ := ins_get I.hok hq
      obtain ⟨od, J, _⟩ := O.look
      obtain ⟨mm, Fr⟩ := I.fr
      obtain ⟨u, rfl, ru⟩ := vals1 r
      cases ru
      have hr1 : RoomG (j + 1) X.A := hr.le (Nat.succ_le_succ hj)
      have p1 : PostV X W σ Z ((noErr (m [.obj n fs] S)).bind asStr) H L Q := p
      have p2 := post_noerr (W' := W) (PostV.step p1)
      have run : wpAny (model X.prog X.w) X.A.in1 (call (.ref f) [.ref q]) (EP X pins σ fun v H1 => ∃ d S1 L1, Sta X.K X.mg H1 L1 Z S1 ∧ At X.K X.mg H1 L1 Z d v ∧ PostV X W σ Z (asStr d S1) H1 L1 Q) X.xe s := by
        refine wpAny_call (codeAny_mono (F.run X.A.in1 X.stack s H ⟨[.ref q], []⟩ [.ref q] [.ref q] _ S L Z _ E0 ⟨hr1.rm.in1, hr1.gd⟩ I.env0.in1 (hb s [.ref q] I.kIn (by rw [hl]; rfl)) (.cons rfl .nil) st a (by rw [hl]; rfl) p2) fun r s' hq => ?_)
        cases r with
        | error er =>
          obtain ⟨_, _, _, _, _, _, _, _, _, _, _, _, z⟩ := hq
          exact z.elim
        | ok fl =>
          cases fl with
          | ret u => exact I.after hq
          | next => exact False.elim hq
          | brk => exact False.elim hq
          | cont => exact False.elim hq
      refine PySem.W.repr_K (by have := hr.rm.un; show X.A.units + 1 < cLine; omega) Fr I.mod.kin J hf hi (thn run fun u s1 ⟨w, H1, I1, rw1, d, S1, L1, st1, a1, p1⟩ => ?_)
      cases d with
      | str z =>
        cases a1
        obtain ⟨t, rfl⟩ := rw1
        exact ⟨.str z, H1, I1, ⟨_, rfl⟩, post_val p1 st1 (.str _)⟩
      | _ => exact (show False from p1).elim
  | [], _, p, gen => exact gen p
  | [.non], _, p, gen => exact gen p
  | [.bl _], _, p, gen => exact gen p
  | [.int _], _, p, gen => exact gen p
  | [.str _], _, p, gen => exact gen p
  | [.tup _], _, p, gen => exact gen p
  | [.lst _], _, p, gen => exact gen p
  | [.loc _], _, p, gen => exact gen p
  | [.scr _], _, p, gen => exact gen p
  | [.ty _], _, p, gen => exact gen p
  | [.cls _], _, p, gen => exact gen p
  | [.exc _], _, p, gen => exact gen p
  | [.dic _], _, p, gen => exact gen p
  | [.dik _], _, p, gen => exact gen p
  | d :: _ :: _, _, p, gen => exact gen (by cases d <;> exact p)
/-- list(e) as a new list -/
def lOf (a : EM) : LM := fun r S => (a r S).bind fun d S1 => match seqOf S1 d with
  | some xs => .ok xs S1
  | none => .bad
theorem DF.list {e : Expr} {fa : EM} {p' pos : Pos} (ha : De X W e fa) (hg : Gl X "list") (hm : X.mg "list" = none) (hv : bootBuiltins "list" = some (.type "list") := by kernel_rfl)
    (he : starEach [e] X.env = (false, eval e X.env) :: starEach [] X.env := by rfl) (hpl : (backTo pos (starEach [] X.env)).any (·.1) = false := by rfl) : DF X W (.Call (.Name "list" p') [e] [] pos) (lOf fa) := by
  refine Jd.mk ?_
  intro pins s σ H r S L Z Q I sl st p
  refine wpAny_Call_Name_kw (ld_blt I hg hm hv ?_ (by decide) (by decide))
  unfold lOf at p
  refine PyProof.Rows.callWith_type1 ?_ he hpl
  have go : ∀ {Qf : List Value → Shared → Prop}, (∀ v u s1 H1 L1 S1 d, fa r S = .ok d S1 → Inv X pins σ H1 s1 → RelV v u → Sta X.K X.mg H1 L1 Z S1 → Ext H L H1 L1 → At X.K X.mg H1 L1 Z d v → Qf [u] s1) → wpAny (model X.prog X.w) X.A (spliced (backTo pos (starEach [e] X.env))) Qf X.xe s := fun {Qf} k => by
    have z := (DA.cons ha DA.nil he).out pos pins s σ H r S L Z (fun vs H1 => ∃ d S1 L1 v, fa r S = .ok d S1 ∧ vs = [v] ∧ Ext H L H1 L1 ∧ Sta X.K X.mg H1 L1 Z S1 ∧ At X.K X.mg H1 L1 Z d v) I sl st (by
      unfold lCons
      cases q : fa r S with
      | ok d S1 =>
        intro vs H' L' x st' a
        obtain ⟨v, rfl, a'⟩ := a.one
        exact ⟨d, S1, L', v, rfl, rfl, x, st', a'⟩
      | err c S1 => rw [q] at p; exact p
      | bad => rw [q] at p; exact p.elim)
    refine thn z fun us s1 ⟨vs, H1, I1, r1, d, S1, L1, v, q, e1, x1, st1, a1⟩ => ?_
    subst e1
    obtain ⟨u, rfl, ru⟩ := vals1 r1
    exact k v u s1 H1 L1 S1 d q I1 ru st1 x1 a1
  refine go fun v u s1 H1 L1 S1 d q I1 ru st1 x1 a1 => ?_
  rw [q] at p
  have p : PostF X W σ Z (match seqOf S1 d with
    | some xs => .ok xs S1
    | none => .bad) H L Q := p
  cases h : seqOf S1 d with
  | none => rw [h] at p; exact p.elim
  | some xs =>
    rw [h] at p
    obtain ⟨q', vs, rfl, hq, b⟩ := seq_at st1 a1 h
    exact call_list_of pins s1 σ H1 _ [u] Q I1 (.cons ru .nil) ⟨q', vs, rfl, hq, fun l hl => p vs l H1 L1 x1 st1 b hl⟩
end
end Dn

set_option Elab.async false
set_option linter.all false
set_option maxRecDepth 100000
set_option maxHeartbeats 4000000
namespace Dn
open PySem PySem.Spec PyProof.Rows L2
/-! ### enumerate of a tuple -/
def enO1 (t : Addr) : Obj := { cls := .type "tuple_iterator", data := .fields #[.ref t, .int 0 0] }
def enO2 (n : Nat) : Obj := { cls := .type "enumerate", data := .fields #[.none, .bool false, .ref n, rawInt 0, .none, .none] }
def enH (h : Heap) (t : Addr) : Heap := (h.push (enO1 t)).push (enO2 h.objs.size)
theorem en_made (t : Addr) (its : Array Value) :
    Meets (Builtin.«enumerate.__new__» ⟨[.type "enumerate", .ref t], []⟩) fun _ R s =>
      s.heap.IsTuple t its ∧
      R (.ok (.ret (.ref (s.heap.objs.size + 1)))) { s with heap := (enH s.heap t) } :=
  .of_wp fun prog w A R s hh => by
    obtain ⟨hp, g1, d1, tk1, os1⟩ := s
    obtain ⟨ht, hr⟩ := hh
    have hsub := sub_enumerate
    have sz : (hp.push (enO1 t)).objs.size = hp.objs.size + 1 := Heap.size_push ..
    have it : ∀ {A' : Around} {E : Value → Shared → Prop} {Q : Value → Shared → Prop},
        Q (.ref hp.objs.size) ⟨hp.push (enO1 t), g1, d1, tk1, os1⟩ →
        wpAny (model prog w) A' (pyIter (.ref t)) Q E ⟨hp, g1, d1, tk1, os1⟩ := fun q =>
      (PySem.begins_tuple t its).iter prog w _ _ ⟨hp, g1, d1, tk1, os1⟩ _ ht q
    rw [← sz] at hr
    wp_walk using it
    refine wpAny_stack_any fun st0 => ?_
    refine wpAny_pure ?_
    split
    · rename_i c0 _ _ _ _ _
      cases (c0 == Value.type "enumerate") <;> (wp_walk using it; exact ⟨_, rfl, hr⟩)
    · (wp_walk using it; exact ⟨_, rfl, hr⟩)
section
variable {prog : Program} {w : World} {A : Around} {E : Value → Shared → Prop} {s : Shared}
theorem en_call {t : Addr} {its : Array Value} {Q : Value → Shared → Prop} (ht : s.heap.IsTuple t its)
    (h : ∀ h', IsEnum h' (s.heap.objs.size + 1) s.heap.objs.size 0 .none → h'.IsTupleIter s.heap.objs.size t 0 →
      (∀ b o, s.heap.get? b = some o → h'.get? b = some o) → Q (.ref (s.heap.objs.size + 1)) { s with heap := h' }) :
    wpAny (model prog w) A (call (.type "enumerate") [.ref t]) Q E s := by
  refine callType_new F.called_enumerate (by decide) (F.typeCall_enumerate_1 _) (F.newCall_enumerate_1 _)
    (fun o => F.args_object_init_2 o _) F.entry_enumerate_new (en_made t its) ⟨ht, ?_⟩
  have sz : (s.heap.push (enO1 t)).objs.size = s.heap.objs.size + 1 := Heap.size_push ..
  have a2 : (enH s.heap t).get? (s.heap.objs.size + 1) = some (enO2 s.heap.objs.size) := by
    rw [← sz]; exact Heap.get?_push_size (s.heap.push (enO1 t)) rfl
  have a1 : (enH s.heap t).get? s.heap.objs.size = some (enO1 t) := Heap.get?_push_of_some _ (Heap.get?_push_size s.heap rfl)
  exact ⟨⟨_, a2, rfl⟩, h _ a2 ⟨_, a1, rfl, rfl⟩ fun b o x => Heap.get?_push_of_some _ (Heap.get?_push_of_some _ x)⟩
end
/-- what enumerate gives of the tuple at a -/
def Iet (K : PySem.W.Frag) (a : Addr) : It where
  go i H := ∃ xs x, SqT K H a xs ∧ xs[i]? = some x
  yld i H v H' := ∃ T x, v = .ref T ∧ H T = none ∧ H' = upd H T (.tup [.int (i : Nat), x]) ∧ ∀ xs, SqT K H a xs → xs[i]? = some x
  stop i H := ∃ xs, SqT K H a xs ∧ xs.length ≤ i
theorem turn_iet {P : Program} {w : World} {K : PySem.W.Frag} {elts : List Expr} {kk : Nat} {tp : Pos} (a e it : Addr) :
    Turn P w K (.Tuple elts kk tp) (Iet K a) [e, it] e fun i h =>
      (∃ old, IsEnum h e it ((i : Nat) : Int) old) ∧ h.IsTupleIter it a i ∧ e ≠ it ∧ it ≠ a ∧ e ≠ a where
  mem := by simp
  obj i h st b hb := by
    obtain ⟨⟨old, he⟩, ⟨o, ho, hc, hd⟩, _⟩ := st
    simp only [List.mem_cons, List.not_mem_nil, or_false] at hb
    rcases hb with rfl | rfl
    · exact ⟨_, he, fun v q => nomatch q⟩
    · exact ⟨o, ho, fun v q => by rw [hd] at q; cases q⟩
  keep i h h' st k := by
    obtain ⟨⟨old, he⟩, hi, n1, n2, n3⟩ := st
    exact ⟨⟨old, k e (by simp) _ he⟩, hi.at fun o q => k it (by simp) o q, n1, n2, n3⟩
  item := by
    intro X hP hw hK hc i pins s σ H E I hf st hg
    subst hP hw hK
    obtain ⟨⟨old, he⟩, hit, n1, n2, n3⟩ := st
    obtain ⟨xs, x, hq, hx⟩ := hg
    obtain ⟨its, rv, tu, hz⟩ := I.tuple hq
    obtain ⟨u, hu, ru⟩ := rv.get hx
    have hel : e < s.heap.objs.size := Heap.lt_size he
    have hil : it < s.heap.objs.size := by obtain ⟨_, q, _⟩ := hit; exact Heap.lt_size q
    have D := Draws.tuple (prog := X.prog) (w := X.w) (A := X.A.in1) (I.ok.hd hc) it a (Ne.symm n2) its.toArray
    have hi : i < its.toArray.size := by
      have := (List.getElem?_eq_some_iff.mp hu).1
      simpa using this
    refine wpAny_pyNext_enum_itemC D he ⟨hit, tu⟩ hi n1 (by simp [n1, n3]) fun y h' tk hy ho hst hT hsz hk => ?_
    have hyu : y = u := by
      have hy : its.toArray[i]? = some y := hy
      rw [List.getElem?_toArray, hu] at hy
      exact (Option.some.inj hy).symm
    subst hyu
    refine ⟨_, rfl, wpAny_letOwnedTupleGo_enum (s := { s with heap := h', toks := tk + 1 }) ho fun h'' he' sb => ?_⟩
    let T := s.heap.objs.size
    have hT2 : h''.get? T = some { cls := .type "tuple", data := .seq #[.int i tk, y] } := (sb.2 _ (Nat.ne_of_gt hel)).trans hT
    have new : ObjOk X.prog X.w (upd H T (.tup [.int (i : Nat), x])) h'' T (.tup [.int (i : Nat), x]) :=
      ⟨(show 2 ≤ sizeLine by decide), [.int i tk, y], .cons ⟨_, rfl⟩ (.cons ru .nil), ⟨_, hT2, rfl, _, rfl⟩⟩
    have kept : ∀ b ob, b ∉ [e, it] → s.heap.get? b = some ob → h''.get? b = some ob := fun b ob hb q => by
      simp only [List.mem_cons, List.not_mem_nil, or_false, not_or] at hb
      exact (sb.2 b hb.1).trans (hk b ob hb.1 hb.2 q)
    have I1 : Inv X pins σ (upd H T (.tup [.int (i : Nat), x])) { s with heap := h'', toks := tk + 1 } :=
      Inv.turnedNew I kept hf (Nat.le_refl _) new
    refine ⟨.ref T, _, I1, rfl, ⟨_, x, rfl, I.hok.fresh (Nat.le_refl _), rfl, fun ys hy => ?_⟩, ⟨⟨y, ?_⟩, hst.1.at fun o q => (sb.2 it (Ne.symm n1)).trans q, n1, n2, n3⟩, fun b hb => ?_⟩
    · obtain ⟨its2, rv2, tu2, _⟩ := I.tuple hy
      obtain ⟨o1, q1, _, m1, d1⟩ := tu
      obtain ⟨o2, q2, _, m2, d2⟩ := tu2
      rw [q1] at q2; cases q2
      rw [d1] at d2; cases d2
      cases hyi : ys[i]? with
      | none =>
        have h1 : ys.length ≤ i := List.getElem?_eq_none_iff.mp hyi
        have h2 := rv2.length
        have h3 : i < its.length := by simpa using hi
        omega
      | some z =>
        obtain ⟨u2, hu2, ru2⟩ := rv2.get hyi
        rw [hu] at hu2; cases hu2
        rw [RelV.inj ru2 ru]
    · have e1 : ((i + 1 : Nat) : Int) = (i : Int) + 1 := by omega
      rw [e1]; exact he'
    · have hb' : b < T := by
        simp only [List.mem_cons, List.not_mem_nil, or_false] at hb
        rcases hb with rfl | rfl <;> assumption
      rw [upd_ne (Nat.ne_of_lt hb')]
      exact (hf b hb).1
  done := by
    intro X hP hw hK hc i pins s σ H E I hf st hg
    subst hP hw hK
    obtain ⟨⟨old, he⟩, hit, n1, n2, n3⟩ := st
    obtain ⟨xs, hq, hx⟩ := hg
    obtain ⟨its, rv, tu, hz⟩ := I.tuple hq
    have D : Draws X.prog X.w X.A.in1 it [it, a] i (fun _ _ => True) fun j h => j = i ∧ h.IsTupleIter it a i ∧ h.IsTuple a its.toArray :=
      { live := fun _ _ z => let ⟨o, ho, _⟩ := z.2.1; ⟨o, ho⟩
        frame := fun _ _ _ z k => ⟨z.1, z.2.1.at fun o e => k it (by simp) o e, z.2.2.at fun o e => k a (by simp) o e⟩
        item := fun j s Q E hj z _ => absurd z.1 (by omega)
        done := fun s Q E z hE => PySem.wpAny_nextOf_tuple_end (I.ok.hd hc) z.2.1 z.2.2 (by
          have hl := rv.length
          simp; omega) hE }
    obtain ⟨f0, f1, f2, f3, f4, f5⟩ := hf it (by simp)
    exact wpAny_pyNext_enum_endD D he ⟨rfl, hit, tu⟩ fun h' eb => ⟨rfl, I.turned (t' := s.toks) (fun b o hb q => eb b o hb q) f0 f1 f3 f4 f5⟩
  self A i s Q E st h := by
    obtain ⟨⟨_, he⟩, _⟩ := st
    exact wpAny_pyIter_enum he h
def iEnT (K : PySem.W.Frag) (ta : TA) : TI := fun σ H R => ta σ H fun vs H1 => ∃ a xs, vs = [.ref a] ∧ SqT K H1 a xs ∧ R (Iet K a) H1
theorem pi_enT {X : Cx} {e : Expr} {ta : TA} {p pos tp : Pos} {elts : List Expr} {kk : Nat} (hg : Gl X "enumerate") (hm : X.mg "enumerate" = none) (ha : PA X [e] ta)
    (hs : starEach [e] X.env = [(false, eval e X.env)] := by rfl) : PI X (.Tuple elts kk tp) (.Call (.Name "enumerate" p) [e] [] pos) (iEnT X.K ta) where
  run pins s σ H R I h := by
    refine Call_ (ld_blt I hg hm boot_enumerate (PyProof.Rows.callWith_type1 ?_ hs rfl))
    refine thn (ha.run pos pins s σ H _ I h) fun us s1 ⟨vs, H1, I1, r1, q1⟩ => ?_
    obtain ⟨a, xs, rfl, hq, q⟩ := q1
    obtain ⟨u, rfl, ru⟩ := vals1 r1
    cases ru
    obtain ⟨its, rv, tu, hz⟩ := I1.tuple hq
    have hal : a < s1.heap.objs.size := tu.lt
    refine en_call tu fun h' he hit hk => wpAny_pyIter_enum he ?_
    have I2 : Inv X pins σ H1 { s1 with heap := h' } := I1.kept (t' := s1.toks) hk
    refine ⟨s1.heap.objs.size + 1, [s1.heap.objs.size + 1, s1.heap.objs.size], _, _, H1, rfl, I2, turn_iet a _ s1.heap.objs.size, ⟨⟨.none, he⟩, hit, Nat.succ_ne_self _, Nat.ne_of_gt hal, Nat.ne_of_gt (Nat.lt_succ_of_lt hal)⟩, fun b hb => ?_, q⟩
    have hle : s1.heap.objs.size ≤ b := by
      simp only [List.mem_cons, List.not_mem_nil, or_false] at hb
      rcases hb with rfl | rfl <;> omega
    exact I1.fpOk hle (I1.hok.fresh hle)
/-! ### enumerate of values -/
def enF : Nat → List PV → List PV
  | _, [] => []
  | i, x :: xs => .tup [.int i, x] :: enF (i + 1) xs
def enW (xs : List PV) : List PV := enF 0 xs
theorem enF_len : ∀ (xs : List PV) (i : Nat), (enF i xs).length = xs.length
  | [], _ => rfl
  | _ :: xs, i => by simp [enF, enF_len xs]
theorem enF_get : ∀ (xs : List PV) (i j : Nat), (enF i xs)[j]? = xs[j]?.map fun x => .tup [.int ((i + j : Nat) : Int), x]
  | [], _, _ => by simp [enF]
  | x :: xs, i, 0 => by simp [enF]
  | x :: xs, i, j + 1 => by
    simp only [enF, List.getElem?_cons_succ]
    rw [enF_get xs (i + 1) j]
    congr 2
    funext x
    rw [show i + 1 + j = i + (j + 1) by omega]
theorem enW_get (xs : List PV) (j : Nat) : (enW xs)[j]? = xs[j]?.map fun x => .tup [.int (j : Nat), x] := by
  unfold enW
  rw [enF_get]
  simp
@[simp] theorem enW_len (xs : List PV) : (enW xs).length = xs.length := enF_len xs 0
def enOf (d : PV) (S : Store) : Res Src := match d with
  | .tup xs => .ok ⟨enW xs, none⟩ S
  | .lst xs => .ok ⟨enW xs, none⟩ S
  | _ => .bad
def iEnT' (a : EM) : IM := fun r S => (a r S).bind enOf
section
variable {X : Cx} {W : WX} {e : Expr} {fe : EM} {p pos tp : Pos} {elts : List Expr} {kk : Nat}
/-- enumerate(e), e a tuple -/
theorem DI.enT (hg : Gl X "enumerate") (hm : X.mg "enumerate" = none) (ha : De X W e fe) (hs : starEach [e] X.env = [(false, eval e X.env)] := by rfl) :
    DI X W (.Tuple elts kk tp) (.Call (.Name "enumerate" p) [e] [] pos) (iEnT' fe) := by
  refine Jd.mk fun pins s σ H r S L Z R I sl st q => ?_
  unfold iEnT' at q
  cases h1 : fe r S with
  | bad => rw [h1] at q; exact q.elim
  | err c S1 =>
    rw [h1] at q
    exact (pi_enT (p := p) (pos := pos) (elts := elts) (kk := kk) (tp := tp) hg hm (pa_cons ha.pe pa_nil (by rw [hs]; rfl)) hs).run pins s σ H R I ⟨r, S, L, Z, sl, st, by rw [h1]; exact q⟩
  | ok d S1 =>
    rw [h1] at q
    replace q : PostI X W σ Z (enOf d S1) H L R := q
    cases d with
    | tup xs =>
      refine (pi_enT (p := p) (pos := pos) (elts := elts) (kk := kk) (tp := tp) hg hm (pa_cons ha.pe pa_nil (by rw [hs]; rfl)) hs).run pins s σ H R I ⟨r, S, L, Z, sl, st, ?_⟩
      rw [h1]
      intro v H' L' x st' at'
      cases at' with
      | tup h3 b3 =>
        refine ⟨_, _, rfl, h3, q _ H' L' x st' ⟨fun i H5 L5 S5 x5 st5 _ hi => ?_, fun H5 L5 S5 x5 st5 _ => ?_, fun Y i H5 L5 S5 u H6 ny x5 st5 _ yy hi => ?_⟩⟩
        · rw [enW_len, b3.len] at hi
          exact ⟨_, _, x5.sqt h3, List.getElem?_eq_getElem hi⟩
        · exact ⟨_, x5.sqt h3, by rw [enW_len, b3.len]; exact Nat.le_refl _⟩
        · obtain ⟨T, x6, rfl, hT, rfl, k1⟩ := yy
          have k1 := k1 _ (x5.sqt h3)
          rw [enW_len] at hi
          obtain ⟨y, hy, ay⟩ := b3.get (List.getElem?_eq_getElem hi)
          rw [k1] at hy; cases hy
          obtain ⟨z1, z2, z3⟩ := yld_pair st5 hT (.int (i : Nat)) ((ay.hides ny).mono x5)
          exact ⟨_, by rw [enW_get, List.getElem?_eq_getElem hi]; rfl, z1, z2, z3⟩
    | lst xs =>
      refine (pi_enum (p := p) (pos := pos) (elts := elts) (kk := kk) (tpos := tp) hg hm (pa_cons ha.pe pa_nil (by rw [hs]; rfl)) hs).run pins s σ H R I ⟨r, S, L, Z, sl, st, ?_⟩
      rw [h1]
      intro v H' L' x st' at'
      cases at' with
      | lst h3 n3 _ b3 =>
        have g3 : ∀ {H5 : Hp} {L5 : List Addr}, Ext H' L' H5 L5 → SqL X.K H5 _ _ := fun y => .of (y.keep _ _ h3 (fun z => absurd z n3) (fun _ => nofun))
        refine ⟨_, _, rfl, .of h3, q _ H' L' x st' ⟨fun i H5 L5 S5 x5 st5 _ hi => ?_, fun H5 L5 S5 x5 st5 _ => ?_, fun Y i H5 L5 S5 u H6 ny x5 st5 _ yy hi => ?_⟩⟩
        · rw [enW_len, b3.len] at hi
          exact ⟨_, _, g3 x5, List.getElem?_eq_getElem hi⟩
        · exact ⟨_, g3 x5, by rw [enW_len, b3.len]; exact Nat.le_refl _⟩
        · obtain ⟨T, x6, rfl, hT, rfl, k1⟩ := yy
          have k1 := k1 _ (g3 x5)
          rw [enW_len] at hi
          obtain ⟨y, hy, ay⟩ := b3.get (List.getElem?_eq_getElem hi)
          rw [k1] at hy; cases hy
          obtain ⟨z1, z2, z3⟩ := yld_pair st5 hT (.int (i : Nat)) ((ay.hides ny).mono x5)
          exact ⟨_, by rw [enW_get, List.getElem?_eq_getElem hi]; rfl, z1, z2, z3⟩
    | _ => exact (show False from q).elim
end
end Dn

set_option Elab.async false
set_option linter.all false
set_option maxRecDepth 100000
set_option maxHeartbeats 4000000
namespace K65
open PySem PySem.Spec PyProof.Rows L2 Dn

abbrev thP : Program := PySem.Challenge.pw_hushloops_k65_other_signs
def tp (i : Nat) : Stmt := thP.main.body.getD i (.Pass ⟨0, 0, 0, 0⟩)
def mt (i j : Nat) : Stmt := match tp i with
  | .ClassDef _ _ _ b _ _ _ _ _ _ _ => b.getD j (.Pass ⟨0, 0, 0, 0⟩)
  | _ => .Pass ⟨0, 0, 0, 0⟩
def d_odds : Df := ⟨(.glo "_law_odds"), "_law_odds", "_law_odds", defArgs (tp 37), defBody (tp 37), defScope (tp 37), []⟩
def d_word : Df := ⟨(.glo "_law_word"), "_law_word", "_law_word", defArgs (tp 35), defBody (tp 35), defScope (tp 35), []⟩
def d_said : Df := ⟨(.glo "_law_said"), "_law_said", "_law_said", defArgs (tp 36), defBody (tp 36), defScope (tp 36), []⟩
def d_p_need_integers : Df := ⟨(.glo "need_integers"), "need_integers", "need_integers", defArgs (tp 27), defBody (tp 27), defScope (tp 27), []⟩
def d_p_negative : Df := ⟨(.glo "negative"), "negative", "negative", defArgs (tp 28), defBody (tp 28), defScope (tp 28), []⟩
def d_p_turned : Df := ⟨(.glo "turned"), "turned", "turned", defArgs (tp 29), defBody (tp 29), defScope (tp 29), []⟩
def d_are : Df := ⟨(.glo "_law_are"), "_law_are", "_law_are", defArgs (tp 38), defBody (tp 38), defScope (tp 38), []⟩
def d_right : Df := ⟨(.glo "_law_right"), "_law_right", "_law_right", defArgs (tp 39), defBody (tp 39), defScope (tp 39), []⟩
def d_pen : Df := ⟨(.glo "_law_pen"), "_law_pen", "_law_pen", defArgs (tp 32), defBody (tp 32), defScope (tp 32), []⟩
def d_cell : Df := ⟨(.glo "_law_cell"), "_law_cell", "_law_cell", defArgs (tp 31), defBody (tp 31), defScope (tp 31), []⟩
def d_draw : Df := ⟨(.glo "_law_draw"), "_law_draw", "_law_draw", defArgs (tp 33), defBody (tp 33), defScope (tp 33), []⟩
def d_pick : Df := ⟨(.glo "_law_pick"), "_law_pick", "_law_pick", defArgs (tp 34), defBody (tp 34), defScope (tp 34), []⟩
def d_law : Df := ⟨(.glo "law"), "law", "law", defArgs (tp 40), defBody (tp 40), defScope (tp 40), []⟩
def fs0 : List Ft := [sysB, fa (.free "repr"), fa (.glo "NoTops"), isiU [] ["Chain", "Filter", "Loop", "Short", "ShortStrict", "Strict"], excB, fa (.free "isinstance"), fa (.glo "NoBottom"), fa (.glo "NoRounding"), fa (.glo "NoHigh"), fa (.glo "NoFlag"), fa (.glo "NoRoom"), fa (.glo "NoFilter"), fa (.glo "NoState"), fa (.glo "NoInput"), fa (.glo "NoSteps"), fa (.glo "NoRing"), fa (.glo "NoNumbers"), fa (.glo "NoSize"), fa (.glo "NoRow"), fa (.glo "NoSpan"), fa (.glo "NoOrder"), fa (.glo "NoText"), fa (.glo "NotTame"), fa (.glo "NotEven"), fa (.glo "TooLarge"), fa (.glo "NoPlace"), fa (.glo "Spilled"), fa (.glo "TooMany"), fa (.glo "NothingDone"), fa (.free "ValueError")]
def fs1 : List Ft := [fa (.free "tuple"), fa (.exc "NoState"), fa (.free "int"), fa (.free "bool"), fa (.free "all"), lamB (.glo "_law_right") ((("_law_right" : Str) ++ ".<locals>.") ++ "<lambda>"), fa (.free "enumerate"), fa (.free "len"), fa (.free "min"), fa (.free "max"), fa (.free "range"), fa (.free "list"), fa (.glo "_law_odds"), fa (.glo "_law_word"), fa (.glo "_law_said"), fa (.glo "need_integers"), fa (.glo "negative"), fa (.glo "turned"), fa (.glo "_law_are"), fa (.glo "_law_right"), fa (.glo "_law_pen"), fa (.glo "_law_cell"), fa (.glo "_law_draw"), fa (.glo "_law_pick"), fa (.glo "law"), fa (.glo "HushError")]
def fs : List Ft := fs0 ++ fs1
def ls : List (Pl × Str) := [((.glo "_law_right"), ((("_law_right" : Str) ++ ".<locals>.") ++ "<lambda>"))]
def ds0 : List Df := [d_odds, d_word, d_said, d_p_need_integers, d_p_negative, d_p_turned, d_are, d_right, d_pen, d_cell, d_draw, d_pick, d_law]
def ds : List Df := ds0
end K65

set_option Elab.async false
set_option linter.all false
set_option maxRecDepth 100000
set_option maxHeartbeats 0
namespace K65
open PySem PySem.Spec PyProof.Rows L2 Dn
abbrev R : PySem.W.OpenRow := PySem.W.OpenLaw.row PySem.Challenge.rw_hushloops_k65_other_signs
abbrev hk : PySem.W.Hook := hookN 5 ls fs ds
def ob (s : PySem.W.SharedT) : AlT := obsNG 5 ls fs ds (HandSHeadRun.getT s)
theorem ob_eq (s : PySem.W.SharedT) : ob s = hk.obs s.abs := obsNG_eq (HandSHeadRun.getT_eq s)
def nm0 : List Str := ["HushError", "NoTops", "NoBottom", "NoRounding", "NoHigh", "NoFlag", "NoRoom", "NoFilter", "NoState", "NoInput", "NoSteps", "NoRing", "NoNumbers", "NoSize", "NoRow", "NoSpan", "NoOrder", "NoText", "NotTame", "NotEven", "TooLarge", "NoPlace", "Spilled", "TooMany", "NothingDone", "need_integers", "negative", "turned", "_law_cell", "_law_pen"]
def nm1 : List Str := ["_law_draw", "_law_pick", "_law_word", "_law_said", "_law_odds", "_law_are", "_law_right"]
def nms : List Str := nm0 ++ nm1
theorem run (w : World) : HandSHeadRun.RunEq R (PySem.W.view R.prog [40]) hk ob 20000 nms w := by
  intro os
  kernel_rfl
end K65

set_option Elab.async false
set_option linter.all false
set_option maxRecDepth 100000
set_option maxHeartbeats 4000000
namespace Hl
open PySem L2 Dn
noncomputable def b_p_is_between : SM := (sRet (eAnd (eCB vIsiU (lCons (eVar 0) (lCons (eC (.ty "int")) lNil))) (eAnd (eNot (eCB vIsiU (lCons (eVar 0) (lCons (eC (.ty "bool")) lNil)))) (eChain vLe vLe (eVar 1) (eVar 0) (eVar 2)))))
noncomputable def m_p_is_between : Fn := fnM false 3 b_p_is_between
noncomputable def c_p_are_between_1 : LM := lComp [3] (iVal (eVar 0)) (gNm 3) bYes (eCallN 3 m_p_is_between [] (lCons (eVar 3) (lCons (eVar 1) (lCons (eVar 2) lNil))))
noncomputable def b_p_are_between : SM := (sRet (eAnd (eCB vIsiU (lCons (eVar 0) (lCons (eC (.ty "tuple")) lNil))) (eCB vAll (lCons (eNew c_p_are_between_1) lNil))))
noncomputable def m_p_are_between : Fn := fnM false 4 b_p_are_between
noncomputable def b_p_is_rounding : SM := (sRet (eAnd (eCB vIsiU (lCons (eVar 0) (lCons (eC (.ty "str")) lNil))) (eBin (vIn false) (eVar 0) (eTup (lCons (eC (.str "near")) (lCons (eC (.str "cut")) (lCons (eC (.str "down")) lNil)))))))
noncomputable def m_p_is_rounding : Fn := fnM false 1 b_p_is_rounding
noncomputable def w_p_power_1 : SM := (sSet 2 (eBin vMul (eVar 2) (eVar 0)))
noncomputable def l_p_power_1 : SM := sFor (iRange1 (eVar 1)) (gNm 3) w_p_power_1
noncomputable def b_p_power : SM := (sSeq (sSet 2 (eC (.int 1)))
    (sSeq l_p_power_1
    (sRet (eVar 2))))
noncomputable def m_p_power : Fn := fnM false 4 b_p_power
noncomputable def b_p_rounded : SM := (sSeq (sIf (bVal (eBin vEq (eVar 2) (eC (.str "down")))) (sRet (eBin vDiv (eVar 0) (eVar 1))) sNil)
    (sSeq (sSet 3 (eIf (bVal (eBin vEq (eVar 2) (eC (.str "cut")))) (eBin vDiv (eCB vAbs (lCons (eVar 0) lNil)) (eVar 1)) (eBin vDiv (eBin vAdd (eBin vMul (eC (.int 2)) (eCB vAbs (lCons (eVar 0) lNil))) (eVar 1)) (eBin vMul (eC (.int 2)) (eVar 1)))))
    (sRet (eIf (bVal (eBin vGe (eVar 0) (eC (.int 0)))) (eVar 3) (eUn vNeg (eVar 3))))))
noncomputable def m_p_rounded : Fn := fnM false 4 b_p_rounded
noncomputable def c_p_need_parts_1 : LM := lComp [5] (iVal (eVar 4)) (gNm 5) bYes (eCB vIsiU (lCons (eVar 5) (lCons (eC (.ty "bool")) lNil)))
noncomputable def b_p_need_parts : SM := (sSeq (sIf (bOr (bNot (bVal (eCallN 3 m_p_are_between [] (lCons (eVar 0) (lCons (eUn vNeg (eC (.int 32))) (lCons (eC (.int 32)) lNil)))))) (bNot (bVal (eChain vLe vLe (eC (.int 1)) (eCB vLen (lCons (eVar 0) lNil)) (eC (.int 3)))))) (sRaise "NoTops") sNil)
    (sSeq (sIf (bNot (bVal (eCallN 3 m_p_is_between [] (lCons (eVar 1) (lCons (eC (.int 1)) (lCons (eC (.int 16)) lNil)))))) (sRaise "NoBottom") sNil)
    (sSeq (sIf (bNot (bVal (eCallN 1 m_p_is_rounding [] (lCons (eVar 2) lNil)))) (sRaise "NoRounding") sNil)
    (sSeq (sIf (bNot (bVal (eCallN 3 m_p_is_between [] (lCons (eVar 3) (lCons (eC (.int 1)) (lCons (eC (.int 60)) lNil)))))) (sRaise "NoHigh") sNil)
    (sSeq (sIf (bNot (bVal (eCB vAll (lCons (eNew c_p_need_parts_1) lNil)))) (sRaise "NoFlag") sNil)
    (sIf (bVal (eBin vGt (eCallN 2 m_p_power [] (lCons (eBin vAdd (eBin vMul (eC (.int 2)) (eVar 3)) (eC (.int 1))) (lCons (eCB vLen (lCons (eVar 0) lNil)) lNil))) (eC (.int 2500)))) (sRaise "NoRoom") sNil))))))
noncomputable def m_p_need_parts : Fn := fnM false 6 b_p_need_parts
noncomputable def b_p_Filter_init : SM := (sSeq (sExpr (eCallN 5 m_p_need_parts [] (lCons (eVar 1) (lCons (eVar 2) (lCons (eVar 3) (lCons (eVar 4) (lCons (eTup (lCons (eVar 5) (lCons (eVar 6) lNil))) lNil)))))))
    (sFldSet ["Filter"] "parts" (eVar 0) (eTup (lCons (eVar 1) (lCons (eVar 2) (lCons (eVar 3) (lCons (eVar 4) (lCons (eVar 5) (lCons (eVar 6) lNil)))))))))
noncomputable def m_p_Filter_init : Fn := fnM true 7 b_p_Filter_init
noncomputable def b_p_Filter_tops : SM := (sRet (eBin vIx (eFld "Filter" "parts" (eVar 0)) (eC (.int 0))))
noncomputable def m_p_Filter_tops : Fn := fnM false 1 b_p_Filter_tops
noncomputable def b_p_Filter_bottom : SM := (sRet (eBin vIx (eFld "Filter" "parts" (eVar 0)) (eC (.int 1))))
noncomputable def m_p_Filter_bottom : Fn := fnM false 1 b_p_Filter_bottom
noncomputable def b_p_Filter_rounding : SM := (sRet (eBin vIx (eFld "Filter" "parts" (eVar 0)) (eC (.int 2))))
noncomputable def m_p_Filter_rounding : Fn := fnM false 1 b_p_Filter_rounding
noncomputable def b_p_Filter_high : SM := (sRet (eBin vIx (eFld "Filter" "parts" (eVar 0)) (eC (.int 3))))
noncomputable def m_p_Filter_high : Fn := fnM false 1 b_p_Filter_high
noncomputable def b_p_Filter_each : SM := (sRet (eBin vIx (eFld "Filter" "parts" (eVar 0)) (eC (.int 4))))
noncomputable def m_p_Filter_each : Fn := fnM false 1 b_p_Filter_each
noncomputable def b_p_Filter_wraps : SM := (sRet (eBin vIx (eFld "Filter" "parts" (eVar 0)) (eC (.int 5))))
noncomputable def m_p_Filter_wraps : Fn := fnM false 1 b_p_Filter_wraps
noncomputable def b_p_Filter_order : SM := (sRet (eCB vLen (lCons (eProp "Filter" m_p_Filter_tops (eVar 0)) lNil)))
noncomputable def m_p_Filter_order : Fn := fnM false 1 b_p_Filter_order
noncomputable def b_p_Filter_states : SM := (sRet (eCallN 2 m_p_power [] (lCons (eBin vAdd (eBin vMul (eC (.int 2)) (eProp "Filter" m_p_Filter_high (eVar 0))) (eC (.int 1))) (lCons (eProp "Filter" m_p_Filter_order (eVar 0)) lNil))))
noncomputable def m_p_Filter_states : Fn := fnM false 1 b_p_Filter_states
noncomputable def b_p_Filter_rest : SM := (sRet (eBin vMul (eTup (lCons (eC (.int 0)) lNil)) (eProp "Filter" m_p_Filter_order (eVar 0))))
noncomputable def m_p_Filter_rest : Fn := fnM false 1 b_p_Filter_rest
noncomputable def b_p_Filter_len : SM := (sRet (eCB vLen (lCons (eProp "Filter" m_p_Filter_tops (eVar 0)) lNil)))
noncomputable def m_p_Filter_len : Fn := fnM false 1 b_p_Filter_len
noncomputable def b_p_Filter_contains : SM := (sRet (eAnd (eCallN 3 m_p_are_between [] (lCons (eVar 1) (lCons (eUn vNeg (eProp "Filter" m_p_Filter_high (eVar 0))) (lCons (eProp "Filter" m_p_Filter_high (eVar 0)) lNil)))) (eBin vEq (eCB vLen (lCons (eVar 1) lNil)) (eProp "Filter" m_p_Filter_order (eVar 0)))))
noncomputable def m_p_Filter_contains : Fn := fnM false 2 b_p_Filter_contains
noncomputable def b_p_Filter_eq : SM := (sRet (eAnd (eCB vIsiU (lCons (eVar 1) (lCons (eC (.cls "Filter")) lNil))) (eBin vEq (eFld "Filter" "parts" (eVar 0)) (eFld "Filter" "parts" (eVar 1)))))
noncomputable def m_p_Filter_eq : Fn := fnM false 2 b_p_Filter_eq
noncomputable def b_p_Filter_repr : SM := (sRet (eJoin ((eC (.str "Filter(order ")) :: ((eFmt (eProp "Filter" m_p_Filter_order (eVar 0))) :: ((eC (.str ", ")) :: ((eFmt (eProp "Filter" m_p_Filter_states (eVar 0))) :: ((eC (.str " states)")) :: [])))))))
noncomputable def m_p_Filter_repr : Fn := fnM false 1 b_p_Filter_repr
noncomputable def b_p_Chain_first : SM := (sRet (eBin vIx (eFld "Chain" "pair" (eVar 0)) (eC (.int 0))))
noncomputable def m_p_Chain_first : Fn := fnM false 1 b_p_Chain_first
noncomputable def b_p_Chain_second : SM := (sRet (eBin vIx (eFld "Chain" "pair" (eVar 0)) (eC (.int 1))))
noncomputable def m_p_Chain_second : Fn := fnM false 1 b_p_Chain_second
noncomputable def b_p_Chain_contains : SM := (sRet (eAnd (eCB vIsiU (lCons (eVar 1) (lCons (eC (.ty "tuple")) lNil))) (eAnd (eBin vEq (eCB vLen (lCons (eVar 1) lNil)) (eC (.int 2))) (eAnd (eBin (vInO false "Filter" m_p_Filter_contains) (eBin vIx (eVar 1) (eC (.int 0))) (eProp "Chain" m_p_Chain_first (eVar 0))) (eBin (vInO false "Filter" m_p_Filter_contains) (eBin vIx (eVar 1) (eC (.int 1))) (eProp "Chain" m_p_Chain_second (eVar 0)))))))
noncomputable def m_p_Chain_contains : Fn := fnM false 2 b_p_Chain_contains
noncomputable def b_p_need_state : SM := (sIf (bVal (eBin (vInT true [("Filter", m_p_Filter_contains), ("Chain", m_p_Chain_contains)]) (eVar 1) (eVar 0))) (sRaise "NoState") sNil)
noncomputable def m_p_need_state : Fn := fnM false 2 b_p_need_state
noncomputable def b_p_need_input : SM := (sIf (bNot (bVal (eCallN 3 m_p_is_between [] (lCons (eVar 0) (lCons (eUn vNeg (eC (.int 1000))) (lCons (eC (.int 1000)) lNil)))))) (sRaise "NoInput") sNil)
noncomputable def m_p_need_input : Fn := fnM false 1 b_p_need_input
noncomputable def b_p_need_step : SM := (sSeq (sExpr (eCallN 2 m_p_need_state [] (lCons (eVar 0) (lCons (eVar 1) lNil))))
    (sExpr (eCallN 1 m_p_need_input [] (lCons (eVar 2) lNil))))
noncomputable def m_p_need_step : Fn := fnM false 3 b_p_need_step
noncomputable def b_p_fitted : SM := (sSeq (sIf (bVal (eProp "Filter" m_p_Filter_wraps (eVar 0))) (sRet (eBin vSub (eBin vMod (eBin vAdd (eVar 1) (eProp "Filter" m_p_Filter_high (eVar 0))) (eBin vAdd (eBin vMul (eC (.int 2)) (eProp "Filter" m_p_Filter_high (eVar 0))) (eC (.int 1)))) (eProp "Filter" m_p_Filter_high (eVar 0)))) sNil)
    (sRet (eCB vMax (lCons (eUn vNeg (eProp "Filter" m_p_Filter_high (eVar 0))) (lCons (eCB vMin (lCons (eProp "Filter" m_p_Filter_high (eVar 0)) (lCons (eVar 1) lNil))) lNil)))))
noncomputable def m_p_fitted : Fn := fnM false 2 b_p_fitted
noncomputable def c_p_summed_1 : LM := lComp [3, 4] (iZip (eProp "Filter" m_p_Filter_tops (eVar 0)) (eVar 1)) (gTp 2 (gsCons (gNm 3) (gsCons (gNm 4) gsNil))) bYes (eBin vMul (eVar 3) (eVar 4))
noncomputable def c_p_summed_2 : LM := lComp [4] (iVal (eVar 2)) (gNm 4) bYes (eCallN 3 m_p_rounded [] (lCons (eVar 4) (lCons (eProp "Filter" m_p_Filter_bottom (eVar 0)) (lCons (eProp "Filter" m_p_Filter_rounding (eVar 0)) lNil))))
noncomputable def b_p_summed : SM := (sSeq (sSet 2 (eNew c_p_summed_1))
    (sSeq (sIf (bNot (bVal (eProp "Filter" m_p_Filter_each (eVar 0)))) (sRet (eCallN 3 m_p_rounded [] (lCons (eCB vSum (lCons (eVar 2) lNil)) (lCons (eProp "Filter" m_p_Filter_bottom (eVar 0)) (lCons (eProp "Filter" m_p_Filter_rounding (eVar 0)) lNil))))) sNil)
    (sRet (eCB vSum (lCons (eNew c_p_summed_2) lNil)))))
noncomputable def m_p_summed : Fn := fnM false 5 b_p_summed
noncomputable def b_p_stepped : SM := (sRet (eTup (lCons (eCallN 2 m_p_fitted [] (lCons (eVar 0) (lCons (eBin vAdd (eCallN 2 m_p_summed [] (lCons (eVar 0) (lCons (eVar 1) lNil))) (eVar 2)) lNil))) (lStar (eSl (eVar 1) oNone (oSome (eUn vNeg (eC (.int 1))))) lNil))))
noncomputable def m_p_stepped : Fn := fnM false 3 b_p_stepped
noncomputable def b_p_Filter_call : SM := (sSeq (sExpr (eCallN 3 m_p_need_step [] (lCons (eVar 0) (lCons (eVar 1) (lCons (eVar 2) lNil)))))
    (sRet (eCallN 3 m_p_stepped [] (lCons (eVar 0) (lCons (eVar 1) (lCons (eVar 2) lNil))))))
noncomputable def m_p_Filter_call : Fn := fnM false 3 b_p_Filter_call
noncomputable def b_p_Filter_spills : SM := (sSeq (sExpr (eCallN 3 m_p_need_step [] (lCons (eVar 0) (lCons (eVar 1) (lCons (eVar 2) lNil)))))
    (sRet (eBin vGt (eCB vAbs (lCons (eBin vAdd (eCallN 2 m_p_summed [] (lCons (eVar 0) (lCons (eVar 1) lNil))) (eVar 2)) lNil)) (eProp "Filter" m_p_Filter_high (eVar 0)))))
noncomputable def m_p_Filter_spills : Fn := fnM false 3 b_p_Filter_spills
noncomputable def b_p_need_filter : SM := (sIf (bNot (bVal (eCB vIsiU (lCons (eVar 0) (lCons (eC (.cls "Filter")) lNil))))) (sRaise "NoFilter") sNil)
noncomputable def m_p_need_filter : Fn := fnM false 1 b_p_need_filter
noncomputable def b_p_Chain_init : SM := (sSeq (sExpr (eCallN 1 m_p_need_filter [] (lCons (eVar 1) lNil)))
    (sSeq (sExpr (eCallN 1 m_p_need_filter [] (lCons (eVar 2) lNil)))
    (sSeq (sIf (bVal (eBin vGt (eBin vMul (eProp "Filter" m_p_Filter_states (eVar 1)) (eProp "Filter" m_p_Filter_states (eVar 2))) (eC (.int 2500)))) (sRaise "NoRoom") sNil)
    (sFldSet ["Chain"] "pair" (eVar 0) (eTup (lCons (eVar 1) (lCons (eVar 2) lNil)))))))
noncomputable def m_p_Chain_init : Fn := fnM true 3 b_p_Chain_init
noncomputable def b_p_Chain_states : SM := (sRet (eBin vMul (eProp "Filter" m_p_Filter_states (eProp "Chain" m_p_Chain_first (eVar 0))) (eProp "Filter" m_p_Filter_states (eProp "Chain" m_p_Chain_second (eVar 0)))))
noncomputable def m_p_Chain_states : Fn := fnM false 1 b_p_Chain_states
noncomputable def b_p_Chain_rest : SM := (sRet (eTup (lCons (eProp "Filter" m_p_Filter_rest (eProp "Chain" m_p_Chain_first (eVar 0))) (lCons (eProp "Filter" m_p_Filter_rest (eProp "Chain" m_p_Chain_second (eVar 0))) lNil))))
noncomputable def m_p_Chain_rest : Fn := fnM false 1 b_p_Chain_rest
noncomputable def b_p_Chain_eq : SM := (sRet (eAnd (eCB vIsiU (lCons (eVar 1) (lCons (eC (.cls "Chain")) lNil))) (eBin vEq (eFld "Chain" "pair" (eVar 0)) (eFld "Chain" "pair" (eVar 1)))))
noncomputable def m_p_Chain_eq : Fn := fnM false 2 b_p_Chain_eq
noncomputable def b_p_Chain_repr : SM := (sRet (eJoin ((eC (.str "Chain(")) :: ((eFmt (eProp "Chain" m_p_Chain_states (eVar 0))) :: ((eC (.str " states)")) :: [])))))
noncomputable def m_p_Chain_repr : Fn := fnM false 1 b_p_Chain_repr
noncomputable def b_p_led_on : SM := (sSeq (sSet 3 (eCallN 3 m_p_stepped [] (lCons (eProp "Chain" m_p_Chain_first (eVar 0)) (lCons (eBin vIx (eVar 1) (eC (.int 0))) (lCons (eVar 2) lNil)))))
    (sRet (eTup (lCons (eVar 3) (lCons (eCallN 3 m_p_stepped [] (lCons (eProp "Chain" m_p_Chain_second (eVar 0)) (lCons (eBin vIx (eVar 1) (eC (.int 1))) (lCons (eBin vIx (eVar 3) (eC (.int 0))) lNil)))) lNil)))))
noncomputable def m_p_led_on : Fn := fnM false 4 b_p_led_on
noncomputable def b_p_Chain_call : SM := (sSeq (sExpr (eCallN 3 m_p_need_step [] (lCons (eVar 0) (lCons (eVar 1) (lCons (eVar 2) lNil)))))
    (sRet (eCallN 3 m_p_led_on [] (lCons (eVar 0) (lCons (eVar 1) (lCons (eVar 2) lNil))))))
noncomputable def m_p_Chain_call : Fn := fnM false 3 b_p_Chain_call
noncomputable def b_p_next_of : SM := (sRet (eIf (bVal (eCB vIsiU (lCons (eVar 0) (lCons (eC (.cls "Filter")) lNil)))) (eCallN 3 m_p_stepped [] (lCons (eVar 0) (lCons (eVar 1) (lCons (eVar 2) lNil)))) (eCallN 3 m_p_led_on [] (lCons (eVar 0) (lCons (eVar 1) (lCons (eVar 2) lNil))))))
noncomputable def m_p_next_of : Fn := fnM false 3 b_p_next_of
noncomputable def b_p_numbers_in : SM := (sRet (eIf (bVal (eCB vIsiU (lCons (eVar 0) (lCons (eC (.cls "Filter")) lNil)))) (eVar 1) (eTup (lStar (eBin vIx (eVar 1) (eC (.int 0))) (lStar (eBin vIx (eVar 1) (eC (.int 1))) lNil)))))
noncomputable def m_p_numbers_in : Fn := fnM false 2 b_p_numbers_in
noncomputable def b_p_need_source : SM := (sIf (bAnd (bNot (bVal (eCB vIsiU (lCons (eVar 0) (lCons (eC (.cls "Filter")) lNil))))) (bNot (bVal (eCB vIsiU (lCons (eVar 0) (lCons (eC (.cls "Chain")) lNil)))))) (sRaise "NoFilter") sNil)
noncomputable def m_p_need_source : Fn := fnM false 1 b_p_need_source
noncomputable def b_p_need_steps : SM := (sIf (bNot (bVal (eCallN 3 m_p_is_between [] (lCons (eVar 0) (lCons (eC (.int 0)) (lCons (eC (.int 200)) lNil)))))) (sRaise "NoSteps") sNil)
noncomputable def m_p_need_steps : Fn := fnM false 1 b_p_need_steps
noncomputable def w_p_way_1 : SM := (sExpr (eMt "list" vAppend (eVar 4) (lCons (eCallN 3 m_p_next_of [] (lCons (eVar 0) (lCons (eBin vIx (eVar 4) (eUn vNeg (eC (.int 1)))) (lCons (eVar 3) lNil)))) lNil)))
noncomputable def l_p_way_1 : SM := sFor (iRange1 (eVar 2)) (gNm 5) w_p_way_1
noncomputable def b_p_way : SM := (sSeq (sExpr (eCallN 1 m_p_need_source [] (lCons (eVar 0) lNil)))
    (sSeq (sExpr (eCallN 2 m_p_need_state [] (lCons (eVar 0) (lCons (eVar 1) lNil))))
    (sSeq (sExpr (eCallN 1 m_p_need_steps [] (lCons (eVar 2) lNil)))
    (sSeq (sExpr (eCallN 1 m_p_need_input [] (lCons (eVar 3) lNil)))
    (sSeq (sSet 4 (eCell (lDis (lCons (eVar 1) lNil))))
    (sSeq l_p_way_1
    (sRet (eCB vTuple (lCons (eVar 4) lNil)))))))))
noncomputable def m_p_way : Fn := fnM false 6 b_p_way
noncomputable def c_p_are_states_1 : LM := lComp [2] (iVal (eVar 1)) (gNm 2) bYes (eBin (vInT false [("Filter", m_p_Filter_contains), ("Chain", m_p_Chain_contains)]) (eVar 2) (eVar 0))
noncomputable def b_p_are_states : SM := (sRet (eAnd (eCB vIsiU (lCons (eVar 1) (lCons (eC (.ty "tuple")) lNil))) (eAnd (eBin vNe (eVar 1) (eTup lNil)) (eCB vAll (lCons (eNew c_p_are_states_1) lNil)))))
noncomputable def m_p_are_states : Fn := fnM false 3 b_p_are_states
noncomputable def t_p_lowest_1 : BM := (bVal (eBin vGt (eVar 3) (eC (.int 0))))
noncomputable def w_p_lowest_1 : SM := (sPar 2 3 (lCons (eVar 3) (lCons (eBin vMod (eVar 2) (eVar 3)) lNil)))
noncomputable def l_p_lowest_1 : SM := sWhile t_p_lowest_1 w_p_lowest_1
noncomputable def b_p_lowest : SM := (sSeq (sPar 2 3 (lCons (eVar 0) (lCons (eVar 1) lNil)))
    (sSeq l_p_lowest_1
    (sRet (eTup (lCons (eBin vDiv (eVar 0) (eVar 2)) (lCons (eBin vDiv (eVar 1) (eVar 2)) lNil))))))
noncomputable def m_p_lowest : Fn := fnM false 4 b_p_lowest
noncomputable def c_p_sizes_1 : LM := lComp [1] (iVal (eProp "Filter" m_p_Filter_tops (eVar 0))) (gNm 1) bYes (eCB vAbs (lCons (eVar 1) lNil))
noncomputable def b_p_sizes : SM := (sRet (eCB vSum (lCons (eNew c_p_sizes_1) lNil)))
noncomputable def m_p_sizes : Fn := fnM false 2 b_p_sizes
noncomputable def c_p_slack_1 : LM := lComp [3] (iVal (eProp "Filter" m_p_Filter_tops (eVar 0))) (gNm 3) (bVal (eBin vNe (eVar 3) (eC (.int 0)))) (eVar 3)
noncomputable def b_p_slack : SM := (sSeq (sSet 1 (eCB vLen (lCons (eNew c_p_slack_1) lNil)))
    (sSeq (sSet 2 (eIf (bVal (eBin vEq (eProp "Filter" m_p_Filter_rounding (eVar 0)) (eC (.str "near")))) (eBin vDiv (eProp "Filter" m_p_Filter_bottom (eVar 0)) (eC (.int 2))) (eBin vSub (eProp "Filter" m_p_Filter_bottom (eVar 0)) (eC (.int 1)))))
    (sRet (eBin vMul (eVar 2) (eIf (bVal (eProp "Filter" m_p_Filter_each (eVar 0))) (eVar 1) (eCB vMin (lCons (eVar 1) (lCons (eC (.int 1)) lNil))))))))
noncomputable def m_p_slack : Fn := fnM false 4 b_p_slack
noncomputable def b_p_gain : SM := (sSeq (sExpr (eCallN 1 m_p_need_filter [] (lCons (eVar 0) lNil)))
    (sRet (eCallN 2 m_p_lowest [] (lCons (eCallN 1 m_p_sizes [] (lCons (eVar 0) lNil)) (lCons (eProp "Filter" m_p_Filter_bottom (eVar 0)) lNil)))))
noncomputable def m_p_gain : Fn := fnM false 1 b_p_gain
noncomputable def b_p_error : SM := (sSeq (sExpr (eCallN 1 m_p_need_filter [] (lCons (eVar 0) lNil)))
    (sRet (eCallN 2 m_p_lowest [] (lCons (eCallN 1 m_p_slack [] (lCons (eVar 0) lNil)) (lCons (eProp "Filter" m_p_Filter_bottom (eVar 0)) lNil)))))
noncomputable def m_p_error : Fn := fnM false 1 b_p_error
noncomputable def b_p_is_tame : SM := (sSeq (sExpr (eCallN 1 m_p_need_filter [] (lCons (eVar 0) lNil)))
    (sRet (eBin vLt (eCallN 1 m_p_sizes [] (lCons (eVar 0) lNil)) (eProp "Filter" m_p_Filter_bottom (eVar 0)))))
noncomputable def m_p_is_tame : Fn := fnM false 1 b_p_is_tame
noncomputable def b_p_bound : SM := (sSeq (sIf (bNot (bVal (eCallN 1 m_p_is_tame [] (lCons (eVar 0) lNil)))) (sRaise "NotTame") sNil)
    (sRet (eBin vDiv (eCallN 1 m_p_slack [] (lCons (eVar 0) lNil)) (eBin vSub (eProp "Filter" m_p_Filter_bottom (eVar 0)) (eCallN 1 m_p_sizes [] (lCons (eVar 0) lNil))))))
noncomputable def m_p_bound : Fn := fnM false 1 b_p_bound
noncomputable def c_p_need_integers_1 : LM := lComp [1] (iVal (eVar 0)) (gNm 1) bYes (eAnd (eCB vIsiU (lCons (eVar 1) (lCons (eC (.ty "int")) lNil))) (eNot (eCB vIsiU (lCons (eVar 1) (lCons (eC (.ty "bool")) lNil)))))
noncomputable def b_p_need_integers : SM := (sSeq (sIf (bNot (bVal (eCB vIsiU (lCons (eVar 0) (lCons (eC (.ty "tuple")) lNil))))) (sRaise "NoState") sNil)
    (sIf (bNot (bVal (eCB vAll (lCons (eNew c_p_need_integers_1) lNil)))) (sRaise "NoState") sNil))
noncomputable def m_p_need_integers : Fn := fnM false 2 b_p_need_integers
noncomputable def c_p_negative_1 : LM := lComp [1] (iVal (eVar 0)) (gNm 1) bYes (eUn vNeg (eVar 1))
noncomputable def b_p_negative : SM := (sSeq (sExpr (eCallN 1 m_p_need_integers [] (lCons (eVar 0) lNil)))
    (sRet (eCB vTuple (lCons (eNew c_p_negative_1) lNil))))
noncomputable def m_p_negative : Fn := fnM false 2 b_p_negative
noncomputable def b_p_is_even : SM := (sSeq (sExpr (eCallN 1 m_p_need_filter [] (lCons (eVar 0) lNil)))
    (sRet (eBin vNe (eProp "Filter" m_p_Filter_rounding (eVar 0)) (eC (.str "down")))))
noncomputable def m_p_is_even : Fn := fnM false 1 b_p_is_even
noncomputable def b_p_need_even : SM := (sIf (bNot (bVal (eCallN 1 m_p_is_even [] (lCons (eVar 0) lNil)))) (sRaise "NotEven") sNil)
noncomputable def m_p_need_even : Fn := fnM false 1 b_p_need_even
noncomputable def b_p_is_pair : SM := (sRet (eAnd (eCB vIsiU (lCons (eVar 1) (lCons (eC (.ty "tuple")) lNil))) (eAnd (eBin vEq (eCB vLen (lCons (eVar 1) lNil)) (eC (.int 2))) (eAnd (eBin (vInO false "Filter" m_p_Filter_contains) (eBin vIx (eVar 1) (eC (.int 0))) (eVar 0)) (eCallN 3 m_p_is_between [] (lCons (eBin vIx (eVar 1) (eC (.int 1))) (lCons (eC (.int 0)) (lCons (eBin vIx (eVar 1) (eC (.int 1))) lNil))))))))
noncomputable def m_p_is_pair : Fn := fnM false 2 b_p_is_pair
noncomputable def b_p_need_row : SM := (sIf (bOr (bNot (bVal (eCallN 3 m_p_are_between [] (lCons (eVar 0) (lCons (eUn vNeg (eC (.int 1000))) (lCons (eC (.int 1000)) lNil)))))) (bVal (eBin vGt (eCB vLen (lCons (eVar 0) lNil)) (eC (.int 200))))) (sRaise "NoRow") sNil)
noncomputable def m_p_need_row : Fn := fnM false 1 b_p_need_row
noncomputable def b_p_need_span : SM := (sSeq (sIf (bNot (bVal (eCallN 3 m_p_is_between [] (lCons (eVar 1) (lCons (eC (.int 0)) (lCons (eC (.int 3)) lNil)))))) (sRaise "NoSpan") sNil)
    (sIf (bVal (eBin vGt (eProp "Filter" m_p_Filter_states (eVar 0)) (eVar 2))) (sRaise "TooLarge") sNil))
noncomputable def m_p_need_span : Fn := fnM false 3 b_p_need_span
noncomputable def w_p_follow_1 : SM := (sSeq (sSet 1 (eCallN 3 m_p_stepped [] (lCons (eVar 0) (lCons (eVar 1) (lCons (eVar 4) lNil)))))
    (sExpr (eMt "list" vAppend (eVar 3) (lCons (eBin vIx (eVar 1) (eC (.int 0))) lNil))))
noncomputable def l_p_follow_1 : SM := sFor (iVal (eVar 2)) (gNm 4) w_p_follow_1
noncomputable def b_p_follow : SM := (sSeq (sExpr (eCallN 1 m_p_need_filter [] (lCons (eVar 0) lNil)))
    (sSeq (sExpr (eCallN 2 m_p_need_state [] (lCons (eVar 0) (lCons (eVar 1) lNil))))
    (sSeq (sExpr (eCallN 1 m_p_need_row [] (lCons (eVar 2) lNil)))
    (sSeq (sSet 3 (eCell (lDis lNil)))
    (sSeq l_p_follow_1
    (sRet (eCB vTuple (lCons (eVar 3) lNil))))))))
noncomputable def m_p_follow : Fn := fnM false 5 b_p_follow
noncomputable def b_p_pair_of : SM := (sRet (eTup (lCons (eCB vMin (lCons (eVar 0) (lCons (eVar 1) lNil))) (lCons (eCB vMax (lCons (eVar 0) (lCons (eVar 1) lNil))) lNil))))
noncomputable def m_p_pair_of : Fn := fnM false 2 b_p_pair_of
noncomputable def c_p_need_bounds_1 : LM := lComp [5] (iVal (eVar 4)) (gNm 5) bYes (eCB vIsiU (lCons (eVar 5) (lCons (eC (.ty "bool")) lNil)))
noncomputable def b_p_need_bounds : SM := (sSeq (sIf (bNot (bVal (eCallN 3 m_p_is_between [] (lCons (eVar 0) (lCons (eC (.int 1)) (lCons (eC (.int 4)) lNil)))))) (sRaise "NoBottom") sNil)
    (sSeq (sIf (bNot (bVal (eCallN 3 m_p_is_between [] (lCons (eVar 1) (lCons (eC (.int 1)) (lCons (eC (.int 2)) lNil)))))) (sRaise "NoOrder") sNil)
    (sSeq (sIf (bNot (bVal (eCallN 1 m_p_is_rounding [] (lCons (eVar 2) lNil)))) (sRaise "NoRounding") sNil)
    (sSeq (sIf (bNot (bVal (eCallN 3 m_p_is_between [] (lCons (eVar 3) (lCons (eC (.int 1)) (lCons (eC (.int 6)) lNil)))))) (sRaise "NoHigh") sNil)
    (sIf (bNot (bVal (eCB vAll (lCons (eNew c_p_need_bounds_1) lNil)))) (sRaise "NoFlag") sNil)))))
noncomputable def m_p_need_bounds : Fn := fnM false 6 b_p_need_bounds
end Hl

set_option Elab.async false
set_option linter.all false
set_option maxRecDepth 100000
set_option maxHeartbeats 4000000
namespace Hl
open PySem L2 Dn
noncomputable def b_filter : SM := (sRet (eCallN 6 (makeM true "Filter" m_p_Filter_init) [] (lCons (eBin vIx (eVar 0) (eC (.int 0))) (lCons (eBin vIx (eVar 0) (eC (.int 1))) (lCons (eBin vIx (eVar 0) (eC (.int 2))) (lCons (eBin vIx (eVar 0) (eC (.int 3))) (lCons (eBin vIx (eVar 0) (eC (.int 4))) (lCons (eBin vIx (eVar 0) (eC (.int 5))) lNil))))))))
noncomputable def m_filter : Fn := fnM false 1 b_filter
noncomputable def c_spots_1 : LM := lComp [5] (iRange2 (eBin vSub (eC (.int 0)) (eBin vIx (eVar 0) (eC (.int 3)))) (eBin vAdd (eBin vIx (eVar 0) (eC (.int 3))) (eC (.int 1)))) (gNm 5) bYes (eBin vAdd (eVar 4) (eTup (lCons (eVar 5) lNil)))
noncomputable def w_spots_1 : SM := (sExpr (eMt "list" vExtend (eVar 3) (lCons (eNew c_spots_1) lNil)))
noncomputable def l_spots_1 : SM := sFor (iVal (eVar 1)) (gNm 4) w_spots_1
noncomputable def w_spots_2 : SM := (sSeq (sSet 3 (eCell (lDis lNil)))
    (sSeq l_spots_1
    (sSet 1 (eVar 3))))
noncomputable def l_spots_2 : SM := sFor (iRange1 (eCB vLen (lCons (eBin vIx (eVar 0) (eC (.int 0))) lNil))) (gNm 2) w_spots_2
noncomputable def b_spots : SM := (sSeq (sSet 1 (eLst (lCons (eTup lNil) lNil)))
    (sSeq l_spots_2
    (sRet (eVar 1))))
noncomputable def m_spots : Fn := fnM false 6 b_spots
noncomputable def b_fit : SM := (sSeq (sPar 2 3 (lCons (eBin vIx (eVar 0) (eC (.int 3))) (lCons (eBin vAdd (eBin vMul (eC (.int 2)) (eBin vIx (eVar 0) (eC (.int 3)))) (eC (.int 1))) lNil)))
    (sSeq (sIf (bNot (bVal (eBin vIx (eVar 0) (eC (.int 5))))) (sRet (eIf (bVal (eBin vGt (eVar 1) (eVar 2))) (eVar 2) (eIf (bVal (eBin vLt (eVar 1) (eBin vSub (eC (.int 0)) (eVar 2)))) (eBin vSub (eC (.int 0)) (eVar 2)) (eVar 1)))) sNil)
    (sSeq (sSet 4 (eBin vMod (eVar 1) (eVar 3)))
    (sRet (eIf (bVal (eBin vLe (eVar 4) (eVar 2))) (eVar 4) (eBin vSub (eVar 4) (eVar 3)))))))
noncomputable def m_fit : Fn := fnM false 5 b_fit
noncomputable def b_round : SM := (sSeq (sPar 3 4 (lCons (eBin vDiv (eBin vSub (eVar 0) (eBin vMod (eVar 0) (eVar 1))) (eVar 1)) (lCons (eBin vMod (eVar 0) (eVar 1)) lNil)))
    (sSeq (sIf (bOr (bVal (eBin vEq (eVar 2) (eC (.str "down")))) (bVal (eBin vEq (eVar 4) (eC (.int 0))))) (sRet (eVar 3)) sNil)
    (sSeq (sIf (bVal (eBin vEq (eVar 2) (eC (.str "cut")))) (sRet (eIf (bVal (eBin vGt (eVar 0) (eC (.int 0)))) (eVar 3) (eBin vAdd (eVar 3) (eC (.int 1))))) sNil)
    (sSeq (sIf (bVal (eBin vEq (eBin vMul (eC (.int 2)) (eVar 4)) (eVar 1))) (sRet (eIf (bVal (eBin vGt (eVar 0) (eC (.int 0)))) (eBin vAdd (eVar 3) (eC (.int 1))) (eVar 3))) sNil)
    (sRet (eIf (bVal (eBin vGt (eBin vMul (eC (.int 2)) (eVar 4)) (eVar 1))) (eBin vAdd (eVar 3) (eC (.int 1))) (eVar 3)))))))
noncomputable def m_round : Fn := fnM false 5 b_round
noncomputable def c_sum_1 : LM := lComp [3, 4] (iZip (eBin vIx (eVar 0) (eC (.int 0))) (eVar 1)) (gTp 2 (gsCons (gNm 3) (gsCons (gNm 4) gsNil))) bYes (eBin vMul (eVar 3) (eVar 4))
noncomputable def c_sum_2 : LM := lComp [5] (iVal (eVar 2)) (gNm 5) bYes (eCallN 3 m_round [] (lCons (eVar 5) (lCons (eBin vIx (eVar 0) (eC (.int 1))) (lCons (eBin vIx (eVar 0) (eC (.int 2))) lNil))))
noncomputable def b_sum : SM := (sSeq (sSet 2 (eNew c_sum_1))
    (sSeq (sIf (bNot (bVal (eBin vIx (eVar 0) (eC (.int 4))))) (sRet (eCallN 3 m_round [] (lCons (eCB vSum (lCons (eVar 2) lNil)) (lCons (eBin vIx (eVar 0) (eC (.int 1))) (lCons (eBin vIx (eVar 0) (eC (.int 2))) lNil))))) sNil)
    (sRet (eCB vSum (lCons (eNew c_sum_2) lNil)))))
noncomputable def m_sum : Fn := fnM false 6 b_sum
noncomputable def b_next : SM := (sRet (eBin vAdd (eTup (lCons (eCallN 2 m_fit [] (lCons (eVar 0) (lCons (eBin vAdd (eCallN 2 m_sum [] (lCons (eVar 0) (lCons (eVar 1) lNil))) (eVar 2)) lNil))) lNil)) (eSl (eVar 1) oNone (oSome (eUn vNeg (eC (.int 1)))))))
noncomputable def m_next : Fn := fnM false 3 b_next
noncomputable def b_same : SM := (sRet (eBin vEq (eCB vRepr (lCons (eVar 0) lNil)) (eCB vRepr (lCons (eVar 1) lNil))))
noncomputable def m_same : Fn := fnM false 2 b_same
noncomputable def w_right_k03_1 : SM := (sSeq (sIf (bNot (bVal (eCallN 2 m_same [] (lCons (eLst (lCons (eCallO "Filter" 3 m_p_Filter_call [] (eVar 0) (lCons (eVar 2) (lCons (eVar 3) lNil))) (lCons (eCallO "Filter" 3 m_p_Filter_call [(.int 0)] (eVar 0) (lCons (eVar 2) lNil)) lNil))) (lCons (eLst (lCons (eVar 4) (lCons (eCallN 3 m_next [] (lCons (eVar 1) (lCons (eVar 2) (lCons (eC (.int 0)) lNil)))) lNil))) lNil))))) (sRet (eC (.bl false))) sNil)
    (sIf (bNot (bVal (eCallN 2 m_same [] (lCons (eLst (lCons (eMeth "Filter" "spills" 3 m_p_Filter_spills [] (eVar 0) (lCons (eVar 2) (lCons (eVar 3) lNil))) (lCons (eMeth "Filter" "spills" 3 m_p_Filter_spills [(.int 0)] (eVar 0) (lCons (eVar 2) lNil)) lNil))) (lCons (eVar 7) lNil))))) (sRet (eC (.bl false))) sNil))
noncomputable def l_right_k03_1 : SM := sFor (iRange1 (eC (.int 2))) (gNm 8) w_right_k03_1
noncomputable def b_right_k03 : SM := (sSeq (sPar 4 5 (lCons (eCallN 3 m_next [] (lCons (eVar 1) (lCons (eVar 2) (lCons (eVar 3) lNil)))) (lCons (eCB vRepr (lCons (eTup (lCons (eVar 2) (lCons (eVar 3) lNil))) lNil)) lNil)))
    (sSeq (sSet 6 (eBin vAdd (eCallN 2 m_sum [] (lCons (eVar 1) (lCons (eVar 2) lNil))) (eVar 3)))
    (sSeq (sSet 7 (eLst (lCons (eOr (eBin vGt (eVar 6) (eBin vIx (eVar 1) (eC (.int 3)))) (eBin vLt (eVar 6) (eBin vSub (eC (.int 0)) (eBin vIx (eVar 1) (eC (.int 3)))))) (lCons (eBin vGt (eCB vAbs (lCons (eCallN 2 m_sum [] (lCons (eVar 1) (lCons (eVar 2) lNil))) lNil)) (eBin vIx (eVar 1) (eC (.int 3)))) lNil))))
    (sSeq l_right_k03_1
    (sRet (eBin vEq (eCB vRepr (lCons (eTup (lCons (eVar 2) (lCons (eVar 3) lNil))) lNil)) (eVar 5)))))))
noncomputable def m_right_k03 : Fn := fnM false 9 b_right_k03
noncomputable def b_pen : SM := (sRet (eCell (lDis (lCons (eCB vMax (lCons (eC (.int 0)) (lCons (eBin vSub (eVar 0) (eBin vPow (eC (.int 10)) (eC (.int 18)))) lNil))) (lCons (eBin vAdd (eBin vMod (eVar 0) (eC (.int 2147483629))) (eC (.int 1))) (lCons (eC (.int 0)) lNil))))))
noncomputable def m_pen : Fn := fnM true 1 b_pen
noncomputable def b_cell : SM := (sRet (eIf (bVal (eBin vLt (eVar 1) (eCB vLen (lCons (eVar 0) lNil)))) (eBin vIx (eVar 0) (eVar 1)) (eC (.int 0))))
noncomputable def m_cell : Fn := fnM false 2 b_cell
noncomputable def b_draw : SM := (sSeq (sIf (bVal (eBin vGt (eBin vIx (eVar 0) (eC (.int 0))) (eC (.int 0)))) (sSeq (sSet 2 (eBin vMod (eBin vIx (eVar 0) (eC (.int 0))) (eVar 1)))
    (sSeq (sPut (eVar 0) (eC (.int 0)) (eBin vDiv (eBin vIx (eVar 0) (eC (.int 0))) (eVar 1)))
    (sRet (eVar 2)))) sNil)
    (sSeq (sPut (eVar 0) (eC (.int 2)) (eBin vAdd (eBin vIx (eVar 0) (eC (.int 2))) (eC (.int 1))))
    (sSeq (sPut (eVar 0) (eC (.int 1)) (eBin vMod (eBin vAdd (eBin vAdd (eBin vMul (eBin vIx (eVar 0) (eC (.int 1))) (eC (.int 48271))) (eBin vMul (eC (.int 1009)) (eBin vIx (eVar 0) (eC (.int 2))))) (eC (.int 7))) (eC (.int 2147483647))))
    (sSeq (sSet 3 (eBin vMod (eBin vAdd (eBin vAdd (eBin vMul (eBin vIx (eVar 0) (eC (.int 1))) (eBin vIx (eVar 0) (eC (.int 1)))) (eBin vMul (eC (.int 69621)) (eBin vIx (eVar 0) (eC (.int 1))))) (eC (.int 11))) (eC (.int 2147483629))))
    (sSeq (sSet 3 (eBin vMod (eBin vAdd (eBin vMul (eVar 3) (eVar 3)) (eBin vMul (eC (.int 40014)) (eVar 3))) (eC (.int 2147483587))))
    (sRet (eBin vMod (eBin vDiv (eVar 3) (eC (.int 16))) (eVar 1))))))))
noncomputable def m_draw : Fn := fnM false 4 b_draw
noncomputable def w_power_1 : SM := (sSet 2 (eBin vMul (eVar 2) (eVar 0)))
noncomputable def l_power_1 : SM := sFor (iRange1 (eVar 1)) (gNm 3) w_power_1
noncomputable def b_power : SM := (sSeq (sSet 2 (eC (.int 1)))
    (sSeq l_power_1
    (sRet (eVar 2))))
noncomputable def m_power : Fn := fnM false 4 b_power
noncomputable def t_cap_1 : BM := (bAnd (bVal (eBin vLt (eVar 2) (eC (.int 60)))) (bVal (eBin vLe (eCallN 2 m_power [] (lCons (eBin vAdd (eBin vMul (eC (.int 2)) (eVar 2)) (eC (.int 3))) (lCons (eVar 0) lNil))) (eVar 1))))
noncomputable def w_cap_1 : SM := (sSet 2 (eBin vAdd (eVar 2) (eC (.int 1))))
noncomputable def l_cap_1 : SM := sWhile t_cap_1 w_cap_1
noncomputable def b_cap : SM := (sSeq (sSet 2 (eC (.int 1)))
    (sSeq l_cap_1
    (sRet (eVar 2))))
noncomputable def m_cap : Fn := fnM false 3 b_cap
noncomputable def b_top : SM := (sSeq (sIf (bVal (eBin vEq (eCallN 2 m_draw [] (lCons (eVar 0) (lCons (eC (.int 5)) lNil))) (eC (.int 0)))) (sRet (eBin vSub (eCallN 2 m_draw [] (lCons (eVar 0) (lCons (eC (.int 65)) lNil))) (eC (.int 32)))) sNil)
    (sRet (eCB vMax (lCons (eUn vNeg (eC (.int 32))) (lCons (eCB vMin (lCons (eC (.int 32)) (lCons (eBin vSub (eBin vSub (eCallN 2 m_draw [] (lCons (eVar 0) (lCons (eBin vAdd (eBin vMul (eC (.int 2)) (eVar 1)) (eC (.int 3))) lNil))) (eVar 1)) (eC (.int 1))) lNil))) lNil)))))
noncomputable def m_top : Fn := fnM false 2 b_top
noncomputable def b_pick : SM := (sRet (eBin vIx (eVar 1) (eCallN 2 m_draw [] (lCons (eVar 0) (lCons (eCB vLen (lCons (eVar 1) lNil)) lNil)))))
noncomputable def m_pick : Fn := fnM false 2 b_pick
noncomputable def t_parts_1 : BM := (bVal (eBin vGt (eCallN 2 m_power [] (lCons (eC (.int 3)) (lCons (eVar 3) lNil))) (eVar 1)))
noncomputable def w_parts_1 : SM := (sSet 3 (eBin vSub (eVar 3) (eC (.int 1))))
noncomputable def l_parts_1 : SM := sWhile t_parts_1 w_parts_1
noncomputable def c_parts_1 : LM := lComp [7] (iRange1 (eVar 3)) (gNm 7) bYes (eCallN 2 m_top [] (lCons (eVar 0) (lCons (eVar 2) lNil)))
noncomputable def b_parts : SM := (sSeq (sAsg (gTp 2 (gsCons (gNm 2) (gsCons (gNm 3) gsNil))) (eTup (lCons (eBin vAdd (eC (.int 1)) (eCallN 2 m_draw [] (lCons (eVar 0) (lCons (eC (.int 16)) lNil)))) (lCons (eBin vAdd (eC (.int 1)) (eCallN 2 m_draw [] (lCons (eVar 0) (lCons (eC (.int 3)) lNil)))) lNil))))
    (sSeq l_parts_1
    (sSeq (sSet 4 (eBin vAdd (eC (.int 1)) (eCallN 2 m_draw [] (lCons (eVar 0) (lCons (eCallN 2 m_cap [] (lCons (eVar 3) (lCons (eVar 1) lNil))) lNil)))))
    (sSeq (sSet 5 (eCB vTuple (lCons (eNew c_parts_1) lNil)))
    (sSeq (sSet 6 (eCallN 2 m_pick [] (lCons (eVar 0) (lCons (eLst (lCons (eC (.str "near")) (lCons (eC (.str "near")) (lCons (eC (.str "cut")) (lCons (eC (.str "down")) lNil))))) lNil))))
    (sRet (eTup (lCons (eVar 5) (lCons (eVar 2) (lCons (eVar 6) (lCons (eVar 4) (lCons (eBin vEq (eCallN 2 m_draw [] (lCons (eVar 0) (lCons (eC (.int 2)) lNil))) (eC (.int 0))) (lCons (eBin vEq (eCallN 2 m_draw [] (lCons (eVar 0) (lCons (eC (.int 3)) lNil))) (eC (.int 0))) lNil)))))))))))))
noncomputable def m_parts : Fn := fnM false 8 b_parts
noncomputable def c_spot_1 : LM := lComp [2] (iVal (eBin vIx (eVar 1) (eC (.int 0)))) (gNm 2) bYes (eBin vSub (eCallN 2 m_draw [] (lCons (eVar 0) (lCons (eBin vAdd (eBin vMul (eC (.int 2)) (eBin vIx (eVar 1) (eC (.int 3)))) (eC (.int 1))) lNil))) (eBin vIx (eVar 1) (eC (.int 3))))
noncomputable def b_spot : SM := (sRet (eCB vTuple (lCons (eNew c_spot_1) lNil)))
noncomputable def m_spot : Fn := fnM false 3 b_spot
noncomputable def b_push : SM := (sRet (eCallN 2 m_pick [] (lCons (eVar 0) (lCons (eLst (lCons (eC (.int 0)) (lCons (eC (.int 0)) (lCons (eC (.int 1)) (lCons (eUn vNeg (eC (.int 1))) (lCons (eC (.int 2)) (lCons (eUn vNeg (eC (.int 3))) (lCons (eBin vSub (eCallN 2 m_draw [] (lCons (eVar 0) (lCons (eC (.int 41)) lNil))) (eC (.int 20))) (lCons (eC (.int 1000)) (lCons (eUn vNeg (eC (.int 1000))) (lCons (eBin vSub (eCallN 2 m_draw [] (lCons (eVar 0) (lCons (eC (.int 2001)) lNil))) (eC (.int 1000))) lNil))))))))))) lNil))))
noncomputable def m_push : Fn := fnM false 1 b_push
noncomputable def w_law_k03_1 : SM := (sIf (bNot (bVal (eCallN 4 m_right_k03 [] (lCons (eVar 4) (lCons (eVar 3) (lCons (eVar 5) (lCons (eC (.int 0)) lNil))))))) (sRet (eC (.bl false))) sNil)
noncomputable def l_law_k03_1 : SM := sFor (iVal (eCallN 1 m_spots [] (lCons (eVar 3) lNil))) (gNm 5) w_law_k03_1
noncomputable def w_law_k03_2 : SM := (sSeq (sSet 3 (eTup (lCons (eTup (lCons (eC (.int 3)) (lCons (eUn vNeg (eC (.int 5))) lNil))) (lCons (eC (.int 4)) (lCons (eVar 1) (lCons (eC (.int 3)) (lCons (eVar 2) (lCons (eC (.bl false)) lNil))))))))
    (sSeq (sSet 4 (eCallN 1 m_filter [] (lCons (eVar 3) lNil)))
    l_law_k03_1))
noncomputable def l_law_k03_2 : SM := sFor (iVal (eLst (lCons (eC (.bl true)) (lCons (eC (.bl false)) lNil)))) (gNm 2) w_law_k03_2
noncomputable def w_law_k03_3 : SM := l_law_k03_2
noncomputable def l_law_k03_3 : SM := sFor (iVal (eLst (lCons (eC (.str "near")) (lCons (eC (.str "cut")) (lCons (eC (.str "down")) lNil))))) (gNm 1) w_law_k03_3
noncomputable def w_law_k03_4 : SM := (sIf (bNot (bVal (eCallN 4 m_right_k03 [] (lCons (eVar 4) (lCons (eVar 3) (lCons (eCallN 2 m_spot [] (lCons (eVar 7) (lCons (eVar 3) lNil))) (lCons (eCallN 1 m_push [] (lCons (eVar 7) lNil)) lNil))))))) (sRet (eC (.bl false))) sNil)
noncomputable def l_law_k03_4 : SM := sFor (iRange1 (eC (.int 6))) (gNm 9) w_law_k03_4
noncomputable def w_law_k03_5 : SM := (sSeq (sSet 3 (eCallN 2 m_parts [] (lCons (eVar 7) (lCons (eBin vIx (eLst (lCons (eC (.int 9)) (lCons (eC (.int 121)) (lCons (eC (.int 2500)) lNil)))) (eBin vMod (eVar 8) (eC (.int 3)))) lNil))))
    (sSeq (sSet 4 (eCallN 1 m_filter [] (lCons (eVar 3) lNil)))
    l_law_k03_4))
noncomputable def l_law_k03_5 : SM := sFor (iRange1 (eC (.int 12))) (gNm 8) w_law_k03_5
noncomputable def w_law_k03_6 : SM := (sSeq (sSet 7 (eCallN 1 m_pen [] (lCons (eCallN 2 m_cell [] (lCons (eVar 0) (lCons (eVar 6) lNil))) lNil)))
    l_law_k03_5)
noncomputable def l_law_k03_6 : SM := sFor (iRange1 (eCB vMax (lCons (eC (.int 1)) (lCons (eCB vMin (lCons (eCB vLen (lCons (eVar 0) lNil)) (lCons (eC (.int 4)) lNil))) lNil)))) (gNm 6) w_law_k03_6
noncomputable def b_law_k03 : SM := (sSeq l_law_k03_3
    (sSeq l_law_k03_6
    (sRet (eC (.bl true)))))
noncomputable def m_law_k03 : Fn := fnM false 10 b_law_k03
end Hl

set_option Elab.async false
set_option linter.all false
set_option maxRecDepth 100000
set_option maxHeartbeats 4000000
namespace Hl
open PySem L2 Dn
noncomputable def w_count_k40_1 : SM := (sSet 2 (eBin vMul (eVar 2) (eVar 0)))
noncomputable def l_count_k40_1 : SM := sFor (iRange1 (eVar 1)) (gNm 3) w_count_k40_1
noncomputable def b_count_k40 : SM := (sSeq (sSet 2 (eC (.int 1)))
    (sSeq l_count_k40_1
    (sRet (eVar 2))))
noncomputable def m_count_k40 : Fn := fnM false 4 b_count_k40
noncomputable def b_draw_k40 : SM := (sSeq (sIf (bVal (eBin vGt (eBin vIx (eVar 0) (eC (.int 0))) (eC (.int 0)))) (sSeq (sSet 2 (eBin vMod (eBin vIx (eVar 0) (eC (.int 0))) (eVar 1)))
    (sSeq (sPut (eVar 0) (eC (.int 0)) (eBin vDiv (eBin vIx (eVar 0) (eC (.int 0))) (eVar 1)))
    (sRet (eVar 2)))) sNil)
    (sSeq (sPut (eVar 0) (eC (.int 2)) (eBin vAdd (eBin vIx (eVar 0) (eC (.int 2))) (eC (.int 1))))
    (sSeq (sPut (eVar 0) (eC (.int 1)) (eBin vMod (eBin vAdd (eBin vAdd (eBin vMul (eBin vIx (eVar 0) (eC (.int 1))) (eC (.int 48271))) (eBin vMul (eC (.int 1013)) (eBin vIx (eVar 0) (eC (.int 2))))) (eC (.int 7))) (eC (.int 2147483647))))
    (sSeq (sSet 3 (eBin vMod (eBin vAdd (eBin vAdd (eBin vMul (eBin vIx (eVar 0) (eC (.int 1))) (eBin vIx (eVar 0) (eC (.int 1)))) (eBin vMul (eC (.int 69621)) (eBin vIx (eVar 0) (eC (.int 1))))) (eC (.int 11))) (eC (.int 2147483629))))
    (sSeq (sSet 3 (eBin vMod (eBin vAdd (eBin vMul (eVar 3) (eVar 3)) (eBin vMul (eC (.int 40692)) (eVar 3))) (eC (.int 2147483587))))
    (sRet (eBin vMod (eBin vDiv (eVar 3) (eC (.int 16))) (eVar 1))))))))
noncomputable def m_draw_k40 : Fn := fnM false 4 b_draw_k40
noncomputable def b_pick_k40 : SM := (sRet (eBin vIx (eVar 1) (eCallN 2 m_draw_k40 [] (lCons (eVar 0) (lCons (eCB vLen (lCons (eVar 1) lNil)) lNil)))))
noncomputable def m_pick_k40 : Fn := fnM false 2 b_pick_k40
noncomputable def c_tops_1 : LM := lComp [4] (iRange1 (eVar 2)) (gNm 4) bYes (eBin vSub (eCallN 2 m_draw_k40 [] (lCons (eVar 0) (lCons (eBin vAdd (eBin vMul (eC (.int 2)) (eVar 3)) (eC (.int 1))) lNil))) (eVar 3))
noncomputable def b_tops : SM := (sSeq (sSet 3 (eCallN 2 m_pick_k40 [] (lCons (eVar 0) (lCons (eLst (lCons (eBin vDiv (eVar 1) (eC (.int 2))) (lCons (eVar 1) (lCons (eVar 1) (lCons (eBin vMul (eC (.int 2)) (eVar 1)) (lCons (eC (.int 32)) lNil)))))) lNil))))
    (sSeq (sSet 3 (eCB vMax (lCons (eC (.int 1)) (lCons (eCB vMin (lCons (eC (.int 32)) (lCons (eVar 3) lNil))) lNil))))
    (sRet (eCB vTuple (lCons (eNew c_tops_1) lNil)))))
noncomputable def m_tops : Fn := fnM false 5 b_tops
noncomputable def c_sort_1 : LM := lComp [5] (iRange2 (eC (.int 1)) (eC (.int 61))) (gNm 5) (bVal (eBin vLe (eCallN 2 m_count_k40 [] (lCons (eBin vAdd (eBin vMul (eC (.int 2)) (eVar 5)) (eC (.int 1))) (lCons (eVar 3) lNil))) (eVar 1))) (eVar 5)
noncomputable def w_sort_1 : SM := (sSeq (sSet 4 (eNew c_sort_1))
    (sIf (bVal (eBin vNe (eVar 4) (eLst lNil))) (sExpr (eMt "list" vAppend (eVar 2) (lCons (eTup (lCons (eVar 3) (lCons (eBin vIx (eVar 4) (eUn vNeg (eC (.int 1)))) lNil))) lNil))) sNil))
noncomputable def l_sort_1 : SM := sFor (iVal (eTup (lCons (eC (.int 1)) (lCons (eC (.int 2)) (lCons (eC (.int 3)) lNil))))) (gNm 3) w_sort_1
noncomputable def b_sort : SM := (sSeq (sSet 2 (eCell (lDis lNil)))
    (sSeq l_sort_1
    (sSeq (sAsg (gTp 2 (gsCons (gNm 3) (gsCons (gNm 5) gsNil))) (eCallN 2 m_pick_k40 [] (lCons (eVar 0) (lCons (eVar 2) lNil))))
    (sSeq (sPar 6 5 (lCons (eBin vAdd (eC (.int 1)) (eCallN 2 m_draw_k40 [] (lCons (eVar 0) (lCons (eC (.int 16)) lNil)))) (lCons (eBin vAdd (eC (.int 1)) (eCallN 2 m_draw_k40 [] (lCons (eVar 0) (lCons (eVar 5) lNil)))) lNil)))
    (sSeq (sSet 7 (eCallN 2 m_pick_k40 [] (lCons (eVar 0) (lCons (eLst (lCons (eC (.str "near")) (lCons (eC (.str "cut")) (lCons (eC (.str "down")) lNil)))) lNil))))
    (sRet (eTup (lCons (eCallN 3 m_tops [] (lCons (eVar 0) (lCons (eVar 6) (lCons (eVar 3) lNil)))) (lCons (eVar 6) (lCons (eVar 7) (lCons (eVar 5) (lCons (eBin vGt (eCallN 2 m_draw_k40 [] (lCons (eVar 0) (lCons (eC (.int 3)) lNil))) (eC (.int 0))) (lCons (eBin vEq (eCallN 2 m_draw_k40 [] (lCons (eVar 0) (lCons (eC (.int 3)) lNil))) (eC (.int 0))) lNil)))))))))))))
noncomputable def m_sort : Fn := fnM false 8 b_sort
noncomputable def c_row_1 : LM := lComp [3] (iRange1 (eCallN 2 m_draw_k40 [] (lCons (eVar 0) (lCons (eBin vAdd (eVar 2) (eC (.int 1))) lNil)))) (gNm 3) bYes (eBin vSub (eCallN 2 m_draw_k40 [] (lCons (eVar 0) (lCons (eBin vAdd (eBin vMul (eC (.int 2)) (eVar 1)) (eC (.int 1))) lNil))) (eVar 1))
noncomputable def b_row : SM := (sRet (eCB vTuple (lCons (eNew c_row_1) lNil)))
noncomputable def m_row : Fn := fnM false 4 b_row
noncomputable def b_made : SM := (sRet (eCallN 6 (makeM true "Filter" m_p_Filter_init) [] (lCons (eBin vIx (eVar 0) (eC (.int 0))) (lCons (eBin vIx (eVar 0) (eC (.int 1))) (lCons (eBin vIx (eVar 0) (eC (.int 2))) (lCons (eBin vIx (eVar 0) (eC (.int 3))) (lCons (eBin vIx (eVar 0) (eC (.int 4))) (lCons (eBin vIx (eVar 0) (eC (.int 5))) lNil))))))))
noncomputable def m_made : Fn := fnM false 1 b_made
noncomputable def b_put : SM := (sSeq (sIf (bVal (eBin vIx (eVar 0) (eC (.int 5)))) (sRet (eBin vSub (eBin vMod (eBin vAdd (eVar 1) (eBin vIx (eVar 0) (eC (.int 3)))) (eBin vAdd (eBin vMul (eC (.int 2)) (eBin vIx (eVar 0) (eC (.int 3)))) (eC (.int 1)))) (eBin vIx (eVar 0) (eC (.int 3))))) sNil)
    (sRet (eCB vMin (lCons (eBin vIx (eVar 0) (eC (.int 3))) (lCons (eCB vMax (lCons (eBin vSub (eC (.int 0)) (eBin vIx (eVar 0) (eC (.int 3)))) (lCons (eVar 1) lNil))) lNil)))))
noncomputable def m_put : Fn := fnM false 2 b_put
noncomputable def b_rounded : SM := (sSeq (sSet 3 (eBin vDiv (eVar 0) (eVar 1)))
    (sSeq (sIf (bOr (bVal (eBin vEq (eVar 2) (eC (.str "down")))) (bVal (eBin vEq (eBin vMul (eVar 3) (eVar 1)) (eVar 0)))) (sRet (eVar 3)) sNil)
    (sSeq (sIf (bVal (eBin vEq (eVar 2) (eC (.str "cut")))) (sRet (eIf (bVal (eBin vGt (eVar 0) (eC (.int 0)))) (eVar 3) (eBin vAdd (eVar 3) (eC (.int 1))))) sNil)
    (sSeq (sSet 4 (eBin vMul (eC (.int 2)) (eBin vSub (eVar 0) (eBin vMul (eVar 3) (eVar 1)))))
    (sRet (eBin vAdd (eVar 3) (eCB vInt (lCons (eOr (eBin vGt (eVar 4) (eVar 1)) (eAnd (eBin vEq (eVar 4) (eVar 1)) (eBin vGt (eVar 0) (eC (.int 0))))) lNil))))))))
noncomputable def m_rounded : Fn := fnM false 5 b_rounded
noncomputable def c_step_1 : LM := lComp [5, 6] (iZip (eBin vIx (eVar 0) (eC (.int 0))) (eVar 1)) (gTp 2 (gsCons (gNm 5) (gsCons (gNm 6) gsNil))) bYes (eBin vMul (eVar 5) (eVar 6))
noncomputable def c_step_2 : LM := lComp [5] (iVal (eVar 3)) (gNm 5) bYes (eCallN 3 m_rounded [] (lCons (eVar 5) (lCons (eBin vIx (eVar 0) (eC (.int 1))) (lCons (eBin vIx (eVar 0) (eC (.int 2))) lNil))))
noncomputable def b_step : SM := (sSeq (sSet 3 (eNew c_step_1))
    (sSeq (sIf (bNot (bVal (eBin vIx (eVar 0) (eC (.int 4))))) (sSet 3 (eLst (lCons (eCB vSum (lCons (eVar 3) lNil)) lNil))) sNil)
    (sSeq (sSet 4 (eCallN 2 m_put [] (lCons (eVar 0) (lCons (eBin vAdd (eCB vSum (lCons (eNew c_step_2) lNil)) (eVar 2)) lNil))))
    (sRet (eBin vAdd (eTup (lCons (eVar 4) lNil)) (eSl (eVar 1) oNone (oSome (eUn vNeg (eC (.int 1))))))))))
noncomputable def m_step : Fn := fnM false 7 b_step
noncomputable def w_right_k40_1 : SM := (sSeq (sSet 4 (eCallN 3 m_step [] (lCons (eVar 0) (lCons (eVar 4) (lCons (eVar 6) lNil)))))
    (sExpr (eMt "list" vAppend (eVar 3) (lCons (eBin vIx (eVar 4) (eC (.int 0))) lNil))))
noncomputable def l_right_k40_1 : SM := sFor (iVal (eVar 2)) (gNm 6) w_right_k40_1
noncomputable def b_right_k40 : SM := (sSeq (sPar3 3 4 5 (lCons (eCell (lDis lNil)) (lCons (eVar 1) (lCons (eCallN 1 m_made [] (lCons (eVar 0) lNil)) lNil))))
    (sSeq l_right_k40_1
    (sSeq (sSet 7 (eCB vRepr (lCons (eTup (lCons (eVar 1) (lCons (eVar 2) lNil))) lNil)))
    (sSeq (sSet 8 (eLst (lCons (eCallN 3 m_p_follow [] (lCons (eVar 5) (lCons (eVar 1) (lCons (eVar 2) lNil)))) (lCons (eCallN 3 m_p_follow [] (lCons (eVar 5) (lCons (eVar 1) (lCons (eVar 2) lNil)))) lNil))))
    (sRet (eAnd (eCallN 2 m_same [] (lCons (eVar 8) (lCons (eBin vMul (eLst (lCons (eCB vTuple (lCons (eVar 3) lNil)) lNil)) (eC (.int 2))) lNil))) (eBin vEq (eCB vRepr (lCons (eTup (lCons (eVar 1) (lCons (eVar 2) lNil))) lNil)) (eVar 7))))))))
noncomputable def m_right_k40 : Fn := fnM false 9 b_right_k40
noncomputable def c_some_1 : LM := lComp [2] (iVal (eBin vIx (eVar 1) (eC (.int 0)))) (gNm 2) bYes (eBin vSub (eCallN 2 m_draw_k40 [] (lCons (eVar 0) (lCons (eBin vAdd (eBin vMul (eC (.int 2)) (eBin vIx (eVar 1) (eC (.int 3)))) (eC (.int 1))) lNil))) (eBin vIx (eVar 1) (eC (.int 3))))
noncomputable def b_some : SM := (sRet (eCB vTuple (lCons (eNew c_some_1) lNil)))
noncomputable def m_some : Fn := fnM false 3 b_some
noncomputable def c_law_k40_1 : LM := lComp [7] (iVal (eTup (lCons (eC (.int 1)) (lCons (eC (.int 3)) (lCons (eC (.int 60)) (lCons (eC (.int 1000)) lNil)))))) (gNm 7) bYes (eCallN 3 m_row [] (lCons (eVar 2) (lCons (eVar 7) (lCons (eC (.int 30)) lNil))))
noncomputable def w_law_k40_1 : SM := (sIf (bNot (bVal (eCallN 3 m_right_k40 [] (lCons (eVar 4) (lCons (eCallN 2 m_some [] (lCons (eVar 2) (lCons (eVar 4) lNil))) (lCons (eVar 6) lNil)))))) (sRet (eC (.bl false))) sNil)
noncomputable def l_law_k40_1 : SM := sFor (iVal (eBin vAdd (eVar 5) (eNew c_law_k40_1))) (gNm 6) w_law_k40_1
noncomputable def w_law_k40_2 : SM := (sSeq (sSet 4 (eCallN 2 m_sort [] (lCons (eVar 2) (lCons (eC (.int 2500)) lNil))))
    (sSeq (sSet 5 (eLst (lCons (eTup lNil) (lCons (eBin vMul (eTup (lCons (eC (.int 0)) lNil)) (eC (.int 200))) (lCons (eTup (lCons (eC (.int 1000)) lNil)) (lCons (eBin vMul (eTup (lCons (eUn vNeg (eC (.int 1000))) (lCons (eC (.int 1000)) lNil))) (eC (.int 4))) (lCons (eTupRg (eUn vNeg (eC (.int 100))) (eC (.int 100))) lNil)))))))
    l_law_k40_1))
noncomputable def l_law_k40_2 : SM := sFor (iRange1 (eC (.int 6))) (gNm 3) w_law_k40_2
noncomputable def w_law_k40_3 : SM := (sSeq (sSet 2 (eCallN 1 m_pen [] (lCons (eCallN 2 m_cell [] (lCons (eVar 0) (lCons (eVar 1) lNil))) lNil)))
    l_law_k40_2)
noncomputable def l_law_k40_3 : SM := sFor (iRange1 (eCB vMax (lCons (eC (.int 1)) (lCons (eCB vMin (lCons (eCB vLen (lCons (eVar 0) lNil)) (lCons (eC (.int 3)) lNil))) lNil)))) (gNm 1) w_law_k40_3
noncomputable def b_law_k40 : SM := (sSeq l_law_k40_3
    (sRet (eC (.bl true))))
noncomputable def m_law_k40 : Fn := fnM false 8 b_law_k40
end Hl

set_option Elab.async false
set_option linter.all false
set_option maxRecDepth 100000
set_option maxHeartbeats 4000000
namespace Hl
open PySem L2 Dn
noncomputable def c_lowest_1 : LM := lComp [3] (iRange2 (eC (.int 1)) (eBin vAdd (eVar 1) (eC (.int 1)))) (gNm 3) (bAnd (bVal (eBin vEq (eBin vMod (eVar 1) (eVar 3)) (eC (.int 0)))) (bVal (eBin vEq (eBin vMod (eVar 0) (eVar 3)) (eC (.int 0))))) (eVar 3)
noncomputable def b_lowest : SM := (sSeq (sSet 2 (eBin vIx (eNew c_lowest_1) (eUn vNeg (eC (.int 1)))))
    (sRet (eTup (lCons (eBin vDiv (eVar 0) (eVar 2)) (lCons (eBin vDiv (eVar 1) (eVar 2)) lNil)))))
noncomputable def m_lowest : Fn := fnM false 4 b_lowest
noncomputable def c_error_1 : LM := lComp [2] (iVal (eBin vIx (eVar 0) (eC (.int 0)))) (gNm 2) (bVal (eBin vNe (eVar 2) (eC (.int 0)))) (eC (.int 1))
noncomputable def b_error : SM := (sSeq (sSet 1 (eCB vLen (lCons (eNew c_error_1) lNil)))
    (sSeq (sSet 1 (eIf (bVal (eBin vIx (eVar 0) (eC (.int 4)))) (eVar 1) (eCB vMin (lCons (eC (.int 1)) (lCons (eVar 1) lNil)))))
    (sRet (eBin vMul (eVar 1) (eIf (bVal (eBin vEq (eBin vIx (eVar 0) (eC (.int 2))) (eC (.str "near")))) (eBin vDiv (eBin vIx (eVar 0) (eC (.int 1))) (eC (.int 2))) (eBin vSub (eBin vIx (eVar 0) (eC (.int 1))) (eC (.int 1))))))))
noncomputable def m_error : Fn := fnM false 3 b_error
noncomputable def b_word : SM := (sSeq (sSet 1 (eCell (lDis (lCons (eCB vIsiU (lCons (eVar 0) (lCons (eC (.cls "NoTops")) lNil))) (lCons (eCB vIsiU (lCons (eVar 0) (lCons (eC (.cls "NoBottom")) lNil))) (lCons (eCB vIsiU (lCons (eVar 0) (lCons (eC (.cls "NoRounding")) lNil))) (lCons (eCB vIsiU (lCons (eVar 0) (lCons (eC (.cls "NoHigh")) lNil))) lNil)))))))
    (sSeq (sSet 1 (eCell (lCat (eVar 1) (eLst (lCons (eCB vIsiU (lCons (eVar 0) (lCons (eC (.cls "NoFlag")) lNil))) (lCons (eCB vIsiU (lCons (eVar 0) (lCons (eC (.cls "NoRoom")) lNil))) (lCons (eCB vIsiU (lCons (eVar 0) (lCons (eC (.cls "NoFilter")) lNil))) (lCons (eCB vIsiU (lCons (eVar 0) (lCons (eC (.cls "NoState")) lNil))) lNil))))))))
    (sSeq (sSet 1 (eCell (lCat (eVar 1) (eLst (lCons (eCB vIsiU (lCons (eVar 0) (lCons (eC (.cls "NoInput")) lNil))) (lCons (eCB vIsiU (lCons (eVar 0) (lCons (eC (.cls "NoSteps")) lNil))) (lCons (eCB vIsiU (lCons (eVar 0) (lCons (eC (.cls "NoRing")) lNil))) (lCons (eCB vIsiU (lCons (eVar 0) (lCons (eC (.cls "NoNumbers")) lNil))) lNil))))))))
    (sSeq (sSet 1 (eCell (lCat (eVar 1) (eLst (lCons (eCB vIsiU (lCons (eVar 0) (lCons (eC (.cls "NoSize")) lNil))) (lCons (eCB vIsiU (lCons (eVar 0) (lCons (eC (.cls "NoRow")) lNil))) (lCons (eCB vIsiU (lCons (eVar 0) (lCons (eC (.cls "NoSpan")) lNil))) (lCons (eCB vIsiU (lCons (eVar 0) (lCons (eC (.cls "NoOrder")) lNil))) lNil))))))))
    (sSeq (sSet 1 (eCell (lCat (eVar 1) (eLst (lCons (eCB vIsiU (lCons (eVar 0) (lCons (eC (.cls "NoText")) lNil))) (lCons (eCB vIsiU (lCons (eVar 0) (lCons (eC (.cls "NotTame")) lNil))) (lCons (eCB vIsiU (lCons (eVar 0) (lCons (eC (.cls "NotEven")) lNil))) (lCons (eCB vIsiU (lCons (eVar 0) (lCons (eC (.cls "TooLarge")) lNil))) lNil))))))))
    (sSeq (sSet 1 (eCell (lCat (eVar 1) (eLst (lCons (eCB vIsiU (lCons (eVar 0) (lCons (eC (.cls "NoPlace")) lNil))) (lCons (eCB vIsiU (lCons (eVar 0) (lCons (eC (.cls "Spilled")) lNil))) (lCons (eCB vIsiU (lCons (eVar 0) (lCons (eC (.cls "TooMany")) lNil))) lNil)))))))
    (sSeq (sExpr (eMt "list" vAppend (eVar 1) (lCons (eCB vIsiU (lCons (eVar 0) (lCons (eC (.cls "NothingDone")) lNil))) lNil)))
    (sSeq (sSet 2 (eLst (lCons (eC (.str "NoTops")) (lCons (eC (.str "NoBottom")) (lCons (eC (.str "NoRounding")) (lCons (eC (.str "NoHigh")) (lCons (eC (.str "NoFlag")) (lCons (eC (.str "NoRoom")) (lCons (eC (.str "NoFilter")) (lCons (eC (.str "NoState")) (lCons (eC (.str "NoInput")) lNil)))))))))))
    (sSeq (sSet 2 (eBin vAdd (eVar 2) (eLst (lCons (eC (.str "NoSteps")) (lCons (eC (.str "NoRing")) (lCons (eC (.str "NoNumbers")) (lCons (eC (.str "NoSize")) (lCons (eC (.str "NoRow")) (lCons (eC (.str "NoSpan")) (lCons (eC (.str "NoOrder")) (lCons (eC (.str "NoText")) (lCons (eC (.str "NotTame")) lNil))))))))))))
    (sSeq (sSet 2 (eBin vAdd (eVar 2) (eLst (lCons (eC (.str "NotEven")) (lCons (eC (.str "TooLarge")) (lCons (eC (.str "NoPlace")) (lCons (eC (.str "Spilled")) (lCons (eC (.str "TooMany")) (lCons (eC (.str "NothingDone")) lNil)))))))))
    (sSeq (sIf (bOr (bVal (eBin vNe (eMt "list" vCount (eVar 1) (lCons (eC (.bl true)) lNil)) (eC (.int 1)))) (bNot (bVal (eCB vIsiU (lCons (eVar 0) (lCons (eC (.ty "ValueError")) lNil)))))) (sRet (eC (.str "other"))) sNil)
    (sRet (eBin vIx (eVar 2) (eMt "list" vIndex (eVar 1) (lCons (eC (.bl true)) lNil)))))))))))))))
noncomputable def m_word : Fn := fnM false 3 b_word
noncomputable def su_said : SM := (sRet (eBin vAdd (eC (.str "! ")) (eCallN 1 m_word [] (lCons (eVar 1) lNil))))
noncomputable def c_right_k60_1 : LM := lComp [6] (iVal (eBin vIx (eVar 0) (eC (.int 0)))) (gNm 6) bYes (eCB vAbs (lCons (eVar 6) lNil))
noncomputable def w_right_k60_1 : SM := (sSeq (sIf (bNot (bVal (eCallN 2 m_same [] (lCons (eLst (lCons (eCallN 1 m_p_gain [] (lCons (eVar 1) lNil)) (lCons (eCallN 1 m_p_error [] (lCons (eVar 1) lNil)) (lCons (eCallN 1 m_p_is_tame [] (lCons (eVar 1) lNil)) lNil)))) (lCons (eVar 3) lNil))))) (sRet (eC (.bl false))) sNil)
    (sSeq (sSet 5 (eSaid vRepr su_said (eCallN 1 m_p_bound [] (lCons (eVar 1) lNil))))
    (sSeq (sIf (bAnd (bVal (eBin vGe (eVar 2) (eBin vIx (eVar 0) (eC (.int 1))))) (bVal (eBin vNe (eVar 5) (eC (.str "! NotTame"))))) (sRet (eC (.bl false))) sNil)
    (sIf (bAnd (bVal (eBin vLt (eVar 2) (eBin vIx (eVar 0) (eC (.int 1))))) (bVal (eBin vNe (eVar 5) (eCB vStr (lCons (eBin vDiv (eCallN 1 m_error [] (lCons (eVar 0) lNil)) (eBin vSub (eBin vIx (eVar 0) (eC (.int 1))) (eVar 2))) lNil))))) (sRet (eC (.bl false))) sNil))))
noncomputable def l_right_k60_1 : SM := sFor (iRange1 (eC (.int 2))) (gNm 4) w_right_k60_1
noncomputable def b_right_k60 : SM := (sSeq (sAsg (gTp 2 (gsCons (gNm 1) (gsCons (gNm 2) gsNil))) (eTup (lCons (eCallN 1 m_made [] (lCons (eVar 0) lNil)) (lCons (eCB vSum (lCons (eNew c_right_k60_1) lNil)) lNil))))
    (sSeq (sSet 3 (eLst (lCons (eCallN 2 m_lowest [] (lCons (eVar 2) (lCons (eBin vIx (eVar 0) (eC (.int 1))) lNil))) (lCons (eCallN 2 m_lowest [] (lCons (eCallN 1 m_error [] (lCons (eVar 0) lNil)) (lCons (eBin vIx (eVar 0) (eC (.int 1))) lNil))) (lCons (eBin vLt (eVar 2) (eBin vIx (eVar 0) (eC (.int 1)))) lNil)))))
    (sSeq l_right_k60_1
    (sRet (eC (.bl true))))))
noncomputable def m_right_k60 : Fn := fnM false 7 b_right_k60
noncomputable def c_parts_k60_1 : LM := lComp [7] (iRange1 (eVar 1)) (gNm 7) bYes (eBin vSub (eCallN 2 m_draw [] (lCons (eVar 0) (lCons (eBin vAdd (eBin vMul (eC (.int 2)) (eVar 3)) (eC (.int 1))) lNil))) (eVar 3))
noncomputable def b_parts_k60 : SM := (sSeq (sPar 1 2 (lCons (eBin vIx (eLst (lCons (eC (.int 1)) (lCons (eC (.int 2)) (lCons (eC (.int 2)) (lCons (eC (.int 1)) (lCons (eC (.int 3)) lNil)))))) (eCallN 2 m_draw [] (lCons (eVar 0) (lCons (eC (.int 5)) lNil)))) (lCons (eBin vAdd (eC (.int 1)) (eCallN 2 m_draw [] (lCons (eVar 0) (lCons (eC (.int 16)) lNil)))) lNil)))
    (sSeq (sSet 3 (eBin vIx (eLst (lCons (eVar 2) (lCons (eC (.int 32)) (lCons (eBin vAdd (eVar 2) (eC (.int 1))) lNil)))) (eCallN 2 m_draw [] (lCons (eVar 0) (lCons (eC (.int 3)) lNil)))))
    (sSeq (sSet 4 (eCB vTuple (lCons (eNew c_parts_k60_1) lNil)))
    (sSeq (sSet 5 (eBin vAdd (eC (.int 1)) (eCallN 2 m_draw [] (lCons (eVar 0) (lCons (eBin vIx (eLst (lCons (eC (.int 12)) (lCons (eC (.int 5)) (lCons (eC (.int 2)) lNil)))) (eBin vSub (eVar 1) (eC (.int 1)))) lNil)))))
    (sSeq (sSet 6 (eBin vIx (eLst (lCons (eC (.str "near")) (lCons (eC (.str "cut")) (lCons (eC (.str "down")) (lCons (eC (.str "near")) lNil))))) (eCallN 2 m_draw [] (lCons (eVar 0) (lCons (eC (.int 4)) lNil)))))
    (sRet (eTup (lCons (eVar 4) (lCons (eVar 2) (lCons (eVar 6) (lCons (eVar 5) (lCons (eBin vGt (eCallN 2 m_draw [] (lCons (eVar 0) (lCons (eC (.int 3)) lNil))) (eC (.int 0))) (lCons (eBin vEq (eCallN 2 m_draw [] (lCons (eVar 0) (lCons (eC (.int 3)) lNil))) (eC (.int 0))) lNil)))))))))))))
noncomputable def m_parts_k60 : Fn := fnM false 8 b_parts_k60
noncomputable def w_tame_1 : SM := (sSeq (sSet 10 (eBin vSub (eVar 8) (eCallN 2 m_draw [] (lCons (eVar 0) (lCons (eBin vAdd (eVar 8) (eC (.int 1))) lNil)))))
    (sSeq (sSet 8 (eBin vSub (eVar 8) (eVar 10)))
    (sExpr (eMt "list" vAppend (eVar 7) (lCons (eIf (bVal (eBin vGt (eVar 9) (eC (.int 0)))) (eVar 10) (eUn vNeg (eVar 10))) lNil)))))
noncomputable def l_tame_1 : SM := sFor (iVal (eVar 1)) (gNm 9) w_tame_1
noncomputable def b_tame : SM := (sSeq (sAsg (gTp 6 (gsCons (gNm 1) (gsCons (gNm 2) (gsCons (gNm 3) (gsCons (gNm 4) (gsCons (gNm 5) (gsCons (gNm 6) gsNil))))))) (eCallN 1 m_parts_k60 [] (lCons (eVar 0) lNil)))
    (sSeq (sPar 2 7 (lCons (eCB vMax (lCons (eC (.int 2)) (lCons (eVar 2) lNil))) (lCons (eCell (lDis lNil)) lNil)))
    (sSeq (sSet 8 (eBin vSub (eVar 2) (eC (.int 1))))
    (sSeq l_tame_1
    (sRet (eTup (lCons (eCB vTuple (lCons (eVar 7) lNil)) (lCons (eVar 2) (lCons (eVar 3) (lCons (eVar 4) (lCons (eVar 5) (lCons (eVar 6) lNil))))))))))))
noncomputable def m_tame : Fn := fnM false 11 b_tame
noncomputable def w_law_k60_1 : SM := (sIf (bOr (bNot (bVal (eCallN 1 m_right_k60 [] (lCons (eCallN 1 m_parts_k60 [] (lCons (eVar 2) lNil)) lNil)))) (bNot (bVal (eCallN 1 m_right_k60 [] (lCons (eCallN 1 m_tame [] (lCons (eVar 2) lNil)) lNil))))) (sRet (eC (.bl false))) sNil)
noncomputable def l_law_k60_1 : SM := sFor (iRange1 (eC (.int 6))) (gNm 3) w_law_k60_1
noncomputable def w_law_k60_2 : SM := (sSeq (sSet 2 (eCallN 1 m_pen [] (lCons (eCallN 2 m_cell [] (lCons (eVar 0) (lCons (eVar 1) lNil))) lNil)))
    l_law_k60_1)
noncomputable def l_law_k60_2 : SM := sFor (iRange1 (eCB vMax (lCons (eC (.int 1)) (lCons (eCB vMin (lCons (eCB vLen (lCons (eVar 0) lNil)) (lCons (eC (.int 3)) lNil))) lNil)))) (gNm 1) w_law_k60_2
noncomputable def b_law_k60 : SM := (sSeq l_law_k60_2
    (sRet (eC (.bl true))))
noncomputable def m_law_k60 : Fn := fnM false 4 b_law_k60
end Hl

set_option Elab.async false
set_option linter.all false
set_option maxRecDepth 100000
set_option maxHeartbeats 4000000
namespace Hl
open PySem L2 Dn
noncomputable def b_odds : SM := (sSeq (sSet 0 (eLst (lCons (eC .non) (lCons (eC (.bl true)) (lCons (eC (.bl false)) (lCons (eUn vNeg (eC (.int 1))) (lCons (eC (.int 0)) (lCons (eC (.int 1)) (lCons (eBin vPow (eC (.int 10)) (eC (.int 12))) (lCons (eC (.str "")) (lCons (eC (.str "0")) (lCons (eC (.str "near")) (lCons (eTup lNil) (lCons (eLst lNil) (lCons eDk0 (lCons (eTup (lCons (eC (.int 0)) lNil)) (lCons (eLst (lCons (eC (.int 0)) lNil)) (lCons (eTup (lCons (eC (.bl true)) lNil)) (lCons (eTup (lCons (eC .non) lNil)) (lCons (eTup (lCons (eTup (lCons (eC (.int 0)) lNil)) lNil)) lNil))))))))))))))))))))
    (sRet (eBin vAdd (eVar 0) (eLst (lCons (eTup (lCons (eC (.int 0)) (lCons (eC (.str "0")) lNil))) (lCons (eTup (lCons (eC (.int 0)) (lCons (eC (.int 0)) (lCons (eC (.int 0)) (lCons (eC (.int 0)) lNil))))) (lCons (eDks (.inl 0 :: []) (lEs ((eC (.int 0)) :: []))) (lCons (eTup (lCons (eC (.str "0")) lNil)) (lCons (eTup (lCons (eBin vPow (eC (.int 10)) (eC (.int 12))) lNil)) (lCons (eTup (lCons (eC (.int 0)) (lCons (eC .non) lNil))) (lCons (eLst (lCons (eTup (lCons (eC (.int 0)) lNil)) lNil)) lNil)))))))))))
noncomputable def m_odds : Fn := fnM false 1 b_odds
noncomputable def c_p_turned_1 : LM := lComp [1, 2] (iEnT' (eVar 0)) (gTp 2 (gsCons (gNm 1) (gsCons (gNm 2) gsNil))) bYes (eIf (bVal (eBin vEq (eBin vMod (eVar 1) (eC (.int 2))) (eC (.int 0)))) (eVar 2) (eUn vNeg (eVar 2)))
noncomputable def b_p_turned : SM := (sSeq (sExpr (eCallN 1 m_p_need_integers [] (lCons (eVar 0) lNil)))
    (sRet (eCB vTuple (lCons (eNew c_p_turned_1) lNil))))
noncomputable def m_p_turned : Fn := fnM false 3 b_p_turned
noncomputable def c_are_1 : LM := lComp [1] (iVal (eVar 0)) (gNm 1) (bOr (bNot (bVal (eCB vIsiU (lCons (eVar 1) (lCons (eC (.ty "int")) lNil))))) (bVal (eCB vIsiU (lCons (eVar 1) (lCons (eC (.ty "bool")) lNil))))) (eC (.int 1))
noncomputable def b_are : SM := (sSeq (sIf (bNot (bVal (eCB vIsiU (lCons (eVar 0) (lCons (eC (.ty "tuple")) lNil))))) (sRet (eC (.bl false))) sNil)
    (sRet (eBin vEq (eNew c_are_1) (eLst lNil))))
noncomputable def m_are : Fn := fnM false 2 b_are
noncomputable def c_right_k65_1 : LM := lComp [4, 5] (iEnT' (eVar 0)) (gTp 2 (gsCons (gNm 4) (gsCons (gNm 5) gsNil))) bYes (eIf (bVal (eBin vEq (eBin vMod (eVar 4) (eC (.int 2))) (eC (.int 1)))) (eUn vNeg (eVar 5)) (eVar 5))
noncomputable def c_right_k65_2 : LM := lComp [5] (iVal (eVar 0)) (gNm 5) bYes (eBin vSub (eC (.int 0)) (eVar 5))
noncomputable def b_right_k65 : SM := (sSeq (sSet 1 (eCB vRepr (lCons (eVar 0) lNil)))
    (sSeq (sSet 2 (eCell (lDis (lCons (eSaid vRepr su_said (eCallN 1 m_p_negative [] (lCons (eVar 0) lNil))) lNil))))
    (sSeq (sExpr (eMt "list" vAppend (eVar 2) (lCons (eSaid vRepr su_said (eCallN 1 m_p_turned [] (lCons (eVar 0) lNil))) lNil)))
    (sSeq (sIf (bVal (eBin vNe (eCB vRepr (lCons (eVar 0) lNil)) (eVar 1))) (sRet (eC (.bl false))) sNil)
    (sSeq (sIf (bNot (bVal (eCallN 1 m_are [] (lCons (eVar 0) lNil)))) (sRet (eBin vEq (eVar 2) (eBin vMul (eLst (lCons (eC (.str "! NoState")) lNil)) (eC (.int 2))))) sNil)
    (sSeq (sSet 3 (eCB vTuple (lCons (eNew c_right_k65_1) lNil)))
    (sSeq (sIf (bVal (eBin vNe (eVar 2) (eLst (lCons (eCB vRepr (lCons (eCB vTuple (lCons (eNew c_right_k65_2) lNil)) lNil)) (lCons (eCB vRepr (lCons (eVar 3) lNil)) lNil))))) (sRet (eC (.bl false))) sNil)
    (sRet (eBin vEq (eCB vRepr (lCons (eLst (lCons (eCallN 1 m_p_negative [] (lCons (eCallN 1 m_p_negative [] (lCons (eVar 0) lNil)) lNil)) (lCons (eCallN 1 m_p_turned [] (lCons (eCallN 1 m_p_turned [] (lCons (eVar 0) lNil)) lNil)) lNil))) lNil)) (eCB vRepr (lCons (eLst (lCons (eVar 0) (lCons (eVar 0) lNil))) lNil)))))))))))
noncomputable def m_right_k65 : Fn := fnM false 6 b_right_k65
noncomputable def w_law_k65_1 : SM := (sIf (bNot (bVal (eCallN 1 m_right_k65 [] (lCons (eVar 1) lNil)))) (sRet (eC (.bl false))) sNil)
noncomputable def l_law_k65_1 : SM := sFor (iVal (eCallN 0 m_odds [] lNil)) (gNm 1) w_law_k65_1
noncomputable def c_law_k65_1 : LM := lComp [7] (iRange1 (eCallN 2 m_draw [] (lCons (eVar 3) (lCons (eC (.int 10)) lNil)))) (gNm 7) bYes (eBin vSub (eCallN 2 m_draw [] (lCons (eVar 3) (lCons (eBin vAdd (eBin vMul (eC (.int 2)) (eVar 5)) (eC (.int 1))) lNil))) (eVar 5))
noncomputable def w_law_k65_2 : SM := (sSeq (sSet 5 (eBin vIx (eLst (lCons (eC (.int 3)) (lCons (eC (.int 60)) (lCons (eBin vPow (eC (.int 10)) (eC (.int 12))) lNil)))) (eBin vMod (eVar 4) (eC (.int 3)))))
    (sSeq (sSet 1 (eCB vTuple (lCons (eNew c_law_k65_1) lNil)))
    (sSeq (sSet 6 (eCallN 2 m_draw [] (lCons (eVar 3) (lCons (eBin vAdd (eCB vLen (lCons (eVar 1) lNil)) (eC (.int 1))) lNil))))
    (sSeq (sIf (bOr (bNot (bVal (eCallN 1 m_right_k65 [] (lCons (eVar 1) lNil)))) (bNot (bVal (eCallN 1 m_right_k65 [] (lCons (eCB vList (lCons (eVar 1) lNil)) lNil))))) (sRet (eC (.bl false))) sNil)
    (sIf (bNot (bVal (eCallN 1 m_right_k65 [] (lCons (eBin vAdd (eBin vAdd (eSl (eVar 1) oNone (oSome (eVar 6))) (eTup (lCons (eCallN 2 m_pick [] (lCons (eVar 3) (lCons (eLst (lCons (eC .non) (lCons (eC (.bl true)) (lCons (eC (.bl false)) (lCons (eC (.str "0")) (lCons (eTup (lCons (eC (.int 0)) lNil)) lNil)))))) lNil))) lNil))) (eSl (eVar 1) (oSome (eVar 6)) oNone)) lNil)))) (sRet (eC (.bl false))) sNil)))))
noncomputable def l_law_k65_2 : SM := sFor (iRange1 (eC (.int 12))) (gNm 4) w_law_k65_2
noncomputable def w_law_k65_3 : SM := (sSeq (sSet 3 (eCallN 1 m_pen [] (lCons (eCallN 2 m_cell [] (lCons (eVar 0) (lCons (eVar 2) lNil))) lNil)))
    l_law_k65_2)
noncomputable def l_law_k65_3 : SM := sFor (iRange1 (eCB vMax (lCons (eC (.int 1)) (lCons (eCB vMin (lCons (eCB vLen (lCons (eVar 0) lNil)) (lCons (eC (.int 3)) lNil))) lNil)))) (gNm 2) w_law_k65_3
noncomputable def b_law_k65 : SM := (sSeq l_law_k65_1
    (sSeq l_law_k65_3
    (sRet (eC (.bl true)))))
noncomputable def m_law_k65 : Fn := fnM false 8 b_law_k65
end Hl

set_option Elab.async false
set_option linter.all false
set_option maxRecDepth 100000
set_option maxHeartbeats 4000000
namespace K65
open PySem PySem.Spec PyProof.Rows L2 Dn Hl
section
variable {P : Program} {w : World} {K : PySem.W.Frag} {mg : Str → Option Value} {base : Heap}
theorem sc_odds : FnScope ["_law_some"] [] d_odds.scope := ⟨rfl, rfl, rfl, by decide +kernel, rfl, by decide +kernel, by decide +kernel⟩
theorem g_odds (B : Bas fs ds K mg base) : FnG P w K mg base 1 (Pl.ad K (.glo "_law_odds")) (fdAt K (Pl.ad K (.glo "_law_odds"))) [] m_odds :=
  fn_ok (B.c.def_ 0 (d := d_odds)) sc_odds (fun cdv A outer s H E hr => (DSs.cons (DS.set (i := 0) sc_odds.nd rfl (.inl (by kernel_rfl)) (De.lst (DA.cons De.non (DA.cons De.bl (DA.cons De.bl (DA.cons (De.un du_neg De.int) (DA.cons De.int (DA.cons De.int (DA.cons (De.bin dop_pow De.int De.int) (DA.cons De.str (DA.cons De.str (DA.cons De.str (DA.cons (De.tup DA.nil) (DA.cons (De.lst DA.nil) (DA.cons De.dk0 (DA.cons (De.tup (DA.cons De.int DA.nil)) (DA.cons (De.lst (DA.cons De.int DA.nil)) (DA.cons (De.tup (DA.cons De.bl DA.nil)) (DA.cons (De.tup (DA.cons De.non DA.nil)) (DA.cons (De.tup (DA.cons (De.tup (DA.cons De.int DA.nil)) DA.nil)) DA.nil))))))))))))))))))))
    (DSs.one (DS.ret (De.bin dop_add (De.var (i := 0) rfl (.inl (by kernel_rfl))) (De.lst (DA.cons (De.tup (DA.cons De.int (DA.cons De.str DA.nil))) (DA.cons (De.tup (DA.cons De.int (DA.cons De.int (DA.cons De.int (DA.cons De.int DA.nil))))) (DA.cons (De.dks (.int .nil) (.cons De.int .nil) rfl (by simp) (by decide)) (DA.cons (De.tup (DA.cons De.str DA.nil)) (DA.cons (De.tup (DA.cons (De.bin dop_pow De.int De.int) DA.nil)) (DA.cons (De.tup (DA.cons De.int (DA.cons De.non DA.nil))) (DA.cons (De.lst (DA.cons (De.tup (DA.cons De.int DA.nil)) DA.nil)) DA.nil)))))))))))))
theorem x_odds (B : Bas fs ds K mg base) : Fx P w K mg base 1 "_law_odds" 0 [] m_odds := ⟨Pl.ad K (.glo "_law_odds"), _, _, [], B.glo 42, B.kp 0 (d := d_odds) rfl, g_odds B, B.binds 0 (d := d_odds) rfl rfl (fun _ _ _ _ _ _ us hl => match us, hl with | [], _ => by kernel_rfl), .nil, rfl, rfl⟩
theorem sc_word : FnScope ["_law_e", "_law_marks", "_law_names"] ["_law_e"] d_word.scope := ⟨rfl, rfl, rfl, by decide +kernel, rfl, by decide +kernel, by decide +kernel⟩
theorem g_word (B : Bas fs ds K mg base) : FnGh P w K mg base 1 (Pl.ad K (.glo "_law_word")) (fdAt K (Pl.ad K (.glo "_law_word"))) ["_law_e"] m_word :=
  fn_okh (B.c.def_ 1 (d := d_word)) sc_word (fun cdv A outer s H E hr => (DSs.cons (DS.set (i := 1) sc_word.nd rfl (.inl (by kernel_rfl)) (De.cell (DF.lst (DA.cons (De.callB (dc_isiU (isiU_ok B.k B.g (B.c.fact 3)) (B.isx 4 rfl rfl rfl)) (gl (by kernel_rfl)) (B.free 5) (by kernel_rfl) (DA.cons (De.var (i := 0) rfl (.inl (by kernel_rfl))) (DA.cons (De.gCls (gl (by kernel_rfl)) (B.glo 2)) DA.nil))) (DA.cons (De.callB (dc_isiU (isiU_ok B.k B.g (B.c.fact 3)) (B.isx 4 rfl rfl rfl)) (gl (by kernel_rfl)) (B.free 5) (by kernel_rfl) (DA.cons (De.var (i := 0) rfl (.inl (by kernel_rfl))) (DA.cons (De.gCls (gl (by kernel_rfl)) (B.glo 6)) DA.nil))) (DA.cons (De.callB (dc_isiU (isiU_ok B.k B.g (B.c.fact 3)) (B.isx 4 rfl rfl rfl)) (gl (by kernel_rfl)) (B.free 5) (by kernel_rfl) (DA.cons (De.var (i := 0) rfl (.inl (by kernel_rfl))) (DA.cons (De.gCls (gl (by kernel_rfl)) (B.glo 7)) DA.nil))) (DA.cons (De.callB (dc_isiU (isiU_ok B.k B.g (B.c.fact 3)) (B.isx 4 rfl rfl rfl)) (gl (by kernel_rfl)) (B.free 5) (by kernel_rfl) (DA.cons (De.var (i := 0) rfl (.inl (by kernel_rfl))) (DA.cons (De.gCls (gl (by kernel_rfl)) (B.glo 8)) DA.nil))) DA.nil)))))))
    (DSs.cons (DS.set (i := 1) sc_word.nd rfl (.inl (by kernel_rfl)) (De.cell (DF.cat (De.var (i := 1) rfl (.inl (by kernel_rfl))) (De.lst (DA.cons (De.callB (dc_isiU (isiU_ok B.k B.g (B.c.fact 3)) (B.isx 4 rfl rfl rfl)) (gl (by kernel_rfl)) (B.free 5) (by kernel_rfl) (DA.cons (De.var (i := 0) rfl (.inl (by kernel_rfl))) (DA.cons (De.gCls (gl (by kernel_rfl)) (B.glo 9)) DA.nil))) (DA.cons (De.callB (dc_isiU (isiU_ok B.k B.g (B.c.fact 3)) (B.isx 4 rfl rfl rfl)) (gl (by kernel_rfl)) (B.free 5) (by kernel_rfl) (DA.cons (De.var (i := 0) rfl (.inl (by kernel_rfl))) (DA.cons (De.gCls (gl (by kernel_rfl)) (B.glo 10)) DA.nil))) (DA.cons (De.callB (dc_isiU (isiU_ok B.k B.g (B.c.fact 3)) (B.isx 4 rfl rfl rfl)) (gl (by kernel_rfl)) (B.free 5) (by kernel_rfl) (DA.cons (De.var (i := 0) rfl (.inl (by kernel_rfl))) (DA.cons (De.gCls (gl (by kernel_rfl)) (B.glo 11)) DA.nil))) (DA.cons (De.callB (dc_isiU (isiU_ok B.k B.g (B.c.fact 3)) (B.isx 4 rfl rfl rfl)) (gl (by kernel_rfl)) (B.free 5) (by kernel_rfl) (DA.cons (De.var (i := 0) rfl (.inl (by kernel_rfl))) (DA.cons (De.gCls (gl (by kernel_rfl)) (B.glo 12)) DA.nil))) DA.nil))))))))
    (DSs.cons (DS.set (i := 1) sc_word.nd rfl (.inl (by kernel_rfl)) (De.cell (DF.cat (De.var (i := 1) rfl (.inl (by kernel_rfl))) (De.lst (DA.cons (De.callB (dc_isiU (isiU_ok B.k B.g (B.c.fact 3)) (B.isx 4 rfl rfl rfl)) (gl (by kernel_rfl)) (B.free 5) (by kernel_rfl) (DA.cons (De.var (i := 0) rfl (.inl (by kernel_rfl))) (DA.cons (De.gCls (gl (by kernel_rfl)) (B.glo 13)) DA.nil))) (DA.cons (De.callB (dc_isiU (isiU_ok B.k B.g (B.c.fact 3)) (B.isx 4 rfl rfl rfl)) (gl (by kernel_rfl)) (B.free 5) (by kernel_rfl) (DA.cons (De.var (i := 0) rfl (.inl (by kernel_rfl))) (DA.cons (De.gCls (gl (by kernel_rfl)) (B.glo 14)) DA.nil))) (DA.cons (De.callB (dc_isiU (isiU_ok B.k B.g (B.c.fact 3)) (B.isx 4 rfl rfl rfl)) (gl (by kernel_rfl)) (B.free 5) (by kernel_rfl) (DA.cons (De.var (i := 0) rfl (.inl (by kernel_rfl))) (DA.cons (De.gCls (gl (by kernel_rfl)) (B.glo 15)) DA.nil))) (DA.cons (De.callB (dc_isiU (isiU_ok B.k B.g (B.c.fact 3)) (B.isx 4 rfl rfl rfl)) (gl (by kernel_rfl)) (B.free 5) (by kernel_rfl) (DA.cons (De.var (i := 0) rfl (.inl (by kernel_rfl))) (DA.cons (De.gCls (gl (by kernel_rfl)) (B.glo 16)) DA.nil))) DA.nil))))))))
    (DSs.cons (DS.set (i := 1) sc_word.nd rfl (.inl (by kernel_rfl)) (De.cell (DF.cat (De.var (i := 1) rfl (.inl (by kernel_rfl))) (De.lst (DA.cons (De.callB (dc_isiU (isiU_ok B.k B.g (B.c.fact 3)) (B.isx 4 rfl rfl rfl)) (gl (by kernel_rfl)) (B.free 5) (by kernel_rfl) (DA.cons (De.var (i := 0) rfl (.inl (by kernel_rfl))) (DA.cons (De.gCls (gl (by kernel_rfl)) (B.glo 17)) DA.nil))) (DA.cons (De.callB (dc_isiU (isiU_ok B.k B.g (B.c.fact 3)) (B.isx 4 rfl rfl rfl)) (gl (by kernel_rfl)) (B.free 5) (by kernel_rfl) (DA.cons (De.var (i := 0) rfl (.inl (by kernel_rfl))) (DA.cons (De.gCls (gl (by kernel_rfl)) (B.glo 18)) DA.nil))) (DA.cons (De.callB (dc_isiU (isiU_ok B.k B.g (B.c.fact 3)) (B.isx 4 rfl rfl rfl)) (gl (by kernel_rfl)) (B.free 5) (by kernel_rfl) (DA.cons (De.var (i := 0) rfl (.inl (by kernel_rfl))) (DA.cons (De.gCls (gl (by kernel_rfl)) (B.glo 19)) DA.nil))) (DA.cons (De.callB (dc_isiU (isiU_ok B.k B.g (B.c.fact 3)) (B.isx 4 rfl rfl rfl)) (gl (by kernel_rfl)) (B.free 5) (by kernel_rfl) (DA.cons (De.var (i := 0) rfl (.inl (by kernel_rfl))) (DA.cons (De.gCls (gl (by kernel_rfl)) (B.glo 20)) DA.nil))) DA.nil))))))))
    (DSs.cons (DS.set (i := 1) sc_word.nd rfl (.inl (by kernel_rfl)) (De.cell (DF.cat (De.var (i := 1) rfl (.inl (by kernel_rfl))) (De.lst (DA.cons (De.callB (dc_isiU (isiU_ok B.k B.g (B.c.fact 3)) (B.isx 4 rfl rfl rfl)) (gl (by kernel_rfl)) (B.free 5) (by kernel_rfl) (DA.cons (De.var (i := 0) rfl (.inl (by kernel_rfl))) (DA.cons (De.gCls (gl (by kernel_rfl)) (B.glo 21)) DA.nil))) (DA.cons (De.callB (dc_isiU (isiU_ok B.k B.g (B.c.fact 3)) (B.isx 4 rfl rfl rfl)) (gl (by kernel_rfl)) (B.free 5) (by kernel_rfl) (DA.cons (De.var (i := 0) rfl (.inl (by kernel_rfl))) (DA.cons (De.gCls (gl (by kernel_rfl)) (B.glo 22)) DA.nil))) (DA.cons (De.callB (dc_isiU (isiU_ok B.k B.g (B.c.fact 3)) (B.isx 4 rfl rfl rfl)) (gl (by kernel_rfl)) (B.free 5) (by kernel_rfl) (DA.cons (De.var (i := 0) rfl (.inl (by kernel_rfl))) (DA.cons (De.gCls (gl (by kernel_rfl)) (B.glo 23)) DA.nil))) (DA.cons (De.callB (dc_isiU (isiU_ok B.k B.g (B.c.fact 3)) (B.isx 4 rfl rfl rfl)) (gl (by kernel_rfl)) (B.free 5) (by kernel_rfl) (DA.cons (De.var (i := 0) rfl (.inl (by kernel_rfl))) (DA.cons (De.gCls (gl (by kernel_rfl)) (B.glo 24)) DA.nil))) DA.nil))))))))
    (DSs.cons (DS.set (i := 1) sc_word.nd rfl (.inl (by kernel_rfl)) (De.cell (DF.cat (De.var (i := 1) rfl (.inl (by kernel_rfl))) (De.lst (DA.cons (De.callB (dc_isiU (isiU_ok B.k B.g (B.c.fact 3)) (B.isx 4 rfl rfl rfl)) (gl (by kernel_rfl)) (B.free 5) (by kernel_rfl) (DA.cons (De.var (i := 0) rfl (.inl (by kernel_rfl))) (DA.cons (De.gCls (gl (by kernel_rfl)) (B.glo 25)) DA.nil))) (DA.cons (De.callB (dc_isiU (isiU_ok B.k B.g (B.c.fact 3)) (B.isx 4 rfl rfl rfl)) (gl (by kernel_rfl)) (B.free 5) (by kernel_rfl) (DA.cons (De.var (i := 0) rfl (.inl (by kernel_rfl))) (DA.cons (De.gCls (gl (by kernel_rfl)) (B.glo 26)) DA.nil))) (DA.cons (De.callB (dc_isiU (isiU_ok B.k B.g (B.c.fact 3)) (B.isx 4 rfl rfl rfl)) (gl (by kernel_rfl)) (B.free 5) (by kernel_rfl) (DA.cons (De.var (i := 0) rfl (.inl (by kernel_rfl))) (DA.cons (De.gCls (gl (by kernel_rfl)) (B.glo 27)) DA.nil))) DA.nil)))))))
    (DSs.cons (DS.expr (De.bm PySem.F.plainAttrs_list PySem.F.slot_list_append PySem.F.type_list_append dmt_append (De.var (i := 1) rfl (.inl (by kernel_rfl))) (DA.cons (De.callB (dc_isiU (isiU_ok B.k B.g (B.c.fact 3)) (B.isx 4 rfl rfl rfl)) (gl (by kernel_rfl)) (B.free 5) (by kernel_rfl) (DA.cons (De.var (i := 0) rfl (.inl (by kernel_rfl))) (DA.cons (De.gCls (gl (by kernel_rfl)) (B.glo 28)) DA.nil))) DA.nil)))
    (DSs.cons (DS.set (i := 2) sc_word.nd rfl (.inl (by kernel_rfl)) (De.lst (DA.cons De.str (DA.cons De.str (DA.cons De.str (DA.cons De.str (DA.cons De.str (DA.cons De.str (DA.cons De.str (DA.cons De.str (DA.cons De.str DA.nil)))))))))))
    (DSs.cons (DS.set (i := 2) sc_word.nd rfl (.inl (by kernel_rfl)) (De.bin dop_add (De.var (i := 2) rfl (.inl (by kernel_rfl))) (De.lst (DA.cons De.str (DA.cons De.str (DA.cons De.str (DA.cons De.str (DA.cons De.str (DA.cons De.str (DA.cons De.str (DA.cons De.str (DA.cons De.str DA.nil))))))))))))
    (DSs.cons (DS.set (i := 2) sc_word.nd rfl (.inl (by kernel_rfl)) (De.bin dop_add (De.var (i := 2) rfl (.inl (by kernel_rfl))) (De.lst (DA.cons De.str (DA.cons De.str (DA.cons De.str (DA.cons De.str (DA.cons De.str (DA.cons De.str DA.nil)))))))))
    (DSs.cons (DS.ite (DW.dt (DW.or (DT.cmp (dop_ne hr.h64) (De.bm PySem.F.plainAttrs_list PySem.F.slot_list_count PySem.F.type_list_count dmt_count (De.var (i := 1) rfl (.inl (by kernel_rfl))) (DA.cons De.bl DA.nil)) De.int rfl) (DW.or1 (DT.not (DT.val (De.callB (dc_isiU (isiU_ok B.k B.g (B.c.fact 3)) (B.isx 4 rfl rfl rfl)) (gl (by kernel_rfl)) (B.free 5) (by kernel_rfl) (DA.cons (De.var (i := 0) rfl (.inl (by kernel_rfl))) (DA.cons (De.bty (gl (by kernel_rfl)) (B.free 29) (by kernel_rfl)) DA.nil)))))))) (DSs.one (DS.ret De.str)) DSs.nil)
    (DSs.one (DS.ret (De.ix (De.var (i := 2) rfl (.inl (by kernel_rfl))) (De.bm PySem.F.plainAttrs_list PySem.F.slot_list_index PySem.F.type_list_index dmt_index (De.var (i := 1) rfl (.inl (by kernel_rfl))) (DA.cons De.bl DA.nil)))))))))))))))))
theorem xh_word (B : Bas fs ds K mg base) : Fxh P w K mg base 1 "_law_word" 1 m_word := ⟨_, _, _, B.glo 43, B.kp 1 (d := d_word) rfl, g_word B, B.binds 1 (d := d_word) rfl rfl (fun _ _ _ _ _ _ us hl => match us, hl with | [_], _ => by kernel_rfl), rfl⟩
theorem x_word (B : Bas fs ds K mg base) : Fx P w K mg base 1 "_law_word" 1 [] m_word := ⟨Pl.ad K (.glo "_law_word"), _, _, [], B.glo 43, B.kp 1 (d := d_word) rfl, (g_word B).cold, B.binds 1 (d := d_word) rfl rfl (fun _ _ _ _ _ _ us hl => match us, hl with | [_], _ => by kernel_rfl), .nil, rfl, rfl⟩
theorem sc_said : FnScope ["_law_call", "_law_e"] ["_law_call"] d_said.scope := ⟨rfl, rfl, rfl, by decide +kernel, rfl, by decide +kernel, by decide +kernel⟩
theorem sd_said {k : Nat} (hk : 1 ≤ k) (B : Bas fs ds K mg base) : Sd P w K mg base k "_law_said" vRepr su_said := ⟨_, _, _, _, _, _, _, _, _, _, _, _, _, _, _, _, _, _, _, { hm := B.glo 44, F := B.c.def_ 2 (d := d_said), Sc := sc_said, B := B.binds 2 (d := d_said) rfl rfl (fun _ _ _ _ _ _ us hl => match us, hl with | [_], _ => by kernel_rfl), la := by kernel_rfl, le := by kernel_rfl, lr := by kernel_rfl, lh := by kernel_rfl, mr := B.free 1, br := by kernel_rfl, mh := B.glo 55, d1 := by decide, d2 := by decide, d3 := by decide, d4 := by decide, d5 := by decide, ixf := fun X e1 e2 => B.isx 4 rfl e1 e2, rf := B.exr 4, hsn := rfl, rp_ := fun cd A outer s H E pn xe W hr => dc_repr hr.gd hr.h100 (B.c.fact 0 (f := sysB)), su_ := fun cd A outer s H E b pn hr => (DSs.one (DS.ret (De.bin dop_add De.str (De.fxh (xh_word B) hr takesN (DA.cons (De.var (i := 1) rfl (.inl (by kernel_rfl))) DA.nil) (gl (by kernel_rfl)) (Nat.le_trans (by decide : 1 ≤ 1) hk))))) }⟩
theorem sc_p_need_integers : FnScope ["state", "one"] ["state"] d_p_need_integers.scope := ⟨rfl, rfl, rfl, by decide +kernel, rfl, by decide +kernel, by decide +kernel⟩
theorem g_p_need_integers (B : Bas fs ds K mg base) : FnG P w K mg base 1 (Pl.ad K (.glo "need_integers")) (fdAt K (Pl.ad K (.glo "need_integers"))) ["state"] m_p_need_integers :=
  fn_ok (B.c.def_ 3 (d := d_p_need_integers)) sc_p_need_integers (fun cdv A outer s H E hr => (DSs.cons (DS.ite (DT.not (DT.val (De.callB (dc_isiU (isiU_ok B.k B.g (B.c.fact 3)) (B.isx 4 rfl rfl rfl)) (gl (by kernel_rfl)) (B.free 5) (by kernel_rfl) (DA.cons (De.var (i := 0) rfl (.inl (by kernel_rfl))) (DA.cons (De.bty (gl (by kernel_rfl)) (B.free 30) (by kernel_rfl)) DA.nil))))) (DSs.one (DS.rs (i := 12) (i2 := 31) B takesG rfl (gl (by kernel_rfl)))) DSs.nil)
    (DSs.one (DS.ite (DT.not (DT.val (De.callB (dc_all rfl) (gl (by kernel_rfl)) (B.free 34) (by kernel_rfl) (DA.cons (De.new (DF.comp (own := [("one", 1)]) rfl sc_p_need_integers.nd (DI.val (De.var (i := 0) rfl (.inl (by kernel_rfl)))) (blkOk_by (by kernel_rfl)) (fun s H C cl fp => (DG.name (vs0 := [1]) (i := 1) (by decide) sc_p_need_integers.nd rfl (.inl (by kernel_rfl)))) (fun s H C cl fp => DTs.nil) (fun s H C cl fp => (De.and (De.callB (dc_isiU (isiU_ok B.k B.g (B.c.fact 3)) (B.isx 4 rfl rfl rfl)) (gl (by kernel_rfl)) (B.free 5) (by kernel_rfl) (DA.cons (De.var (i := 1) rfl (.inl (by kernel_rfl))) (DA.cons (De.bty (gl (by kernel_rfl)) (B.free 32) (by kernel_rfl)) DA.nil))) (De.one (De.not (De.callB (dc_isiU (isiU_ok B.k B.g (B.c.fact 3)) (B.isx 4 rfl rfl rfl)) (gl (by kernel_rfl)) (B.free 5) (by kernel_rfl) (DA.cons (De.var (i := 1) rfl (.inl (by kernel_rfl))) (DA.cons (De.bty (gl (by kernel_rfl)) (B.free 33) (by kernel_rfl)) DA.nil))))))))) DA.nil)))) (DSs.one (DS.rs (i := 12) (i2 := 31) B takesG rfl (gl (by kernel_rfl)))) DSs.nil))))
theorem x_p_need_integers (B : Bas fs ds K mg base) : Fx P w K mg base 1 "need_integers" 1 [] m_p_need_integers := ⟨Pl.ad K (.glo "need_integers"), _, _, [], B.glo 45, B.kp 3 (d := d_p_need_integers) rfl, g_p_need_integers B, B.binds 3 (d := d_p_need_integers) rfl rfl (fun _ _ _ _ _ _ us hl => match us, hl with | [_], _ => by kernel_rfl), .nil, rfl, rfl⟩
theorem sc_p_negative : FnScope ["state", "one"] ["state"] d_p_negative.scope := ⟨rfl, rfl, rfl, by decide +kernel, rfl, by decide +kernel, by decide +kernel⟩
theorem g_p_negative (B : Bas fs ds K mg base) : FnG P w K mg base 2 (Pl.ad K (.glo "negative")) (fdAt K (Pl.ad K (.glo "negative"))) ["state"] m_p_negative :=
  fn_ok (B.c.def_ 4 (d := d_p_negative)) sc_p_negative (fun cdv A outer s H E hr => (DSs.cons (DS.expr (De.fx (x_p_need_integers B) hr takesG (DA.cons (De.var (i := 0) rfl (.inl (by kernel_rfl))) DA.nil) (gl (by kernel_rfl))))
    (DSs.one (DS.ret (De.callTy dc_tuple (gl (by kernel_rfl)) (B.free 30) (by kernel_rfl) (DA.cons (De.new (DF.comp (own := [("one", 1)]) rfl sc_p_negative.nd (DI.val (De.var (i := 0) rfl (.inl (by kernel_rfl)))) (blkOk_by (by kernel_rfl)) (fun s H C cl fp => (DG.name (vs0 := [1]) (i := 1) (by decide) sc_p_negative.nd rfl (.inl (by kernel_rfl)))) (fun s H C cl fp => DTs.nil) (fun s H C cl fp => (De.un du_neg (De.var (i := 1) rfl (.inl (by kernel_rfl))))))) DA.nil))))))
theorem x_p_negative (B : Bas fs ds K mg base) : Fx P w K mg base 2 "negative" 1 [] m_p_negative := ⟨Pl.ad K (.glo "negative"), _, _, [], B.glo 46, B.kp 4 (d := d_p_negative) rfl, g_p_negative B, B.binds 4 (d := d_p_negative) rfl rfl (fun _ _ _ _ _ _ us hl => match us, hl with | [_], _ => by kernel_rfl), .nil, rfl, rfl⟩
theorem sc_p_turned : FnScope ["state", "at", "one"] ["state"] d_p_turned.scope := ⟨rfl, rfl, rfl, by decide +kernel, rfl, by decide +kernel, by decide +kernel⟩
theorem g_p_turned (B : Bas fs ds K mg base) : FnG P w K mg base 2 (Pl.ad K (.glo "turned")) (fdAt K (Pl.ad K (.glo "turned"))) ["state"] m_p_turned :=
  fn_ok (B.c.def_ 5 (d := d_p_turned)) sc_p_turned (fun cdv A outer s H E hr => (DSs.cons (DS.expr (De.fx (x_p_need_integers B) hr takesG (DA.cons (De.var (i := 0) rfl (.inl (by kernel_rfl))) DA.nil) (gl (by kernel_rfl))))
    (DSs.one (DS.ret (De.callTy dc_tuple (gl (by kernel_rfl)) (B.free 30) (by kernel_rfl) (DA.cons (De.new (DF.comp (own := [("at", 1), ("one", 2)]) rfl sc_p_turned.nd (DI.enT (gl (by kernel_rfl)) (B.free 36) (De.var (i := 0) rfl (.inl (by kernel_rfl)))) (blkOk_by (by kernel_rfl)) (fun s H C cl fp => (DG.tup rfl (DGs.cons (DG.name (vs0 := [1, 2]) (i := 1) (by decide) sc_p_turned.nd rfl (.inl (by kernel_rfl))) (DGs.cons (DG.name (vs0 := [1, 2]) (i := 2) (by decide) sc_p_turned.nd rfl (.inl (by kernel_rfl))) DGs.nil)))) (fun s H C cl fp => DTs.nil) (fun s H C cl fp => (De.ifExp (DT.cmp (dop_eq hr.h64) (De.bin dop_mod (De.var (i := 1) rfl (.inl (by kernel_rfl))) De.int) De.int rfl) (De.var (i := 2) rfl (.inl (by kernel_rfl))) (De.un du_neg (De.var (i := 2) rfl (.inl (by kernel_rfl)))))))) DA.nil))))))
theorem x_p_turned (B : Bas fs ds K mg base) : Fx P w K mg base 2 "turned" 1 [] m_p_turned := ⟨Pl.ad K (.glo "turned"), _, _, [], B.glo 47, B.kp 5 (d := d_p_turned) rfl, g_p_turned B, B.binds 5 (d := d_p_turned) rfl rfl (fun _ _ _ _ _ _ us hl => match us, hl with | [_], _ => by kernel_rfl), .nil, rfl, rfl⟩
theorem sc_are : FnScope ["_law_thing", "_law_one"] ["_law_thing"] d_are.scope := ⟨rfl, rfl, rfl, by decide +kernel, rfl, by decide +kernel, by decide +kernel⟩
theorem g_are (B : Bas fs ds K mg base) : FnG P w K mg base 1 (Pl.ad K (.glo "_law_are")) (fdAt K (Pl.ad K (.glo "_law_are"))) ["_law_thing"] m_are :=
  fn_ok (B.c.def_ 6 (d := d_are)) sc_are (fun cdv A outer s H E hr => (DSs.cons (DS.ite (DT.not (DT.val (De.callB (dc_isiU (isiU_ok B.k B.g (B.c.fact 3)) (B.isx 4 rfl rfl rfl)) (gl (by kernel_rfl)) (B.free 5) (by kernel_rfl) (DA.cons (De.var (i := 0) rfl (.inl (by kernel_rfl))) (DA.cons (De.bty (gl (by kernel_rfl)) (B.free 30) (by kernel_rfl)) DA.nil))))) (DSs.one (DS.ret De.bl)) DSs.nil)
    (DSs.one (DS.ret (De.cmp (dop_eq hr.h64) (De.new (DF.comp (own := [("_law_one", 1)]) rfl sc_are.nd (DI.val (De.var (i := 0) rfl (.inl (by kernel_rfl)))) (blkOk_by (by kernel_rfl)) (fun s H C cl fp => (DG.name (vs0 := [1]) (i := 1) (by decide) sc_are.nd rfl (.inl (by kernel_rfl)))) (fun s H C cl fp => (DTs.one (DW.dt (DW.or (DT.not (DT.val (De.callB (dc_isiU (isiU_ok B.k B.g (B.c.fact 3)) (B.isx 4 rfl rfl rfl)) (gl (by kernel_rfl)) (B.free 5) (by kernel_rfl) (DA.cons (De.var (i := 1) rfl (.inl (by kernel_rfl))) (DA.cons (De.bty (gl (by kernel_rfl)) (B.free 32) (by kernel_rfl)) DA.nil))))) (DW.or1 (DT.val (De.callB (dc_isiU (isiU_ok B.k B.g (B.c.fact 3)) (B.isx 4 rfl rfl rfl)) (gl (by kernel_rfl)) (B.free 5) (by kernel_rfl) (DA.cons (De.var (i := 1) rfl (.inl (by kernel_rfl))) (DA.cons (De.bty (gl (by kernel_rfl)) (B.free 33) (by kernel_rfl)) DA.nil))))))))) (fun s H C cl fp => De.int))) (De.lst DA.nil) rfl)))))
theorem x_are (B : Bas fs ds K mg base) : Fx P w K mg base 1 "_law_are" 1 [] m_are := ⟨Pl.ad K (.glo "_law_are"), _, _, [], B.glo 48, B.kp 6 (d := d_are) rfl, g_are B, B.binds 6 (d := d_are) rfl rfl (fun _ _ _ _ _ _ us hl => match us, hl with | [_], _ => by kernel_rfl), .nil, rfl, rfl⟩
theorem sc_right : FnScope ["_law_thing", "_law_kept", "_law_told", "_law_due", "_law_at", "_law_one"] ["_law_thing"] d_right.scope := ⟨rfl, rfl, rfl, by decide +kernel, rfl, by decide +kernel, by decide +kernel⟩
theorem g_right (B : Bas fs ds K mg base) : FnG P w K mg base 5 (Pl.ad K (.glo "_law_right")) (fdAt K (Pl.ad K (.glo "_law_right"))) ["_law_thing"] m_right_k65 :=
  fn_okc (B.c.def_ 7 (d := d_right)) sc_right (fun cdv A outer s H E hcd hr => (DSs.cons (DS.set (i := 1) sc_right.nd rfl (.inl (by kernel_rfl)) (De.callB (dc_repr hr.gd hr.h100 (B.c.fact 0 (f := sysB))) (gl (by kernel_rfl)) (B.free 1) (by kernel_rfl) (DA.cons (De.var (i := 0) rfl (.inr (.inl (by kernel_rfl)))) DA.nil)))
    (DSs.cons (DS.set (i := 2) sc_right.nd rfl (.inl (by kernel_rfl)) (De.cell (DF.lst (DA.cons (De.said (k := 2) (sd_said (k := 2) (by decide) B) (hr.le (j := 4) (by decide)) (gl (by kernel_rfl)) (B.lam 35 (pl := (.glo "_law_right")) (q := (("_law_right" : Str) ++ ".<locals>.") ++ "<lambda>")) (B.lbt (B.lam 35)) ((B.lam 35 (pl := (.glo "_law_right")) (q := (("_law_right" : Str) ++ ".<locals>.") ++ "<lambda>")).code (B.c.def_ 7 (d := d_right)) hcd) (LamX.lamS_by (by kernel_rfl)) (fun A outer s H E f c hr => (De.fx (x_p_negative B) hr takesL (DA.cons (De.var (i := 0) rfl (.inr (.inr (by kernel_rfl)))) DA.nil) (gl (by kernel_rfl))))) DA.nil))))
    (DSs.cons (DS.expr (De.bm PySem.F.plainAttrs_list PySem.F.slot_list_append PySem.F.type_list_append dmt_append (De.var (i := 2) rfl (.inl (by kernel_rfl))) (DA.cons (De.said (k := 2) (sd_said (k := 2) (by decide) B) (hr.le (j := 4) (by decide)) (gl (by kernel_rfl)) (B.lam 35 (pl := (.glo "_law_right")) (q := (("_law_right" : Str) ++ ".<locals>.") ++ "<lambda>")) (B.lbt (B.lam 35)) ((B.lam 35 (pl := (.glo "_law_right")) (q := (("_law_right" : Str) ++ ".<locals>.") ++ "<lambda>")).code (B.c.def_ 7 (d := d_right)) hcd) (LamX.lamS_by (by kernel_rfl)) (fun A outer s H E f c hr => (De.fx (x_p_turned B) hr takesL (DA.cons (De.var (i := 0) rfl (.inr (.inr (by kernel_rfl)))) DA.nil) (gl (by kernel_rfl))))) DA.nil)))
    (DSs.cons (DS.ite (DT.cmp (dop_ne hr.h64) (De.callB (dc_repr hr.gd hr.h100 (B.c.fact 0 (f := sysB))) (gl (by kernel_rfl)) (B.free 1) (by kernel_rfl) (DA.cons (De.var (i := 0) rfl (.inr (.inl (by kernel_rfl)))) DA.nil)) (De.var (i := 1) rfl (.inl (by kernel_rfl))) rfl) (DSs.one (DS.ret De.bl)) DSs.nil)
    (DSs.cons (DS.ite (DT.not (DT.val (De.fx (x_are B) hr takesG (DA.cons (De.var (i := 0) rfl (.inr (.inl (by kernel_rfl)))) DA.nil) (gl (by kernel_rfl))))) (DSs.one (DS.ret (De.cmp (dop_eq hr.h64) (De.var (i := 2) rfl (.inl (by kernel_rfl))) (De.bin dop_mul (De.lst (DA.cons De.str DA.nil)) De.int) rfl))) DSs.nil)
    (DSs.cons (DS.set (i := 3) sc_right.nd rfl (.inl (by kernel_rfl)) (De.callTy dc_tuple (gl (by kernel_rfl)) (B.free 30) (by kernel_rfl) (DA.cons (De.new (DF.comp (own := [("_law_at", 4), ("_law_one", 5)]) rfl sc_right.nd (DI.enT (gl (by kernel_rfl)) (B.free 36) (De.var (i := 0) rfl (.inr (.inl (by kernel_rfl))))) (blkOk_by (by kernel_rfl)) (fun s H C cl fp => (DG.tup rfl (DGs.cons (DG.name (vs0 := [4, 5]) (i := 4) (by decide) sc_right.nd rfl (.inl (by kernel_rfl))) (DGs.cons (DG.name (vs0 := [4, 5]) (i := 5) (by decide) sc_right.nd rfl (.inl (by kernel_rfl))) DGs.nil)))) (fun s H C cl fp => DTs.nil) (fun s H C cl fp => (De.ifExp (DT.cmp (dop_eq hr.h64) (De.bin dop_mod (De.var (i := 4) rfl (.inl (by kernel_rfl))) De.int) De.int rfl) (De.un du_neg (De.var (i := 5) rfl (.inl (by kernel_rfl)))) (De.var (i := 5) rfl (.inl (by kernel_rfl))))))) DA.nil)))
    (DSs.cons (DS.ite (DT.cmp (dop_ne hr.h64) (De.var (i := 2) rfl (.inl (by kernel_rfl))) (De.lst (DA.cons (De.callB (dc_repr hr.gd hr.h100 (B.c.fact 0 (f := sysB))) (gl (by kernel_rfl)) (B.free 1) (by kernel_rfl) (DA.cons (De.callTy dc_tuple (gl (by kernel_rfl)) (B.free 30) (by kernel_rfl) (DA.cons (De.new (DF.comp (own := [("_law_one", 5)]) rfl sc_right.nd (DI.val (De.var (i := 0) rfl (.inr (.inl (by kernel_rfl))))) (blkOk_by (by kernel_rfl)) (fun s H C cl fp => (DG.name (vs0 := [5]) (i := 5) (by decide) sc_right.nd rfl (.inl (by kernel_rfl)))) (fun s H C cl fp => DTs.nil) (fun s H C cl fp => (De.bin dop_sub De.int (De.var (i := 5) rfl (.inl (by kernel_rfl))))))) DA.nil)) DA.nil)) (DA.cons (De.callB (dc_repr hr.gd hr.h100 (B.c.fact 0 (f := sysB))) (gl (by kernel_rfl)) (B.free 1) (by kernel_rfl) (DA.cons (De.var (i := 3) rfl (.inl (by kernel_rfl))) DA.nil)) DA.nil))) rfl) (DSs.one (DS.ret De.bl)) DSs.nil)
    (DSs.one (DS.ret (De.cmp (dop_eq hr.h64) (De.callB (dc_repr hr.gd hr.h100 (B.c.fact 0 (f := sysB))) (gl (by kernel_rfl)) (B.free 1) (by kernel_rfl) (DA.cons (De.lst (DA.cons (De.fx (x_p_negative B) hr takesG (DA.cons (De.fx (x_p_negative B) hr takesG (DA.cons (De.var (i := 0) rfl (.inr (.inl (by kernel_rfl)))) DA.nil) (gl (by kernel_rfl))) DA.nil) (gl (by kernel_rfl))) (DA.cons (De.fx (x_p_turned B) hr takesG (DA.cons (De.fx (x_p_turned B) hr takesG (DA.cons (De.var (i := 0) rfl (.inr (.inl (by kernel_rfl)))) DA.nil) (gl (by kernel_rfl))) DA.nil) (gl (by kernel_rfl))) DA.nil))) DA.nil)) (De.callB (dc_repr hr.gd hr.h100 (B.c.fact 0 (f := sysB))) (gl (by kernel_rfl)) (B.free 1) (by kernel_rfl) (DA.cons (De.lst (DA.cons (De.var (i := 0) rfl (.inr (.inl (by kernel_rfl)))) (DA.cons (De.var (i := 0) rfl (.inr (.inl (by kernel_rfl)))) DA.nil))) DA.nil)) rfl)))))))))))
theorem x_right (B : Bas fs ds K mg base) : Fx P w K mg base 5 "_law_right" 1 [] m_right_k65 := ⟨Pl.ad K (.glo "_law_right"), _, _, [], B.glo 49, B.kp 7 (d := d_right) rfl, g_right B, B.binds 7 (d := d_right) rfl rfl (fun _ _ _ _ _ _ us hl => match us, hl with | [_], _ => by kernel_rfl), .nil, rfl, rfl⟩
theorem sc_pen : FnScope ["_law_cell_here"] ["_law_cell_here"] d_pen.scope := ⟨rfl, rfl, rfl, by decide +kernel, rfl, by decide +kernel, by decide +kernel⟩
theorem g_pen (B : Bas fs ds K mg base) : FnG P w K mg base 1 (Pl.ad K (.glo "_law_pen")) (fdAt K (Pl.ad K (.glo "_law_pen"))) ["_law_cell_here"] m_pen :=
  fn_ok (B.c.def_ 8 (d := d_pen)) sc_pen (fun cdv A outer s H E hr => (DSs.one (DS.ret (De.cell (DF.lst (DA.cons (De.callB (dc_max rfl) (gl (by kernel_rfl)) (B.free 39) (by kernel_rfl) (DA.cons De.int (DA.cons (De.bin dop_sub (De.var (i := 0) rfl (.inl (by kernel_rfl))) (De.bin dop_pow De.int De.int)) DA.nil))) (DA.cons (De.bin dop_add (De.bin dop_mod (De.var (i := 0) rfl (.inl (by kernel_rfl))) De.int) De.int) (DA.cons De.int DA.nil))))))))
theorem x_pen (B : Bas fs ds K mg base) : Fx P w K mg base 1 "_law_pen" 1 [] m_pen := ⟨Pl.ad K (.glo "_law_pen"), _, _, [], B.glo 50, B.kp 8 (d := d_pen) rfl, g_pen B, B.binds 8 (d := d_pen) rfl rfl (fun _ _ _ _ _ _ us hl => match us, hl with | [_], _ => by kernel_rfl), .nil, rfl, rfl⟩
theorem sc_cell : FnScope ["_law_script", "_law_k"] ["_law_script", "_law_k"] d_cell.scope := ⟨rfl, rfl, rfl, by decide +kernel, rfl, by decide +kernel, by decide +kernel⟩
theorem g_cell (B : Bas fs ds K mg base) : FnG P w K mg base 1 (Pl.ad K (.glo "_law_cell")) (fdAt K (Pl.ad K (.glo "_law_cell"))) ["_law_script", "_law_k"] m_cell :=
  fn_ok (B.c.def_ 9 (d := d_cell)) sc_cell (fun cdv A outer s H E hr => (DSs.one (DS.ret (De.ifExp (DT.cmp dop_lt (De.var (i := 1) rfl (.inl (by kernel_rfl))) (De.callB dc_len (gl (by kernel_rfl)) (B.free 37) (by kernel_rfl) (DA.cons (De.var (i := 0) rfl (.inl (by kernel_rfl))) DA.nil)) rfl) (De.ix (De.var (i := 0) rfl (.inl (by kernel_rfl))) (De.var (i := 1) rfl (.inl (by kernel_rfl)))) De.int))))
theorem x_cell (B : Bas fs ds K mg base) : Fx P w K mg base 1 "_law_cell" 2 [] m_cell := ⟨Pl.ad K (.glo "_law_cell"), _, _, [], B.glo 51, B.kp 9 (d := d_cell) rfl, g_cell B, B.binds 9 (d := d_cell) rfl rfl (fun _ _ _ _ _ _ us hl => match us, hl with | [_, _], _ => by kernel_rfl), .nil, rfl, rfl⟩
theorem sc_draw : FnScope ["_law_pen_here", "_law_many", "_law_found", "_law_stirred"] ["_law_pen_here", "_law_many"] d_draw.scope := ⟨rfl, rfl, rfl, by decide +kernel, rfl, by decide +kernel, by decide +kernel⟩
theorem g_draw (B : Bas fs ds K mg base) : FnG P w K mg base 1 (Pl.ad K (.glo "_law_draw")) (fdAt K (Pl.ad K (.glo "_law_draw"))) ["_law_pen_here", "_law_many"] m_draw :=
  fn_ok (B.c.def_ 10 (d := d_draw)) sc_draw (fun cdv A outer s H E hr => (DSs.cons (DS.ite (DT.cmp dop_gt (De.ix (De.var (i := 0) rfl (.inl (by kernel_rfl))) De.int) De.int rfl) (DSs.cons (DS.set (i := 2) sc_draw.nd rfl (.inl (by kernel_rfl)) (De.bin dop_mod (De.ix (De.var (i := 0) rfl (.inl (by kernel_rfl))) De.int) (De.var (i := 1) rfl (.inl (by kernel_rfl)))))
    (DSs.cons (DS.put (De.bin dop_div (De.ix (De.var (i := 0) rfl (.inl (by kernel_rfl))) De.int) (De.var (i := 1) rfl (.inl (by kernel_rfl)))) (De.var (i := 0) rfl (.inl (by kernel_rfl))) De.int)
    (DSs.one (DS.ret (De.var (i := 2) rfl (.inl (by kernel_rfl))))))) DSs.nil)
    (DSs.cons (DS.put (De.bin dop_add (De.ix (De.var (i := 0) rfl (.inl (by kernel_rfl))) De.int) De.int) (De.var (i := 0) rfl (.inl (by kernel_rfl))) De.int)
    (DSs.cons (DS.put (De.bin dop_mod (De.bin dop_add (De.bin dop_add (De.bin dop_mul (De.ix (De.var (i := 0) rfl (.inl (by kernel_rfl))) De.int) De.int) (De.bin dop_mul De.int (De.ix (De.var (i := 0) rfl (.inl (by kernel_rfl))) De.int))) De.int) De.int) (De.var (i := 0) rfl (.inl (by kernel_rfl))) De.int)
    (DSs.cons (DS.set (i := 3) sc_draw.nd rfl (.inl (by kernel_rfl)) (De.bin dop_mod (De.bin dop_add (De.bin dop_add (De.bin dop_mul (De.ix (De.var (i := 0) rfl (.inl (by kernel_rfl))) De.int) (De.ix (De.var (i := 0) rfl (.inl (by kernel_rfl))) De.int)) (De.bin dop_mul De.int (De.ix (De.var (i := 0) rfl (.inl (by kernel_rfl))) De.int))) De.int) De.int))
    (DSs.cons (DS.set (i := 3) sc_draw.nd rfl (.inl (by kernel_rfl)) (De.bin dop_mod (De.bin dop_add (De.bin dop_mul (De.var (i := 3) rfl (.inl (by kernel_rfl))) (De.var (i := 3) rfl (.inl (by kernel_rfl)))) (De.bin dop_mul De.int (De.var (i := 3) rfl (.inl (by kernel_rfl))))) De.int))
    (DSs.one (DS.ret (De.bin dop_mod (De.bin dop_div (De.var (i := 3) rfl (.inl (by kernel_rfl))) De.int) (De.var (i := 1) rfl (.inl (by kernel_rfl))))))))))))
theorem x_draw (B : Bas fs ds K mg base) : Fx P w K mg base 1 "_law_draw" 2 [] m_draw := ⟨Pl.ad K (.glo "_law_draw"), _, _, [], B.glo 52, B.kp 10 (d := d_draw) rfl, g_draw B, B.binds 10 (d := d_draw) rfl rfl (fun _ _ _ _ _ _ us hl => match us, hl with | [_, _], _ => by kernel_rfl), .nil, rfl, rfl⟩
theorem sc_pick : FnScope ["_law_pen_here", "_law_some"] ["_law_pen_here", "_law_some"] d_pick.scope := ⟨rfl, rfl, rfl, by decide +kernel, rfl, by decide +kernel, by decide +kernel⟩
theorem g_pick (B : Bas fs ds K mg base) : FnG P w K mg base 2 (Pl.ad K (.glo "_law_pick")) (fdAt K (Pl.ad K (.glo "_law_pick"))) ["_law_pen_here", "_law_some"] m_pick :=
  fn_ok (B.c.def_ 11 (d := d_pick)) sc_pick (fun cdv A outer s H E hr => (DSs.one (DS.ret (De.ix (De.var (i := 1) rfl (.inl (by kernel_rfl))) (De.fx (x_draw B) hr takesG (DA.cons (De.var (i := 0) rfl (.inl (by kernel_rfl))) (DA.cons (De.callB dc_len (gl (by kernel_rfl)) (B.free 37) (by kernel_rfl) (DA.cons (De.var (i := 1) rfl (.inl (by kernel_rfl))) DA.nil)) DA.nil)) (gl (by kernel_rfl)))))))
theorem x_pick (B : Bas fs ds K mg base) : Fx P w K mg base 2 "_law_pick" 2 [] m_pick := ⟨Pl.ad K (.glo "_law_pick"), _, _, [], B.glo 53, B.kp 11 (d := d_pick) rfl, g_pick B, B.binds 11 (d := d_pick) rfl rfl (fun _ _ _ _ _ _ us hl => match us, hl with | [_, _], _ => by kernel_rfl), .nil, rfl, rfl⟩
theorem sc_law : FnScope ["_law_script", "_law_thing", "_law_k", "_law_pen_here", "_law_turn", "_law_most", "_law_at", "_law_lap"] ["_law_script"] d_law.scope := ⟨rfl, rfl, rfl, by decide +kernel, rfl, by decide +kernel, by decide +kernel⟩
theorem g_law (B : Bas fs ds K mg base) : FnG P w K mg base 6 (Pl.ad K (.glo "law")) (fdAt K (Pl.ad K (.glo "law"))) ["_law_script"] m_law_k65 :=
  fn_ok (B.c.def_ 12 (d := d_law)) sc_law (fun cdv A outer s H E hr => (DSs.cons (DS.for passesG rfl (DI.val (De.fx0 (x_odds B) hr takesG (gl (by kernel_rfl)))) (DG.name (vs0 := [1]) (i := 1) (by decide) sc_law.nd rfl (.inl (by kernel_rfl))) (DSs.one (DS.ite (DT.not (DT.val (De.fx (x_right B) hr takesG (DA.cons (De.var (i := 1) rfl (.inl (by kernel_rfl))) DA.nil) (gl (by kernel_rfl))))) (DSs.one (DS.ret De.bl)) DSs.nil)) (fun _ => by kernel_rfl))
    (DSs.cons (DS.for passesG rfl (DI.range1 (gl (by kernel_rfl)) (B.free 40) (De.callB (dc_max rfl) (gl (by kernel_rfl)) (B.free 39) (by kernel_rfl) (DA.cons De.int (DA.cons (De.callB (dc_min rfl) (gl (by kernel_rfl)) (B.free 38) (by kernel_rfl) (DA.cons (De.callB dc_len (gl (by kernel_rfl)) (B.free 37) (by kernel_rfl) (DA.cons (De.var (i := 0) rfl (.inl (by kernel_rfl))) DA.nil)) (DA.cons De.int DA.nil))) DA.nil)))) (DG.name (vs0 := [2]) (i := 2) (by decide) sc_law.nd rfl (.inl (by kernel_rfl))) (DSs.cons (DS.set (i := 3) sc_law.nd rfl (.inr (by kernel_rfl)) (De.fx (x_pen B) hr takesG (DA.cons (De.fx (x_cell B) hr takesG (DA.cons (De.var (i := 0) rfl (.inl (by kernel_rfl))) (DA.cons (De.var (i := 2) rfl (.inl (by kernel_rfl))) DA.nil)) (gl (by kernel_rfl))) DA.nil) (gl (by kernel_rfl))))
    (DSs.one (DS.for passesG rfl (DI.range1 (gl (by kernel_rfl)) (B.free 40) De.int) (DG.name (vs0 := [4]) (i := 4) (by decide) sc_law.nd rfl (.inl (by kernel_rfl))) (DSs.cons (DS.set (i := 5) sc_law.nd rfl (.inr (by kernel_rfl)) (De.ix (De.lst (DA.cons De.int (DA.cons De.int (DA.cons (De.bin dop_pow De.int De.int) DA.nil)))) (De.bin dop_mod (De.var (i := 4) rfl (.inl (by kernel_rfl))) De.int)))
    (DSs.cons (DS.set (i := 1) sc_law.nd rfl (.inl (by kernel_rfl)) (De.callTy dc_tuple (gl (by kernel_rfl)) (B.free 30) (by kernel_rfl) (DA.cons (De.new (DF.comp (own := [("_law_lap", 7)]) rfl sc_law.nd (DI.range1 (gl (by kernel_rfl)) (B.free 40) (De.fx (x_draw B) hr takesG (DA.cons (De.var (i := 3) rfl (.inr (.inl (by kernel_rfl)))) (DA.cons De.int DA.nil)) (gl (by kernel_rfl)))) (blkOk_by (by kernel_rfl)) (fun s H C cl fp => (DG.name (vs0 := [7]) (i := 7) (by decide) sc_law.nd rfl (.inl (by kernel_rfl)))) (fun s H C cl fp => DTs.nil) (fun s H C cl fp => (De.bin dop_sub (De.fx (x_draw B) hr takes_never (DA.cons (De.var (i := 3) rfl (.inr (.inl (by kernel_rfl)))) (DA.cons (De.bin dop_add (De.bin dop_mul De.int (De.var (i := 5) rfl (.inr (.inl (by kernel_rfl))))) De.int) DA.nil)) (gl (by kernel_rfl))) (De.var (i := 5) rfl (.inr (.inl (by kernel_rfl)))))))) DA.nil)))
    (DSs.cons (DS.set (i := 6) sc_law.nd rfl (.inl (by kernel_rfl)) (De.fx (x_draw B) hr takesG (DA.cons (De.var (i := 3) rfl (.inr (.inl (by kernel_rfl)))) (DA.cons (De.bin dop_add (De.callB dc_len (gl (by kernel_rfl)) (B.free 37) (by kernel_rfl) (DA.cons (De.var (i := 1) rfl (.inl (by kernel_rfl))) DA.nil)) De.int) DA.nil)) (gl (by kernel_rfl))))
    (DSs.cons (DS.ite (DW.dt (DW.or (DT.not (DT.val (De.fx (x_right B) hr takesG (DA.cons (De.var (i := 1) rfl (.inl (by kernel_rfl))) DA.nil) (gl (by kernel_rfl))))) (DW.or1 (DT.not (DT.val (De.fx (x_right B) hr takesG (DA.cons (De.callTy dc_list (gl (by kernel_rfl)) (B.free 41) (by kernel_rfl) (DA.cons (De.var (i := 1) rfl (.inl (by kernel_rfl))) DA.nil)) DA.nil) (gl (by kernel_rfl)))))))) (DSs.one (DS.ret De.bl)) DSs.nil)
    (DSs.one (DS.ite (DT.not (DT.val (De.fx (x_right B) hr takesG (DA.cons (De.bin dop_add (De.bin dop_add (De.slice (De.var (i := 1) rfl (.inl (by kernel_rfl))) DO.none (DO.some (De.var (i := 6) rfl (.inl (by kernel_rfl))))) (De.tup (DA.cons (De.fx (x_pick B) hr takesG (DA.cons (De.var (i := 3) rfl (.inr (.inl (by kernel_rfl)))) (DA.cons (De.lst (DA.cons De.non (DA.cons De.bl (DA.cons De.bl (DA.cons De.str (DA.cons (De.tup (DA.cons De.int DA.nil)) DA.nil)))))) DA.nil)) (gl (by kernel_rfl))) DA.nil))) (De.slice (De.var (i := 1) rfl (.inl (by kernel_rfl))) (DO.some (De.var (i := 6) rfl (.inl (by kernel_rfl)))) DO.none)) DA.nil) (gl (by kernel_rfl))))) (DSs.one (DS.ret De.bl)) DSs.nil)))))) (fun _ => by kernel_rfl)))) (fun _ => by kernel_rfl))
    (DSs.one (DS.ret De.bl)))))
end
end K65

set_option Elab.async false
set_option linter.all false
set_option maxRecDepth 100000
set_option maxHeartbeats 4000000
namespace Dn
open PySem L2

/-! ### plain laws of loops -/
theorem there_none {ds : List PV} {S : Store} : Src.there ⟨ds, none⟩ S := trivial
theorem forM_inv {b : PV → Env1 → Store → Res Fl} {c : Src} (hc : c.k = none) (J : Nat → Env1 → Store → Prop) : ∀ (ds : List PV) (j : Nat) (r : Env1) (S : Store), (∀ i d, ds[i]? = some d → ∀ r S, J (j + i) r S → ∃ r' S', (b d r S = .ok (.nx r') S' ∨ b d r S = .ok (.ct r') S') ∧ J (j + i + 1) r' S') → J j r S →
    ∃ r' S', forM b c ds r S = .ok (.nx r') S' ∧ J (j + ds.length) r' S'
  | [], j, r, S, _, h => by
    refine ⟨r, S, ?_, by simpa using h⟩
    have t : c.there S := by unfold Src.there; rw [hc]; trivial
    unfold forM
    rw [if_pos t]
  | d :: ds, j, r, S, hb, h => by
    have t : c.there S := by unfold Src.there; rw [hc]; trivial
    obtain ⟨r1, S1, e, h1⟩ := hb 0 d rfl r S (by simpa using h)
    obtain ⟨r2, S2, e2, h2⟩ := forM_inv hc J ds (j + 1) r1 S1 (fun i d' hd r S hj => by
      have e3 : j + (i + 1) = j + 1 + i := by omega
      have := hb (i + 1) d' (by simpa using hd) r S (by rw [e3]; exact hj)
      rw [e3] at this
      exact this) (by simpa using h1)
    refine ⟨r2, S2, ?_, by rw [List.length_cons, Nat.add_comm ds.length 1, ← Nat.add_assoc]; exact h2⟩
    unfold forM
    rw [if_pos t]
    rcases e with e | e <;> rw [e] <;> exact e2
theorem sFor_inv {it : IM} {g : GM} {b : SM} {r : Env1} {S S1 : Store} {ds : List PV} (hi : it r S = .ok ⟨ds, none⟩ S1) (J : Nat → Env1 → Store → Prop) (h0 : J 0 r S1)
    (hb : ∀ i d, ds[i]? = some d → ∀ r S, J i r S → ∃ r1 r' S', g d r = some r1 ∧ (b r1 S = .ok (.nx r') S' ∨ b r1 S = .ok (.ct r') S') ∧ J (i + 1) r' S') : ∃ r' S', sFor it g b r S = .ok (.nx r') S' ∧ J ds.length r' S' := by
  obtain ⟨r', S', e, h⟩ := forM_inv (b := turn g b) (c := ⟨ds, none⟩) rfl J ds 0 r S1 (fun i d hd r S hj => by
    rw [Nat.zero_add] at hj ⊢
    obtain ⟨r1, r', S', e1, e2, h2⟩ := hb i d hd r S hj
    exact ⟨r', S', by unfold turn; rw [e1]; exact e2, h2⟩) h0
  refine ⟨r', S', ?_, by simpa using h⟩
  unfold sFor
  rw [hi]
  exact e
theorem forM_invT {b : PV → Env1 → Store → Res Fl} {c : Src} (J : Nat → Env1 → Store → Prop) (ht : ∀ j r S, J j r S → c.there S) : ∀ (ds : List PV) (j : Nat) (r : Env1) (S : Store), (∀ i d, ds[i]? = some d → ∀ r S, J (j + i) r S → ∃ r' S', (b d r S = .ok (.nx r') S' ∨ b d r S = .ok (.ct r') S') ∧ J (j + i + 1) r' S') → J j r S →
    ∃ r' S', forM b c ds r S = .ok (.nx r') S' ∧ J (j + ds.length) r' S'
  | [], j, r, S, _, h => by
    refine ⟨r, S, ?_, by simpa using h⟩
    unfold forM
    rw [if_pos (ht _ _ _ h)]
  | d :: ds, j, r, S, hb, h => by
    obtain ⟨r1, S1, e, h1⟩ := hb 0 d rfl r S (by simpa using h)
    obtain ⟨r2, S2, e2, h2⟩ := forM_invT J ht ds (j + 1) r1 S1 (fun i d' hd r S hj => by
      have e3 : j + (i + 1) = j + 1 + i := by omega
      have := hb (i + 1) d' (by simpa using hd) r S (by rw [e3]; exact hj)
      rw [e3] at this
      exact this) (by simpa using h1)
    refine ⟨r2, S2, ?_, by rw [List.length_cons, Nat.add_comm ds.length 1, ← Nat.add_assoc]; exact h2⟩
    unfold forM
    rw [if_pos (ht _ _ _ h)]
    rcases e with e | e <;> rw [e] <;> exact e2
/-- a for over a list that stands as an object -/
theorem sFor_invT {it : IM} {g : GM} {b : SM} {r : Env1} {S S1 : Store} {ds : List PV} {k : Option Nat} (hi : it r S = .ok ⟨ds, k⟩ S1) (J : Nat → Env1 → Store → Prop) (ht : ∀ j r S, J j r S → Src.there ⟨ds, k⟩ S) (h0 : J 0 r S1)
    (hb : ∀ i d, ds[i]? = some d → ∀ r S, J i r S → ∃ r1 r' S', g d r = some r1 ∧ (b r1 S = .ok (.nx r') S' ∨ b r1 S = .ok (.ct r') S') ∧ J (i + 1) r' S') : ∃ r' S', sFor it g b r S = .ok (.nx r') S' ∧ J ds.length r' S' := by
  obtain ⟨r', S', e, h⟩ := forM_invT (b := turn g b) (c := ⟨ds, k⟩) J ht ds 0 r S1 (fun i d hd r S hj => by
    rw [Nat.zero_add] at hj ⊢
    obtain ⟨r1, r', S', e1, e2, h2⟩ := hb i d hd r S hj
    exact ⟨r', S', by unfold turn; rw [e1]; exact e2, h2⟩) h0
  refine ⟨r', S', ?_, by simpa using h⟩
  unfold sFor
  rw [hi]
  exact e
theorem compM_inv {g : GM} {t : BM} {f : EM} {c : Src} {r0 : Env1} (hc : c.k = none) (J : Nat → Store → Prop) (R : Nat → PV → Prop) : ∀ (ds : List PV) (j : Nat) (S : Store), (∀ i d, ds[i]? = some d → ∀ S, J (j + i) S → ∃ r1 v S', g d r0 = some r1 ∧ t r1 S = .ok true S ∧ f r1 S = .ok v S' ∧ R (j + i) v ∧ J (j + i + 1) S') → J j S →
    ∃ vs S', compM g t f c r0 ds S = .ok vs S' ∧ J (j + ds.length) S' ∧ vs.length = ds.length ∧ ∀ i v, vs[i]? = some v → R (j + i) v
  | [], j, S, _, h => by
    have th : c.there S := by unfold Src.there; rw [hc]; trivial
    exact ⟨[], S, by unfold compM; rw [if_pos th], by simpa using h, rfl, fun i v e => by simp at e⟩
  | d :: ds, j, S, hb, h => by
    have th : c.there S := by unfold Src.there; rw [hc]; trivial
    obtain ⟨r1, v, S1, e1, e2, e3, hR, h1⟩ := hb 0 d rfl S (by simpa using h)
    obtain ⟨vs, S2, e4, h2, hl, hv⟩ := compM_inv hc J R ds (j + 1) S1 (fun i d' hd S hj => by
      have e3 : j + (i + 1) = j + 1 + i := by omega
      have := hb (i + 1) d' (by simpa using hd) S (by rw [e3]; exact hj)
      rw [e3] at this
      exact this) (by simpa using h1)
    refine ⟨v :: vs, S2, ?_, by rw [List.length_cons, Nat.add_comm ds.length 1, ← Nat.add_assoc]; exact h2, by simp [hl], fun i w e => ?_⟩
    · unfold compM
      rw [if_pos th, e1]
      simp only [e2, okOnly_ok, Res.bind_ok, if_true, e3, e4]
    · cases i with
      | zero => simp at e; subst e; exact hR
      | succ i =>
        have := hv i w (by simpa using e)
        have e3 : j + (i + 1) = j + 1 + i := by omega
        rw [e3]; exact this
/-- a comprehension that changes nothing -/
theorem compM_map {g : GM} {t : BM} {f : EM} {c : Src} {r0 : Env1} {S : Store} (hc : c.k = none ∨ c.there S) (h : PV → PV) : ∀ (ds : List PV), (∀ d ∈ ds, ∃ r1, g d r0 = some r1 ∧ t r1 S = .ok true S ∧ f r1 S = .ok (h d) S) → compM g t f c r0 ds S = .ok (ds.map h) S := fun ds => by
  have th : c.there S := hc.elim (fun e => by unfold Src.there; rw [e]; trivial) id
  induction ds with
  | nil => intro _; unfold compM; rw [if_pos th]; rfl
  | cons d ds ih =>
    intro hb
    obtain ⟨r1, e1, e2, e3⟩ := hb d List.mem_cons_self
    unfold compM
    rw [if_pos th, e1]
    simp only [e2, okOnly_ok, Res.bind_ok, if_true, e3, ih fun d hd => hb d (List.mem_cons_of_mem _ hd), List.map_cons]
theorem compM_map2 {α : Type} {g : GM} {t : BM} {f : EM} {c : Src} {r0 : Env1} {S : Store} (hc : c.k = none ∨ c.there S) (k h : α → PV) : ∀ (xs : List α), (∀ x ∈ xs, ∃ r1, g (k x) r0 = some r1 ∧ t r1 S = .ok true S ∧ f r1 S = .ok (h x) S) → compM g t f c r0 (xs.map k) S = .ok (xs.map h) S := fun xs => by
  have th : c.there S := hc.elim (fun e => by unfold Src.there; rw [e]; trivial) id
  induction xs with
  | nil => intro _; unfold compM; rw [List.map_nil]; simp only [if_pos th]; rfl
  | cons d ds ih =>
    intro hb
    obtain ⟨r1, e1, e2, e3⟩ := hb d List.mem_cons_self
    rw [List.map_cons]
    unfold compM
    rw [if_pos th, e1]
    simp only [e2, okOnly_ok, Res.bind_ok, if_true, e3, ih fun d hd => hb d (List.mem_cons_of_mem _ hd), List.map_cons]
/-- a while with a measure -/
theorem sWhile_inv {t : BM} {b : SM} (J : Nat → Env1 → Store → Prop) (hs : ∀ n r S, J n r S → ∃ k S1, t r S = .ok k S1 ∧ (k = true → ∃ m r' S', m < n ∧ (b r S1 = .ok (.nx r') S' ∨ b r S1 = .ok (.ct r') S') ∧ J m r' S') ∧ (k = false → J n r S1)) :
    ∀ (n : Nat) (r : Env1) (S : Store), J n r S → ∃ m r' S0 S', sWhile t b r S = .ok (.nx r') S' ∧ J m r' S' ∧ t r' S0 = .ok false S' := by
  intro n
  induction n using Nat.strongRecOn with
  | ind n ih =>
    intro r S h
    obtain ⟨k, S1, e, h1, h2⟩ := hs n r S h
    rw [sWhile_eq, e]
    cases k with
    | false => exact ⟨n, r, S, S1, rfl, h2 rfl, e⟩
    | true =>
      obtain ⟨m, r', S', hm, e2, h3⟩ := h1 rfl
      simp only [Res.bind_ok, if_true]
      rcases e2 with e2 | e2 <;> rw [e2] <;> exact ih m hm r' S' h3
theorem rng_get {lo : Int} {n i : Nat} {d : PV} (h : (rng lo n)[i]? = some d) : i < n ∧ d = .int (lo + i) := by
  unfold rng at h
  rw [List.getElem?_map] at h
  by_cases hi : i < n
  · rw [List.getElem?_range hi] at h; cases h; exact ⟨hi, rfl⟩
  · simp [hi] at h
theorem rng_len (lo : Int) (n : Nat) : (rng lo n).length = n := by simp [rng]
theorem shutR_le {n : Nat} {d : PV} {S : Store} (h : S.length ≤ n) : shutR n d S = .ok d S := by unfold shutR; rw [if_pos h]
theorem log2_lt_of {n k : Nat} (h : n < 2 ^ k) (hk : 0 < k) : n.log2 < k := by
  rcases Nat.eq_zero_or_pos n with e | e
  · subst e; simpa using hk
  · exact (Nat.log2_lt (by omega)).mpr h
theorem iRange1_ok {a : EM} {r : Env1} {S S1 : Store} {n : Int} (h : a r S = .ok (.int n) S1) (hn : 0 ≤ n ∧ n ≤ 1000000) : iRange1 a r S = .ok ⟨rng 0 n.toNat, none⟩ S1 := by
  unfold iRange1
  rw [h]
  have h2 : -(2 ^ 62) ≤ n ∧ n < 2 ^ 62 := by constructor <;> omega
  show (if -(2 ^ 62) ≤ n ∧ n < 2 ^ 62 then Res.ok (Src.mk (rng 0 n.toNat) none) S1 else Res.bad) = _
  rw [if_pos h2]
theorem log_small {i : Int} (h : i.natAbs < 18446744073709551616) : i.natAbs.log2 < 64 := log2_lt_of (k := 64) h (by decide)
theorem vMul_int {i j : Int} {S : Store} (h1 : i.natAbs < 18446744073709551616) (h2 : j.natAbs < 18446744073709551616) : vMul (.int i) (.int j) S = .ok (.int (i * j)) S := by
  have := log_small h1
  have := log_small h2
  unfold vMul
  exact if_pos (by omega)
theorem vDiv_int {i j : Int} {S : Store} (h1 : 0 < j) (h2 : j.natAbs < 18446744073709551616) : vDiv (.int i) (.int j) S = .ok (.int (i / j)) S := by
  have := log_small h2
  unfold vDiv
  exact if_pos ⟨h1, by omega⟩
theorem vMod_int {i j : Int} {S : Store} (h1 : 0 < j) : vMod (.int i) (.int j) S = .ok (.int (i % j)) S := if_pos h1
theorem vAdd_int {i j : Int} {S : Store} : vAdd (.int i) (.int j) S = .ok (.int (i + j)) S := rfl
theorem vSub_int {i j : Int} {S : Store} : vSub (.int i) (.int j) S = .ok (.int (i - j)) S := rfl
theorem vNeg_int {i : Int} {S : Store} : vNeg (.int i) S = .ok (.int (-i)) S := rfl
theorem fn_rt {kp : Bool} {N : Nat} {b : SM} {ds : List PV} {S S' : Store} {d : PV} (h : b (start1 N ds) S = .ok (.rt d) S') (hl : S'.length ≤ S.length) : fnM kp N b ds S = .ok d S' := by
  unfold fnM; rw [h]; cases kp
  · exact shutR_le hl
  · rfl
theorem fn_nx {kp : Bool} {N : Nat} {b : SM} {ds : List PV} {S S' : Store} {r : Env1} (h : b (start1 N ds) S = .ok (.nx r) S') (hl : S'.length ≤ S.length) : fnM kp N b ds S = .ok .non S' := by
  unfold fnM; rw [h]; cases kp
  · show shutR S.length .non S' = _
    exact shutR_le hl
  · rfl
/-! the parts at a state -/
def seqK (h : SM) (f : Fl) (S1 : Store) : Res Fl := match f with
  | .nx r1 => h r1 S1
  | f => .ok f S1
@[simp] theorem seqK_nx (h : SM) (r : Env1) (S : Store) : seqK h (.nx r) S = h r S := nr rfl
@[simp] theorem seqK_rt (h : SM) (d : PV) (S : Store) : seqK h (.rt d) S = .ok (.rt d) S := nr rfl
@[simp] theorem seqK_bk (h : SM) (r : Env1) (S : Store) : seqK h (.bk r) S = .ok (.bk r) S := nr rfl
@[simp] theorem seqK_ct (h : SM) (r : Env1) (S : Store) : seqK h (.ct r) S = .ok (.ct r) S := nr rfl
def asgK (o : Option Env1) (S1 : Store) : Res Fl := match o with
  | some r1 => .ok (.nx r1) S1
  | none => .bad
@[simp] theorem asgK_some (r : Env1) (S : Store) : asgK (some r) S = .ok (.nx r) S := nr rfl
def parK (i j : Nat) (r : Env1) (ds : List PV) (S1 : Store) : Res Fl := match ds with
  | [d, e] => .ok (.nx ((r.set i (some d)).set j (some e))) S1
  | _ => .bad
@[simp] theorem parK_two (i j : Nat) (r : Env1) (d e : PV) (S : Store) : parK i j r [d, e] S = .ok (.nx ((r.set i (some d)).set j (some e))) S := nr rfl
def fldK (nm f : Str) (d : PV) (S1 : Store) : Res PV := match d with
  | .obj n fs => if n = nm then ofO (fs.lookup f) S1 else .bad
  | _ => .bad
@[simp] theorem fldK_obj (nm f : Str) (fs : List (Str × PV)) (S : Store) : fldK nm f (.obj nm fs) S = ofO (fs.lookup f) S := if_pos rfl
def fsK (nms : List Str) (f : Str) (r : Env1) (d x : PV) (S2 : Store) : Res Fl := match x with
  | .loc k => (match S2[k]? with
    | some (.ins nm fs) => if nm ∈ nms ∧ fs.length < 1000 then .ok (.nx r) (S2.set k (.ins nm (putA f d fs))) else .bad
    | _ => .bad)
  | _ => .bad
@[simp] theorem sFldSet_ap (nms : List Str) (f : Str) (o v : EM) (r : Env1) (S : Store) : sFldSet nms f o v r S = (v r S).bind fun d S1 => (o r S1).bind fun x S2 => fsK nms f r d x S2 := nr rfl
theorem fsK_ok {nms : List Str} {f nm : Str} {r : Env1} {d : PV} {k : Nat} {S : Store} {fs : List (Str × PV)} (h : S[k]? = some (.ins nm fs)) (hn : nm ∈ nms) (hl : fs.length < 1000) : fsK nms f r d (.loc k) S = .ok (.nx r) (S.set k (.ins nm (putA f d fs))) := by
  unfold fsK
  simp only [h]
  exact if_pos ⟨hn, hl⟩
def varK (o : Option (Option PV)) (S : Store) : Res PV := match o with
  | some (some d) => .ok d S
  | _ => .bad
@[simp] theorem varK_some (d : PV) (S : Store) : varK (some (some d)) S = .ok d S := nr rfl

@[simp] theorem eC_ap (d : PV) (r : Env1) (S : Store) : eC d r S = .ok d S := nr rfl
@[simp] theorem eVar_ap (i : Nat) (r : Env1) (S : Store) : eVar i r S = varK r[i]? S := nr rfl
@[simp] theorem eBin_ap (g : PV → PV → Store → Res PV) (a b : EM) (r : Env1) (S : Store) : eBin g a b r S = (a r S).bind fun d S1 => (b r S1).bind fun e S2 => g d e S2 := nr rfl
@[simp] theorem eUn_ap (g : PV → Store → Res PV) (a : EM) (r : Env1) (S : Store) : eUn g a r S = (a r S).bind fun d S1 => g d S1 := nr rfl
@[simp] theorem lNil_ap (r : Env1) (S : Store) : lNil r S = .ok [] S := nr rfl
@[simp] theorem lCons_ap (a : EM) (b : LM) (r : Env1) (S : Store) : lCons a b r S = (a r S).bind fun d S1 => (b r S1).bind fun ds S2 => .ok (d :: ds) S2 := nr rfl
@[simp] theorem eTup_ap (a : LM) (r : Env1) (S : Store) : eTup a r S = (a r S).bind fun ds S1 => if ds.length ≤ sizeLine then .ok (.tup ds) S1 else .bad := nr rfl
@[simp] theorem eLst_ap (a : LM) (r : Env1) (S : Store) : eLst a r S = (a r S).bind fun ds S1 => if ds.length ≤ sizeLine then .ok (.lst ds) S1 else .bad := nr rfl
@[simp] theorem lDis_ap (a : LM) (r : Env1) (S : Store) : lDis a r S = (a r S).bind fun ds S1 => if ds.length ≤ sizeLine then .ok ds S1 else .bad := nr rfl
@[simp] theorem eIf_ap (t : BM) (a b : EM) (r : Env1) (S : Store) : eIf t a b r S = (t r S).bind fun k S1 => if k = true then a r S1 else b r S1 := nr rfl
@[simp] theorem eCB_ap (g : List PV → Store → Res PV) (a : LM) (r : Env1) (S : Store) : eCB g a r S = (a r S).bind fun ds S1 => g ds S1 := nr rfl
@[simp] theorem eCallN_ap (n : Nat) (m : Fn) (dv : List PV) (a : LM) (r : Env1) (S : Store) : eCallN n m dv a r S = (a r S).bind fun ds S1 => if ds.length + dv.length = n then m (ds ++ dv) S1 else .bad := nr rfl
@[simp] theorem asB_bl (k : Bool) (S : Store) : asB (.bl k) S = .ok k S := nr rfl
@[simp] theorem bVal_ap (a : EM) (r : Env1) (S : Store) : bVal a r S = (a r S).bind asB := nr rfl
@[simp] theorem bAnd_ap (a b : BM) (r : Env1) (S : Store) : bAnd a b r S = (a r S).bind fun k S1 => if k = true then b r S1 else .ok false S1 := nr rfl
@[simp] theorem bOr_ap (a b : BM) (r : Env1) (S : Store) : bOr a b r S = (a r S).bind fun k S1 => if k = true then .ok true S1 else b r S1 := nr rfl
@[simp] theorem bNot_ap (a : BM) (r : Env1) (S : Store) : bNot a r S = (a r S).bind fun k S1 => .ok (!k) S1 := nr rfl
@[simp] theorem eAnd_ap (a b : EM) (r : Env1) (S : Store) : eAnd a b r S = (bVal a r S).bind fun k S1 => if k = true then b r S1 else .ok (.bl false) S1 := nr rfl
@[simp] theorem eOr_ap (a b : EM) (r : Env1) (S : Store) : eOr a b r S = (bVal a r S).bind fun k S1 => if k = true then .ok (.bl true) S1 else b r S1 := nr rfl
@[simp] theorem eNot_ap (a : EM) (r : Env1) (S : Store) : eNot a r S = (bVal a r S).bind fun k S1 => .ok (.bl (!k)) S1 := nr rfl
@[simp] theorem eChain_ap (g h : PV → PV → Store → Res PV) (a b c : EM) (r : Env1) (S : Store) : eChain g h a b c r S = (a r S).bind fun d S1 => (b r S1).bind fun e S2 => (g d e S2).bind fun z S3 => (asB z S3).bind fun k S4 =>
  if k = true then (c r S4).bind fun f S5 => h e f S5 else .ok (.bl false) S4 := nr rfl
@[simp] theorem eNew_ap (f : LM) (r : Env1) (S : Store) : eNew f r S = (f r S).bind fun ds S1 => .ok (.lst ds) S1 := nr rfl
@[simp] theorem eCell_ap (f : LM) (r : Env1) (S : Store) : eCell f r S = (f r S).bind fun ds S1 => .ok (.loc S1.length) (S1 ++ [.lst ds]) := nr rfl
@[simp] theorem sNil_ap (r : Env1) (S : Store) : sNil r S = .ok (.nx r) S := nr rfl
@[simp] theorem sSeq_ap (g h : SM) (r : Env1) (S : Store) : sSeq g h r S = (g r S).bind (seqK h) := nr rfl
@[simp] theorem sRet_ap (a : EM) (r : Env1) (S : Store) : sRet a r S = (a r S).bind fun d S1 => .ok (.rt d) S1 := nr rfl
@[simp] theorem sRetN_ap (r : Env1) (S : Store) : sRetN r S = .ok (.rt .non) S := nr rfl
@[simp] theorem sExpr_ap (a : EM) (r : Env1) (S : Store) : sExpr a r S = (a r S).bind fun _ S1 => .ok (.nx r) S1 := nr rfl
@[simp] theorem sIf_ap (t : BM) (g h : SM) (r : Env1) (S : Store) : sIf t g h r S = (t r S).bind fun k S1 => if k = true then g r S1 else h r S1 := nr rfl
@[simp] theorem sSet_ap (i : Nat) (a : EM) (r : Env1) (S : Store) : sSet i a r S = (a r S).bind fun d S1 => .ok (.nx (r.set i (some d))) S1 := nr rfl
@[simp] theorem sBrk_ap (r : Env1) (S : Store) : sBrk r S = .ok (.bk r) S := nr rfl
@[simp] theorem sCnt_ap (r : Env1) (S : Store) : sCnt r S = .ok (.ct r) S := nr rfl
@[simp] theorem sAsg_ap (g : GM) (a : EM) (r : Env1) (S : Store) : sAsg g a r S = (a r S).bind fun d S1 => asgK (g d r) S1 := nr rfl
@[simp] theorem sPar_ap (i j : Nat) (a : LM) (r : Env1) (S : Store) : sPar i j a r S = (a r S).bind fun ds S1 => parK i j r ds S1 := nr rfl
@[simp] theorem sRaise_ap (c : Str) (r : Env1) (S : Store) : sRaise c r S = .err c S := nr rfl
@[simp] theorem sPut_ap (o i v : EM) (r : Env1) (S : Store) : sPut o i v r S = (v r S).bind fun d S1 => (o r S1).bind fun x S2 => (i r S2).bind fun y S3 => putIx x y d r S3 := nr rfl
@[simp] theorem gNm_ap (i : Nat) (d : PV) (r : Env1) : gNm i d r = some (r.set i (some d)) := nr rfl
@[simp] theorem gTp_ap (n : Nat) (g : GsM) (ds : List PV) (r : Env1) : gTp n g (.tup ds) r = if ds.length = n then g ds r else none := nr rfl
@[simp] theorem gsNil_ap (r : Env1) : gsNil [] r = some r := nr rfl
@[simp] theorem gsCons_ap (g : GM) (h : GsM) (d : PV) (ds : List PV) (r : Env1) : gsCons g h (d :: ds) r = (g d r).bind fun r1 => h ds r1 := nr rfl
@[simp] theorem ofO_some (d : PV) (S : Store) : ofO (some d) S = .ok d S := nr rfl
@[simp] theorem eFld_ap (nm f : Str) (o : EM) (r : Env1) (S : Store) : eFld nm f o r S = (o r S).bind fun d S1 => fldK nm f d S1 := nr rfl
@[simp] theorem eProp_ap (nm : Str) (m : Fn) (o : EM) (r : Env1) (S : Store) : eProp nm m o r S = (o r S).bind fun d S1 => if ofC nm d = true then noErr (m [d] S1) else .bad := nr rfl
@[simp] theorem noErr_ok (d : PV) (S : Store) : noErr (.ok d S) = .ok d S := nr rfl
@[simp] theorem bYes_ap (r : Env1) (S : Store) : bYes r S = .ok true S := nr rfl
@[simp] theorem vSub_int' {i j : Int} {S : Store} : vSub (.int i) (.int j) S = .ok (.int (i - j)) S := nr rfl
@[simp] theorem vAdd_int' {i j : Int} {S : Store} : vAdd (.int i) (.int j) S = .ok (.int (i + j)) S := nr rfl
@[simp] theorem vNeg_int' {i : Int} {S : Store} : vNeg (.int i) S = .ok (.int (-i)) S := nr rfl
@[simp] theorem vCmp_int (c : Int → Int → Bool) (i j : Int) (S : Store) : vCmp c (.int i) (.int j) S = .ok (.bl (c i j)) S := nr rfl
@[simp] theorem lStar_ap (a : EM) (b : LM) (r : Env1) (S : Store) : lStar a b r S = (a r S).bind fun d S1 => (starK d S1).bind fun xs S2 => (b r S2).bind fun ys S3 => .ok (xs ++ ys) S3 := nr rfl
@[simp] theorem starK_tup (xs : List PV) (S : Store) : starK (.tup xs) S = .ok xs S := nr rfl
@[simp] theorem starK_lst (xs : List PV) (S : Store) : starK (.lst xs) S = .ok xs S := nr rfl
@[simp] theorem iZip_ap (a b : EM) (r : Env1) (S : Store) : iZip a b r S = (a r S).bind fun d S1 => (b r S1).bind fun e S2 => zipOf d e S2 := nr rfl
@[simp] theorem zipOf_tup (xs ys : List PV) (S : Store) : zipOf (.tup xs) (.tup ys) S = .ok ⟨zipW xs ys, none⟩ S := nr rfl
@[simp] theorem zipOf_lst (xs ys : List PV) (S : Store) : zipOf (.lst xs) (.lst ys) S = .ok ⟨zipW xs ys, none⟩ S := nr rfl
@[simp] theorem eCallO_ap (nm : Str) (n : Nat) (m : Fn) (dv : List PV) (o : EM) (a : LM) (r : Env1) (S : Store) : eCallO nm n m dv o a r S = (o r S).bind fun d S1 => if ofC nm d = true then (a r S1).bind fun ds S2 => (if (d :: ds).length + dv.length = n then m (d :: ds ++ dv) S2 else .bad) else .bad := nr rfl
@[simp] theorem eMeth_ap (nm mn : Str) (n : Nat) (m : Fn) (dv : List PV) (o : EM) (a : LM) (r : Env1) (S : Store) : eMeth nm mn n m dv o a r S = (o r S).bind fun d S1 => if ofM nm mn d = true then (a r S1).bind fun ds S2 => (if (d :: ds).length + dv.length = n then m (d :: ds ++ dv) S2 else .bad) else .bad := nr rfl
@[simp] theorem eMt_ap (T : String) (g : PV → List PV → Store → Res PV) (o : EM) (a : LM) (r : Env1) (S : Store) : eMt T g o a r S = (o r S).bind fun d S1 => if isT T S1 d = true then (a r S1).bind fun ds S2 => g d ds S2 else .bad := nr rfl
@[simp] theorem eSl_ap (a : EM) (l h : OM) (r : Env1) (S : Store) : eSl a l h r S = (a r S).bind fun d S1 => (l r S1).bind fun lo S2 => (h r S2).bind fun hi S3 => vSl d lo hi S3 := nr rfl
@[simp] theorem oNone_ap (r : Env1) (S : Store) : oNone r S = .ok none S := nr rfl
@[simp] theorem oSome_ap (a : EM) (r : Env1) (S : Store) : oSome a r S = (a r S).bind asI := nr rfl
@[simp] theorem asI_int (i : Int) (S : Store) : asI (.int i) S = .ok (some i) S := nr rfl
@[simp] theorem iRange2_ap (a b : EM) (r : Env1) (S : Store) : iRange2 a b r S = (a r S).bind fun d S1 => (b r S1).bind fun e S2 => rngOf d e S2 := nr rfl
theorem rngOf_ok {n m : Int} {S : Store} (h1 : -1000000 ≤ n ∧ n ≤ 1000000) (h2 : -1000000 ≤ m ∧ m ≤ 1000000) : rngOf (.int n) (.int m) S = .ok ⟨rng n (m - n).toNat, none⟩ S := by
  have h : -(2 ^ 62) ≤ n ∧ n < 2 ^ 62 ∧ -(2 ^ 62) ≤ m ∧ m < 2 ^ 62 := ⟨by omega, by omega, by omega, by omega⟩
  unfold rngOf
  exact if_pos h
/-! steps -/
theorem eBin_ok {g : PV → PV → Store → Res PV} {a b : EM} {r : Env1} {S S1 S2 : Store} {x y : PV} (h1 : a r S = .ok x S1) (h2 : b r S1 = .ok y S2) : eBin g a b r S = g x y S2 := by unfold eBin; rw [h1]; show (b r S1).bind _ = _; rw [h2]; rfl
end Dn

set_option Elab.async false
set_option linter.all false
set_option maxRecDepth 100000
set_option maxHeartbeats 4000000
namespace Dn
open PySem L2 PyProof.Rows

/-! ### texts of data: short enough -/
theorem sl_app (a b : Str) : (a ++ b).length = a.length + b.length := strLen_append a b
mutual
def cap : PyData → Nat
  | .none => 4
  | .bool _ => 5
  | .int _ => 1921
  | .str x => 10 * x.length + 2
  | .list xs => capAll xs + 2
  | .tuple xs => capAll xs + 3
  | .dict _ => 0
def capAll : List PyData → Nat
  | [] => 0
  | x :: xs => cap x + 2 + capAll xs
end
def cpsOk (x : Str) : Bool := x.cps.toList.all fun c => decide (c < 1114112)
mutual
def okP : PyData → Bool
  | .none => true
  | .bool _ => true
  | .int i => decide (i.natAbs.log2 < 1920)
  | .str x => cpsOk x
  | .list xs => okPs xs
  | .tuple xs => okPs xs
  | .dict _ => false
def okPs : List PyData → Bool
  | [] => true
  | x :: xs => okP x && okPs xs
end
theorem textFrom_le : ∀ (ts : List Str) (k : Nat) (acc : Str), (textFrom k acc ts).length ≤ acc.length + piled ts
  | [], _, acc => by simp [textFrom, piled]
  | t :: r, k, acc => by
    have h := textFrom_le r (k + 1) (acc ++ (if k > 0 then ", " else "" : String) ++ t)
    show (textFrom (k + 1) (acc ++ (if k > 0 then ", " else "" : String) ++ t) r).length ≤ _
    have e : (((if k > 0 then ", " else "" : String) : Str)).length ≤ 2 := by split <;> decide
    rw [sl_app, sl_app] at h
    rw [piled_cons]
    omega
theorem tupleText_le (ts : List Str) : (tupleText ts).length ≤ piled ts + 3 := by
  unfold tupleText
  rw [sl_app, sl_app]
  have e1 : ((("(" : String) : Str)).length = 1 := rfl
  have e3 : (((if ts.length == 1 then ",)" else ")" : String) : Str)).length ≤ 2 := by split <;> decide
  by_cases h : ts = []
  · subst h
    have : (Str.join ", " []).length = 0 := rfl
    omega
  · have := join_length_add ts h
    omega
mutual
theorem shown_le : ∀ {d : PyData}, okP d = true → d.shown.length ≤ cap d ∧ d.showable = true ∧ d.hasDict = false
  | .none, _ => ⟨by simp only [PyData.shown, cap]; decide, by simp [PyData.showable], by simp [PyData.hasDict]⟩
  | .bool b, _ => ⟨by simp only [PyData.shown, cap]; cases b <;> decide, by simp [PyData.showable], by simp [PyData.hasDict]⟩
  | .int i, h => by
    have h : i.natAbs.log2 < 1920 := by simpa [okP] using h
    exact ⟨by simp only [PyData.shown, cap]; exact int_text_len_1921 h, by simp [PyData.showable, h], by simp [PyData.hasDict]⟩
  | .str x, h => by
    have h : ∀ c ∈ x.cps.toList, c < 1114112 := by
      have h2 : cpsOk x = true := by simpa [okP] using h
      exact fun c hc => of_decide_eq_true (List.all_eq_true.mp h2 c hc)
    exact ⟨by simp only [PyData.shown, cap]; exact StrLaws.reprText_len x (fun c hc => by have := h c hc; omega), by simp [PyData.showable], by simp [PyData.hasDict]⟩
  | .list xs, h => by
    obtain ⟨h1, h2, h3⟩ := shownAll_le (show okPs xs = true by simpa [okP] using h)
    refine ⟨?_, by simpa [PyData.showable] using h2, by simpa [PyData.hasDict] using h3⟩
    simp only [PyData.shown, cap]
    unfold listText
    rw [sl_app]
    have h4 := textFrom_le (PyData.shownAll xs) 0 "["
    have e1 : ((("[" : String) : Str)).length = 1 := rfl
    have e2 : ((("]" : String) : Str)).length = 1 := rfl
    omega
  | .tuple xs, h => by
    obtain ⟨h1, h2, h3⟩ := shownAll_le (show okPs xs = true by simpa [okP] using h)
    refine ⟨?_, by simpa [PyData.showable] using h2, by simpa [PyData.hasDict] using h3⟩
    simp only [PyData.shown, cap]
    have h4 := tupleText_le (PyData.shownAll xs)
    omega
  | .dict _, h => by simp [okP] at h
theorem shownAll_le : ∀ {ds : List PyData}, okPs ds = true → piled (PyData.shownAll ds) ≤ capAll ds ∧ PyData.showableAll ds = true ∧ PyData.hasDictAll ds = false
  | [], _ => ⟨by simp [PyData.shownAll, capAll, piled], by simp [PyData.showableAll], by simp [PyData.hasDictAll]⟩
  | x :: xs, h => by
    have h : okP x = true ∧ okPs xs = true := by simpa [okPs] using h
    obtain ⟨a1, a2, a3⟩ := shown_le h.1
    obtain ⟨b1, b2, b3⟩ := shownAll_le h.2
    refine ⟨?_, by simp [PyData.showableAll, a2, b2], by simp [PyData.hasDictAll, a3, b3]⟩
    simp only [PyData.shownAll, capAll]
    rw [piled_cons]
    omega
end
theorem reprOk_of {p : PyData} (h1 : okP p = true) (h2 : cap p ≤ 16777216) (h3 : p.depth ≤ 64) : reprOk p := by
  obtain ⟨a, b, c⟩ := shown_le h1
  exact ⟨b, c, h3, Nat.le_trans a (Nat.le_trans h2 (by decide))⟩
theorem vRepr_ok {d : PV} {S : Store} {p : PyData} (h : dataOf S d = some p) (hp : reprOk p) : vRepr [d] S = .ok (.str p.shown) S := by
  show (match dataOf S d with
    | some p => if reprOk p then Res.ok (PV.str p.shown) S else Res.bad
    | none => match dataD S d with
      | some p => if reprOkD p then Res.ok (PV.str p.shown) S else Res.bad
      | none => Res.bad) = _
  rw [h]
  exact if_pos hp
theorem vEq_str (x y : Str) (S : Store) : vEq (.str x) (.str y) S = .ok (.bl (decide (x = y))) S := rfl
theorem vEq_int (i j : Int) (S : Store) : vEq (.int i) (.int j) S = .ok (.bl (decide (i = j))) S := by
  have e : PyData.eqv (.int i) (.int j) = decide (i = j) := by
    simp only [PyData.eqv]
    rw [Bool.eq_iff_iff]
    simp
  have s : ∀ i : Int, SeqAt.shaped (.int i) = true := fun i => by simp [SeqAt.shaped, PyData.canLay0, PyData.depth]
  show (if SeqAt.shaped (.int i) = true ∧ SeqAt.shaped (.int j) = true then Res.ok (PV.bl (PyData.eqv (.int i) (.int j))) S else .bad) = _
  rw [if_pos ⟨s i, s j⟩, e]
theorem cps_of (s : String) : cpsOk (Str.ofString s) = true := by
  unfold cpsOk
  rw [Str.ofString_eq_toList]
  refine List.all_eq_true.mpr fun c hc => ?_
  simp only [List.mem_map] at hc
  obtain ⟨ch, _, rfl⟩ := hc
  have : ch.toNat < 1114112 := by
    have h := ch.valid
    simp only [UInt32.isValidChar, Nat.isValidChar] at h
    show ch.val.toNat < _
    omega
  exact decide_eq_true (by omega)
theorem cps_app {a b : Str} (h1 : cpsOk a = true) (h2 : cpsOk b = true) : cpsOk (a ++ b) = true := by
  unfold cpsOk at *
  have e : (a ++ b).cps = a.cps ++ b.cps := rfl
  rw [e, Array.toList_append, List.all_append, h1, h2]; rfl
theorem empty_app (a : Str) : Str.empty ++ a = a := by
  show Str.append Str.empty a = a
  unfold Str.append Str.empty
  simp
/-! f-strings, str -/
def joinK (fs : List EM) (acc : Str) (r : Env1) (d : PV) (S1 : Store) : Res PV := match d with
  | .str y => if (acc ++ y).length ≤ sizeLine then joinM fs (acc ++ y) r S1 else .bad
  | _ => .bad
@[simp] theorem joinM_nil (acc : Str) (r : Env1) (S : Store) : joinM [] acc r S = .ok (.str acc) S := nr rfl
@[simp] theorem joinM_cons (f : EM) (fs : List EM) (acc : Str) (r : Env1) (S : Store) : joinM (f :: fs) acc r S = (f r S).bind (joinK fs acc r) := nr rfl
@[simp] theorem eJoin_ap (fs : List EM) (r : Env1) (S : Store) : eJoin fs r S = joinM fs Str.empty r S := nr rfl
@[simp] theorem eFmt_ap (a : EM) (r : Env1) (S : Store) : eFmt a r S = (a r S).bind fmtOf := nr rfl
theorem joinK_str {fs : List EM} {acc y : Str} {r : Env1} {S : Store} (h : acc.length + y.length ≤ 16777216) : joinK fs acc r (.str y) S = joinM fs (acc ++ y) r S := by
  have : (acc ++ y).length ≤ sizeLine := by rw [sl_app]; exact Nat.le_trans h (by decide)
  exact if_pos this
theorem fmt_int {i : Int} {S : Store} (h : i.natAbs < 18446744073709551616) : fmtOf (.int i) S = .ok (.str (toString i)) S := by
  have := log_small h
  exact if_pos (by omega)
theorem fmt_str {y : Str} {S : Store} (h : y.length ≤ 16777216) : fmtOf (.str y) S = .ok (.str y) S := if_pos (Nat.le_trans h (by decide))
theorem vStr_int {i : Int} {S : Store} (h : i.natAbs < 18446744073709551616) : vStr [.int i] S = .ok (.str (toString i)) S := by
  have := log_small h
  exact if_pos (show i.natAbs.log2 < 1920 by omega)
theorem vAdd_str {x y : Str} {S : Store} (h : x.length + y.length ≤ 16777216) : vAdd (.str x) (.str y) S = .ok (.str (x ++ y)) S := if_pos (Nat.le_trans h (by decide))
theorem len_int {i : Int} (h : i.natAbs < 18446744073709551616) : (Str.ofString (toString i)).length ≤ 1921 := by
  have := log_small h
  exact int_text_len_1921 (by omega)
theorem asLen_ok {n : Int} {S : Store} (h : 0 ≤ n ∧ n ≤ 1000000) : asLen (.int n) S = .ok (.int n) S := by
  have h2 : 0 ≤ n ∧ n < 2 ^ 63 := ⟨h.1, by omega⟩
  unfold asLen
  exact if_pos h2
theorem seq_le {n : Nat} (h : n ≤ 16777216) : n ≤ sizeLine := Nat.le_trans h (by decide)
end Dn

set_option Elab.async false
set_option linter.all false
set_option maxRecDepth 100000
set_option maxHeartbeats 4000000
namespace Dn
open PySem L2
/-! ### more rewriting rules -/
@[simp] theorem vLe_int (i j : Int) (S : Store) : vLe (.int i) (.int j) S = .ok (.bl (decide (i ≤ j))) S := nr rfl
@[simp] theorem vGt_int (i j : Int) (S : Store) : vGt (.int i) (.int j) S = .ok (.bl (decide (j < i))) S := nr rfl
@[simp] theorem vLt_int (i j : Int) (S : Store) : vLt (.int i) (.int j) S = .ok (.bl (decide (i < j))) S := nr rfl
@[simp] theorem vGe_int (i j : Int) (S : Store) : vGe (.int i) (.int j) S = .ok (.bl (decide (j ≤ i))) S := nr rfl
@[simp] theorem lComp_ap (own : List Nat) (i : IM) (g : GM) (t : BM) (f : EM) (r : Env1) (S : Store) : lComp own i g t f r S = (i r S).bind fun c S1 => if c.ds.length ≤ sizeLine then compM g t f c (wipeE r own) c.ds S1 else .bad := nr rfl
@[simp] theorem iVal_ap (a : EM) (r : Env1) (S : Store) : iVal a r S = (a r S).bind srcOf := nr rfl
@[simp] theorem srcOf_tup (xs : List PV) (S : Store) : srcOf (.tup xs) S = .ok ⟨xs, none⟩ S := nr rfl
@[simp] theorem srcOf_lst (xs : List PV) (S : Store) : srcOf (.lst xs) S = .ok ⟨xs, none⟩ S := nr rfl
@[simp] theorem wipeE_nil (r : Env1) : wipeE r [] = r := nr rfl
@[simp] theorem wipeE_cons (r : Env1) (i : Nat) (is : List Nat) : wipeE r (i :: is) = (wipeE r is).set i none := nr rfl
@[simp] theorem vEq_str2 (x y : Str) (S : Store) : vEq (.str x) (.str y) S = .ok (.bl (decide (x = y))) S := vEq_str x y S
@[simp] theorem vEq_int2 (i j : Int) (S : Store) : vEq (.int i) (.int j) S = .ok (.bl (decide (i = j))) S := vEq_int i j S
@[simp] theorem vMax2 (i j : Int) (S : Store) : vMax [.int i, .int j] S = .ok (.int (max i j)) S := nr rfl
@[simp] theorem vMin2 (i j : Int) (S : Store) : vMin [.int i, .int j] S = .ok (.int (min i j)) S := nr rfl
@[simp] theorem vAbs_int (i : Int) (S : Store) : vAbs [.int i] S = .ok (.int (i.natAbs : Int)) S := nr rfl
@[simp] theorem vLen_lst (xs : List PV) (S : Store) : vLen [.lst xs] S = .ok (.int (xs.length : Nat)) S := nr rfl
@[simp] theorem vLen_tup (xs : List PV) (S : Store) : vLen [.tup xs] S = .ok (.int (xs.length : Nat)) S := nr rfl
theorem vLen_scr (ns : List Int) (S : Store) : vLen [.scr ns] S = .ok (.int ns.length) S := by
  show Res.ok (PV.int ((ns.map PV.int).length : Nat)) S = _
  rw [List.length_map]
@[simp] theorem vTuple_lst (xs : List PV) (S : Store) : vTuple [.lst xs] S = .ok (.tup xs) S := nr rfl
@[simp] theorem vTuple_tup (xs : List PV) (S : Store) : vTuple [.tup xs] S = .ok (.tup xs) S := nr rfl
@[simp] theorem isi_ii (i : Int) (S : Store) : vIsiU [.int i, .ty "int"] S = .ok (.bl true) S := by simp [vIsiU, vIsi, isi1, isi0, tyN, isiT]
@[simp] theorem isi_ib (i : Int) (S : Store) : vIsiU [.int i, .ty "bool"] S = .ok (.bl false) S := by simp [vIsiU, vIsi, isi1, isi0, tyN, isiT]
@[simp] theorem isi_bb (i : Bool) (S : Store) : vIsiU [.bl i, .ty "bool"] S = .ok (.bl true) S := by simp [vIsiU, vIsi, isi1, isi0, tyN, isiT]
@[simp] theorem isi_bi (i : Bool) (S : Store) : vIsiU [.bl i, .ty "int"] S = .ok (.bl true) S := by simp [vIsiU, vIsi, isi1, isi0, tyN, isiT]
@[simp] theorem isi_ss (i : Str) (S : Store) : vIsiU [.str i, .ty "str"] S = .ok (.bl true) S := by simp [vIsiU, vIsi, isi1, isi0, tyN, isiT]
@[simp] theorem isi_tt (i : List PV) (S : Store) : vIsiU [.tup i, .ty "tuple"] S = .ok (.bl true) S := by simp [vIsiU, vIsi, isi1, isi0, tyN, isiT]
theorem isi_obj {nm : Str} {fs : List (Str × PV)} {nm' : Str} (S : Store) (h : nm ∈ HC) (h' : nm' ∈ HC) : vIsiU [.obj nm fs, .cls nm'] S = .ok (.bl (decide (nm = nm'))) S := by
  show (if nm' ∈ HC then (if nm ∈ HC then Res.ok (PV.bl (decide (nm = nm'))) S else .bad) else .bad) = _
  rw [if_pos h', if_pos h]
@[simp] theorem isi_FF (fs : List (Str × PV)) (S : Store) : vIsiU [.obj "Filter" fs, .cls "Filter"] S = .ok (.bl true) S := by
  rw [isi_obj S (by simp [HC]) (by simp [HC])]; simp
@[simp] theorem szl0 : 0 ≤ sizeLine := Nat.zero_le _
@[simp] theorem szlS (n : Nat) (h : n ≤ 16777216) : n ≤ sizeLine := seq_le h
theorem vAdd_lst {xs ys : List PV} {S : Store} (h : xs.length + ys.length ≤ 16777216) : vAdd (.lst xs) (.lst ys) S = .ok (.lst (xs ++ ys)) S := if_pos (seq_le h)
theorem vAdd_tup {xs ys : List PV} {S : Store} (h : xs.length + ys.length ≤ 16777216) : vAdd (.tup xs) (.tup ys) S = .ok (.tup (xs ++ ys)) S := if_pos (seq_le h)
theorem mul2 {i : Int} {S : Store} (h : i.natAbs ≤ 1000000000) : vMul (.int 2) (.int i) S = .ok (.int (2 * i)) S := vMul_int (by decide) (by omega)
theorem mulS {i j : Int} {S : Store} (h : i.natAbs ≤ 1000000000) (h' : j.natAbs ≤ 1000000000) : vMul (.int i) (.int j) S = .ok (.int (i * j)) S := vMul_int (by omega) (by omega)
/-- what a def does: its body, run from its parameters -/
theorem run_fn {kp : Bool} {N : Nat} {b : SM} {ds : List PV} {S : Store} {d : PV} (h : b (start1 N ds) S = .ok (.rt d) S) : fnM kp N b ds S = .ok d S := fn_rt h (Nat.le_refl _)
theorem all_true {ds : List PV} {S : Store} : vAll [.lst (ds.map fun _ => PV.bl true)] S = .ok (.bl true) S := by
  have e : bools? (ds.map fun _ => PV.bl true) = some (ds.map fun _ => true) := by
    induction ds with
    | nil => rfl
    | cons d ds ih => simp only [List.map_cons, bools?, ih]; rfl
  show (match (some (ds.map fun _ => PV.bl true)).bind bools? with
    | some bs => Res.ok (PV.bl (bs.all id)) S
    | none => Res.bad) = _
  rw [Option.bind_some, e]
  simp
theorem bools_map' {α : Type} (f : α → Bool) : ∀ xs : List α, bools? (xs.map fun x => PV.bl (f x)) = some (xs.map f)
  | [] => rfl
  | x :: xs => by simp only [List.map_cons, bools?, bools_map' f xs]; rfl
theorem vAll_map {α : Type} (f : α → Bool) (xs : List α) (S : Store) : vAll [.lst (xs.map fun x => PV.bl (f x))] S = .ok (.bl (xs.all f)) S := by
  show (match (some (xs.map fun x => PV.bl (f x))).bind bools? with
    | some bs => Res.ok (PV.bl (bs.all id)) S
    | none => Res.bad) = _
  rw [Option.bind_some, bools_map']
  simp only [List.all_map]
  rfl
theorem vSum_ints (ns : List Int) (S : Store) : vSum [.lst (ns.map PV.int)] S = .ok (.int ns.sum) S := by
  show (match (some (ns.map PV.int)).bind ints? with
    | some ns => Res.ok (PV.int ns.sum) S
    | none => Res.bad) = _
  rw [Option.bind_some, ints_map]
theorem zipW_ints : ∀ (ts xs : List Int), zipW (ts.map PV.int) (xs.map PV.int) = (ts.zip xs).map fun p => PV.tup [.int p.1, .int p.2]
  | [], _ => rfl
  | _ :: _, [] => rfl
  | t :: ts, x :: xs => by
    have := zipW_ints ts xs
    unfold zipW at *
    simp only [List.map_cons, List.zip_cons_cons, this]
theorem atI_in {xs : List PV} {v : Int} (h0 : 0 ≤ v) (h1 : v < xs.length) : ∃ d, atI xs v = some d ∧ d ∈ xs := by
  obtain ⟨m, rfl⟩ := Int.eq_ofNat_of_zero_le h0
  have hm : m < xs.length := by omega
  refine ⟨xs[m], ?_, List.getElem_mem _⟩
  unfold atI
  have e : ixN xs.length (m : Int) = some m := by
    unfold ixN
    simp
    omega
  rw [e]
  simp [hm]
theorem atI_get {xs : List PV} {m : Nat} {d : PV} (h : xs[m]? = some d) : atI xs (m : Int) = some d := by
  have hm := (List.getElem?_eq_some_iff.mp h).1
  unfold atI
  have e : ixN xs.length (m : Int) = some m := by
    unfold ixN
    simp
    omega
  rw [e]
  exact h
theorem ints_of : ∀ {vs : List PV} {P : Int → Prop}, (∀ (i : Nat) (v : PV), vs[i]? = some v → ∃ t, v = PV.int t ∧ P t) → ∃ ts : List Int, vs = ts.map PV.int ∧ ∀ t ∈ ts, P t
  | [], _, _ => ⟨[], rfl, fun _ h => nomatch h⟩
  | v :: vs, P, h => by
    obtain ⟨t, rfl, ht⟩ := h 0 v rfl
    obtain ⟨ts, rfl, hs⟩ := ints_of (vs := vs) (P := P) fun i w e => h (i + 1) w (by simpa using e)
    exact ⟨t :: ts, rfl, fun u hu => (List.mem_cons.mp hu).elim (fun e => e ▸ ht) (hs u)⟩
theorem ipow_mono {a b : Int} (h0 : 0 ≤ a) (h : a ≤ b) : ∀ n : Nat, a ^ n ≤ b ^ n
  | 0 => by simp
  | n + 1 => by
    rw [Int.pow_succ, Int.pow_succ]
    exact Int.mul_le_mul (ipow_mono h0 h n) h h0 (Int.pow_nonneg (by omega))
theorem sum_le : ∀ {ns : List Int} {m : Nat}, (∀ a ∈ ns, a.natAbs ≤ m) → ns.sum.natAbs ≤ m * ns.length
  | [], _, _ => by simp
  | n :: ns, m, h => by
    have h1 := h n List.mem_cons_self
    have h2 := sum_le (ns := ns) (m := m) fun a ha => h a (List.mem_cons_of_mem _ ha)
    rw [List.sum_cons, List.length_cons, Nat.mul_succ]
    omega
theorem cut_last (xs : List PV) : cutP xs none (some (-1)) = xs.dropLast := by
  unfold cutP
  have e1 : HT.sIx xs.length 0 none = 0 := by simp [HT.sIx]
  have e2 : HT.sIx xs.length xs.length (some (-1)) = xs.length - 1 := by
    unfold HT.sIx
    simp
    omega
  rw [e1, e2]
  simp [List.dropLast_eq_take]
@[simp] theorem vSl_tup (xs : List PV) (lo hi : Option Int) (S : Store) : vSl (.tup xs) lo hi S = .ok (.tup (cutP xs lo hi)) S := nr rfl
/-! ### further rules -/
theorem compM_fm {α : Type} {g : GM} {t : BM} {f : EM} {c : Src} {r0 : Env1} {S : Store} (hc : c.k = none ∨ c.there S) (k h : α → PV) (p : α → Bool) : ∀ (xs : List α), (∀ x ∈ xs, ∃ r1, g (k x) r0 = some r1 ∧ t r1 S = .ok (p x) S ∧ (p x = true → f r1 S = .ok (h x) S)) → compM g t f c r0 (xs.map k) S = .ok ((xs.filter p).map h) S := fun xs => by
  have th : c.there S := hc.elim (fun e => by unfold Src.there; rw [e]; trivial) id
  induction xs with
  | nil => intro _; unfold compM; rw [List.map_nil]; simp only [if_pos th]; rfl
  | cons d ds ih =>
    intro hb
    obtain ⟨r1, e1, e2, e3⟩ := hb d List.mem_cons_self
    have ih' := ih fun d hd => hb d (List.mem_cons_of_mem _ hd)
    rw [List.map_cons]
    unfold compM
    rw [if_pos th, e1]
    cases hp : p d with
    | true => simp only [e2, hp, okOnly_ok, Res.bind_ok, if_true, e3 hp, ih', List.filter_cons_of_pos hp, List.map_cons]
    | false =>
      rw [List.filter_cons_of_neg (by rw [hp]; decide)]
      simp [e2, hp, okOnly_ok, ih']
@[simp] theorem sPar3_ap (i j l : Nat) (a : LM) (r : Env1) (S : Store) : sPar3 i j l a r S = (a r S).bind fun ds S1 => par3K i j l r ds S1 := nr rfl
@[simp] theorem par3K_three (i j l : Nat) (r : Env1) (d e f : PV) (S : Store) : par3K i j l r [d, e, f] S = .ok (.nx (((r.set i (some d)).set j (some e)).set l (some f))) S := nr rfl
@[simp] theorem eTupRg_ap (a b : EM) (r : Env1) (S : Store) : eTupRg a b r S = (a r S).bind fun d S1 => (b r S1).bind fun e S2 => tupRg d e S2 := nr rfl
@[simp] theorem vIs_bb (neg a b : Bool) (S : Store) : vIs neg (.bl a) (.bl b) S = .ok (.bl (xor neg (decide (a = b)))) S := nr rfl
@[simp] theorem vIs_nn (neg : Bool) (S : Store) : vIs neg .non .non S = .ok (.bl (xor neg true)) S := nr rfl
@[simp] theorem vInt_bl (k : Bool) (S : Store) : vInt [.bl k] S = .ok (.int (if k then 1 else 0)) S := nr rfl
@[simp] theorem vInt_int (k : Int) (S : Store) : vInt [.int k] S = .ok (.int k) S := nr rfl
theorem rep_lst {xs : List PV} {k : Int} {S : Store} (h : 0 ≤ k ∧ k ≤ 1000000) (hz : xs.length * k.toNat ≤ 16777216) : vMul (.lst xs) (.int k) S = .ok (.lst (List.replicate k.toNat xs).flatten) S := by
  show (if k < 2 ^ 63 ∧ -(2 ^ 63) ≤ k ∧ xs.length * k.toNat ≤ sizeLine then Res.ok (PV.lst (List.replicate k.toNat xs).flatten) S else .bad) = _
  exact if_pos ⟨by omega, by omega, seq_le hz⟩
theorem rep_tup {xs : List PV} {k : Int} {S : Store} (h : 1 ≤ k ∧ k ≤ 1000) (hz : 0 < xs.length ∧ xs.length ≤ 1000) : vMul (.tup xs) (.int k) S = .ok (.tup (List.replicate k.toNat xs).flatten) S := by
  unfold vMul
  exact if_pos ⟨h.1, h.2, hz.2, hz.1⟩
theorem atI_m1 {xs : List PV} {d : PV} : atI (xs ++ [d]) (-1) = some d := by
  unfold atI
  have e : ixN (xs ++ [d]).length (-1) = some xs.length := by
    unfold ixN
    simp
    omega
  rw [e]
  simp
theorem vIx_m1 {xs : List PV} {d : PV} {S : Store} : vIx (.lst (xs ++ [d])) (.int (-1)) S = .ok d S := by
  show ofO (atI (xs ++ [d]) (-1)) S = _
  rw [atI_m1]; rfl
theorem vIx_loc {S : Store} {k : Nat} {xs : List PV} {i : Int} {d : PV} (h : S[k]? = some (.lst xs)) (e : atI xs i = some d) : vIx (.loc k) (.int i) S = .ok d S := by
  have e1 : seqOf S (.loc k) = some xs := by simp [seqOf, lstOf, h]
  show (match seqOf S (.loc k) with | some xs => ofO (atI xs i) S | none => Res.bad) = _
  rw [e1]
  show ofO (atI xs i) S = _
  rw [e]; rfl
/-! ### lists that stand as objects -/
theorem isT_loc {S : Store} {k : Nat} {xs : List PV} (h : S[k]? = some (.lst xs)) : isT "list" S (.loc k) = true := by simp [isT, lstOf, h]
theorem ext_at {S : Store} {k : Nat} {xs ys : List PV} (h : S[k]? = some (.lst xs)) (hz : xs.length + ys.length ≤ 16777216) : vExtend (.loc k) [.lst ys] S = .ok .non (S.set k (.lst (xs ++ ys))) := by
  show extC k S[k]? (.lst ys) S = _
  rw [h]
  show extK k (some ys) xs S = _
  unfold extK
  simp only [if_pos (seq_le hz)]
theorem app_at {S : Store} {k : Nat} {xs : List PV} {d : PV} (h : S[k]? = some (.lst xs)) (hz : xs.length < 16777216) : vAppend (.loc k) [d] S = .ok .non (S.set k (.lst (xs ++ [d]))) := by
  have : xs.length < sizeLine := Nat.lt_of_lt_of_le hz (by decide)
  show (match S[k]? with
    | some (.lst xs) => if xs.length < sizeLine then Res.ok PV.non (S.set k (.lst (xs ++ [d]))) else .bad
    | _ => .bad) = _
  rw [h]
  exact if_pos this
theorem src_loc {S : Store} {k : Nat} {xs : List PV} (h : S[k]? = some (.lst xs)) : srcOf (.loc k) S = .ok ⟨xs, some k⟩ S := by
  show (match S[k]? with
    | some (.lst xs) => Res.ok (Src.mk xs (some k)) S
    | _ => .bad) = _
  rw [h]
theorem len_loc {S : Store} {k : Nat} {xs : List PV} (h : S[k]? = some (.lst xs)) : vLen [.loc k] S = .ok (.int (xs.length : Nat)) S := by
  show (match seqOf S (.loc k) with
    | some xs => Res.ok (PV.int xs.length) S
    | none => Res.bad) = _
  have e : seqOf S (.loc k) = some xs := by simp [seqOf, lstOf, h]
  rw [e]
theorem last_at (S : Store) (c : Cell) : (S ++ [c])[S.length]? = some c := by simp
theorem set_last (S : Store) (c c' : Cell) : (S ++ [c]).set S.length c' = S ++ [c'] := by
  rw [List.set_append_right _ _ (Nat.le_refl _), Nat.sub_self]; rfl
/-! ### stores whose cells hold no object of the store -/
def flat1 (c : Cell) : Prop := ∀ n, cellSmall n c = true
def AllI (S : Store) : Prop := ∀ c ∈ S, flat1 c
theorem smalls_ints (n : Nat) : ∀ ns : List Int, smalls n (ns.map PV.int) = true
  | [] => rfl
  | x :: xs => by simp [smalls, small, smalls_ints n xs]
theorem flat_ints (ns : List Int) : flat1 (.lst (ns.map PV.int)) := fun n => smalls_ints n ns
theorem smalls_all {n : Nat} : ∀ {xs : List PV}, (∀ x ∈ xs, small n x = true) → smalls n xs = true
  | [], _ => rfl
  | x :: xs, h => by simp [smalls, h x List.mem_cons_self, smalls_all fun y hy => h y (List.mem_cons_of_mem _ hy)]
theorem allI_small {S : Store} (h : AllI S) (n : Nat) : S.all (cellSmall n) = true := List.all_eq_true.mpr fun c hc => h c hc n
theorem AllI.nil : AllI [] := fun _ h => nomatch h
theorem AllI.addC {S : Store} (h : AllI S) {c : Cell} (hc : flat1 c) : AllI (S ++ [c]) := fun d hd => by
  rcases List.mem_append.mp hd with hd | hd
  · exact h d hd
  · simp at hd; subst hd; exact hc
theorem AllI.cat {S T : Store} (h : AllI S) (h' : AllI T) : AllI (S ++ T) := fun d hd => (List.mem_append.mp hd).elim (h d) (h' d)
theorem AllI.take {S : Store} (h : AllI S) (n : Nat) : AllI (S.take n) := fun d hd => h d (List.mem_of_mem_take hd)
theorem AllI.setC {S : Store} (h : AllI S) (k : Nat) {c : Cell} (hc : flat1 c) : AllI (S.set k c) := fun d hd => by
  rcases List.mem_or_eq_of_mem_set hd with hd | rfl
  · exact h d hd
  · exact hc
theorem AllI.app {S : Store} (h : AllI S) (ns : List Int) : AllI (S ++ [.lst (ns.map PV.int)]) := h.addC (flat_ints ns)
theorem AllI.setI {S : Store} (h : AllI S) (k : Nat) (ns : List Int) : AllI (S.set k (.lst (ns.map PV.int))) := h.setC k (flat_ints ns)
/-- a def that makes objects of its own and gives a value back -/
theorem shut_ok {n : Nat} {S T : Store} {d d' : PV} (hn : S.length = n) (hS : S.all (cellSmall n) = true) (hf : frz n (S ++ T) d = some d') (hd : T = [] → d' = d) : shutR n d (S ++ T) = .ok d' S := by
  subst hn
  unfold shutR
  by_cases h : T = []
  · have := hd h
    subst h; subst this
    simp
  · have hl : ¬ (S ++ T).length ≤ S.length := by
      have : 0 < T.length := List.length_pos_iff.mpr h
      simp; omega
    have t : (S ++ T).take S.length = S := by simp
    rw [if_neg hl, t, if_pos hS, hf]
theorem fn_own {N : Nat} {b : SM} {ds : List PV} {S T : Store} {d d' : PV} (h : b (start1 N ds) S = .ok (.rt d) (S ++ T)) (hS : S.all (cellSmall S.length) = true) (hf : frz S.length (S ++ T) d = some d') (hd : T = [] → d' = d) : fnM false N b ds S = .ok d' S := by
  unfold fnM; rw [h]
  show shutR S.length d (S ++ T) = _
  exact shut_ok rfl hS hf hd
end Dn

set_option Elab.async false
set_option linter.all false
set_option maxRecDepth 100000
set_option maxHeartbeats 4000000
namespace Hl
open PySem L2 Dn
structure Pt where
  ts : List Int
  b : Int
  w : Str
  h : Int
  e : Bool
  v : Bool
def tsv (ts : List Int) : PV := .tup (ts.map .int)
def Pt.pv (p : Pt) : PV := .tup [tsv p.ts, .int p.b, .str p.w, .int p.h, .bl p.e, .bl p.v]
def Pt.obj (p : Pt) : PV := .obj "Filter" [("parts", p.pv)]
structure Pt.Ok (p : Pt) : Prop where
  len : 1 ≤ p.ts.length ∧ p.ts.length ≤ 3
  ts : ∀ t ∈ p.ts, -32 ≤ t ∧ t ≤ 32
  b : 1 ≤ p.b ∧ p.b ≤ 16
  w : p.w = "near" ∨ p.w = "cut" ∨ p.w = "down"
  h : 1 ≤ p.h ∧ p.h ≤ 60
  st : (2 * p.h + 1) ^ p.ts.length ≤ 2500
abbrev Pt.st (p : Pt) : Int := (2 * p.h + 1) ^ p.ts.length
theorem pow_small {a : Int} {i : Nat} (ha : 0 ≤ a ∧ a ≤ 1000) (hi : i ≤ 3) : (a ^ i).natAbs < 18446744073709551616 := by
  obtain ⟨m, rfl⟩ := Int.eq_ofNat_of_zero_le ha.1
  have h1 : m ≤ 1000 := by omega
  have h2 : m ^ i ≤ 1000 ^ i := Nat.pow_le_pow_left h1 i
  have h3 : 1000 ^ i ≤ 1000 ^ 3 := Nat.pow_le_pow_right (by decide) (by omega)
  rw [show ((m : Int) ^ i) = ((m ^ i : Nat) : Int) by simp, Int.natAbs_natCast]
  omega
theorem powF (a : Int) (n : Nat) (S : Store) (hn : n ≤ 3) (ha : 0 ≤ a ∧ a ≤ 1000) : sFor (iRange1 (eVar 1)) (gNm 3) (sSet 2 (eBin vMul (eVar 2) (eVar 0))) [some (.int a), some (.int n), some (.int 1), none] S = .ok (.nx [some (.int a), some (.int n), some (.int (a ^ n)), if n = 0 then none else some (.int (n - 1))]) S := by
  obtain ⟨r', S', e, h⟩ := sFor_inv (it := iRange1 (eVar 1)) (g := gNm 3) (b := sSet 2 (eBin vMul (eVar 2) (eVar 0))) (r := [some (.int a), some (.int n), some (.int 1), none]) (S := S) (S1 := S) (ds := rng 0 n)
    (iRange1_ok (n := n) rfl (by omega)) (fun i r S' => S' = S ∧ r = [some (.int a), some (.int n), some (.int (a ^ i)), if i = 0 then none else some (.int (i - 1))]) ⟨rfl, by simp⟩ (fun i d hd r S' ⟨e, er⟩ => by
      subst e er
      obtain ⟨hi, rfl⟩ := rng_get hd
      refine ⟨_, _, S', rfl, .inl (by simp [vMul_int (pow_small ha (show i ≤ 3 by omega)) (show a.natAbs < 18446744073709551616 by omega), Int.pow_succ]; rfl), rfl, ?_⟩
      simp [Int.pow_succ])
  obtain ⟨rfl, rfl⟩ := h
  rw [rng_len] at e
  exact e
theorem power_ok (a : Int) (n : Nat) (S : Store) (hn : n ≤ 3) (ha : 0 ≤ a ∧ a ≤ 1000) : m_p_power [.int a, .int n] S = .ok (.int (a ^ n)) S := by
  refine run_fn ?_
  have e : l_p_power_1 [some (.int a), some (.int n), some (.int 1), none] S = _ := powF a n S hn ha
  unfold b_p_power
  simp [start1, List.replicate, e]
theorem ix0 (p : Pt) (S : Store) : vIx p.pv (.int 0) S = .ok (tsv p.ts) S := nr rfl
theorem ix1 (p : Pt) (S : Store) : vIx p.pv (.int 1) S = .ok (.int p.b) S := nr rfl
theorem ix2 (p : Pt) (S : Store) : vIx p.pv (.int 2) S = .ok (.str p.w) S := nr rfl
theorem ix3 (p : Pt) (S : Store) : vIx p.pv (.int 3) S = .ok (.int p.h) S := nr rfl
theorem ix4 (p : Pt) (S : Store) : vIx p.pv (.int 4) S = .ok (.bl p.e) S := nr rfl
theorem ix5 (p : Pt) (S : Store) : vIx p.pv (.int 5) S = .ok (.bl p.v) S := nr rfl
theorem fld_ok (p : Pt) (S : Store) : fldK "Filter" "parts" p.obj S = .ok p.pv S := nr rfl
theorem len_ts (ts : List Int) (S : Store) : vLen [tsv ts] S = .ok (.int ts.length) S := by
  show Res.ok (PV.int ((ts.map PV.int).length : Nat)) S = _
  rw [List.length_map]
theorem tops_ok (p : Pt) (S : Store) : m_p_Filter_tops [p.obj] S = .ok (tsv p.ts) S := by
  refine run_fn ?_
  unfold b_p_Filter_tops
  simp [start1, List.replicate, fld_ok, ix0]
theorem bottom_ok (p : Pt) (S : Store) : m_p_Filter_bottom [p.obj] S = .ok (.int p.b) S := by
  refine run_fn ?_
  unfold b_p_Filter_bottom
  simp [start1, List.replicate, fld_ok, ix1]
theorem rounding_ok (p : Pt) (S : Store) : m_p_Filter_rounding [p.obj] S = .ok (.str p.w) S := by
  refine run_fn ?_
  unfold b_p_Filter_rounding
  simp [start1, List.replicate, fld_ok, ix2]
theorem high_ok (p : Pt) (S : Store) : m_p_Filter_high [p.obj] S = .ok (.int p.h) S := by
  refine run_fn ?_
  unfold b_p_Filter_high
  simp [start1, List.replicate, fld_ok, ix3]
theorem each_ok (p : Pt) (S : Store) : m_p_Filter_each [p.obj] S = .ok (.bl p.e) S := by
  refine run_fn ?_
  unfold b_p_Filter_each
  simp [start1, List.replicate, fld_ok, ix4]
theorem wraps_ok (p : Pt) (S : Store) : m_p_Filter_wraps [p.obj] S = .ok (.bl p.v) S := by
  refine run_fn ?_
  unfold b_p_Filter_wraps
  simp [start1, List.replicate, fld_ok, ix5]
theorem ofC_ok (p : Pt) : ofC "Filter" p.obj = true := by simp [ofC, Pt.obj]
theorem order_ok (p : Pt) (S : Store) : m_p_Filter_order [p.obj] S = .ok (.int p.ts.length) S := by
  refine run_fn ?_
  unfold b_p_Filter_order
  simp [start1, List.replicate, ofC_ok, tops_ok, len_ts]
theorem plen_ok (p : Pt) (S : Store) : m_p_Filter_len [p.obj] S = .ok (.int p.ts.length) S := by
  refine run_fn ?_
  unfold b_p_Filter_len
  simp [start1, List.replicate, ofC_ok, tops_ok, len_ts]
theorem states_ok {p : Pt} (h : p.Ok) (S : Store) : m_p_Filter_states [p.obj] S = .ok (.int p.st) S := by
  refine run_fn ?_
  have := h.h
  have e : vMul (.int 2) (.int p.h) S = .ok (.int (2 * p.h)) S := vMul_int (by decide) (by omega)
  have e2 := power_ok (2 * p.h + 1) p.ts.length S h.len.2 (by omega)
  unfold b_p_Filter_states
  simp [start1, List.replicate, ofC_ok, high_ok, order_ok, e, e2]
def zer (n : Nat) : PV := .tup ((List.replicate n [PV.int 0]).flatten)
theorem zer_ok (n : Nat) (S : Store) (hn : 1 ≤ n ∧ n ≤ 3) : vMul (.tup [.int 0]) (.int n) S = .ok (zer n) S := by
  unfold vMul
  have : (1 : Int) ≤ n ∧ (n : Int) ≤ 1000 ∧ [PV.int 0].length ≤ 1000 ∧ 0 < [PV.int 0].length := ⟨by omega, by omega, by simp, by simp⟩
  exact if_pos this
theorem rest_ok {p : Pt} (h : p.Ok) (S : Store) : m_p_Filter_rest [p.obj] S = .ok (zer p.ts.length) S := by
  refine run_fn ?_
  unfold b_p_Filter_rest
  have s : 1 ≤ sizeLine := by decide
  simp [start1, List.replicate, ofC_ok, order_ok, zer_ok _ _ h.len, s]
theorem st_small {p : Pt} (h : p.Ok) : 0 ≤ p.st ∧ p.st ≤ 2500 := by
  have := h.h
  exact ⟨Int.pow_nonneg (by omega), h.st⟩
def words (n k : Int) : Str := (((("Filter(order " : Str) ++ (toString n : Str)) ++ (", " : Str)) ++ (toString k : Str)) ++ (" states)" : Str)
theorem l1 : (Str.ofString "Filter(order ").length = 13 := by decide +kernel
theorem l2 : (Str.ofString ", ").length = 2 := by decide +kernel
theorem l3 : (Str.ofString " states)").length = 8 := by decide +kernel
theorem repr_ok {p : Pt} (h : p.Ok) (S : Store) : m_p_Filter_repr [p.obj] S = .ok (.str (words p.ts.length p.st)) S := by
  refine run_fn ?_
  have hs := st_small h
  have hl := h.len
  have a1 := len_int (i := p.ts.length) (by omega)
  have a2 := len_int (i := p.st) (by omega)
  unfold b_p_Filter_repr
  have f1 := fmt_int (i := p.ts.length) (S := S) (by omega)
  have f2 := fmt_int (i := p.st) (S := S) (by omega)
  have z : Str.empty.length = 0 := rfl
  simp only [eJoin_ap, joinM_cons, joinM_nil, eC_ap, Res.bind_ok, eFmt_ap, eProp_ap, eVar_ap, start1, List.replicate, List.map_cons, List.map_nil, List.cons_append, List.nil_append, List.getElem?_cons_zero, varK_some, ofC_ok, if_true, noErr_ok, order_ok, states_ok h, f1, f2, sRet_ap]
  rw [joinK_str (by rw [l1]; decide), empty_app]
  simp only [eJoin_ap, joinM_cons, joinM_nil, eC_ap, Res.bind_ok, eFmt_ap, eProp_ap, eVar_ap, start1, List.replicate, List.map_cons, List.map_nil, List.cons_append, List.nil_append, List.getElem?_cons_zero, varK_some, ofC_ok, if_true, noErr_ok, order_ok, states_ok h, f1, f2, sRet_ap]
  rw [joinK_str (by rw [l1]; omega)]
  simp only [joinM_cons, eC_ap, Res.bind_ok]
  rw [joinK_str (by rw [sl_app, l1, l2]; omega)]
  simp only [eJoin_ap, joinM_cons, joinM_nil, eC_ap, Res.bind_ok, eFmt_ap, eProp_ap, eVar_ap, start1, List.replicate, List.map_cons, List.map_nil, List.cons_append, List.nil_append, List.getElem?_cons_zero, varK_some, ofC_ok, if_true, noErr_ok, order_ok, states_ok h, f1, f2, sRet_ap]
  rw [joinK_str (by rw [sl_app, sl_app, l1, l2]; omega)]
  simp only [joinM_cons, joinM_nil, eC_ap, Res.bind_ok]
  rw [joinK_str (by rw [sl_app, sl_app, sl_app, l1, l2, l3]; omega)]
  simp only [joinM_nil, Res.bind_ok]
  rfl
/-! ### a filter made -/
theorem between_ok (t lo hi : Int) (S : Store) : m_p_is_between [.int t, .int lo, .int hi] S = .ok (.bl (decide (lo ≤ t) && decide (t ≤ hi))) S := by
  refine run_fn ?_
  unfold b_p_is_between
  by_cases h : lo ≤ t <;> simp [start1, List.replicate, isi_ii, isi_ib, h]
theorem are_ok {ts : List Int} {lo hi : Int} (S : Store) (h : ∀ t ∈ ts, lo ≤ t ∧ t ≤ hi) (hl : ts.length ≤ 1000000) : m_p_are_between [tsv ts, .int lo, .int hi] S = .ok (.bl true) S := by
  refine run_fn ?_
  have e : c_p_are_between_1 [some (tsv ts), some (.int lo), some (.int hi), none] S = .ok ((ts.map PV.int).map fun _ => .bl true) S := by
    unfold c_p_are_between_1 tsv
    simp [show ts.length ≤ 16777216 by omega, -List.map_map]
    refine compM_map (.inl rfl) (fun _ => .bl true) _ fun d hd => ?_
    obtain ⟨t, ht, rfl⟩ := List.mem_map.mp hd
    have := h t ht
    exact ⟨_, rfl, rfl, by simp [between_ok, this]⟩
  have i : vIsiU [tsv ts, .ty "tuple"] S = .ok (.bl true) S := isi_tt _ S
  unfold b_p_are_between
  simp [start1, List.replicate, i, e, all_true, -List.map_map]
theorem round_ok {w : Str} (S : Store) (h : w = "near" ∨ w = "cut" ∨ w = "down") : m_p_is_rounding [.str w] S = .ok (.bl true) S := by
  refine run_fn ?_
  have z : 3 ≤ sizeLine := seq_le (by omega)
  have e : vIn false (.str w) (.tup [.str "near", .str "cut", .str "down"]) S = .ok (.bl true) S := by
    have e2 : inV (.str w) [.str "near", .str "cut", .str "down"] = true := by
      rcases h with e | e | e <;> subst e <;> decide +kernel
    show Res.ok (PV.bl (inV (.str w) [.str "near", .str "cut", .str "down"])) S = _
    rw [e2]
  unfold b_p_is_rounding
  simp [start1, List.replicate, isi_ss, z, e]
theorem need_ok {p : Pt} (h : p.Ok) (S : Store) : m_p_need_parts [tsv p.ts, .int p.b, .str p.w, .int p.h, .tup [.bl p.e, .bl p.v]] S = .ok .non S := by
  refine fn_nx (r := [some (tsv p.ts), some (.int p.b), some (.str p.w), some (.int p.h), some (.tup [.bl p.e, .bl p.v]), none]) ?_ (Nat.le_refl _)
  have hl := h.len
  have hb := h.b
  have hh := h.h
  have e1 := are_ok (ts := p.ts) S h.ts (by omega)
  have e2 := round_ok S h.w
  have e3 : vMul (.int 2) (.int p.h) S = .ok (.int (2 * p.h)) S := mul2 (by omega)
  have e4 := power_ok (2 * p.h + 1) p.ts.length S hl.2 (by omega)
  have e5 : c_p_need_parts_1 [some (tsv p.ts), some (.int p.b), some (.str p.w), some (.int p.h), some (.tup [.bl p.e, .bl p.v]), none] S = .ok [.bl true, .bl true] S := by
    unfold c_p_need_parts_1
    simp
    refine compM_map (.inl rfl) (fun _ => .bl true) [.bl p.e, .bl p.v] fun d hd => ?_
    simp at hd
    rcases hd with rfl | rfl <;> exact ⟨_, rfl, rfl, by simp⟩
  have e6 : vAll [.lst [PV.bl true, .bl true]] S = .ok (.bl true) S := all_true (ds := [PV.bl p.e, .bl p.v])
  have i1 : (1 : Int) ≤ p.ts.length := by omega
  have i2 : (p.ts.length : Int) ≤ 3 := by omega
  have i3 : ¬ (2500 : Int) < (2 * p.h + 1) ^ p.ts.length := by have := h.st; omega
  unfold b_p_need_parts
  simp [start1, List.replicate, e1, len_ts, between_ok, hb, hh, e2, e3, e4, i1, i2, i3, e5, e6]
theorem init_ok {p : Pt} (h : p.Ok) (S : Store) : m_p_Filter_init [.loc S.length, tsv p.ts, .int p.b, .str p.w, .int p.h, .bl p.e, .bl p.v] (S ++ [.ins "Filter" []]) = .ok .non (S ++ [.ins "Filter" [("parts", p.pv)]]) := by
  have z2 : 2 ≤ sizeLine := seq_le (by omega)
  have z6 : 6 ≤ sizeLine := seq_le (by omega)
  have e : b_p_Filter_init (start1 7 [.loc S.length, tsv p.ts, .int p.b, .str p.w, .int p.h, .bl p.e, .bl p.v]) (S ++ [.ins "Filter" []]) = .ok (.nx [some (.loc S.length), some (tsv p.ts), some (.int p.b), some (.str p.w), some (.int p.h), some (.bl p.e), some (.bl p.v)]) (S ++ [.ins "Filter" [("parts", p.pv)]]) := by
    unfold b_p_Filter_init
    have g : (S ++ [Cell.ins "Filter" []])[S.length]? = some (.ins "Filter" []) := by simp
    have fs1 := fsK_ok (nms := ["Filter"]) (f := "parts") (nm := "Filter") (d := p.pv) (r := [some (.loc S.length), some (tsv p.ts), some (.int p.b), some (.str p.w), some (.int p.h), some (.bl p.e), some (.bl p.v)]) g (by simp) (by simp)
    have fs2 : (S ++ [Cell.ins "Filter" []]).set S.length (.ins "Filter" (putA "parts" p.pv [])) = S ++ [.ins "Filter" [("parts", p.pv)]] := by
      rw [List.set_append_right _ _ (Nat.le_refl _), Nat.sub_self]; rfl
    rw [fs2] at fs1
    unfold Pt.pv at fs1
    simp [start1, List.replicate, need_ok h, z2, z6, fs1]
    rfl
  unfold m_p_Filter_init fnM
  rw [e]; rfl
theorem pv_small (p : Pt) (n : Nat) : small n p.pv = true := by
  unfold Pt.pv tsv
  simp [small, smalls, smalls_ints]
theorem make_ok {p : Pt} (h : p.Ok) {S : Store} (hS : AllI S) : makeM true "Filter" m_p_Filter_init [tsv p.ts, .int p.b, .str p.w, .int p.h, .bl p.e, .bl p.v] S = .ok p.obj S := by
  unfold makeM
  rw [init_ok h S]
  show shutR S.length (.loc S.length) (S ++ [.ins "Filter" [("parts", p.pv)]]) = _
  unfold shutR
  have t : (S ++ [Cell.ins "Filter" [("parts", p.pv)]]).take S.length = S := by simp
  rw [if_neg (by simp), t, if_pos (allI_small hS _)]
  have f : frz S.length (S ++ [.ins "Filter" [("parts", p.pv)]]) (.loc S.length) = some p.obj := by
    have g : (S ++ [Cell.ins "Filter" [("parts", p.pv)]])[S.length]? = some (.ins "Filter" [("parts", p.pv)]) := by simp
    have sm : smallf S.length [("parts", p.pv)] = true := by simp [smallf, pv_small]
    unfold frz
    rw [if_neg (Nat.lt_irrefl _), g]
    exact if_pos sm
  rw [f]
end Hl

set_option Elab.async false
set_option linter.all false
set_option maxRecDepth 100000
set_option maxHeartbeats 4000000
namespace Hl
open PySem L2 Dn
/-! ### steps, as numbers -/
def rnd (w : Str) (a b : Int) : Int := if w = "down" then a / b else (if 0 ≤ a then (if w = "cut" then (a.natAbs : Int) / b else (2 * (a.natAbs : Int) + b) / (2 * b)) else -(if w = "cut" then (a.natAbs : Int) / b else (2 * (a.natAbs : Int) + b) / (2 * b)))
def prods (ts xs : List Int) : List Int := (ts.zip xs).map fun p => p.1 * p.2
def Pt.sm (p : Pt) (xs : List Int) : Int := if p.e = true then ((prods p.ts xs).map fun a => rnd p.w a p.b).sum else rnd p.w (prods p.ts xs).sum p.b
def Pt.fit (p : Pt) (n : Int) : Int := if p.v = true then (n + p.h) % (2 * p.h + 1) - p.h else max (-p.h) (min p.h n)
def Pt.step (p : Pt) (xs : List Int) (x : Int) : List Int := p.fit (p.sm xs + x) :: xs.dropLast
/-- a state -/
structure Pt.St (p : Pt) (xs : List Int) : Prop where
  len : xs.length = p.ts.length
  le : ∀ x ∈ xs, -p.h ≤ x ∧ x ≤ p.h
theorem words_ne : ("down" : Str) ≠ "cut" ∧ ("near" : Str) ≠ "down" ∧ ("near" : Str) ≠ "cut" ∧ ("cut" : Str) ≠ "down" := by decide +kernel
theorem rounded_ok {a b : Int} {w : Str} (S : Store) (hb : 1 ≤ b ∧ b ≤ 1000) (ha : a.natAbs ≤ 1000000000) : m_p_rounded [.int a, .int b, .str w] S = .ok (.int (rnd w a b)) S := by
  refine run_fn ?_
  have d1 : vDiv (.int a) (.int b) S = .ok (.int (a / b)) S := vDiv_int (by omega) (by omega)
  have d2 : vDiv (.int (a.natAbs : Int)) (.int b) S = .ok (.int ((a.natAbs : Int) / b)) S := vDiv_int (by omega) (by omega)
  have m1 : vMul (.int 2) (.int (a.natAbs : Int)) S = .ok (.int (2 * (a.natAbs : Int))) S := vMul_int (by decide) (by omega)
  have m2 : vMul (.int 2) (.int b) S = .ok (.int (2 * b)) S := vMul_int (by decide) (by omega)
  have d3 : vDiv (.int (2 * (a.natAbs : Int) + b)) (.int (2 * b)) S = .ok (.int ((2 * (a.natAbs : Int) + b) / (2 * b))) S := vDiv_int (by omega) (by omega)
  unfold b_p_rounded
  unfold rnd
  by_cases h1 : w = "down"
  · simp [start1, List.replicate, h1, d1]
  · by_cases h2 : w = "cut" <;> by_cases h3 : 0 ≤ a <;> simp [start1, List.replicate, h1, h2, h3, d2, m1, m2, d3, words_ne]
theorem prod_le {p : Pt} (h : p.Ok) {xs : List Int} (hx : p.St xs) : ∀ a ∈ prods p.ts xs, a.natAbs ≤ 1920 := fun a ha => by
  unfold prods at ha
  obtain ⟨⟨t, x⟩, hm, rfl⟩ := List.mem_map.mp ha
  obtain ⟨h1, h2⟩ := List.of_mem_zip hm
  have := h.ts t h1
  have := hx.le x h2
  have := h.h
  rw [Int.natAbs_mul]
  calc t.natAbs * x.natAbs ≤ 32 * 60 := Nat.mul_le_mul (by omega) (by omega)
    _ = 1920 := rfl
theorem prods_len {p : Pt} (h : p.Ok) (xs : List Int) : (prods p.ts xs).length ≤ 3 := by
  have := h.len
  unfold prods
  simp; omega
theorem prods_sum {p : Pt} (h : p.Ok) {xs : List Int} (hx : p.St xs) : (prods p.ts xs).sum.natAbs ≤ 5760 := by
  have := sum_le (prod_le h hx)
  have : 1920 * (prods p.ts xs).length ≤ 1920 * 3 := Nat.mul_le_mul_left _ (prods_len h xs)
  omega
/-- products by a comprehension over a zip -/
theorem prod_comp {p : Pt} (h : p.Ok) {xs : List Int} (hx : p.St xs) (S : Store) {r0 : Env1} (i j : Nat) (hij : i < r0.length ∧ j < r0.length ∧ i ≠ j) :
    compM (gTp 2 (gsCons (gNm i) (gsCons (gNm j) gsNil))) bYes (eBin vMul (eVar i) (eVar j)) ⟨zipW (p.ts.map PV.int) (xs.map PV.int), none⟩ r0 (zipW (p.ts.map PV.int) (xs.map PV.int)) S = .ok ((prods p.ts xs).map PV.int) S := by
  rw [zipW_ints]
  unfold prods
  rw [List.map_map]
  refine compM_map2 (.inl rfl) (fun p : Int × Int => PV.tup [.int p.1, .int p.2]) (fun p : Int × Int => PV.int (p.1 * p.2)) (p.ts.zip xs) fun q hq => ⟨(r0.set i (some (.int q.1))).set j (some (.int q.2)), by simp, rfl, ?_⟩
  obtain ⟨h1, h2⟩ := List.of_mem_zip hq
  have := h.ts _ h1
  have := hx.le _ h2
  have := h.h
  simp [List.getElem?_set, hij, hij.2.2.symm, vMul_int (i := q.1) (j := q.2) (S := S) (by omega) (by omega)]
theorem zipW_len {p : Pt} (h : p.Ok) (xs : List Int) : (zipW (p.ts.map PV.int) (xs.map PV.int)).length ≤ 16777216 := by
  have := h.len
  rw [zipW_ints]; simp; omega
theorem summed_ok {p : Pt} (h : p.Ok) {xs : List Int} (hx : p.St xs) (S : Store) : m_p_summed [p.obj, tsv xs] S = .ok (.int (p.sm xs)) S := by
  refine run_fn ?_
  have hb := h.b
  have pl := prods_len h xs
  have c1 : c_p_summed_1 [some p.obj, some (tsv xs), none, none, none] S = .ok ((prods p.ts xs).map PV.int) S := by
    unfold c_p_summed_1 tsv
    simp [ofC_ok, tops_ok, tsv, zipW_len h xs]
    exact prod_comp h hx S 3 4 ⟨by simp, by simp, by simp⟩
  have c2 : c_p_summed_2 [some p.obj, some (tsv xs), some (.lst ((prods p.ts xs).map PV.int)), none, none] S = .ok (((prods p.ts xs).map fun a => rnd p.w a p.b).map PV.int) S := by
    unfold c_p_summed_2
    simp [show (prods p.ts xs).length ≤ 16777216 by omega, -List.map_map]
    rw [List.map_map]
    refine compM_map2 (.inl rfl) PV.int (fun a => PV.int (rnd p.w a p.b)) (prods p.ts xs) fun a ha => ⟨_, rfl, rfl, ?_⟩
    have := prod_le h hx a ha
    simp [ofC_ok, bottom_ok, rounding_ok, rounded_ok (a := a) (b := p.b) (w := p.w) S (by omega) (by omega)]
  have sb := prods_sum h hx
  have r0 := rounded_ok (a := (prods p.ts xs).sum) (b := p.b) (w := p.w) S (by omega) (by omega)
  unfold b_p_summed Pt.sm
  cases he : p.e with
  | false => simp [start1, List.replicate, ofC_ok, c1, vSum_ints, r0, each_ok, he, bottom_ok, rounding_ok]
  | true => simp [start1, List.replicate, ofC_ok, c1, c2, vSum_ints, each_ok, he, bottom_ok, rounding_ok, -List.map_map]
theorem vSl_last (xs : List Int) (S : Store) : vSl (tsv xs) none (some (-1)) S = .ok (tsv xs.dropLast) S := by
  show Res.ok (PV.tup (cutP (xs.map PV.int) none (some (-1)))) S = _
  rw [cut_last]
  unfold tsv
  rw [List.map_dropLast]
theorem fitted_ok {p : Pt} (h : p.Ok) (n : Int) (S : Store) : m_p_fitted [p.obj, .int n] S = .ok (.int (p.fit n)) S := by
  refine run_fn ?_
  have hh := h.h
  have m1 : vMul (.int 2) (.int p.h) S = .ok (.int (2 * p.h)) S := mul2 (by omega)
  have m2 : vMod (.int (n + p.h)) (.int (2 * p.h + 1)) S = .ok (.int ((n + p.h) % (2 * p.h + 1))) S := vMod_int (by omega)
  unfold b_p_fitted Pt.fit
  cases hv : p.v <;> simp [start1, List.replicate, ofC_ok, wraps_ok, high_ok, hv, m1, m2]
theorem stepped_ok {p : Pt} (h : p.Ok) {xs : List Int} (hx : p.St xs) (x : Int) (S : Store) : m_p_stepped [p.obj, tsv xs, .int x] S = .ok (tsv (p.step xs x)) S := by
  refine run_fn ?_
  have hl := h.len
  have z : ((tsv xs.dropLast) = .tup (xs.dropLast.map PV.int)) := rfl
  have z1 : xs.length - 1 + 1 ≤ sizeLine := seq_le (by have := hx.len; omega)
  unfold b_p_stepped
  simp [start1, List.replicate, summed_ok h hx, fitted_ok h, vSl_last]
  simp [z, z1, tsv, Pt.step]
theorem contains_ok {p : Pt} (h : p.Ok) {xs : List Int} (hx : p.St xs) (S : Store) : m_p_Filter_contains [p.obj, tsv xs] S = .ok (.bl true) S := by
  refine run_fn ?_
  have hl := h.len
  have e := are_ok (ts := xs) (lo := -p.h) (hi := p.h) S hx.le (by rw [hx.len]; omega)
  unfold b_p_Filter_contains
  simp [start1, List.replicate, ofC_ok, high_ok, e, len_ts, order_ok, hx.len]
theorem vInO_F {neg : Bool} {p : Pt} {d : PV} {b : Bool} {S : Store} (h : m_p_Filter_contains [p.obj, d] S = .ok (.bl b) S) : vInO neg "Filter" m_p_Filter_contains d p.obj S = .ok (.bl (if neg then !b else b)) S := by
  show (if ("Filter" : Str) = "Filter" then (m_p_Filter_contains [p.obj, d] S).bind (fun z S1 => match z with
    | .bl b => Res.ok (PV.bl (if neg then !b else b)) S1
    | _ => Res.bad) else Res.bad) = _
  rw [if_pos rfl, h]; rfl
theorem vInT_F {neg : Bool} {p : Pt} {d : PV} {b : Bool} {S : Store} {m : Fn} (h : m_p_Filter_contains [p.obj, d] S = .ok (.bl b) S) : vInT neg [("Filter", m_p_Filter_contains), ("Chain", m)] d p.obj S = .ok (.bl (if neg then !b else b)) S := by
  rw [← vInO_F (neg := neg) h]
  show (match ([("Filter", m_p_Filter_contains), ("Chain", m)] : List (Str × Fn)).lookup ("Filter" : Str) with
    | some m => vInO neg "Filter" m d p.obj S
    | none => .bad) = _
  have e : ([("Filter", m_p_Filter_contains), ("Chain", m)] : List (Str × Fn)).lookup ("Filter" : Str) = some m_p_Filter_contains := by simp [List.lookup]
  rw [e]
theorem need_state_ok {p : Pt} (h : p.Ok) {xs : List Int} (hx : p.St xs) (S : Store) : m_p_need_state [p.obj, tsv xs] S = .ok .non S := by
  refine fn_nx (r := [some p.obj, some (tsv xs)]) ?_ (Nat.le_refl _)
  have e := vInT_F (neg := true) (m := m_p_Chain_contains) (contains_ok h hx S)
  unfold b_p_need_state
  simp [start1, List.replicate, e]
theorem need_input_ok {x : Int} (hx : -1000 ≤ x ∧ x ≤ 1000) (S : Store) : m_p_need_input [.int x] S = .ok .non S := by
  refine fn_nx (r := [some (.int x)]) ?_ (Nat.le_refl _)
  unfold b_p_need_input
  simp [start1, List.replicate, between_ok, hx]
theorem need_step_ok {p : Pt} (h : p.Ok) {xs : List Int} (hx : p.St xs) {x : Int} (hi : -1000 ≤ x ∧ x ≤ 1000) (S : Store) : m_p_need_step [p.obj, tsv xs, .int x] S = .ok .non S := by
  refine fn_nx (r := [some p.obj, some (tsv xs), some (.int x)]) ?_ (Nat.le_refl _)
  unfold b_p_need_step
  simp [start1, List.replicate, need_state_ok h hx, need_input_ok hi]
theorem call_ok {p : Pt} (h : p.Ok) {xs : List Int} (hx : p.St xs) {x : Int} (hi : -1000 ≤ x ∧ x ≤ 1000) (S : Store) : m_p_Filter_call [p.obj, tsv xs, .int x] S = .ok (tsv (p.step xs x)) S := by
  refine run_fn ?_
  unfold b_p_Filter_call
  simp [start1, List.replicate, need_step_ok h hx hi, stepped_ok h hx]
theorem spills_ok {p : Pt} (h : p.Ok) {xs : List Int} (hx : p.St xs) {x : Int} (hi : -1000 ≤ x ∧ x ≤ 1000) (S : Store) : m_p_Filter_spills [p.obj, tsv xs, .int x] S = .ok (.bl (decide (p.h < ((p.sm xs + x).natAbs : Int)))) S := by
  refine run_fn ?_
  unfold b_p_Filter_spills
  simp [start1, List.replicate, need_step_ok h hx hi, summed_ok h hx, ofC_ok, high_ok]
theorem ofM_ok (p : Pt) (mn : Str) (h : mn ≠ "parts") : ofM "Filter" mn p.obj = true := by
  have : (mn == ("parts" : Str)) = false := by simpa using h
  simp [ofM, Pt.obj, List.lookup, this]
/-! ### texts of numbers, states -/
def pdts (ts : List Int) : PyData := .tuple (ts.map .int)
theorem d0s_ints : ∀ ts : List Int, data0s (ts.map PV.int) = some (ts.map PyData.int)
  | [] => rfl
  | t :: ts => by simp [data0s, data0, d0s_ints ts]
theorem tsv_pd (ts : List Int) : data0 (tsv ts) = some (pdts ts) := by
  unfold tsv pdts
  simp [data0, d0s_ints]
def Pt.pd (p : Pt) : PyData := .tuple [pdts p.ts, .int p.b, .str p.w, .int p.h, .bool p.e, .bool p.v]
theorem d0_pv (p : Pt) : data0 p.pv = some p.pd := by
  unfold Pt.pv Pt.pd tsv pdts
  simp [data0, data0s, d0s_ints]
def smallI (i : Int) : Prop := i.natAbs < 18446744073709551616
theorem okp_int {i : Int} (h : smallI i) : okP (.int i) = true := by
  have := log_small h
  simp only [okP]
  exact decide_eq_true (by omega)
theorem ok_ints : ∀ {ts : List Int}, (∀ t ∈ ts, smallI t) → okPs (ts.map PyData.int) = true ∧ capAll (ts.map PyData.int) = 1923 * ts.length
  | [], _ => ⟨by simp [okPs], by simp [capAll]⟩
  | t :: ts, h => by
    obtain ⟨h1, h2⟩ := ok_ints (ts := ts) fun x hx => h x (List.mem_cons_of_mem _ hx)
    refine ⟨by simp [okPs, okp_int (h t List.mem_cons_self), h1], ?_⟩
    simp only [List.map_cons, capAll, cap, h2, List.length_cons]
    omega
theorem okp_ts {ts : List Int} (h : ∀ t ∈ ts, smallI t) : okP (pdts ts) = true ∧ cap (pdts ts) = 1923 * ts.length + 3 := by
  obtain ⟨h1, h2⟩ := ok_ints h
  exact ⟨by simpa [pdts, okP] using h1, by simp only [pdts, cap, h2]⟩
theorem dep_ints : ∀ ts : List Int, PyData.depthAll (ts.map PyData.int) ≤ 1
  | [] => by simp [PyData.depthAll]
  | t :: ts => by
    have := dep_ints ts
    simp only [List.map_cons, PyData.depthAll, PyData.depth]
    omega
theorem pdts_depth (ts : List Int) : (pdts ts).depth ≤ 2 := by
  have := dep_ints ts
  unfold pdts
  simp only [PyData.depth]
  omega
theorem w_ok {p : Pt} (h : p.Ok) : cpsOk p.w = true ∧ p.w.length ≤ 4 := by
  rcases h.w with e | e | e <;> rw [e] <;> exact ⟨cps_of _, by decide +kernel⟩
theorem ts_small {p : Pt} (h : p.Ok) : ∀ t ∈ p.ts, smallI t := fun t ht => by
  have := h.ts t ht
  unfold smallI; omega
theorem st_smallI {p : Pt} (h : p.Ok) {xs : List Int} (hx : p.St xs) : ∀ t ∈ xs, smallI t := fun t ht => by
  have := hx.le t ht
  have := h.h
  unfold smallI; omega
theorem dof_lst {S : Store} {xs : List PV} {q : PyData} (h : data0 (.lst xs) = some q) : dataOf S (.lst xs) = some q := by
  have : dataOf S (.lst xs) = (data0s xs).map .list := rfl
  rw [this]
  simpa [data0] using h
/-- the data of a value that holds no object of the store; what bounds its text -/
def Dt (d : PV) (q : PyData) (c e : Nat) : Prop := data0 d = some q ∧ okP q = true ∧ cap q ≤ c ∧ q.depth ≤ e
def Dts (ds : List PV) (qs : List PyData) (c e : Nat) : Prop := data0s ds = some qs ∧ okPs qs = true ∧ capAll qs ≤ c ∧ PyData.depthAll qs ≤ e
theorem Dts.nil (c e : Nat) : Dts [] [] c e := ⟨rfl, by simp [okPs], by simp [capAll], by simp [PyData.depthAll]⟩
theorem Dts.cons {d : PV} {q : PyData} {ds : List PV} {qs : List PyData} {c1 c2 c e : Nat} (h : Dt d q c1 e) (t : Dts ds qs c2 e) (hc : c1 + c2 + 2 ≤ c) : Dts (d :: ds) (q :: qs) c e := by
  obtain ⟨a1, a2, a3, a4⟩ := h
  obtain ⟨b1, b2, b3, b4⟩ := t
  refine ⟨by simp [data0s, a1, b1], by simp [okPs, a2, b2], ?_, ?_⟩
  · simp only [capAll]; omega
  · simp only [PyData.depthAll]; omega
theorem Dts.nil' : Dts [] [] 0 0 := ⟨rfl, by simp [okPs], by simp [capAll], by simp [PyData.depthAll]⟩
theorem Dts.add {d : PV} {q : PyData} {ds : List PV} {qs : List PyData} {c1 c2 e1 e2 : Nat} (h : Dt d q c1 e1) (t : Dts ds qs c2 e2) : Dts (d :: ds) (q :: qs) (c1 + c2 + 2) (max e1 e2) := by
  obtain ⟨a1, a2, a3, a4⟩ := h
  obtain ⟨b1, b2, b3, b4⟩ := t
  refine ⟨by simp [data0s, a1, b1], by simp [okPs, a2, b2], ?_, ?_⟩
  · simp only [capAll]; omega
  · simp only [PyData.depthAll]; omega
theorem Dt.tup {ds : List PV} {qs : List PyData} {c e : Nat} (t : Dts ds qs c e) : Dt (.tup ds) (.tuple qs) (c + 3) (e + 1) := by
  obtain ⟨b1, b2, b3, b4⟩ := t
  refine ⟨by simp [data0, b1], by simpa [okP] using b2, ?_, ?_⟩
  · simp only [cap]; omega
  · simp only [PyData.depth]; omega
theorem Dt.lst {ds : List PV} {qs : List PyData} {c e : Nat} (t : Dts ds qs c e) : Dt (.lst ds) (.list qs) (c + 3) (e + 1) := by
  obtain ⟨b1, b2, b3, b4⟩ := t
  refine ⟨by simp [data0, b1], by simpa [okP] using b2, ?_, ?_⟩
  · simp only [cap]; omega
  · simp only [PyData.depth]; omega
theorem Dt.le {d : PV} {q : PyData} {c e c' e' : Nat} (h : Dt d q c e) (hc : c ≤ c') (he : e ≤ e') : Dt d q c' e' := ⟨h.1, h.2.1, Nat.le_trans h.2.2.1 hc, Nat.le_trans h.2.2.2 he⟩
theorem Dt.int {i : Int} (h : smallI i) : Dt (.int i) (.int i) 1921 1 := ⟨by simp [data0], okp_int h, by simp [cap], by simp [PyData.depth]⟩
theorem Dt.bl (b : Bool) : Dt (.bl b) (.bool b) 5 1 := ⟨by simp [data0], by simp [okP], by simp [cap], by simp [PyData.depth]⟩
theorem Dt.non : Dt .non .none 4 1 := ⟨by simp [data0], by simp [okP], by simp [cap], by simp [PyData.depth]⟩
theorem Dt.tsv {ts : List Int} (h : ∀ t ∈ ts, smallI t) : Dt (tsv ts) (pdts ts) (1923 * ts.length + 3) 2 := ⟨tsv_pd ts, (okp_ts h).1, Nat.le_of_eq (okp_ts h).2, pdts_depth ts⟩
theorem Dt.repr {d : PV} {q : PyData} {c e : Nat} (h : Dt d q c e) (hc : c ≤ 16777216) (he : e ≤ 64) (S : Store) (hd : dataOf S d = data0 d := by rfl) : vRepr [d] S = .ok (.str q.shown) S :=
  vRepr_ok (by rw [hd]; exact h.1) (reprOk_of h.2.1 (Nat.le_trans h.2.2.1 hc) (Nat.le_trans h.2.2.2 he))
mutual
theorem lay_of : ∀ {q : PyData}, okP q = true → q.canLay0 = true
  | .none, _ => by simp [PyData.canLay0]
  | .bool _, _ => by simp [PyData.canLay0]
  | .int _, _ => by simp [PyData.canLay0]
  | .str x, h => by
    have h2 : cpsOk x = true := by simpa [okP] using h
    simp only [PyData.canLay0]
    unfold PyData.strOk
    rw [← Array.all_toList]
    exact h2
  | .list xs, h => by simp only [PyData.canLay0]; exact lays_of (by simpa [okP] using h)
  | .tuple xs, h => by simp only [PyData.canLay0]; exact lays_of (by simpa [okP] using h)
  | .dict _, h => by simp [okP] at h
theorem lays_of : ∀ {qs : List PyData}, okPs qs = true → PyData.canLayAll0 qs = true
  | [], _ => by simp [PyData.canLayAll0]
  | q :: qs, h => by
    simp only [okPs, Bool.and_eq_true] at h
    simp only [PyData.canLayAll0, lay_of h.1, lays_of h.2, Bool.and_self]
end
theorem eqv_ints : ∀ (xs ys : List Int), PyData.eqvAll (xs.map PyData.int) (ys.map PyData.int) = decide (xs = ys)
  | [], [] => by simp [PyData.eqvAll]
  | [], _ :: _ => by simp [PyData.eqvAll]
  | _ :: _, [] => by simp [PyData.eqvAll]
  | x :: xs, y :: ys => by
    simp only [List.map_cons, PyData.eqvAll, PyData.eqv, eqv_ints xs ys]
    by_cases h : x = y <;> by_cases h2 : xs = ys <;> simp [h, h2]
/-- == of data -/
theorem vEq_dt {d e : PV} {p q : PyData} {c1 c2 e1 e2 : Nat} {S : Store} (h1 : Dt d p c1 e1) (h2 : Dt e q c2 e2) (b1 : e1 ≤ 64) (b2 : e2 ≤ 64) (s0 : strs? d e = none := by rfl) (d1 : dataOf S d = data0 d := by rfl) (d2 : dataOf S e = data0 e := by rfl) : vEq d e S = .ok (.bl (PyData.eqv p q)) S := by
  unfold vEq
  rw [s0]
  show vEq0 d e S = _
  unfold vEq0
  rw [d1, d2, h1.1, h2.1]
  have s1 : SeqAt.shaped p = true := by simp only [SeqAt.shaped, lay_of h1.2.1, Bool.true_and]; exact decide_eq_true (Nat.le_trans h1.2.2.2 b1)
  have s2 : SeqAt.shaped q = true := by simp only [SeqAt.shaped, lay_of h2.2.1, Bool.true_and]; exact decide_eq_true (Nat.le_trans h2.2.2.2 b2)
  exact if_pos ⟨s1, s2⟩
theorem vNe_dt {d e : PV} {p q : PyData} {c1 c2 e1 e2 : Nat} {S : Store} (h1 : Dt d p c1 e1) (h2 : Dt e q c2 e2) (b1 : e1 ≤ 64) (b2 : e2 ≤ 64) (s0 : strs? d e = none := by rfl) (d1 : dataOf S d = data0 d := by rfl) (d2 : dataOf S e = data0 e := by rfl) : vNe d e S = .ok (.bl (!PyData.eqv p q)) S := by
  unfold vNe
  rw [s0]
  show vNe0 d e S = _
  unfold vNe0
  rw [d1, d2, h1.1, h2.1]
  have s1 : SeqAt.shaped p = true := by simp only [SeqAt.shaped, lay_of h1.2.1, Bool.true_and]; exact decide_eq_true (Nat.le_trans h1.2.2.2 b1)
  have s2 : SeqAt.shaped q = true := by simp only [SeqAt.shaped, lay_of h2.2.1, Bool.true_and]; exact decide_eq_true (Nat.le_trans h2.2.2.2 b2)
  exact if_pos ⟨s1, s2⟩
theorem Dts.ints {ts : List Int} (h : ∀ t ∈ ts, smallI t) : Dts (ts.map PV.int) (ts.map PyData.int) (1923 * ts.length) 1 := ⟨d0s_ints ts, (ok_ints h).1, Nat.le_of_eq (ok_ints h).2, dep_ints ts⟩
theorem Dt.pv {p : Pt} (h : p.Ok) : Dt p.pv p.pd 100000 4 := by
  obtain ⟨w1, w2⟩ := w_ok h
  have hl := h.len
  have hb := h.b
  have hh := h.h
  refine ⟨d0_pv p, ?_, ?_, ?_⟩
  · obtain ⟨a1, a2⟩ := okp_ts (ts_small h)
    have i1 : okP (.int p.b) = true := okp_int (by unfold smallI; omega)
    have i2 : okP (.int p.h) = true := okp_int (by unfold smallI; omega)
    unfold Pt.pd
    simp only [okP, okPs] at *
    simp only [a1, w1, i1, i2]
    decide
  · obtain ⟨a1, a2⟩ := okp_ts (ts_small h)
    unfold Pt.pd
    simp only [cap, capAll] at *
    omega
  · have d1 := pdts_depth p.ts
    unfold Pt.pd
    simp only [PyData.depth, PyData.depthAll]
    omega
theorem fit_le {p : Pt} (h : p.Ok) (n : Int) : -p.h ≤ p.fit n ∧ p.fit n ≤ p.h := by
  have hh := h.h
  unfold Pt.fit
  split
  · have m0 : 0 ≤ (n + p.h) % (2 * p.h + 1) := Int.emod_nonneg _ (by omega)
    have m1 : (n + p.h) % (2 * p.h + 1) < 2 * p.h + 1 := Int.emod_lt_of_pos _ (by omega)
    omega
  · omega
theorem step_st {p : Pt} (h : p.Ok) {xs : List Int} (hx : p.St xs) (x : Int) : p.St (p.step xs x) := by
  have hl := h.len
  have l := hx.len
  refine ⟨by unfold Pt.step; simp; omega, fun t ht => ?_⟩
  unfold Pt.step at ht
  rcases List.mem_cons.mp ht with rfl | ht
  · exact fit_le h _
  · exact hx.le t (List.dropLast_subset _ ht)
end Hl

set_option Elab.async false
set_option linter.all false
set_option maxRecDepth 100000
set_option maxHeartbeats 4000000
namespace Hl
open PySem L2 Dn
/-! ### pens -/
def trip (x y z : Int) : Cell := .lst [.int x, .int y, .int z]
structure Pn (L k n : Nat) (S : Store) : Prop where
  all : AllI S
  len : S.length = L
  pen : ∃ x y z : Int, S[k]? = some (trip x y z) ∧ 0 ≤ y ∧ y < 2147483648 ∧ 0 ≤ z ∧ z ≤ n
theorem Pn.le {L k n m : Nat} {S : Store} (h : Pn L k n S) (e : n ≤ m) : Pn L k m S := ⟨h.all, h.len, let ⟨x, y, z, a, b, c, d, f⟩ := h.pen; ⟨x, y, z, a, b, c, d, by omega⟩⟩
section
variable {S : Store} {k : Nat} {x y z : Int} (h : S[k]? = some (trip x y z))
include h
theorem px0 : vIx (.loc k) (.int 0) S = .ok (.int x) S := by
  have e : seqOf S (.loc k) = some [.int x, .int y, .int z] := by simp [seqOf, lstOf, h, trip]
  show (match seqOf S (.loc k) with | some xs => ofO (atI xs 0) S | none => Res.bad) = _
  rw [e]; rfl
theorem px1 : vIx (.loc k) (.int 1) S = .ok (.int y) S := by
  have e : seqOf S (.loc k) = some [.int x, .int y, .int z] := by simp [seqOf, lstOf, h, trip]
  show (match seqOf S (.loc k) with | some xs => ofO (atI xs 1) S | none => Res.bad) = _
  rw [e]; rfl
theorem px2 : vIx (.loc k) (.int 2) S = .ok (.int z) S := by
  have e : seqOf S (.loc k) = some [.int x, .int y, .int z] := by simp [seqOf, lstOf, h, trip]
  show (match seqOf S (.loc k) with | some xs => ofO (atI xs 2) S | none => Res.bad) = _
  rw [e]; rfl
theorem put0 (v : Int) (r : Env1) : putIx (.loc k) (.int 0) (.int v) r S = .ok (.nx r) (S.set k (trip v y z)) := by
  unfold putIx; simp only [h, trip]; rfl
theorem put1 (v : Int) (r : Env1) : putIx (.loc k) (.int 1) (.int v) r S = .ok (.nx r) (S.set k (trip x v z)) := by
  unfold putIx; simp only [h, trip]; rfl
theorem put2 (v : Int) (r : Env1) : putIx (.loc k) (.int 2) (.int v) r S = .ok (.nx r) (S.set k (trip x y v)) := by
  unfold putIx; simp only [h, trip]; rfl
theorem set_at (c : Cell) : (S.set k c)[k]? = some c := List.getElem?_set_self (List.getElem?_eq_some_iff.mp h).1
end
theorem _root_.Dn.AllI.set {S : Store} (h : AllI S) (k : Nat) (x y z : Int) : AllI (S.set k (trip x y z)) := h.setI k [x, y, z]
theorem _root_.Dn.AllI.snoc {S : Store} (h : AllI S) (x y z : Int) : AllI (S ++ [trip x y z]) := h.app [x, y, z]
/-- a draw, by its two numbers -/
noncomputable def drawB (a c : Int) : SM := (sSeq (sIf (bVal (eBin vGt (eBin vIx (eVar 0) (eC (.int 0))) (eC (.int 0)))) (sSeq (sSet 2 (eBin vMod (eBin vIx (eVar 0) (eC (.int 0))) (eVar 1)))
    (sSeq (sPut (eVar 0) (eC (.int 0)) (eBin vDiv (eBin vIx (eVar 0) (eC (.int 0))) (eVar 1)))
    (sRet (eVar 2)))) sNil)
    (sSeq (sPut (eVar 0) (eC (.int 2)) (eBin vAdd (eBin vIx (eVar 0) (eC (.int 2))) (eC (.int 1))))
    (sSeq (sPut (eVar 0) (eC (.int 1)) (eBin vMod (eBin vAdd (eBin vAdd (eBin vMul (eBin vIx (eVar 0) (eC (.int 1))) (eC (.int 48271))) (eBin vMul (eC (.int a)) (eBin vIx (eVar 0) (eC (.int 2))))) (eC (.int 7))) (eC (.int 2147483647))))
    (sSeq (sSet 3 (eBin vMod (eBin vAdd (eBin vAdd (eBin vMul (eBin vIx (eVar 0) (eC (.int 1))) (eBin vIx (eVar 0) (eC (.int 1)))) (eBin vMul (eC (.int 69621)) (eBin vIx (eVar 0) (eC (.int 1))))) (eC (.int 11))) (eC (.int 2147483629))))
    (sSeq (sSet 3 (eBin vMod (eBin vAdd (eBin vMul (eVar 3) (eVar 3)) (eBin vMul (eC (.int c)) (eVar 3))) (eC (.int 2147483587))))
    (sRet (eBin vMod (eBin vDiv (eVar 3) (eC (.int 16))) (eVar 1))))))))
theorem draw_set {L k n : Nat} {S : Store} {m : Int} {a c : Int} (ha : 0 ≤ a ∧ a ≤ 100000) (hc : 0 ≤ c ∧ c ≤ 100000) (h : Pn L k n S) (hm : 1 ≤ m ∧ m ≤ 100000000000000) (hn : n ≤ 1000000000000) : ∃ v d, fnM false 4 (drawB a c) [.loc k, .int m] S = .ok (.int v) (S.set k d) ∧ 0 ≤ v ∧ v < m ∧ Pn L k (n + 1) (S.set k d) := by
  obtain ⟨x, y, z, e, y0, y1, z0, z1⟩ := h.pen
  have mp : 0 < m := by omega
  have ms : m.natAbs < 18446744073709551616 := by omega
  
  by_cases hx : 0 < x
  · refine ⟨x % m, trip (x / m) y z, fn_rt ?_ (by simp), Int.emod_nonneg _ (by omega), Int.emod_lt_of_pos _ mp, ⟨h.all.set _ _ _ _, by simp [h.len], _, _, _, set_at e _, y0, y1, z0, by omega⟩⟩
    unfold drawB
    simp [start1, List.replicate, px0 e, hx, vMod_int mp, vDiv_int mp ms, put0 e]
  · have e1 := set_at e (trip x y (z + 1))
    have a1 : vMul (.int y) (.int 48271) (S.set k (trip x y (z + 1))) = .ok (.int (y * 48271)) _ := vMul_int (by omega) (by decide)
    have a2 : vMul (.int a) (.int (z + 1)) (S.set k (trip x y (z + 1))) = .ok (.int (a * (z + 1))) _ := vMul_int (by omega) (by omega)
    have a3 : vMod (.int (y * 48271 + a * (z + 1) + 7)) (.int 2147483647) (S.set k (trip x y (z + 1))) = .ok (.int ((y * 48271 + a * (z + 1) + 7) % 2147483647)) _ := vMod_int (by decide)
    generalize hy2 : (y * 48271 + a * (z + 1) + 7) % 2147483647 = y2 at *
    have b0 : 0 ≤ y2 := by rw [← hy2]; exact Int.emod_nonneg _ (by decide)
    have b1 : y2 < 2147483647 := by rw [← hy2]; exact Int.emod_lt_of_pos _ (by decide)
    have e2 := set_at e1 (trip x y2 (z + 1))
    rw [List.set_set] at e2
    have c1 : vMul (.int y2) (.int y2) (S.set k (trip x y2 (z + 1))) = .ok (.int (y2 * y2)) _ := vMul_int (by omega) (by omega)
    have c2 : vMul (.int 69621) (.int y2) (S.set k (trip x y2 (z + 1))) = .ok (.int (69621 * y2)) _ := vMul_int (by decide) (by omega)
    have c3 : vMod (.int (y2 * y2 + 69621 * y2 + 11)) (.int 2147483629) (S.set k (trip x y2 (z + 1))) = .ok (.int ((y2 * y2 + 69621 * y2 + 11) % 2147483629)) _ := vMod_int (by decide)
    generalize hs1 : (y2 * y2 + 69621 * y2 + 11) % 2147483629 = t1 at *
    have d0 : 0 ≤ t1 := by rw [← hs1]; exact Int.emod_nonneg _ (by decide)
    have d1 : t1 < 2147483629 := by rw [← hs1]; exact Int.emod_lt_of_pos _ (by decide)
    have f1 : vMul (.int t1) (.int t1) (S.set k (trip x y2 (z + 1))) = .ok (.int (t1 * t1)) _ := vMul_int (by omega) (by omega)
    have f2 : vMul (.int c) (.int t1) (S.set k (trip x y2 (z + 1))) = .ok (.int (c * t1)) _ := vMul_int (by omega) (by omega)
    have f3 : vMod (.int (t1 * t1 + c * t1)) (.int 2147483587) (S.set k (trip x y2 (z + 1))) = .ok (.int ((t1 * t1 + c * t1) % 2147483587)) _ := vMod_int (by decide)
    generalize (t1 * t1 + c * t1) % 2147483587 = t2 at *
    have g1 : vDiv (.int t2) (.int 16) (S.set k (trip x y2 (z + 1))) = .ok (.int (t2 / 16)) _ := vDiv_int (by decide) (by decide)
    refine ⟨t2 / 16 % m, trip x y2 (z + 1), fn_rt ?_ (by simp), Int.emod_nonneg _ (by omega), Int.emod_lt_of_pos _ mp, ⟨h.all.set _ _ _ _, by simp [h.len], _, _, _, e2, b0, by omega, by omega, by omega⟩⟩
    unfold drawB
    simp [start1, List.replicate, px0 e, hx, px2 e, put2 e, px1 e1, px2 e1, a1, a2, a3, put1 e1, List.set_set, px1 e2, c1, c2, c3, f1, f2, f3, g1, vMod_int mp]
theorem draw_gen {L k n : Nat} {S : Store} {m : Int} {a c : Int} (ha : 0 ≤ a ∧ a ≤ 100000) (hc : 0 ≤ c ∧ c ≤ 100000) (h : Pn L k n S) (hm : 1 ≤ m ∧ m ≤ 100000000000000) (hn : n ≤ 1000000000000) : ∃ v S', fnM false 4 (drawB a c) [.loc k, .int m] S = .ok (.int v) S' ∧ 0 ≤ v ∧ v < m ∧ Pn L k (n + 1) S' := by
  obtain ⟨v, d, e, h0, h1, h2⟩ := draw_set ha hc h hm hn
  exact ⟨v, _, e, h0, h1, h2⟩
theorem draw_ok {L k n : Nat} {S : Store} {m : Int} (h : Pn L k n S) (hm : 1 ≤ m ∧ m ≤ 100000000000000) (hn : n ≤ 1000000000000) : ∃ v S', m_draw [.loc k, .int m] S = .ok (.int v) S' ∧ 0 ≤ v ∧ v < m ∧ Pn L k (n + 1) S' :=
  draw_gen (a := 1009) (c := 40014) (by decide) (by decide) h hm hn
theorem fn_pn {kp : Bool} {N : Nat} {b : SM} {ds : List PV} {S S' : Store} {d : PV} {L k n m : Nat} (h : Pn L k n S) (h' : Pn L k m S') (e : b (start1 N ds) S = .ok (.rt d) S') : fnM kp N b ds S = .ok d S' := fn_rt e (by rw [h.len, h'.len]; exact Nat.le_refl _)
theorem pick_ok {L k n : Nat} {S : Store} {xs : List PV} (h : Pn L k n S) (hx : 1 ≤ xs.length ∧ xs.length ≤ 100000) (hn : n ≤ 1000000000000) : ∃ d S', m_pick [.loc k, .lst xs] S = .ok d S' ∧ d ∈ xs ∧ Pn L k (n + 1) S' := by
  obtain ⟨v, S', e, h0, h1, hp⟩ := draw_ok (m := xs.length) h (by omega) hn
  obtain ⟨d, hd, hm⟩ := atI_in h0 h1
  refine ⟨d, S', fn_pn h hp ?_, hm, hp⟩
  have ix : vIx (.lst xs) (.int v) S' = .ok d S' := by
    show ofO (atI xs v) S' = _
    rw [hd]; rfl
  unfold b_pick
  simp [start1, List.replicate, e, ix]
theorem same_ok {d : PV} {S : Store} {q : PyData} {c e : Nat} (h : Dt d q c e) (hc : c ≤ 16777216) (he : e ≤ 64) (hd : dataOf S d = data0 d := by rfl) : m_same [d, d] S = .ok (.bl true) S := by
  refine run_fn ?_
  have := h.repr hc he S hd
  unfold b_same
  simp [start1, List.replicate, this]
theorem cell_ok {ns : List Int} {i : Nat} (hl : ns.length ≤ 63) (S : Store) : ∃ c : Int, m_cell [.scr ns, .int i] S = .ok (.int c) S := by
  have l := vLen_scr ns S
  by_cases h : i < ns.length
  · obtain ⟨d, hd, hm⟩ := atI_in (xs := ns.map PV.int) (v := i) (by omega) (by rw [List.length_map]; omega)
    obtain ⟨c, _, rfl⟩ := List.mem_map.mp hm
    refine ⟨c, fn_rt ?_ (Nat.le_refl _)⟩
    have ix : vIx (.scr ns) (.int i) S = .ok (.int c) S := by
      show ofO (atI (ns.map PV.int) i) S = _
      rw [hd]; rfl
    have h' : (i : Int) < ns.length := by omega
    unfold b_cell
    simp [start1, List.replicate, l, h, ix]
  · refine ⟨0, fn_rt ?_ (Nat.le_refl _)⟩
    unfold b_cell
    simp [start1, List.replicate, l, h]
theorem pen_ok (c : Int) {S : Store} (h : AllI S) : ∃ S', m_pen [.int c] S = .ok (.loc S.length) S' ∧ Pn (S.length + 1) S.length 0 S' := by
  have pw : vPow (.int 10) (.int 18) S = .ok (.int (10 ^ 18)) S := by
    unfold vPow
    exact if_pos ⟨by decide, by decide, by decide⟩
  have md : vMod (.int c) (.int 2147483629) S = .ok (.int (c % 2147483629)) S := vMod_int (by decide)
  have m0 : 0 ≤ c % 2147483629 := Int.emod_nonneg _ (by decide)
  have m1 : c % 2147483629 < 2147483629 := Int.emod_lt_of_pos _ (by decide)
  refine ⟨S ++ [trip (max 0 (c - 10 ^ 18)) (c % 2147483629 + 1) 0], ?_, h.snoc _ _ _, by simp, _, _, _, by simp; rfl, by omega, by omega, by omega, by omega⟩
  have e : b_pen (start1 1 [.int c]) S = .ok (.rt (.loc S.length)) (S ++ [trip (max 0 (c - 10 ^ 18)) (c % 2147483629 + 1) 0]) := by
    unfold b_pen
    simp [start1, List.replicate, pw, md]
    rfl
  unfold m_pen fnM
  rw [e]; rfl
/-! ### drawn filters -/
theorem lpower_ok (a : Int) (n : Nat) (S : Store) (hn : n ≤ 3) (ha : 0 ≤ a ∧ a ≤ 1000) : m_power [.int a, .int n] S = .ok (.int (a ^ n)) S := by
  refine run_fn ?_
  have e : l_power_1 [some (.int a), some (.int n), some (.int 1), none] S = _ := powF a n S hn ha
  unfold b_power
  simp [start1, List.replicate, e]
theorem filter_ok {p : Pt} (h : p.Ok) {S : Store} (hS : AllI S) : m_filter [p.pv] S = .ok p.obj S := by
  refine run_fn ?_
  unfold b_filter
  simp [start1, List.replicate, ix0, ix1, ix2, ix3, ix4, ix5, make_ok h hS]
theorem top_ok {L k n : Nat} {S : Store} {b : Int} (h : Pn L k n S) (hb : 1 ≤ b ∧ b ≤ 16) (hn : n + 10 ≤ 1000000000000) : ∃ t S', m_top [.loc k, .int b] S = .ok (.int t) S' ∧ -32 ≤ t ∧ t ≤ 32 ∧ Pn L k (n + 2) S' := by
  obtain ⟨v, S1, e1, h0, h1, hp⟩ := draw_ok (m := 5) h (by omega) (by omega)
  by_cases hv : v = 0
  · obtain ⟨u, S2, e2, u0, u1, hp2⟩ := draw_ok (m := 65) hp (by omega) (by omega)
    refine ⟨u - 32, S2, fn_pn h hp2 ?_, by omega, by omega, hp2⟩
    unfold b_top
    simp [start1, List.replicate, e1, hv, e2]
  · obtain ⟨u, S2, e2, u0, u1, hp2⟩ := draw_ok (m := 2 * b + 3) hp (by omega) (by omega)
    refine ⟨max (-32) (min 32 (u - b - 1)), S2, fn_pn h hp2 ?_, by omega, by omega, hp2⟩
    have a : vMul (.int 2) (.int b) S1 = .ok (.int (2 * b)) S1 := mul2 (by omega)
    unfold b_top
    simp [start1, List.replicate, e1, hv, e2, a]
theorem cap_ok {m : Nat} {most : Int} (S : Store) (hm : 1 ≤ m ∧ m ≤ 3) (h3 : (3 : Int) ^ m ≤ most) : ∃ f : Int, m_cap [.int m, .int most] S = .ok (.int f) S ∧ 1 ≤ f ∧ f ≤ 60 ∧ (2 * f + 1) ^ m ≤ most := by
  obtain ⟨j, r', S0, S', e, ⟨rfl, f, er, f1, f2, f3, _⟩, _⟩ := sWhile_inv (t := t_cap_1) (b := w_cap_1) (fun n r S' => S' = S ∧ ∃ f : Int, r = [some (.int m), some (.int most), some (.int f)] ∧ 1 ≤ f ∧ f ≤ 60 ∧ (2 * f + 1) ^ m ≤ most ∧ n = (60 - f).toNat) (fun n r S' ⟨e1, f, er, f1, f2, f3, en⟩ => by
      subst e1 er
      have a : vMul (.int 2) (.int f) S' = .ok (.int (2 * f)) S' := mul2 (by omega)
      have p := lpower_ok (2 * f + 3) m S' hm.2 (by omega)
      unfold t_cap_1 w_cap_1
      by_cases h60 : f < 60
      · by_cases hp : (2 * f + 3) ^ m ≤ most
        · refine ⟨true, S', by simp [h60, a, p, hp], fun _ => ⟨(60 - (f + 1)).toNat, _, S', by omega, .inl (by simp), rfl, f + 1, rfl, by omega, by omega, ?_, rfl⟩, nofun⟩
          rw [show 2 * (f + 1) + 1 = 2 * f + 3 by omega]; exact hp
        · exact ⟨false, S', by simp [h60, a, p, hp], nofun, fun _ => ⟨rfl, f, rfl, f1, f2, f3, en⟩⟩
      · exact ⟨false, S', by simp [h60], nofun, fun _ => ⟨rfl, f, rfl, f1, f2, f3, en⟩⟩)
    (60 - (1 : Int)).toNat [some (.int m), some (.int most), some (.int 1)] S ⟨rfl, 1, rfl, by omega, by omega, h3, rfl⟩
  refine ⟨f, run_fn ?_, f1, f2, f3⟩
  subst er
  have e' : l_cap_1 [some (.int m), some (.int most), some (.int 1)] S' = _ := e
  unfold b_cap
  simp [start1, List.replicate, e']
theorem parts_ok {L k n : Nat} {S : Store} {most : Int} (h : Pn L k n S) (hm : 3 ≤ most ∧ most ≤ 2500) (hn : n + 100 ≤ 1000000000000) : ∃ (p : Pt) (S' : Store), m_parts [.loc k, .int most] S = .ok p.pv S' ∧ p.Ok ∧ p.st ≤ most ∧ Pn L k (n + 20) S' := by
  obtain ⟨v1, S1, e1, a1, b1, p1⟩ := draw_ok (m := 16) h (by omega) (by omega)
  obtain ⟨v2, S2, e2, a2, b2, p2⟩ := draw_ok (m := 3) p1 (by omega) (by omega)
  -- the orders that are let
  obtain ⟨j, r', S0, S3, e3, ⟨rfl, m, er, m1, m2, mj⟩, ef⟩ := sWhile_inv (t := t_parts_1) (b := w_parts_1)
    (fun n r S' => S' = S2 ∧ ∃ m : Nat, r = [some (.loc k), some (.int most), some (.int (1 + v1)), some (.int m), none, none, none, none] ∧ 1 ≤ m ∧ m ≤ 3 ∧ n = m) (fun n r S' ⟨z1, m, er, m1, m2, en⟩ => by
      subst z1 er
      have p := lpower_ok 3 m S' m2 (by omega)
      unfold t_parts_1 w_parts_1
      by_cases hp : most < 3 ^ m
      · have m3 : 2 ≤ m := by
          rcases Nat.lt_or_ge 1 m with q | q
          · exact q
          · have : m = 1 := by omega
            subst this
            have e : (3 : Int) ^ 1 = 3 := by decide
            rw [e] at hp; omega
        refine ⟨true, S', by simp [p, hp], fun _ => ⟨m - 1, _, S', by omega, .inl (by simp; rfl), rfl, m - 1, ?_, by omega, by omega, rfl⟩, nofun⟩
        rw [show ((m - 1 : Nat) : Int) = (m : Int) - 1 by omega]
      · exact ⟨false, S', by simp [p, hp], nofun, fun _ => ⟨rfl, m, rfl, m1, m2, en⟩⟩)
    (1 + v2).toNat [some (.loc k), some (.int most), some (.int (1 + v1)), some (.int (1 + v2)), none, none, none, none] S2 ⟨rfl, (1 + v2).toNat, by rw [show (((1 + v2).toNat : Nat) : Int) = 1 + v2 by omega], by omega, by omega, rfl⟩
  have h3 : (3 : Int) ^ m ≤ most := by
    have p := lpower_ok 3 m S0 m2 (by omega)
    subst er
    unfold t_parts_1 at ef
    simp [p] at ef
    exact ef.1
  obtain ⟨f, ec, f1, f2, f3⟩ := cap_ok (m := m) (most := most) S3 ⟨m1, m2⟩ h3
  obtain ⟨v3, S4, e4, a4, b4, p4⟩ := draw_ok (m := f) p2 (by omega) (by omega)
  obtain ⟨vs, S5, e5, p5, l5, r5⟩ := compM_inv (g := gNm 7) (t := bYes) (f := eCallN 2 m_top [] (lCons (eVar 0) (lCons (eVar 2) lNil))) (c := ⟨rng 0 m, none⟩) (r0 := [some (.loc k), some (.int most), some (.int (1 + v1)), some (.int m), some (.int (1 + v3)), none, none, none]) rfl
    (fun j S' => Pn L k (n + 1 + 1 + 1 + 2 * j) S') (fun _ v => ∃ t : Int, v = .int t ∧ (-32 ≤ t ∧ t ≤ 32)) (rng 0 m) 0 S4 (fun i d hd S' hj => by
      obtain ⟨hi, rfl⟩ := rng_get hd
      obtain ⟨t, S6, e6, t1, t2, p6⟩ := top_ok (b := 1 + v1) hj (by omega) (by omega)
      exact ⟨_, .int t, S6, rfl, rfl, by simp [e6], ⟨t, rfl, t1, t2⟩, p6.le (by omega)⟩) p4
  obtain ⟨ts, rfl, ht⟩ := ints_of r5
  rw [List.length_map, rng_len] at l5
  rw [rng_len] at p5
  subst er
  have ir := iRange1_ok (a := eVar 3) (r := [some (.loc k), some (.int most), some (.int (1 + v1)), some (.int m), some (.int (1 + v3)), none, none, none]) (S := S4) (S1 := S4) (n := m) rfl (by omega)
  have c5 : c_parts_1 [some (.loc k), some (.int most), some (.int (1 + v1)), some (.int m), some (.int (1 + v3)), none, none, none] S4 = .ok (ts.map PV.int) S5 := by
    unfold c_parts_1
    simp [ir, rng_len, show m ≤ 16777216 by omega, e5]
  obtain ⟨d, S6, e6, hd, p6⟩ := pick_ok (xs := [.str "near", .str "near", .str "cut", .str "down"]) p5 (by simp) (by omega)
  have hw : ∃ w : Str, d = .str w ∧ (w = "near" ∨ w = "cut" ∨ w = "down") := by
    simp at hd
    rcases hd with rfl | rfl | rfl
    · exact ⟨_, rfl, .inl rfl⟩
    · exact ⟨_, rfl, .inr (.inl rfl)⟩
    · exact ⟨_, rfl, .inr (.inr rfl)⟩
  obtain ⟨w, rfl, hw⟩ := hw
  obtain ⟨v7, S7, e7, a7, b7, p7⟩ := draw_ok (m := 2) p6 (by omega) (by omega)
  obtain ⟨v8, S8, e8, a8, b8, p8⟩ := draw_ok (m := 3) p7 (by omega) (by omega)
  have hst0 : (2 * (1 + v3) + 1) ^ m ≤ most := by
    have : (2 * (1 + v3) + 1) ^ m ≤ (2 * f + 1) ^ m := ipow_mono (by omega) (by omega) m
    omega
  refine ⟨⟨ts, 1 + v1, w, 1 + v3, decide (v7 = 0), decide (v8 = 0)⟩, S8, fn_pn h p8 ?_, ⟨by show 1 ≤ ts.length ∧ ts.length ≤ 3; rw [l5]; exact ⟨m1, m2⟩, ht, by show 1 ≤ 1 + v1 ∧ 1 + v1 ≤ 16; omega, hw, by show 1 ≤ 1 + v3 ∧ 1 + v3 ≤ 60; omega, by show (2 * (1 + v3) + 1) ^ ts.length ≤ 2500; rw [l5]; omega⟩, by show (2 * (1 + v3) + 1) ^ ts.length ≤ most; rw [l5]; exact hst0, p8.le (by omega)⟩
  have e3' : l_parts_1 [some (.loc k), some (.int most), some (.int (1 + v1)), some (.int (1 + v2)), none, none, none, none] S3 = _ := e3
  unfold b_parts
  simp [start1, List.replicate, e1, e2, e3', ec, e4, c5, e6, e7, e8]
  rfl
theorem spot_ok {L k n : Nat} {S : Store} {p : Pt} (h : p.Ok) (hp : Pn L k n S) (hn : n + 100 ≤ 1000000000000) : ∃ xs S', m_spot [.loc k, p.pv] S = .ok (tsv xs) S' ∧ p.St xs ∧ Pn L k (n + 3) S' := by
  have hh := h.h
  have hl := h.len
  obtain ⟨vs, S5, e5, p5, l5, r5⟩ := compM_inv (g := gNm 2) (t := bYes) (f := eBin vSub (eCallN 2 m_draw [] (lCons (eVar 0) (lCons (eBin vAdd (eBin vMul (eC (.int 2)) (eBin vIx (eVar 1) (eC (.int 3)))) (eC (.int 1))) lNil))) (eBin vIx (eVar 1) (eC (.int 3)))) (c := ⟨p.ts.map PV.int, none⟩) (r0 := [some (.loc k), some p.pv, none]) rfl
    (fun j S' => Pn L k (n + j) S') (fun _ v => ∃ t : Int, v = .int t ∧ (-p.h ≤ t ∧ t ≤ p.h)) (p.ts.map PV.int) 0 S (fun i d hd S' hj => by
      have m1 : vMul (.int 2) (.int p.h) S' = .ok (.int (2 * p.h)) S' := mul2 (by omega)
      have hi : i < p.ts.length := by
        have := (List.getElem?_eq_some_iff.mp hd).1
        simpa using this
      obtain ⟨v, S6, e6, v0, v1, p6⟩ := draw_ok (m := 2 * p.h + 1) hj (by omega) (by omega)
      exact ⟨_, .int (v - p.h), S6, rfl, rfl, by simp [ix3, m1, e6], ⟨v - p.h, rfl, by omega, by omega⟩, p6.le (by omega)⟩) (hp.le (by omega))
  obtain ⟨ts, rfl, ht⟩ := ints_of r5
  rw [List.length_map, List.length_map] at l5
  rw [List.length_map] at p5
  have c5 : c_spot_1 [some (.loc k), some p.pv, none] S = .ok (ts.map PV.int) S5 := by
    have t0 := ix0 p S
    unfold c_spot_1 tsv at *
    simp [t0, show p.ts.length ≤ 16777216 by omega, e5]
  refine ⟨ts, S5, fn_pn hp p5 ?_, ⟨l5, ht⟩, p5.le (by omega)⟩
  unfold b_spot
  simp [start1, List.replicate, c5, tsv]
theorem push_ok {L k n : Nat} {S : Store} (hp : Pn L k n S) (hn : n + 100 ≤ 1000000000000) : ∃ x S', m_push [.loc k] S = .ok (.int x) S' ∧ (-1000 ≤ x ∧ x ≤ 1000) ∧ Pn L k (n + 3) S' := by
  obtain ⟨v1, S1, e1, a1, b1, p1⟩ := draw_ok (m := 41) hp (by omega) (by omega)
  obtain ⟨v2, S2, e2, a2, b2, p2⟩ := draw_ok (m := 2001) p1 (by omega) (by omega)
  obtain ⟨d, S3, e3, hd, p3⟩ := pick_ok (xs := [.int 0, .int 0, .int 1, .int (-1), .int 2, .int (-3), .int (v1 - 20), .int 1000, .int (-1000), .int (v2 - 1000)]) p2 (by simp) (by omega)
  have hx : ∃ x : Int, d = .int x ∧ (-1000 ≤ x ∧ x ≤ 1000) := by
    simp at hd
    rcases hd with rfl | rfl | rfl | rfl | rfl | rfl | rfl | rfl | rfl <;> exact ⟨_, rfl, by omega⟩
  obtain ⟨x, rfl, hx⟩ := hx
  refine ⟨x, S3, fn_pn hp p3 ?_, hx, p3⟩
  unfold b_push
  simp [start1, List.replicate, e1, e2, e3]
end Hl

set_option Elab.async false
set_option linter.all false
set_option maxRecDepth 100000
set_option maxHeartbeats 4000000
namespace Hl
open PySem L2 Dn
/-! ### slots that are known -/
def Has (n : Nat) (l : List (Nat × PV)) (r : Env1) : Prop := r.length = n ∧ ∀ p ∈ l, r[p.1]? = some (some p.2)
theorem Has.len {n : Nat} {l : List (Nat × PV)} {r : Env1} (h : Has n l r) : r.length = n := h.1
theorem Has.get {n : Nat} {l : List (Nat × PV)} {r : Env1} (h : Has n l r) (i : Nat) {v : PV} (hm : (i, v) ∈ l := by simp) : r[i]? = some (some v) := h.2 (i, v) hm
theorem Has.set {n : Nat} {l : List (Nat × PV)} {r : Env1} (h : Has n l r) (j : Nat) (v : Option PV) (hj : ∀ p ∈ l, p.1 ≠ j := by simp) : Has n l (r.set j v) :=
  ⟨by rw [List.length_set]; exact h.1, fun p hp => by rw [List.getElem?_set_ne (hj p hp).symm]; exact h.2 p hp⟩
theorem Has.put {n : Nat} {l : List (Nat × PV)} {r : Env1} (h : Has n l r) (j : Nat) (v : PV) (hj : ∀ p ∈ l, p.1 ≠ j := by simp) (hn : j < n := by omega) : Has n ((j, v) :: l) (r.set j (some v)) :=
  ⟨by rw [List.length_set]; exact h.1, fun p hp => by
    rcases List.mem_cons.mp hp with rfl | hp
    · rw [List.getElem?_set_self (by rw [h.1]; exact hn)]
    · rw [List.getElem?_set_ne (hj p hp).symm]; exact h.2 p hp⟩
theorem Has.sub {n : Nat} {l l' : List (Nat × PV)} {r : Env1} (h : Has n l r) (hs : ∀ p ∈ l', p ∈ l := by simp) : Has n l' r := ⟨h.1, fun p hp => h.2 p (hs p hp)⟩
theorem Has.start {n : Nat} {d : PV} (hn : 1 ≤ n := by omega) : Has n [(0, d)] (start1 n [d]) := by
  refine ⟨by simp [start1]; omega, fun p hp => ?_⟩
  simp at hp; subst hp
  simp [start1]
/-! ### the loops of a law -/
theorem cells_loop {ns : List Int} (hl : ns.length ≤ 63) {N i j : Nat} {M : Int} {inner : SM} (hM : 1 ≤ M ∧ M ≤ 100) (hij : i < N ∧ j < N ∧ i ≠ j ∧ i ≠ 0 ∧ j ≠ 0)
    (h : ∀ (r : Env1) (S : Store) (L k : Nat), Pn L k 0 S → Has N [(0, .scr ns), (j, .loc k)] r → ∃ r' S', inner r S = .ok (.nx r') S' ∧ AllI S' ∧ Has N [(0, .scr ns)] r') (r : Env1) (S : Store) (hS : AllI S) (hr : Has N [(0, .scr ns)] r) :
    ∃ r' S', sFor (iRange1 (eCB vMax (lCons (eC (.int 1)) (lCons (eCB vMin (lCons (eCB vLen (lCons (eVar 0) lNil)) (lCons (eC (.int M)) lNil))) lNil)))) (gNm i) (sSeq (sSet j (eCallN 1 m_pen [] (lCons (eCallN 2 m_cell [] (lCons (eVar 0) (lCons (eVar i) lNil))) lNil))) inner) r S = .ok (.nx r') S' ∧ AllI S' ∧ Has N [(0, .scr ns)] r' := by
  have g00 : r[0]? = some (some (.scr ns)) := hr.get 0
  obtain ⟨r', S', e, h1, h2⟩ := sFor_inv (g := gNm i) (b := sSeq (sSet j (eCallN 1 m_pen [] (lCons (eCallN 2 m_cell [] (lCons (eVar 0) (lCons (eVar i) lNil))) lNil))) inner) (r := r) (S := S) (S1 := S) (ds := rng 0 (max 1 (min (ns.length : Int) M)).toNat)
    (it := iRange1 (eCB vMax (lCons (eC (.int 1)) (lCons (eCB vMin (lCons (eCB vLen (lCons (eVar 0) lNil)) (lCons (eC (.int M)) lNil))) lNil)))) (iRange1_ok (n := max 1 (min (ns.length : Int) M)) (by simp [g00, vLen_scr]) (by omega)) (fun _ r S => AllI S ∧ Has N [(0, .scr ns)] r) ⟨hS, hr⟩ (fun t d hd r S ⟨hS, hr⟩ => by
    obtain ⟨ht, rfl⟩ := rng_get hd
    obtain ⟨c, ec⟩ := cell_ok (ns := ns) (i := t) hl S
    obtain ⟨S3, ep, hp⟩ := pen_ok c hS
    have hr1 : Has N [(i, .int t), (0, .scr ns)] (r.set i (some (.int t))) := hr.put i _ (by simp; omega) hij.1
    have hr2 := (hr1.put j (.loc S.length) (by simp; omega) hij.2.1).sub (l' := [(0, .scr ns), (j, .loc S.length)])
    obtain ⟨r', S', e, h1, h2⟩ := h _ S3 _ _ hp hr2
    refine ⟨_, r', S', rfl, .inl ?_, h1, h2⟩
    have g0 : (r.set i (some (PV.int t)))[0]? = some (some (.scr ns)) := hr1.get 0
    have g1 : (r.set i (some (PV.int t)))[i]? = some (some (.int t)) := hr1.get i
    rw [Int.zero_add]
    simp [g0, g1, ec, ep, e])
  exact ⟨r', S', e, h1, h2⟩
theorem laps_loop {N i K c L k n : Nat} {l : List (Nat × PV)} {body : SM} (hK : K ≤ 10000) (hi : i < N ∧ ∀ p ∈ l, p.1 ≠ i)
    (h : ∀ (t : Nat), t < K → ∀ (r : Env1) (S : Store), Pn L k (n + c * t) S → Has N ((i, .int t) :: l) r → ∃ r' S', body r S = .ok (.nx r') S' ∧ Pn L k (n + c * t + c) S' ∧ Has N l r') {r : Env1} {S : Store} (hS : Pn L k n S) (hr : Has N l r) :
    ∃ r' S', sFor (iRange1 (eC (.int K))) (gNm i) body r S = .ok (.nx r') S' ∧ Pn L k (n + c * K) S' ∧ Has N l r' := by
  obtain ⟨r', S', e, h1, h2⟩ := sFor_inv (g := gNm i) (b := body) (it := iRange1 (eC (.int K))) (r := r) (S := S) (S1 := S) (ds := rng 0 K) (iRange1_ok (n := K) rfl (by omega)) (fun t r S => Pn L k (n + c * t) S ∧ Has N l r) ⟨by simpa using hS, hr⟩ (fun t d hd r S ⟨hS, hr⟩ => by
    obtain ⟨ht, rfl⟩ := rng_get hd
    rw [Int.zero_add]
    obtain ⟨r', S', e, h1, h2⟩ := h t ht _ S hS (hr.put i (.int t) hi.2 hi.1)
    exact ⟨_, r', S', rfl, .inl e, by rw [Nat.mul_succ, ← Nat.add_assoc]; exact h1, h2⟩)
  rw [rng_len] at h1
  exact ⟨r', S', e, h1, h2⟩
/-- a walk over a list of values, nothing of the store changed -/
theorem vals_loop {N i : Nat} {l : List (Nat × PV)} {it : IM} {body : SM} {ds : List PV} (hi : i < N ∧ ∀ p ∈ l, p.1 ≠ i) {r : Env1} {S S1 : Store} (hit : it r S = .ok ⟨ds, none⟩ S1)
    (h : ∀ d ∈ ds, ∀ (r : Env1), Has N ((i, d) :: l) r → ∃ r', body r S1 = .ok (.nx r') S1 ∧ Has N l r') (hr : Has N l r) :
    ∃ r', sFor it (gNm i) body r S = .ok (.nx r') S1 ∧ Has N l r' := by
  obtain ⟨r', S', e, rfl, h2⟩ := sFor_inv (r := r) (S := S) (S1 := S1) (ds := ds) (b := body) (g := gNm i) hit (fun t r S => S = S1 ∧ Has N l r) ⟨rfl, hr⟩ (fun t d hd r S ⟨e, hr⟩ => by
    subst e
    obtain ⟨r', e, h2⟩ := h d (List.mem_of_getElem? hd) _ (hr.put i d hi.2 hi.1)
    exact ⟨_, r', S, rfl, .inl e, rfl, h2⟩)
  exact ⟨r', e, h2⟩
/-- the law's end -/
theorem law_end {N : Nat} {b : SM} {ns : List Int} {S' : Store} (e : b (start1 N [.scr ns]) [] = .ok (.rt (.bl true)) S') : ∃ S, fnM false N b [.scr ns] [] = .ok (.bl true) S := by
  refine ⟨[], ?_⟩
  unfold fnM
  rw [e]
  show shutR 0 (.bl true) S' = _
  unfold shutR
  by_cases h : S'.length ≤ 0
  · rw [if_pos h]
    have : S' = [] := List.length_eq_zero_iff.mp (by omega)
    rw [this]
  · rw [if_neg h]; rfl
end Hl

set_option Elab.async false
set_option linter.all false
set_option maxRecDepth 100000
set_option maxHeartbeats 4000000
namespace Hl
open PySem L2 Dn
/-! ### the draws of the later laws -/
theorem draw2_ok {L k n : Nat} {S : Store} {m : Int} (h : Pn L k n S) (hm : 1 ≤ m ∧ m ≤ 100000000000000) (hn : n ≤ 1000000000000) : ∃ v S', m_draw_k40 [.loc k, .int m] S = .ok (.int v) S' ∧ 0 ≤ v ∧ v < m ∧ Pn L k (n + 1) S' :=
  draw_gen (a := 1013) (c := 40692) (by decide) (by decide) h hm hn
theorem draw2_set {L k n : Nat} {S : Store} {m : Int} (h : Pn L k n S) (hm : 1 ≤ m ∧ m ≤ 100000000000000) (hn : n ≤ 1000000000000) : ∃ v d, m_draw_k40 [.loc k, .int m] S = .ok (.int v) (S.set k d) ∧ 0 ≤ v ∧ v < m ∧ Pn L k (n + 1) (S.set k d) :=
  draw_set (a := 1013) (c := 40692) (by decide) (by decide) h hm hn
theorem pick2_ok {L k n : Nat} {S : Store} {xs : List PV} (h : Pn L k n S) (hx : 1 ≤ xs.length ∧ xs.length ≤ 100000) (hn : n ≤ 1000000000000) : ∃ d S', m_pick_k40 [.loc k, .lst xs] S = .ok d S' ∧ d ∈ xs ∧ Pn L k (n + 1) S' := by
  obtain ⟨v, S', e, h0, h1, hp⟩ := draw2_ok (m := xs.length) h (by omega) hn
  obtain ⟨d, hd, hm⟩ := atI_in h0 h1
  refine ⟨d, S', fn_pn h hp ?_, hm, hp⟩
  have ix : vIx (.lst xs) (.int v) S' = .ok d S' := by
    show ofO (atI xs v) S' = _
    rw [hd]; rfl
  unfold b_pick_k40
  simp [start1, List.replicate, e, ix]
theorem pick2_loc {L k n j : Nat} {S : Store} {xs : List PV} (h : Pn L k n S) (hj : S[j]? = some (.lst xs)) (hjk : j ≠ k) (hx : 1 ≤ xs.length ∧ xs.length ≤ 100000) (hn : n ≤ 1000000000000) : ∃ d c, m_pick_k40 [.loc k, .loc j] S = .ok d (S.set k c) ∧ d ∈ xs ∧ Pn L k (n + 1) (S.set k c) := by
  obtain ⟨v, c, e, h0, h1, hp⟩ := draw2_set (m := xs.length) h (by omega) hn
  obtain ⟨d, hd, hm⟩ := atI_in h0 h1
  refine ⟨d, c, fn_pn h hp ?_, hm, hp⟩
  have ix := vIx_loc (S := S.set k c) (k := j) (xs := xs) (by rw [List.getElem?_set_ne hjk.symm]; exact hj) hd
  have ln := len_loc hj
  unfold b_pick_k40
  simp [start1, List.replicate, ln, e, ix]
theorem count_ok (a : Int) (n : Nat) (S : Store) (hn : n ≤ 3) (ha : 0 ≤ a ∧ a ≤ 1000) : m_count_k40 [.int a, .int n] S = .ok (.int (a ^ n)) S := by
  refine run_fn ?_
  have e : l_count_k40_1 [some (.int a), some (.int n), some (.int 1), none] S = _ := powF a n S hn ha
  unfold b_count_k40
  simp [start1, List.replicate, e]
theorem made_ok {p : Pt} (h : p.Ok) {S : Store} (hS : AllI S) : m_made [p.pv] S = .ok p.obj S := by
  refine run_fn ?_
  unfold b_made
  simp [start1, List.replicate, ix0, ix1, ix2, ix3, ix4, ix5, make_ok h hS]
/-- drawn ints -/
theorem tops_ok2 {L k n m : Nat} {S : Store} {b : Int} (h : Pn L k n S) (hb : 1 ≤ b ∧ b ≤ 16) (hm : m ≤ 3) (hn : n + 100 ≤ 1000000000000) : ∃ ts S', m_tops [.loc k, .int b, .int m] S = .ok (tsv ts) S' ∧ ts.length = m ∧ (∀ t ∈ ts, -32 ≤ t ∧ t ≤ 32) ∧ Pn L k (n + 10) S' := by
  have d0 : vDiv (.int b) (.int 2) S = .ok (.int (b / 2)) S := vDiv_int (by decide) (by decide)
  have m0 : vMul (.int 2) (.int b) S = .ok (.int (2 * b)) S := mul2 (by omega)
  obtain ⟨d, S1, e1, hd, p1⟩ := pick2_ok (xs := [.int (b / 2), .int b, .int b, .int (2 * b), .int 32]) h (by simp) (by omega)
  have hx : ∃ x : Int, d = .int x := by
    simp at hd
    rcases hd with rfl | rfl | rfl | rfl <;> exact ⟨_, rfl⟩
  obtain ⟨x, rfl⟩ := hx
  generalize hz : max 1 (min 32 x) = z
  have z1 : 1 ≤ z ∧ z ≤ 32 := by omega
  obtain ⟨vs, S5, e5, p5, l5, r5⟩ := compM_inv (g := gNm 4) (t := bYes) (f := eBin vSub (eCallN 2 m_draw_k40 [] (lCons (eVar 0) (lCons (eBin vAdd (eBin vMul (eC (.int 2)) (eVar 3)) (eC (.int 1))) lNil))) (eVar 3)) (c := ⟨rng 0 m, none⟩) (r0 := [some (.loc k), some (.int b), some (.int m), some (.int z), none]) rfl
    (fun j S' => Pn L k (n + 1 + j) S') (fun _ v => ∃ t : Int, v = .int t ∧ (-32 ≤ t ∧ t ≤ 32)) (rng 0 m) 0 S1 (fun i d hd S' hj => by
      obtain ⟨hi, rfl⟩ := rng_get hd
      have m1 : vMul (.int 2) (.int z) S' = .ok (.int (2 * z)) S' := mul2 (by omega)
      obtain ⟨v, S6, e6, v0, v1, p6⟩ := draw2_ok (m := 2 * z + 1) hj (by omega) (by omega)
      exact ⟨_, .int (v - z), S6, rfl, rfl, by simp [m1, e6], ⟨v - z, rfl, by omega⟩, p6.le (by omega)⟩) (p1.le (by omega))
  obtain ⟨ts, rfl, ht⟩ := ints_of r5
  rw [List.length_map, rng_len] at l5
  rw [rng_len] at p5
  have ir := iRange1_ok (a := eVar 2) (r := [some (.loc k), some (.int b), some (.int m), some (.int z), none]) (S := S1) (S1 := S1) (n := m) rfl (by omega)
  have c5 : c_tops_1 [some (.loc k), some (.int b), some (.int m), some (.int z), none] S1 = .ok (ts.map PV.int) S5 := by
    unfold c_tops_1
    simp [ir, rng_len, show m ≤ 16777216 by omega, e5]
  refine ⟨ts, S5, fn_pn h p5 ?_, l5, ht, p5.le (by omega)⟩
  unfold b_tops
  simp [start1, List.replicate, d0, m0, e1, hz, c5, tsv]
/-- the greatest sizes that are let, by order -/
def fits (room : Int) (a : Nat) : List Int := ((List.range 60).map fun (i : Nat) => 1 + (i : Int)).filter fun s => decide ((2 * s + 1) ^ a ≤ room)
theorem fits_mem {room s : Int} {a : Nat} (h : s ∈ fits room a) : 1 ≤ s ∧ s ≤ 60 ∧ (2 * s + 1) ^ a ≤ room := by
  unfold fits at h
  obtain ⟨h1, h2⟩ := List.mem_filter.mp h
  obtain ⟨i, hi, rfl⟩ := List.mem_map.mp h1
  have := List.mem_range.mp hi
  exact ⟨by omega, by omega, of_decide_eq_true h2⟩
theorem fits_ne {room : Int} (h : 3 ≤ room) : fits room 1 ≠ [] := by
  have : (1 : Int) ∈ fits room 1 := by
    unfold fits
    refine List.mem_filter.mpr ⟨List.mem_map.mpr ⟨0, by simp, by simp⟩, ?_⟩
    simp; omega
  intro e; rw [e] at this; cases this
theorem vNe_nil (xs : List Int) (S : Store) (hx : xs.length ≤ 100) (hs : ∀ x ∈ xs, smallI x) : vNe (.lst (xs.map PV.int)) (.lst []) S = .ok (.bl (decide (xs ≠ []))) S := by
  rw [vNe_dt (S := S) (Dt.lst (Dts.ints hs)) (Dt.lst .nil') (by omega) (by omega)]
  cases xs <;> simp [PyData.eqv, PyData.eqvAll]
theorem fits_len (room : Int) (a : Nat) : (fits room a).length ≤ 60 := by
  unfold fits
  exact Nat.le_trans (List.length_filter_le _ _) (by simp)
theorem sort_c {a : Nat} {room : Int} (ha : a ≤ 3) {r : Env1} (hr : Has 8 [(1, .int room), (3, .int a)] r) (S : Store) : c_sort_1 r S = .ok ((fits room a).map PV.int) S := by
  unfold c_sort_1
  have g0 : rngOf (.int 1) (.int 61) S = .ok ⟨rng 1 60, none⟩ S := rngOf_ok (by omega) (by omega)
  simp [g0, rng_len]
  have e : rng 1 60 = ((List.range 60).map fun (i : Nat) => 1 + (i : Int)).map PV.int := by unfold rng; rw [List.map_map]; rfl
  rw [e]
  unfold fits
  refine compM_fm (.inl rfl) PV.int PV.int (fun s => decide ((2 * s + 1) ^ a ≤ room)) _ fun s hs => ?_
  obtain ⟨i, hi, rfl⟩ := List.mem_map.mp hs
  have hi := List.mem_range.mp hi
  have m := mul2 (i := 1 + (i : Int)) (S := S) (by omega)
  have c := count_ok (2 * (1 + (i : Int)) + 1) a S ha (by omega)
  have h5 := hr.put 5 (.int (1 + (i : Int)))
  have e1 := h5.get 1 (v := .int room)
  have e3 := h5.get 3 (v := .int a)
  have e5 := h5.get 5 (v := .int (1 + (i : Int)))
  refine ⟨_, rfl, ?_, fun _ => ?_⟩
  · simp [-List.getElem?_set_ne, -List.getElem?_set_self, e1, e3, e5, m, c]
  · simp [-List.getElem?_set_ne, -List.getElem?_set_self, e5]
/-- the drawn parts -/
theorem sort_ok {L k n : Nat} {S : Store} {room : Int} (h : Pn L k n S) (hm : 3 ≤ room ∧ room ≤ 2500) (hn : n + 1000 ≤ 1000000000000) : ∃ (p : Pt) (S' : Store), m_sort [.loc k, .int room] S = .ok p.pv S' ∧ p.Ok ∧ p.st ≤ room ∧ Pn L k (n + 20) S' := by
  -- what limits holds
  have inner : ∃ (ps : List (Nat × Int)) (r' : Env1), l_sort_1 [some (.loc k), some (.int room), some (.loc S.length), none, none, none, none, none] (S ++ [.lst []]) = .ok (.nx r') (S ++ [.lst (ps.map fun p => .tup [.int p.1, .int p.2])]) ∧ ps ≠ [] ∧ ps.length ≤ 3 ∧ (∀ p ∈ ps, (1 ≤ p.1 ∧ p.1 ≤ 3) ∧ 1 ≤ p.2 ∧ p.2 ≤ 60 ∧ (2 * p.2 + 1) ^ p.1 ≤ room) ∧ Has 8 [(0, .loc k), (1, .int room), (2, .loc S.length)] r' := by
    obtain ⟨r', S', e, ps, rfl, hn0, hlen, hp, hr⟩ := sFor_inv (it := iVal (eTup (lCons (eC (.int 1)) (lCons (eC (.int 2)) (lCons (eC (.int 3)) lNil))))) (g := gNm 3) (b := w_sort_1) (r := [some (.loc k), some (.int room), some (.loc S.length), none, none, none, none, none]) (S := S ++ [.lst []]) (S1 := S ++ [.lst []]) (ds := [.int 1, .int 2, .int 3]) (by simp)
      (fun i r S' => ∃ ps : List (Nat × Int), S' = S ++ [.lst (ps.map fun p => .tup [.int p.1, .int p.2])] ∧ (1 ≤ i → ps ≠ []) ∧ ps.length ≤ i ∧ (∀ p ∈ ps, (1 ≤ p.1 ∧ p.1 ≤ 3) ∧ 1 ≤ p.2 ∧ p.2 ≤ 60 ∧ (2 * p.2 + 1) ^ p.1 ≤ room) ∧ Has 8 [(0, .loc k), (1, .int room), (2, .loc S.length)] r)
      ⟨[], by simp, by omega, by simp, by simp, rfl, by simp⟩ (fun i d hd r S' ⟨ps, eS, hn0, hlen, hp, hr⟩ => by
        subst eS
        have hda : ∃ a : Nat, d = .int a ∧ a = i + 1 ∧ a ≤ 3 := by
          have hi := (List.getElem?_eq_some_iff.mp hd).1
          simp at hi
          have : i = 0 ∨ i = 1 ∨ i = 2 := by omega
          rcases this with rfl | rfl | rfl <;> simp at hd <;> subst hd
          · exact ⟨1, rfl, rfl, by omega⟩
          · exact ⟨2, rfl, rfl, by omega⟩
          · exact ⟨3, rfl, rfl, by omega⟩
        obtain ⟨a, rfl, ea, ha⟩ := hda
        have hr3 := hr.put 3 (.int a)
        have c := sort_c (room := room) ha hr3.sub (S ++ [.lst (ps.map fun p => .tup [.int p.1, .int p.2])])
        have fl := fits_len room a
        have nn := vNe_nil (fits room a) (S ++ [.lst (ps.map fun p => .tup [.int p.1, .int p.2])]) (by omega) (fun x hx => by have := fits_mem hx; unfold smallI; omega)
        have hr4 := (hr3.put 4 (.lst ((fits room a).map PV.int)))
        have g4 := hr4.get 4 (v := .lst ((fits room a).map PV.int))
        have g2 := hr4.get 2 (v := .loc S.length)
        have g3 := hr4.get 3 (v := .int a)
        by_cases hf : fits room a = []
        · have hd0 : decide (fits room a ≠ []) = false := by simp [hf]
          rw [hd0] at nn
          refine ⟨_, _, S ++ [.lst (ps.map fun p => .tup [.int p.1, .int p.2])], rfl, .inl ?_, ps, rfl, fun _ => ?_, by omega, hp, hr4.sub⟩
          · unfold w_sort_1
            rw [sSeq_ap, sSet_ap, eNew_ap, c, Res.bind_ok, Res.bind_ok, Res.bind_ok, seqK_nx]
            simp [-List.getElem?_set_ne, -List.getElem?_set_self, g4, nn]
          · rcases Nat.eq_zero_or_pos i with e0 | e0
            · exfalso; subst e0; subst ea; exact fits_ne hm.1 hf
            · exact hn0 e0
        · have hd1 : decide (fits room a ≠ []) = true := by simp [hf]
          rw [hd1] at nn
          obtain ⟨s0, hs0⟩ : ∃ s0, (fits room a).getLast? = some s0 := by
            cases q : (fits room a).getLast? with
            | none => exact absurd (List.getLast?_eq_none_iff.mp q) hf
            | some s0 => exact ⟨s0, rfl⟩
          have hm0 := fits_mem (List.mem_of_getLast? hs0)
          have dl : fits room a = (fits room a).dropLast ++ [s0] := by
            obtain ⟨ys, hys⟩ := List.getLast?_eq_some_iff.mp hs0
            rw [hys]; simp
          have ix : vIx (.lst ((fits room a).map PV.int)) (.int (-1)) (S ++ [.lst (ps.map fun p => .tup [.int p.1, .int p.2])]) = .ok (.int s0) (S ++ [.lst (ps.map fun p => .tup [.int p.1, .int p.2])]) := by
            rw [dl, List.map_append]
            exact vIx_m1
          have it := isT_loc (last_at S (.lst (ps.map fun p => .tup [.int p.1, .int p.2])))
          have ap := app_at (d := .tup [.int a, .int s0]) (last_at S (.lst (ps.map fun p => .tup [.int p.1, .int p.2]))) (by simp; omega)
          rw [set_last] at ap
          refine ⟨_, _, S ++ [.lst ((ps ++ [(a, s0)]).map fun p => .tup [.int p.1, .int p.2])], rfl, .inl ?_, ps ++ [(a, s0)], rfl, by simp, by simp; omega, fun p hpm => ?_, hr4.sub⟩
          · unfold w_sort_1
            rw [sSeq_ap, sSet_ap, eNew_ap, c, Res.bind_ok, Res.bind_ok, Res.bind_ok, seqK_nx]
            simp [-List.getElem?_set_ne, -List.getElem?_set_self, g4, g2, g3, nn, it, ix, ap]
          · rcases List.mem_append.mp hpm with hpm | hpm
            · exact hp p hpm
            · simp at hpm; subst hpm; exact ⟨by simp; omega, hm0⟩)
    exact ⟨ps, r', e, hn0 (by simp), by simpa using hlen, hp, hr⟩
  obtain ⟨ps, r1, e1, hne, hlen, hps, hr⟩ := inner
  -- the pen, with that cell behind it
  obtain ⟨x, y, z, ep, y0, y1, z0, z1⟩ := h.pen
  have hk := (List.getElem?_eq_some_iff.mp ep).1
  have fT : flat1 (.lst (ps.map fun p => .tup [.int p.1, .int p.2])) := fun n => smalls_all fun d hd => by
    obtain ⟨p, _, rfl⟩ := List.mem_map.mp hd
    simp [small, smalls]
  have q0 : Pn (S.length + 1) k n (S ++ [.lst (ps.map fun p => .tup [.int p.1, .int p.2])]) := ⟨h.all.addC fT, by simp, x, y, z, by rw [List.getElem?_append_left hk]; exact ep, y0, y1, z0, z1⟩
  have pl : 1 ≤ ps.length := List.length_pos_iff.mpr hne
  obtain ⟨d, c2, e2, hd, q2⟩ := pick2_loc q0 (last_at S _) (by omega) (by simp; omega) (by omega)
  obtain ⟨⟨m, f0⟩, hpm, rfl⟩ := List.mem_map.mp hd
  obtain ⟨⟨m1, m2⟩, f1, f2, f3⟩ := hps _ hpm
  simp only at m1 m2 f1 f2 f3
  obtain ⟨v1, S3, e3, a3, b3, q3⟩ := draw2_ok (m := 16) q2 (by omega) (by omega)
  obtain ⟨v2, S4, e4, a4, b4, q4⟩ := draw2_ok (m := f0) q3 (by omega) (by omega)
  obtain ⟨dw, S5, e5, hw, q5⟩ := pick2_ok (xs := [.str "near", .str "cut", .str "down"]) q4 (by simp) (by omega)
  have hw' : ∃ w : Str, dw = .str w ∧ (w = "near" ∨ w = "cut" ∨ w = "down") := by
    simp at hw
    rcases hw with rfl | rfl | rfl
    · exact ⟨_, rfl, .inl rfl⟩
    · exact ⟨_, rfl, .inr (.inl rfl)⟩
    · exact ⟨_, rfl, .inr (.inr rfl)⟩
  obtain ⟨w, rfl, hww⟩ := hw'
  obtain ⟨ts, S6, e6, tl, ht, q6⟩ := tops_ok2 (b := 1 + v1) (m := m) q5 (by omega) m2 (by omega)
  obtain ⟨v7, S7, e7, a7, b7, q7⟩ := draw2_ok (m := 3) q6 (by omega) (by omega)
  obtain ⟨v8, S8, e8, a8, b8, q8⟩ := draw2_ok (m := 3) q7 (by omega) (by omega)
  have hst0 : (2 * (1 + v2) + 1) ^ m ≤ room := by
    have : (2 * (1 + v2) + 1) ^ m ≤ (2 * f0 + 1) ^ m := ipow_mono (by omega) (by omega) m
    omega
  have hp8 : Pn L k (n + 20) (S8.take S.length) := by
    obtain ⟨x, y, z, ep, y0, y1, z0, z1⟩ := q8.pen
    exact ⟨q8.all.take _, by rw [List.length_take, q8.len, h.len]; omega, x, y, z, by rw [List.getElem?_take_of_lt hk]; exact ep, y0, y1, z0, by omega⟩
  refine ⟨⟨ts, 1 + v1, w, 1 + v2, decide (0 < v7), decide (v8 = 0)⟩, S8.take S.length, ?_, ⟨by show 1 ≤ ts.length ∧ ts.length ≤ 3; rw [tl]; exact ⟨m1, m2⟩, ht, by show 1 ≤ 1 + v1 ∧ 1 + v1 ≤ 16; omega, hww, by show 1 ≤ 1 + v2 ∧ 1 + v2 ≤ 60; omega, by show (2 * (1 + v2) + 1) ^ ts.length ≤ 2500; rw [tl]; omega⟩, by show (2 * (1 + v2) + 1) ^ ts.length ≤ room; rw [tl]; exact hst0, hp8⟩
  have eb : b_sort (start1 8 [.loc k, .int room]) S = .ok (.rt (Pt.pv ⟨ts, 1 + v1, w, 1 + v2, decide (0 < v7), decide (v8 = 0)⟩)) S8 := by
    unfold b_sort
    have g0 := hr.get 0 (v := .loc k)
    have g2 := hr.get 2 (v := .loc S.length)
    have h3 := hr.put 3 (.int m)
    have h5 := h3.put 5 (.int f0)
    have k0 := h5.get 0 (v := .loc k)
    have k3 := h5.get 3 (v := .int m)
    have k5 := h5.get 5 (v := .int f0)
    have h6 := (h5.sub (l' := [(0, .loc k), (3, .int m)])).put 6 (.int (1 + v1))
    have h55 := h6.put 5 (.int (1 + v2))
    have j0 := h55.get 0 (v := .loc k)
    have j3 := h55.get 3 (v := .int m)
    have j5 := h55.get 5 (v := .int (1 + v2))
    have j6 := h55.get 6 (v := .int (1 + v1))
    have h7 := h55.put 7 (.str w)
    have i0 := h7.get 0 (v := .loc k)
    have i3 := h7.get 3 (v := .int m)
    have i5 := h7.get 5 (v := .int (1 + v2))
    have i6 := h7.get 6 (v := .int (1 + v1))
    have i7 := h7.get 7 (v := .str w)
    simp only [start1, List.replicate, List.map_cons, List.map_nil, List.cons_append, List.nil_append, List.length_cons, List.length_nil, Nat.reduceAdd, Nat.reduceSub, sSeq_ap, sSet_ap, eCell_ap, lDis_ap, lNil_ap, Res.bind_ok, szl0, if_true, List.set_cons_succ, List.set_cons_zero, seqK_nx, e1, sAsg_ap, eCallN_ap, lCons_ap, eVar_ap, g0, g2, varK_some, e2, gTp_ap, gsCons_ap, gNm_ap, Option.bind_some, gsNil_ap, asgK_some, sPar_ap, eBin_ap, eC_ap, k0, e3, vAdd_int', k5, e4, parK_two, eLst_ap, szlS, j0, e5]
    simp [-List.getElem?_set_ne, -List.getElem?_set_self, e5, i0, i3, i5, i6, i7, e6, e7, e8]
    rfl
  unfold m_sort fnM
  rw [eb]
  show shutR S.length _ S8 = _
  unfold shutR
  rw [if_neg (by rw [q8.len]; omega), if_pos (allI_small (q8.all.take _) _)]
  have : frz S.length S8 (Pt.pv ⟨ts, 1 + v1, w, 1 + v2, decide (0 < v7), decide (v8 = 0)⟩) = some (Pt.pv ⟨ts, 1 + v1, w, 1 + v2, decide (0 < v7), decide (v8 = 0)⟩) := by
    unfold Pt.pv tsv
    have fi : ∀ xs : List Int, frzs S.length S8 (xs.map PV.int) = some (xs.map PV.int) := fun xs => by
      induction xs with
      | nil => rfl
      | cons x xs ih => simp [frzs, frz, ih]
    simp [frz, frzs, fi]
  rw [this]
end Hl

set_option Elab.async false
set_option linter.all false
set_option maxRecDepth 100000
set_option maxHeartbeats 4000000
namespace Hl
open PySem L2 Dn
/-! ### the later laws' own steps -/
def lrnd2 (w : Str) (a b : Int) : Int := if w = "down" ∨ a / b * b = a then a / b else if w = "cut" then (if 0 < a then a / b else a / b + 1)
  else a / b + (if b < 2 * (a - a / b * b) ∨ (2 * (a - a / b * b) = b ∧ 0 < a) then 1 else 0)
theorem lrnd2_eq {w : Str} {a b : Int} (hb : 1 ≤ b ∧ b ≤ 16) : lrnd2 w a b = rnd w a b := by
  unfold lrnd2 rnd
  have hb' : b = 1 ∨ b = 2 ∨ b = 3 ∨ b = 4 ∨ b = 5 ∨ b = 6 ∨ b = 7 ∨ b = 8 ∨ b = 9 ∨ b = 10 ∨ b = 11 ∨ b = 12 ∨ b = 13 ∨ b = 14 ∨ b = 15 ∨ b = 16 := by omega
  by_cases h1 : w = "down"
  · simp only [h1, true_or, if_true]
  · simp only [h1, false_or, if_false]
    by_cases h2 : w = "cut"
    · simp only [h2, if_true]
      rcases hb' with rfl | rfl | rfl | rfl | rfl | rfl | rfl | rfl | rfl | rfl | rfl | rfl | rfl | rfl | rfl | rfl <;> (repeat' split) <;> omega
    · simp only [h2, if_false]
      rcases hb' with rfl | rfl | rfl | rfl | rfl | rfl | rfl | rfl | rfl | rfl | rfl | rfl | rfl | rfl | rfl | rfl <;> (repeat' split) <;> omega
theorem lrounded_ok {w : Str} {a b : Int} (S : Store) (hb : 1 ≤ b ∧ b ≤ 16) (ha : a.natAbs ≤ 100000000) : m_rounded [.int a, .int b, .str w] S = .ok (.int (rnd w a b)) S := by
  rw [← lrnd2_eq hb]
  refine run_fn ?_
  have d1 : vDiv (.int a) (.int b) S = .ok (.int (a / b)) S := vDiv_int (by omega) (by omega)
  have hq : (a / b).natAbs ≤ a.natAbs + 1 := by
    have h0 : b * (a / b) ≤ a := Int.mul_ediv_self_le (by omega)
    have h1 : a < b * (a / b) + b := by have := Int.lt_mul_ediv_self_add (x := a) (k := b) (by omega); omega
    generalize a / b = q at *
    rcases Int.le_total 0 q with hq | hq
    · have : 1 * q ≤ b * q := Int.mul_le_mul_of_nonneg_right (by omega) hq
      omega
    · have : b * q ≤ 1 * q := by
        have := Int.mul_le_mul_of_nonpos_right (a := b) (b := 1) (c := q) (by omega) hq
        exact this
      have h16 : b * q + b ≤ 1 * q + 16 := by omega
      by_cases h : q < -1
      · have : b * q + b = b * (q + 1) := by rw [Int.mul_add]; omega
        have h3 : b * (q + 1) ≤ 1 * (q + 1) := Int.mul_le_mul_of_nonpos_right (a := b) (b := 1) (c := q + 1) (by omega) (by omega)
        omega
      · omega
  have m1 : vMul (.int (a / b)) (.int b) S = .ok (.int (a / b * b)) S := vMul_int (by omega) (by omega)
  have hm : (a - a / b * b).natAbs ≤ 16 := by
    have h0 : b * (a / b) ≤ a := Int.mul_ediv_self_le (by omega)
    have h1 : a < b * (a / b) + b := by have := Int.lt_mul_ediv_self_add (x := a) (k := b) (by omega); omega
    rw [Int.mul_comm]; omega
  have m2 : vMul (.int 2) (.int (a - a / b * b)) S = .ok (.int (2 * (a - a / b * b))) S := mul2 (by omega)
  unfold b_rounded lrnd2
  by_cases h1 : w = "down"
  · simp [start1, List.replicate, h1, d1]
  · by_cases h2 : a / b * b = a
    · simp [start1, List.replicate, h1, d1, m1, h2]
    · by_cases h3 : w = "cut"
      · by_cases h4 : 0 < a <;> simp [start1, List.replicate, h2, h3, h4, d1, m1, words_ne]
      · by_cases h5 : b < 2 * (a - a / b * b)
        · simp [start1, List.replicate, h1, h2, h3, h5, d1, m1, m2]
        · by_cases h6 : 2 * (a - a / b * b) = b
          · by_cases h4 : 0 < a <;> simp [start1, List.replicate, h1, h2, h3, h4, h5, h6, d1, m1, m2]
          · simp [start1, List.replicate, h1, h2, h3, h5, h6, d1, m1, m2]
theorem lput_ok {p : Pt} (h : p.Ok) (n : Int) (S : Store) : m_put [p.pv, .int n] S = .ok (.int (p.fit n)) S := by
  refine run_fn ?_
  have hh := h.h
  have m1 : vMul (.int 2) (.int p.h) S = .ok (.int (2 * p.h)) S := mul2 (by omega)
  have m2 : vMod (.int (n + p.h)) (.int (2 * p.h + 1)) S = .ok (.int ((n + p.h) % (2 * p.h + 1))) S := vMod_int (by omega)
  unfold b_put Pt.fit
  cases hv : p.v with
  | false => simp [start1, List.replicate, ix3, ix5, hv]; omega
  | true => simp [start1, List.replicate, ix3, ix5, hv, m1, m2]
theorem lstep_ok {p : Pt} (h : p.Ok) {xs : List Int} (hx : p.St xs) (x : Int) (S : Store) : m_step [p.pv, tsv xs, .int x] S = .ok (tsv (p.step xs x)) S := by
  refine run_fn ?_
  have hb := h.b
  have hl := h.len
  have pl := prods_len h xs
  have t0 := ix0 p S
  have c1 : c_step_1 [some p.pv, some (tsv xs), some (.int x), none, none, none, none] S = .ok ((prods p.ts xs).map PV.int) S := by
    unfold c_step_1 tsv at *
    simp [t0, zipW_len h xs]
    exact prod_comp h hx S 5 6 ⟨by simp, by simp, by simp⟩
  have c2 : ∀ ys : List Int, ys.length ≤ 3 → (∀ y ∈ ys, y.natAbs ≤ 100000000) → c_step_2 [some p.pv, some (tsv xs), some (.int x), some (.lst (ys.map PV.int)), none, none, none] S = .ok ((ys.map fun a => rnd p.w a p.b).map PV.int) S := fun ys hy hs => by
    unfold c_step_2
    simp [show ys.length ≤ 16777216 by omega, -List.map_map]
    rw [List.map_map]
    refine compM_map2 (.inl rfl) PV.int (fun a => PV.int (rnd p.w a p.b)) ys fun a ha => ⟨_, rfl, rfl, ?_⟩
    simp [ix1, ix2, lrounded_ok (a := a) (b := p.b) (w := p.w) S hb (hs a ha)]
  have sb := prods_sum h hx
  have ad : vAdd (.tup [.int (p.fit (p.sm xs + x))]) (tsv xs.dropLast) S = .ok (tsv (p.step xs x)) S := by
    unfold tsv
    rw [vAdd_tup (by have := hx.len; simp; omega)]
    simp [Pt.step]
  unfold b_step
  cases he : p.e with
  | false =>
    have c2' := c2 [(prods p.ts xs).sum] (by simp) (by simp; omega)
    have sm : p.sm xs = rnd p.w (prods p.ts xs).sum p.b := by unfold Pt.sm; rw [he]; simp
    have vs := vSum_ints [rnd p.w (prods p.ts xs).sum p.b] S
    rw [sm] at ad
    simp at c2' vs
    simp [start1, List.replicate, c1, ix4, he, vSum_ints, c2', vs, lput_ok h, vSl_last, ad]
  | true =>
    have c2' := c2 (prods p.ts xs) pl (fun y hy => by have := prod_le h hx y hy; omega)
    have sm : p.sm xs = ((prods p.ts xs).map fun a => rnd p.w a p.b).sum := by unfold Pt.sm; rw [he]; simp
    rw [sm] at ad
    simp [start1, List.replicate, c1, ix4, he, vSum_ints, c2', lput_ok h, vSl_last, ad, -List.map_map]
theorem some_ok {L k n : Nat} {S : Store} {p : Pt} (h : p.Ok) (hp : Pn L k n S) (hn : n + 100 ≤ 1000000000000) : ∃ xs S', m_some [.loc k, p.pv] S = .ok (tsv xs) S' ∧ p.St xs ∧ Pn L k (n + 3) S' := by
  have hh := h.h
  have hl := h.len
  obtain ⟨vs, S5, e5, p5, l5, r5⟩ := compM_inv (g := gNm 2) (t := bYes) (f := eBin vSub (eCallN 2 m_draw_k40 [] (lCons (eVar 0) (lCons (eBin vAdd (eBin vMul (eC (.int 2)) (eBin vIx (eVar 1) (eC (.int 3)))) (eC (.int 1))) lNil))) (eBin vIx (eVar 1) (eC (.int 3)))) (c := ⟨p.ts.map PV.int, none⟩) (r0 := [some (.loc k), some p.pv, none]) rfl
    (fun j S' => Pn L k (n + j) S') (fun _ v => ∃ t : Int, v = .int t ∧ (-p.h ≤ t ∧ t ≤ p.h)) (p.ts.map PV.int) 0 S (fun i d hd S' hj => by
      have m1 : vMul (.int 2) (.int p.h) S' = .ok (.int (2 * p.h)) S' := mul2 (by omega)
      have hi : i < p.ts.length := by
        have := (List.getElem?_eq_some_iff.mp hd).1
        simpa using this
      obtain ⟨v, S6, e6, v0, v1, p6⟩ := draw2_ok (m := 2 * p.h + 1) hj (by omega) (by omega)
      exact ⟨_, .int (v - p.h), S6, rfl, rfl, by simp [ix3, m1, e6], ⟨v - p.h, rfl, by omega, by omega⟩, p6.le (by omega)⟩) (hp.le (by omega))
  obtain ⟨ts, rfl, ht⟩ := ints_of r5
  rw [List.length_map, List.length_map] at l5
  rw [List.length_map] at p5
  have c5 : c_some_1 [some (.loc k), some p.pv, none] S = .ok (ts.map PV.int) S5 := by
    have t0 := ix0 p S
    unfold c_some_1 tsv at *
    simp [t0, show p.ts.length ≤ 16777216 by omega, e5]
  refine ⟨ts, S5, fn_pn hp p5 ?_, ⟨l5, ht⟩, p5.le (by omega)⟩
  unfold b_some
  simp [start1, List.replicate, c5, tsv]
end Hl

set_option Elab.async false
set_option linter.all false
set_option maxRecDepth 100000
set_option maxHeartbeats 4000000
namespace Hl
open PySem L2 Dn
/-! ### rows -/
def Pt.walk (p : Pt) : List Int → List Int → List Int
  | s, [] => s
  | s, x :: r => Pt.walk p (p.step s x) r
def Pt.told (p : Pt) : List Int → List Int → List Int
  | _, [] => []
  | s, x :: r => p.fit (p.sm s + x) :: Pt.told p (p.step s x) r
theorem walk_snoc (p : Pt) : ∀ (s r : List Int) (x : Int), p.walk s (r ++ [x]) = p.step (p.walk s r) x
  | s, [], x => rfl
  | s, y :: r, x => by simp only [List.cons_append, Pt.walk]; exact walk_snoc p _ r x
theorem told_snoc (p : Pt) : ∀ (s r : List Int) (x : Int), p.told s (r ++ [x]) = p.told s r ++ [p.fit (p.sm (p.walk s r) + x)]
  | s, [], x => rfl
  | s, y :: r, x => by simp only [List.cons_append, Pt.told, Pt.walk, told_snoc p _ r x]
theorem told_len (p : Pt) : ∀ (s r : List Int), (p.told s r).length = r.length
  | _, [] => rfl
  | s, y :: r => by simp only [Pt.told, List.length_cons, told_len p _ r]
theorem walk_st {p : Pt} (h : p.Ok) : ∀ {r s : List Int}, p.St s → p.St (p.walk s r)
  | [], _, hs => hs
  | x :: r, s, hs => walk_st h (r := r) (step_st h hs x)
theorem told_le {p : Pt} (h : p.Ok) : ∀ {r s : List Int}, ∀ t ∈ p.told s r, -p.h ≤ t ∧ t ≤ p.h
  | [], _, t, ht => nomatch ht
  | x :: r, s, t, ht => by
    rcases List.mem_cons.mp ht with rfl | ht
    · exact fit_le h _
    · exact told_le h (r := r) t ht
theorem need_filter_ok (p : Pt) (S : Store) : m_p_need_filter [p.obj] S = .ok .non S := by
  refine fn_nx (r := [some p.obj]) ?_ (Nat.le_refl _)
  have i : vIsiU [p.obj, .cls "Filter"] S = .ok (.bl true) S := isi_FF _ S
  unfold b_p_need_filter
  simp [start1, List.replicate, i]
theorem need_row_ok {row : List Int} (h : ∀ x ∈ row, -1000 ≤ x ∧ x ≤ 1000) (hl : row.length ≤ 200) (S : Store) : m_p_need_row [tsv row] S = .ok .non S := by
  refine fn_nx (r := [some (tsv row)]) ?_ (Nat.le_refl _)
  have e := are_ok (ts := row) (lo := -1000) (hi := 1000) S h (by omega)
  unfold b_p_need_row
  have : ¬ (200 : Int) < row.length := by omega
  simp [start1, List.replicate, e, len_ts, this]
theorem tup_loc {S : Store} {k : Nat} {xs : List PV} (h : S[k]? = some (.lst xs)) : vTuple [.loc k] S = .ok (.tup xs) S := by
  unfold vTuple
  simp only [one1]
  have e1 : seqOf S (.loc k) = some xs := by simp [seqOf, lstOf, h]
  first
  | simp [e1]
  | simp [lstOf, h]
theorem ix_head {p : Pt} (h : p.Ok) {s : List Int} (x : Int) (S : Store) : vIx (tsv (p.step s x)) (.int 0) S = .ok (.int (p.fit (p.sm s + x))) S := by
  show ofO (atI ((p.step s x).map PV.int) ((0 : Nat) : Int)) S = _
  rw [atI_get (d := .int (p.fit (p.sm s + x))) (by simp [Pt.step])]; rfl
theorem follow_ok {p : Pt} (h : p.Ok) {s row : List Int} (hs : p.St s) (hr : ∀ x ∈ row, -1000 ≤ x ∧ x ≤ 1000) (hl : row.length ≤ 200) {S : Store} (hS : AllI S) : m_p_follow [p.obj, tsv s, tsv row] S = .ok (tsv (p.told s row)) S := by
  obtain ⟨r', S', e, rfl, hr'⟩ := sFor_inv (it := iVal (eVar 2)) (g := gNm 4) (b := w_p_follow_1) (r := [some p.obj, some (tsv s), some (tsv row), some (.loc S.length), none]) (S := S ++ [.lst []]) (S1 := S ++ [.lst []]) (ds := row.map PV.int) (by simp [tsv])
    (fun i r S' => S' = S ++ [.lst ((p.told s (row.take i)).map PV.int)] ∧ Has 5 [(0, p.obj), (1, tsv (p.walk s (row.take i))), (3, .loc S.length)] r) ⟨by simp [Pt.told], by simp [Pt.walk]; exact ⟨rfl, by simp⟩⟩ (fun i d hd r S' ⟨eS, hr⟩ => by
      subst eS
      rw [List.getElem?_map] at hd
      cases hx : row[i]? with
      | none => rw [hx] at hd; cases hd
      | some x =>
        rw [hx] at hd; cases hd
        have hi := (List.getElem?_eq_some_iff.mp hx).1
        have tk : row.take (i + 1) = row.take i ++ [x] := by rw [List.take_succ, hx]; rfl
        have h4 := hr.put 4 (.int x)
        have g0 := h4.get 0 (v := p.obj)
        have g1 := h4.get 1 (v := tsv (p.walk s (row.take i)))
        have g4 := h4.get 4 (v := .int x)
        have st := stepped_ok h (walk_st h (r := row.take i) hs) x (S ++ [.lst ((p.told s (row.take i)).map PV.int)])
        have h1 := (h4.sub (l' := [(0, p.obj), (3, .loc S.length)])).put 1 (tsv (p.step (p.walk s (row.take i)) x))
        have k1 := h1.get 1 (v := tsv (p.step (p.walk s (row.take i)) x))
        have k3 := h1.get 3 (v := .loc S.length)
        have it := isT_loc (last_at S (.lst ((p.told s (row.take i)).map PV.int)))
        have ap := app_at (d := .int (p.fit (p.sm (p.walk s (row.take i)) + x))) (last_at S (.lst ((p.told s (row.take i)).map PV.int))) (by simp [told_len]; omega)
        rw [set_last] at ap
        have ih := ix_head h (s := p.walk s (row.take i)) x (S ++ [.lst ((p.told s (row.take i)).map PV.int)])
        refine ⟨_, _, S ++ [.lst ((p.told s (row.take (i + 1))).map PV.int)], rfl, .inl ?_, rfl, by rw [tk, walk_snoc]; exact h1.sub⟩
        rw [tk, told_snoc]
        unfold w_p_follow_1
        simp [-List.getElem?_set_ne, -List.getElem?_set_self, g0, g1, g4, st, k1, k3, it, ih, ap])
  rw [List.length_map, List.take_length] at hr' e
  have g3 := hr'.get 3 (v := .loc S.length)
  have tl := tup_loc (last_at S (.lst ((p.told s row).map PV.int)))
  refine fn_own (d := tsv (p.told s row)) (T := [.lst ((p.told s row).map PV.int)]) ?_ (allI_small hS _) ?_ (by simp)
  · have e' : l_p_follow_1 [some p.obj, some (tsv s), some (tsv row), some (.loc S.length), none] (S ++ [.lst []]) = _ := e
    unfold b_p_follow
    have ns := need_state_ok h hs S
    have nw := need_row_ok hr hl S
    unfold tsv at *
    simp [start1, List.replicate, need_filter_ok, ns, nw, e', g3, tl]
  · have fi : ∀ xs : List Int, frzs S.length (S ++ [.lst ((p.told s row).map PV.int)]) (xs.map PV.int) = some (xs.map PV.int) := fun xs => by
      induction xs with
      | nil => rfl
      | cons x xs ih => simp [frzs, frz, ih]
    simp [tsv, frz, fi]
end Hl

set_option Elab.async false
set_option linter.all false
set_option maxRecDepth 100000
set_option maxHeartbeats 4000000
namespace Hl
open PySem L2 Dn
/-! ### exceptions told by their names -/
theorem isx_cls {n : Str} (h : n ∈ EXN) (c : Str) (S : Store) : vIsiU [.exc c, .cls n] S = .ok (.bl (subE c n)) S := if_pos h
theorem isx_ve (c : Str) (S : Store) : vIsiU [.exc c, .ty "ValueError"] S = .ok (.bl true) S := rfl
theorem flats_bl : ∀ bs : List Bool, flats? (bs.map PV.bl) = some (bs.map V.bl)
  | [] => rfl
  | b :: bs => by
    show (flat? (.bl b)).bind (fun v => (flats? (bs.map PV.bl)).map (v :: ·)) = _
    rw [flats_bl bs]; rfl
theorem flatsOf_bl {o : PV} {S : Store} {bs : List Bool} (h : lstOf S o = some (bs.map PV.bl)) : flatsOf S o (.bl true) = some (bs.map V.bl, .bl true) := by
  unfold flatsOf
  rw [h, Option.bind_some, flats_bl]; rfl
theorem eqV_true (b : Bool) : eqV (.bl b) (.bl true) = b := by cases b <;> rfl
theorem count_bl {o : PV} {S : Store} {bs : List Bool} (h : lstOf S o = some (bs.map PV.bl)) : vCount o [.bl true] S = .ok (.int (bs.count true)) S := by
  unfold vCount
  simp only [flatsOf_bl h]
  have e : ∀ bs : List Bool, (bs.map V.bl).countP (fun z => eqV z (.bl true)) = bs.count true := fun bs => by
    induction bs with
    | nil => rfl
    | cons b bs ih =>
      rw [List.map_cons, List.countP_cons, ih, eqV_true, List.count_cons]
      cases b <;> rfl
  rw [e]
theorem index_bl {o : PV} {S : Store} {bs : List Bool} {j : Nat} (h : lstOf S o = some (bs.map PV.bl)) (hj : bs.findIdx? id = some j) : vIndex o [.bl true] S = .ok (.int j) S := by
  unfold vIndex
  simp only [flatsOf_bl h]
  have e : ∀ bs : List Bool, (bs.map V.bl).findIdx? (fun z => eqV z (.bl true)) = bs.findIdx? id := fun bs => by
    rw [List.findIdx?_map]
    congr 1
    funext b
    exact eqV_true b
  rw [e, hj]
theorem lst_last (S : Store) (xs : List PV) : lstOf (S ++ [.lst xs]) (.loc S.length) = some xs := by simp [lstOf]
theorem cat_step {S : Store} {xs ys : List PV} {a : LM} {r : Env1} (h1 : r[1]? = some (some (.loc S.length))) (ha : eLst a r (S ++ [.lst xs]) = .ok (.lst ys) (S ++ [.lst xs])) (hz : xs.length + ys.length ≤ 1000) :
    sSet 1 (eCell (lCat (eVar 1) (eLst a))) r (S ++ [.lst xs]) = .ok (.nx (r.set 1 (some (.loc (S ++ [Cell.lst xs]).length)))) (S ++ [.lst xs] ++ [.lst (xs ++ ys)]) := by
  have z : xs.length + ys.length ≤ sizeLine := Nat.le_trans hz (by decide)
  have e : lCat (eVar 1) (eLst a) r (S ++ [.lst xs]) = .ok (xs ++ ys) (S ++ [.lst xs]) := by
    unfold lCat
    rw [eVar_ap, h1, varK_some, Res.bind_ok, ha, Res.bind_ok, lst_last]
    exact if_pos z
  rw [sSet_ap, eCell_ap, e]; rfl
def EX24 : List Str := ["NoTops", "NoBottom", "NoRounding", "NoHigh", "NoFlag", "NoRoom", "NoFilter", "NoState", "NoInput", "NoSteps", "NoRing", "NoNumbers", "NoSize", "NoRow", "NoSpan", "NoOrder", "NoText", "NotTame", "NotEven", "TooLarge", "NoPlace", "Spilled", "TooMany", "NothingDone"]
theorem ex24_once : ∀ c ∈ EX24, (EX24.map (subE c)).count true = 1 ∧ ∃ j : Nat, (EX24.map (subE c)).findIdx? id = some j ∧ EX24[j]? = some c := by
  have h : (EX24.all fun c => decide ((EX24.map (subE c)).count true = 1) && (match (EX24.map (subE c)).findIdx? id with
    | some j => decide (EX24[j]? = some c)
    | none => false)) = true := by decide +kernel
  intro c hc
  have := List.all_eq_true.mp h c hc
  rw [Bool.and_eq_true] at this
  refine ⟨of_decide_eq_true this.1, ?_⟩
  cases q : (EX24.map (subE c)).findIdx? id with
  | none => rw [q] at this; cases this.2
  | some j => rw [q] at this; exact ⟨j, rfl, of_decide_eq_true this.2⟩
theorem m1 {n : Str} {c : Str} {r : Env1} {S : Store} (h : n ∈ EXN) (h0 : r[0]? = some (some (.exc c))) : eCB vIsiU (lCons (eVar 0) (lCons (eC (.cls n)) lNil)) r S = .ok (.bl (subE c n)) S := by
  simp [h0, isx_cls h]
theorem vNe_int (i j : Int) (S : Store) : vNe (.int i) (.int j) S = .ok (.bl (decide (i ≠ j))) S := by
  have h := vEq_int i j S
  show (match vEq (.int i) (.int j) S with
    | .ok (.bl b) S1 => Res.ok (PV.bl (!b)) S1
    | x => x) = _
  rw [h]
  by_cases q : i = j <;> simp [q]
abbrev mk4 (n1 n2 n3 n4 : Str) : LM := lCons (eCB vIsiU (lCons (eVar 0) (lCons (eC (.cls n1)) lNil))) (lCons (eCB vIsiU (lCons (eVar 0) (lCons (eC (.cls n2)) lNil))) (lCons (eCB vIsiU (lCons (eVar 0) (lCons (eC (.cls n3)) lNil))) (lCons (eCB vIsiU (lCons (eVar 0) (lCons (eC (.cls n4)) lNil))) lNil)))
theorem mk4_ok {c n1 n2 n3 n4 : Str} {r : Env1} {S : Store} (h1 : n1 ∈ EXN) (h2 : n2 ∈ EXN) (h3 : n3 ∈ EXN) (h4 : n4 ∈ EXN) (g0 : r[0]? = some (some (.exc c))) : mk4 n1 n2 n3 n4 r S = .ok [.bl (subE c n1), .bl (subE c n2), .bl (subE c n3), .bl (subE c n4)] S := by
  show (lCons _ _ r S) = _
  simp only [lCons_ap (eCB _ _), m1 h1 g0, m1 h2 g0, m1 h3 g0, m1 h4 g0, lNil_ap, Res.bind_ok]
theorem one4 {c n1 n2 n3 n4 : Str} {S1 : Store} {xs : List PV} {o : Option PV} (h1 : n1 ∈ EXN) (h2 : n2 ∈ EXN) (h3 : n3 ∈ EXN) (h4 : n4 ∈ EXN) (hz : xs.length ≤ 100) :
    sSet 1 (eCell (lCat (eVar 1) (eLst (mk4 n1 n2 n3 n4)))) [some (.exc c), some (.loc S1.length), o] (S1 ++ [.lst xs]) = .ok (.nx [some (.exc c), some (.loc (S1 ++ [Cell.lst xs]).length), o]) (S1 ++ [.lst xs] ++ [.lst (xs ++ [.bl (subE c n1), .bl (subE c n2), .bl (subE c n3), .bl (subE c n4)])]) := by
  refine cat_step rfl ?_ (by simp; omega)
  rw [eLst_ap, mk4_ok h1 h2 h3 h4 rfl]
  rfl
theorem seq_nx {g h : SM} {r r1 : Env1} {S S1 : Store} (e : g r S = .ok (.nx r1) S1) : sSeq g h r S = h r1 S1 := by rw [sSeq_ap, e]; rfl
theorem first4 {c n1 n2 n3 n4 : Str} {S : Store} {o : Option PV} (h1 : n1 ∈ EXN) (h2 : n2 ∈ EXN) (h3 : n3 ∈ EXN) (h4 : n4 ∈ EXN) :
    sSet 1 (eCell (lDis (mk4 n1 n2 n3 n4))) [some (.exc c), none, o] S = .ok (.nx [some (.exc c), some (.loc S.length), o]) (S ++ [.lst [.bl (subE c n1), .bl (subE c n2), .bl (subE c n3), .bl (subE c n4)]]) := by
  have z : ([.bl (subE c n1), .bl (subE c n2), .bl (subE c n3), .bl (subE c n4)] : List PV).length ≤ sizeLine := szlS 4 (by decide)
  rw [sSet_ap, eCell_ap, lDis_ap, mk4_ok h1 h2 h3 h4 rfl, Res.bind_ok, if_pos z]
  rfl
theorem three {c n1 n2 n3 : Str} {S1 : Store} {xs : List PV} {o : Option PV} (h1 : n1 ∈ EXN) (h2 : n2 ∈ EXN) (h3 : n3 ∈ EXN) (hz : xs.length ≤ 100) :
    sSet 1 (eCell (lCat (eVar 1) (eLst (lCons (eCB vIsiU (lCons (eVar 0) (lCons (eC (.cls n1)) lNil))) (lCons (eCB vIsiU (lCons (eVar 0) (lCons (eC (.cls n2)) lNil))) (lCons (eCB vIsiU (lCons (eVar 0) (lCons (eC (.cls n3)) lNil))) lNil)))))) [some (.exc c), some (.loc S1.length), o] (S1 ++ [.lst xs])
      = .ok (.nx [some (.exc c), some (.loc (S1 ++ [Cell.lst xs]).length), o]) (S1 ++ [.lst xs] ++ [.lst (xs ++ [.bl (subE c n1), .bl (subE c n2), .bl (subE c n3)])]) := by
  have g0 : ([some (.exc c), some (.loc S1.length), o] : Env1)[0]? = some (some (.exc c)) := rfl
  refine cat_step rfl ?_ (by simp; omega)
  rw [eLst_ap]
  simp only [lCons_ap (eCB _ _), m1 h1 g0, m1 h2 g0, m1 h3 g0, lNil_ap, Res.bind_ok]
  rfl
theorem last1 {c n : Str} {S1 : Store} {xs : List PV} {o : Option PV} (h : n ∈ EXN) (hz : xs.length ≤ 100) :
    sExpr (eMt "list" vAppend (eVar 1) (lCons (eCB vIsiU (lCons (eVar 0) (lCons (eC (.cls n)) lNil))) lNil)) [some (.exc c), some (.loc S1.length), o] (S1 ++ [.lst xs]) = .ok (.nx [some (.exc c), some (.loc S1.length), o]) (S1 ++ [.lst (xs ++ [.bl (subE c n)])]) := by
  have g0 : ([some (.exc c), some (.loc S1.length), o] : Env1)[0]? = some (some (.exc c)) := rfl
  have it := isT_loc (last_at S1 (.lst xs))
  have ap := app_at (d := .bl (subE c n)) (last_at S1 (.lst xs)) (by omega)
  rw [set_last] at ap
  rw [sExpr_ap, eMt_ap]
  simp only [eVar_ap, List.getElem?_cons_succ, List.getElem?_cons_zero, varK_some, Res.bind_ok, it, if_true, lCons_ap (eCB _ _), m1 h g0, lNil_ap, ap]
theorem word_ok {c : Str} (hc : c ∈ EX24) {S : Store} (hS : AllI S) : m_word [.exc c] S = .ok (.str c) S := by
  obtain ⟨hcount, j, hj, hname⟩ := ex24_once c hc
  have hv : ∃ T : Store, b_word [some (.exc c), none, none] S = .ok (.rt (.str c)) (S ++ T) ∧ T ≠ [] := by
    unfold b_word
    rw [seq_nx (first4 (n1 := "NoTops") (n2 := "NoBottom") (n3 := "NoRounding") (n4 := "NoHigh") (by decide +kernel) (by decide +kernel) (by decide +kernel) (by decide +kernel))]
    rw [seq_nx (one4 (n1 := "NoFlag") (n2 := "NoRoom") (n3 := "NoFilter") (n4 := "NoState") (by decide +kernel) (by decide +kernel) (by decide +kernel) (by decide +kernel) (by simp))]
    rw [seq_nx (one4 (n1 := "NoInput") (n2 := "NoSteps") (n3 := "NoRing") (n4 := "NoNumbers") (by decide +kernel) (by decide +kernel) (by decide +kernel) (by decide +kernel) (by simp))]
    rw [seq_nx (one4 (n1 := "NoSize") (n2 := "NoRow") (n3 := "NoSpan") (n4 := "NoOrder") (by decide +kernel) (by decide +kernel) (by decide +kernel) (by decide +kernel) (by simp))]
    rw [seq_nx (one4 (n1 := "NoText") (n2 := "NotTame") (n3 := "NotEven") (n4 := "TooLarge") (by decide +kernel) (by decide +kernel) (by decide +kernel) (by decide +kernel) (by simp))]
    rw [seq_nx (three (n1 := "NoPlace") (n2 := "Spilled") (n3 := "TooMany") (by decide +kernel) (by decide +kernel) (by decide +kernel) (by simp))]
    rw [seq_nx (last1 (n := "NothingDone") (by decide +kernel) (by simp))]
    generalize hT : (S ++ [Cell.lst _] ++ [Cell.lst _] ++ [Cell.lst _] ++ [Cell.lst _] ++ [Cell.lst _] : Store) = S6
    have em : ∀ xs : List PV, xs = (EX24.map (subE c)).map PV.bl → ∃ T : Store, S6 ++ [Cell.lst xs] = S ++ T ∧ T ≠ [] := fun xs _ => by
      subst hT
      simp only [List.append_assoc]
      exact ⟨_, rfl, by simp⟩
    obtain ⟨T, eT, nT⟩ := em _ rfl
    refine ⟨T, ?_, nT⟩
    rw [← eT]
    have lst : lstOf (S6 ++ [Cell.lst ((EX24.map (subE c)).map PV.bl)]) (.loc S6.length) = some ((EX24.map (subE c)).map PV.bl) := lst_last S6 _
    have cn := count_bl lst
    have ix := index_bl lst hj
    rw [hcount] at cn
    have it := isT_loc (last_at S6 (.lst ((EX24.map (subE c)).map PV.bl)))
    have nm : vIx (.lst (EX24.map PV.str)) (.int j) (S6 ++ [Cell.lst ((EX24.map (subE c)).map PV.bl)]) = .ok (.str c) (S6 ++ [Cell.lst ((EX24.map (subE c)).map PV.bl)]) := by
      show ofO (atI (EX24.map PV.str) j) _ = _
      have : atI (EX24.map PV.str) (j : Int) = some (.str c) := atI_get (by rw [List.getElem?_map, hname]; rfl)
      rw [this]; rfl
    change _ = Res.ok _ (S6 ++ [Cell.lst ((EX24.map (subE c)).map PV.bl)])
    change sSeq _ _ [some (.exc c), some (.loc S6.length), none] (S6 ++ [Cell.lst ((EX24.map (subE c)).map PV.bl)]) = _
    generalize (S6 ++ [Cell.lst ((EX24.map (subE c)).map PV.bl)]) = S7 at *
    have n1 : sSet 2 (eLst (lCons (eC (.str "NoTops")) (lCons (eC (.str "NoBottom")) (lCons (eC (.str "NoRounding")) (lCons (eC (.str "NoHigh")) (lCons (eC (.str "NoFlag")) (lCons (eC (.str "NoRoom")) (lCons (eC (.str "NoFilter")) (lCons (eC (.str "NoState")) (lCons (eC (.str "NoInput")) lNil)))))))))) [some (.exc c), some (.loc S6.length), none] S7 = .ok (.nx [some (.exc c), some (.loc S6.length), some (.lst ((EX24.take 9).map PV.str))]) S7 := by
      rfl
    rw [seq_nx n1]
    have n2 : sSet 2 (eBin vAdd (eVar 2) (eLst (lCons (eC (.str "NoSteps")) (lCons (eC (.str "NoRing")) (lCons (eC (.str "NoNumbers")) (lCons (eC (.str "NoSize")) (lCons (eC (.str "NoRow")) (lCons (eC (.str "NoSpan")) (lCons (eC (.str "NoOrder")) (lCons (eC (.str "NoText")) (lCons (eC (.str "NotTame")) lNil))))))))))) [some (.exc c), some (.loc S6.length), some (.lst ((EX24.take 9).map PV.str))] S7 = .ok (.nx [some (.exc c), some (.loc S6.length), some (.lst ((EX24.take 18).map PV.str))]) S7 := by
      rfl
    rw [seq_nx n2]
    have n3 : sSet 2 (eBin vAdd (eVar 2) (eLst (lCons (eC (.str "NotEven")) (lCons (eC (.str "TooLarge")) (lCons (eC (.str "NoPlace")) (lCons (eC (.str "Spilled")) (lCons (eC (.str "TooMany")) (lCons (eC (.str "NothingDone")) lNil)))))))) [some (.exc c), some (.loc S6.length), some (.lst ((EX24.take 18).map PV.str))] S7 = .ok (.nx [some (.exc c), some (.loc S6.length), some (.lst (EX24.map PV.str))]) S7 := by
      rfl
    rw [seq_nx n3]
    have ne : vNe (.int 1) (.int 1) S7 = .ok (.bl false) S7 := vNe_int 1 1 S7
    simp [it, cn, ix, nm, isx_ve, ne]
  obtain ⟨T, e, hT⟩ := hv
  exact fn_own (d := .str c) (T := T) e (allI_small hS _) rfl (fun z => absurd z hT)
end Hl

set_option Elab.async false
set_option linter.all false
set_option maxRecDepth 100000
set_option maxHeartbeats 4000000
namespace Hl
open PySem L2 Dn
/-! ### gains, errors, bounds -/
def szN (ts : List Int) : Nat := (ts.map Int.natAbs).sum
theorem szN_le : ∀ {ts : List Int}, (∀ t ∈ ts, -32 ≤ t ∧ t ≤ 32) → szN ts ≤ 32 * ts.length
  | [], _ => by simp [szN]
  | t :: ts, h => by
    have ih := szN_le (ts := ts) fun x hx => h x (List.mem_cons_of_mem _ hx)
    have := h t List.mem_cons_self
    simp only [szN, List.map_cons, List.sum_cons, List.length_cons] at ih ⊢
    omega
theorem sz_sum : ∀ ts : List Int, (ts.map fun t => (t.natAbs : Int)).sum = (szN ts : Int)
  | [] => rfl
  | t :: ts => by
    have ih := sz_sum ts
    simp only [szN, List.map_cons, List.sum_cons] at ih ⊢
    rw [ih]; omega
theorem sizes_ok (p : Pt) (h : p.ts.length ≤ 1000) (S : Store) : m_p_sizes [p.obj] S = .ok (.int (szN p.ts)) S := by
  have c : c_p_sizes_1 [some p.obj, none] S = .ok ((p.ts.map fun t => (t.natAbs : Int)).map PV.int) S := by
    unfold c_p_sizes_1
    simp [ofC_ok, tops_ok, tsv, show p.ts.length ≤ 16777216 by omega]
    rw [compM_map2 (.inl rfl) PV.int (fun t : Int => PV.int (t.natAbs : Int)) p.ts (fun x hx => ⟨_, rfl, rfl, by simp⟩)]
    simp [Function.comp_def]
  have v := vSum_ints (p.ts.map fun t => (t.natAbs : Int)) S
  rw [sz_sum] at v
  refine run_fn ?_
  unfold b_p_sizes
  simp only [start1, List.replicate, List.map_cons, List.map_nil, List.length_cons, List.length_nil, List.cons_append, List.nil_append]
  rw [sRet_ap, eCB_ap, lCons_ap, eNew_ap]
  simp only [Nat.reduceAdd, Nat.reduceSub, List.replicate, c, Res.bind_ok, lNil_ap, v]
/-- how many tops are not 0 -/
def nzN (ts : List Int) : Nat := (ts.filter fun t => !decide (t = 0)).length
theorem nzN_le (ts : List Int) : nzN ts ≤ ts.length := List.length_filter_le _ _
def onceI (p : Pt) : Int := if p.w = "near" then p.b / 2 else p.b - 1
def slk (p : Pt) : Int := onceI p * (if p.e then (nzN p.ts : Int) else min (nzN p.ts : Int) 1)
theorem once_le {p : Pt} (h : p.Ok) : 0 ≤ onceI p ∧ onceI p ≤ 15 := by
  have := h.b
  unfold onceI; split <;> omega
theorem slk_le {p : Pt} (h : p.Ok) : 0 ≤ slk p ∧ slk p ≤ 45 := by
  have o := once_le h
  have l := h.len
  have n := nzN_le p.ts
  unfold slk
  generalize onceI p = x at *
  have m : ∀ k : Int, 0 ≤ k ∧ k ≤ 3 → 0 ≤ x * k ∧ x * k ≤ 45 := fun k hk => by
    have : k = 0 ∨ k = 1 ∨ k = 2 ∨ k = 3 := by omega
    rcases this with rfl | rfl | rfl | rfl <;> omega
  split
  · exact m _ (by omega)
  · exact m _ (by omega)
theorem slack_ok {p : Pt} (h : p.Ok) (S : Store) : m_p_slack [p.obj] S = .ok (.int (slk p)) S := by
  have l := h.len
  have hb := h.b
  have o := once_le h
  have n := nzN_le p.ts
  have c : c_p_slack_1 [some p.obj, none, none, none] S = .ok ((p.ts.filter fun t => !decide (t = 0)).map PV.int) S := by
    unfold c_p_slack_1
    simp only [lComp_ap, iVal_ap, eProp_ap, eVar_ap, List.getElem?_cons_zero, varK_some, Res.bind_ok, ofC_ok, if_true, tops_ok, noErr_ok, tsv, srcOf_tup, List.length_map, szlS _ (show p.ts.length ≤ 16777216 by omega)]
    exact compM_fm (.inl rfl) PV.int PV.int (fun t => !decide (t = 0)) p.ts fun x hx => ⟨_, rfl, by simp [vNe_int], fun _ => by simp⟩
  have d : vDiv (.int p.b) (.int 2) S = .ok (.int (p.b / 2)) S := vDiv_int (by decide) (by decide)
  have m : ∀ k : Int, 0 ≤ k ∧ k ≤ 3 → vMul (.int (onceI p)) (.int k) S = .ok (.int (onceI p * k)) S := fun k hk => mulS (by omega) (by omega)
  refine run_fn ?_
  have hn : ((p.ts.filter fun t => !decide (t = 0)).map PV.int).length = nzN p.ts := by simp [nzN]
  have m1 := m (nzN p.ts) (by omega)
  have m2 := m (min (nzN p.ts : Int) 1) (by omega)
  have ho : (if p.w = "near" then (Res.ok (PV.int (p.b / 2)) S : Res PV) else .ok (.int (p.b - 1)) S) = .ok (.int (onceI p)) S := by
    unfold onceI; split <;> rfl
  have hn' : (p.ts.filter fun t => !decide (t = 0)).length = nzN p.ts := rfl
  unfold b_p_slack slk
  simp [start1, List.replicate, c, ofC_ok, rounding_ok, bottom_ok, each_ok, d, ho, hn']
  cases p.e
  · simp [m2]
  · simp [m1]
theorem gcd_loop (a b : Nat) (S : Store) : sWhile t_p_lowest_1 w_p_lowest_1 [some (.int a), some (.int b), some (.int a), some (.int b)] S = .ok (.nx [some (.int a), some (.int b), some (.int (Nat.gcd a b : Nat)), some (.int 0)]) S := by
  obtain ⟨j, r', S0, S', e, ⟨rfl, x, y, er, hg, _⟩, ef⟩ := sWhile_inv (t := t_p_lowest_1) (b := w_p_lowest_1) (fun n r S' => S' = S ∧ ∃ x y : Nat, r = [some (.int a), some (.int b), some (.int x), some (.int y)] ∧ Nat.gcd x y = Nat.gcd a b ∧ n = y) (fun n r S' ⟨e1, x, y, er, hg, en⟩ => by
      subst e1 er
      unfold t_p_lowest_1 w_p_lowest_1
      by_cases hy : 0 < y
      · have md : vMod (.int (x : Int)) (.int (y : Int)) S' = .ok (.int ((x : Int) % y)) S' := vMod_int (by omega)
        have mm := Nat.mod_lt x hy
        refine ⟨true, S', by simp [hy], fun _ => ⟨x % y, _, S', by omega, .inl (by simp [md]; rfl), rfl, y, x % y, by rw [Int.natCast_emod], ?_, rfl⟩, nofun⟩
        rw [← hg, Nat.gcd_comm x y, Nat.gcd_rec y x, Nat.gcd_comm]
      · exact ⟨false, S', by simp [hy], nofun, fun _ => ⟨rfl, x, y, rfl, hg, en⟩⟩)
    b [some (.int a), some (.int b), some (.int a), some (.int b)] S ⟨rfl, a, b, rfl, rfl, rfl⟩
  subst er
  unfold t_p_lowest_1 at ef
  have y0 : y = 0 := by
    simp at ef
    omega
  subst y0
  rw [Nat.gcd_zero_right] at hg
  rw [e, hg]; rfl
def lowT (a b : Nat) : PV := .tup [.int ((a : Int) / (Nat.gcd a b : Nat)), .int ((b : Int) / (Nat.gcd a b : Nat))]
theorem lowest_ok {a b : Nat} (hb : 1 ≤ b ∧ b ≤ 1000) (S : Store) : m_p_lowest [.int a, .int b] S = .ok (lowT a b) S := by
  have g1 : 1 ≤ Nat.gcd a b := Nat.gcd_pos_of_pos_right a (by omega)
  have g2 : Nat.gcd a b ≤ b := Nat.gcd_le_right a (by omega)
  have d1 : vDiv (.int a) (.int (Nat.gcd a b : Nat)) S = .ok (.int ((a : Int) / (Nat.gcd a b : Nat))) S := vDiv_int (by omega) (by omega)
  have d2 : vDiv (.int b) (.int (Nat.gcd a b : Nat)) S = .ok (.int ((b : Int) / (Nat.gcd a b : Nat))) S := vDiv_int (by omega) (by omega)
  have e : l_p_lowest_1 [some (.int a), some (.int b), some (.int a), some (.int b)] S = _ := gcd_loop a b S
  refine run_fn ?_
  unfold b_p_lowest
  simp [start1, List.replicate, e, d1, d2, lowT]
/-- the greatest number that divides both -/
theorem divs_last : ∀ a < 100, ∀ b < 17, 1 ≤ b → (((List.range b).map (1 + ·)).filter fun d => decide (b % d = 0) && decide (a % d = 0)).getLast? = some (Nat.gcd a b) := by decide +kernel
theorem atI_last {xs : List PV} {d : PV} (h : xs.getLast? = some d) : atI xs (-1) = some d := by
  have n0 : xs ≠ [] := fun z => by rw [z] at h; cases h
  have n1 : 0 < xs.length := List.length_pos_iff.mpr n0
  rw [List.getLast?_eq_getElem?] at h
  unfold atI
  have e : ixN xs.length (-1) = some (xs.length - 1) := by
    unfold ixN
    rw [if_neg (by decide), if_pos (by omega)]
    congr 1
    omega
  rw [e]
  exact h
theorem llowest_ok {a b : Nat} (ha : a < 100) (hb : 1 ≤ b ∧ b ≤ 16) (S : Store) : m_lowest [.int a, .int b] S = .ok (lowT a b) S := by
  have g1 : 1 ≤ Nat.gcd a b := Nat.gcd_pos_of_pos_right a (by omega)
  have g2 : Nat.gcd a b ≤ b := Nat.gcd_le_right a (by omega)
  have d1 : vDiv (.int a) (.int (Nat.gcd a b : Nat)) S = .ok (.int ((a : Int) / (Nat.gcd a b : Nat))) S := vDiv_int (by omega) (by omega)
  have d2 : vDiv (.int b) (.int (Nat.gcd a b : Nat)) S = .ok (.int ((b : Int) / (Nat.gcd a b : Nat))) S := vDiv_int (by omega) (by omega)
  have g0 : rngOf (.int 1) (.int (b + 1)) S = .ok ⟨rng 1 b, none⟩ S := by
    have := rngOf_ok (n := 1) (m := (b : Int) + 1) (S := S) (by omega) (by omega)
    rwa [show ((b : Int) + 1 - 1).toNat = b by omega] at this
  have er : rng 1 b = ((List.range b).map (1 + ·)).map fun d : Nat => PV.int d := by
    unfold rng
    rw [List.map_map]
    refine List.map_congr_left fun i _ => ?_
    simp
  have c : c_lowest_1 [some (.int a), some (.int b), none, none] S = .ok ((((List.range b).map (1 + ·)).filter fun d => decide (b % d = 0) && decide (a % d = 0)).map fun d : Nat => PV.int d) S := by
    unfold c_lowest_1
    simp only [lComp_ap, iRange2_ap, eC_ap, Res.bind_ok, eBin_ap, eVar_ap, List.getElem?_cons_zero, List.getElem?_cons_succ, varK_some, vAdd_int', g0]
    rw [rng_len, if_pos (szlS _ (by omega)), er]
    refine compM_fm (.inl rfl) _ _ _ _ fun x hx => ?_
    obtain ⟨i, _, rfl⟩ := List.mem_map.mp hx
    have m1 : vMod (.int (b : Int)) (.int ((1 + i : Nat) : Int)) S = .ok (.int ((b % (1 + i) : Nat) : Int)) S := by rw [vMod_int (by omega), Int.natCast_emod]
    have m2 : vMod (.int (a : Int)) (.int ((1 + i : Nat) : Int)) S = .ok (.int ((a % (1 + i) : Nat) : Int)) S := by rw [vMod_int (by omega), Int.natCast_emod]
    refine ⟨_, rfl, ?_, fun _ => rfl⟩
    generalize 1 + i = d at *
    generalize b % d = u at *
    generalize a % d = v at *
    by_cases hu : u = 0
    · subst hu; simp [m1, m2]
    · have : ¬ ((u : Int) = 0) := by omega
      simp [m1, hu]
  have lx : vIx (.lst ((((List.range b).map (1 + ·)).filter fun d => decide (b % d = 0) && decide (a % d = 0)).map fun d : Nat => PV.int d)) (.int (-1)) S = .ok (.int (Nat.gcd a b : Nat)) S := by
    show ofO (atI _ (-1)) S = _
    rw [atI_last (d := .int (Nat.gcd a b : Nat)) (by rw [List.getLast?_map, divs_last a ha b (by omega) hb.1]; rfl)]
    rfl
  refine run_fn ?_
  unfold b_lowest
  simp only [start1, List.replicate, List.map_cons, List.map_nil, List.length_cons, List.length_nil, List.cons_append, List.nil_append, Nat.reduceAdd, Nat.reduceSub, sSeq_ap, sSet_ap, eBin_ap, eNew_ap, c, Res.bind_ok, eUn_ap, eC_ap, vNeg_int', lx, seqK_nx]
  simp [d1, d2, lowT]
theorem nat_of {i : Int} (h : 0 ≤ i) : ∃ n : Nat, i = n := Int.eq_ofNat_of_zero_le h
def low (a b : Int) : PV := lowT a.toNat b.toNat
theorem lowest_i {a b : Int} (ha : 0 ≤ a) (hb : 1 ≤ b ∧ b ≤ 1000) (S : Store) : m_p_lowest [.int a, .int b] S = .ok (low a b) S := by
  obtain ⟨m, rfl⟩ := nat_of ha
  obtain ⟨n, rfl⟩ := nat_of (show 0 ≤ b by omega)
  exact lowest_ok (by omega) S
theorem llowest_i {a b : Int} (ha : 0 ≤ a ∧ a < 100) (hb : 1 ≤ b ∧ b ≤ 16) (S : Store) : m_lowest [.int a, .int b] S = .ok (low a b) S := by
  obtain ⟨m, rfl⟩ := nat_of ha.1
  obtain ⟨n, rfl⟩ := nat_of (show 0 ≤ b by omega)
  exact llowest_ok (by omega) (by omega) S
theorem gain_ok {p : Pt} (h : p.Ok) (S : Store) : m_p_gain [p.obj] S = .ok (low (szN p.ts) p.b) S := by
  have hb := h.b
  have l := lowest_i (a := (szN p.ts : Int)) (b := p.b) (by omega) (by omega) S
  refine run_fn ?_
  unfold b_p_gain
  simp [start1, List.replicate, need_filter_ok, sizes_ok p (by have := h.len; omega), ofC_ok, bottom_ok, l]
theorem perror_ok {p : Pt} (h : p.Ok) (S : Store) : m_p_error [p.obj] S = .ok (low (slk p) p.b) S := by
  have hb := h.b
  have l := lowest_i (a := slk p) (b := p.b) (slk_le h).1 (by omega) S
  refine run_fn ?_
  unfold b_p_error
  simp [start1, List.replicate, need_filter_ok, slack_ok h, ofC_ok, bottom_ok, l]
theorem tame_ok {p : Pt} (h : p.Ok) (S : Store) : m_p_is_tame [p.obj] S = .ok (.bl (decide ((szN p.ts : Int) < p.b))) S := by
  refine run_fn ?_
  unfold b_p_is_tame
  simp [start1, List.replicate, need_filter_ok, sizes_ok p (by have := h.len; omega), ofC_ok, bottom_ok]
theorem bound_ok {p : Pt} (h : p.Ok) (ht : (szN p.ts : Int) < p.b) (S : Store) : m_p_bound [p.obj] S = .ok (.int (slk p / (p.b - szN p.ts))) S := by
  have hb := h.b
  have d : vDiv (.int (slk p)) (.int (p.b - szN p.ts)) S = .ok (.int (slk p / (p.b - szN p.ts))) S := vDiv_int (by omega) (by omega)
  refine run_fn ?_
  unfold b_p_bound
  simp [start1, List.replicate, tame_ok h, ht, slack_ok h, sizes_ok p (by have := h.len; omega), ofC_ok, bottom_ok, d]
theorem fn_err {kp : Bool} {N : Nat} {b : SM} {ds : List PV} {S : Store} {c : Str} (h : b (start1 N ds) S = .err c S) : fnM kp N b ds S = .err c S := by
  unfold fnM; rw [h]; cases kp
  · show shutE S.length c S = _
    unfold shutE
    rw [if_pos (Nat.le_refl _)]
  · rfl
theorem bound_err {p : Pt} (h : p.Ok) (ht : ¬ (szN p.ts : Int) < p.b) (S : Store) : m_p_bound [p.obj] S = .err "NotTame" S := by
  refine fn_err ?_
  unfold b_p_bound
  simp [start1, List.replicate, tame_ok h, ht]
/-! ### what is said -/
theorem said_val {rp : List PV → Store → Res PV} {su : SM} {f : EM} {r : Env1} {S S1 S2 : Store} {d e : PV} (h : f r S = .ok d S1) (h2 : rp [d] S1 = .ok e S2) : eSaid rp su f r S = .ok e S2 := by
  unfold eSaid
  rw [h]
  show noErr (rp [d] S1) = _
  rw [h2]; rfl
theorem said_exc {rp : List PV → Store → Res PV} {su : SM} {f : EM} {r : Env1} {S S1 S2 : Store} {c : Str} {e : PV} (h : f r S = .err c S1) (hc : c ∈ EXN) (h2 : su [none, some (.exc c)] S1 = .ok (.rt e) S2) : eSaid rp su f r S = .ok e S2 := by
  unfold eSaid
  rw [h]
  simp only [if_pos hc, h2]
theorem ex24_len : ∀ c ∈ EX24, c.length ≤ 20 ∧ c ∈ EXN := by decide +kernel
theorem su_ok {c : Str} (hc : c ∈ EX24) {S : Store} (hS : AllI S) : su_said [none, some (.exc c)] S = .ok (.rt (.str (("! " : Str) ++ c))) S := by
  have l := (ex24_len c hc).1
  have l2 : (Str.ofString "! ").length = 2 := by decide +kernel
  have ad : vAdd (.str "! ") (.str c) S = .ok (.str (("! " : Str) ++ c)) S := vAdd_str (by omega)
  unfold su_said
  simp [word_ok hc hS, ad]
theorem repr_int {i : Int} (h : smallI i) (S : Store) : vRepr [.int i] S = .ok (.str (toString i)) S := by
  have := (Dt.int h).repr (by omega) (by omega) S
  rw [this]
  congr 2
end Hl

set_option Elab.async false
set_option linter.all false
set_option maxRecDepth 100000
set_option maxHeartbeats 4000000
namespace Hl
open PySem L2 Dn
/-! ### values of any kind -/
def dv : PV → Bool
  | .non => true
  | .bl _ => true
  | .int _ => true
  | .str _ => true
  | .tup _ => true
  | .lst _ => true
  | .dik _ => true
  | _ => false
def tyD : PV → String
  | .non => "NoneType"
  | .bl _ => "bool"
  | .int _ => "int"
  | .str _ => "str"
  | .tup _ => "tuple"
  | .lst _ => "list"
  | _ => "dict"
theorem isi_dv {d : PV} {n : String} (h : dv d = true) (hn : n ∈ (["int", "bool", "str", "tuple", "list", "dict"] : List String)) (S : Store) : vIsiU [d, .ty n] S = .ok (.bl (isiT (tyD d) n)) S := by
  cases d <;> first | (simp [dv] at h; done) | simp [vIsiU, vIsi, isi1, isi0, tyN, tyD, hn, lstOf, okB]
theorem isi_int {d : PV} (h : dv d = true) (S : Store) : vIsiU [d, .ty "int"] S = .ok (.bl (isiT (tyD d) "int")) S := isi_dv h (by simp) S
theorem isi_bool {d : PV} (h : dv d = true) (S : Store) : vIsiU [d, .ty "bool"] S = .ok (.bl (isiT (tyD d) "bool")) S := isi_dv h (by simp) S
theorem isi_str {d : PV} (h : dv d = true) (S : Store) : vIsiU [d, .ty "str"] S = .ok (.bl (isiT (tyD d) "str")) S := isi_dv h (by simp) S
theorem isi_tup {d : PV} (h : dv d = true) (S : Store) : vIsiU [d, .ty "tuple"] S = .ok (.bl (isiT (tyD d) "tuple")) S := isi_dv h (by simp) S
def btw (d : PV) (lo hi : Int) : Bool := match d with
  | .int t => decide (lo ≤ t) && decide (t ≤ hi)
  | _ => false
theorem between_dv {d : PV} (h : dv d = true) (lo hi : Int) (S : Store) : m_p_is_between [d, .int lo, .int hi] S = .ok (.bl (btw d lo hi)) S := by
  have e1 := isi_int h S
  have e2 := isi_bool h S
  cases d <;> first
    | (simp [dv] at h; done)
    | exact between_ok _ _ _ _
    | (refine run_fn ?_; unfold b_p_is_between; simp [start1, List.replicate, e1, e2, tyD, isiT, btw])
def areB (d : PV) (lo hi : Int) : Bool := match d with
  | .tup xs => xs.all fun x => btw x lo hi
  | _ => false
structure Val (d : PV) : Prop where
  dv : Hl.dv d = true
  tup : ∀ xs, d = .tup xs → (∀ x ∈ xs, Hl.dv x = true) ∧ xs.length ≤ 1000
theorem are_dv {d : PV} (h : Val d) (lo hi : Int) (S : Store) : m_p_are_between [d, .int lo, .int hi] S = .ok (.bl (areB d lo hi)) S := by
  have e1 := isi_tup h.dv S
  have h2 := h.dv
  refine run_fn ?_
  unfold b_p_are_between
  cases d <;> first
    | (simp [dv] at h2; done)
    | (simp [start1, List.replicate, e1, tyD, isiT, areB]; done)
    | skip
  rename_i xs
  obtain ⟨hx, hl⟩ := h.tup xs rfl
  have c : c_p_are_between_1 [some (.tup xs), some (.int lo), some (.int hi), none] S = .ok (xs.map fun x => PV.bl (btw x lo hi)) S := by
    unfold c_p_are_between_1
    simp only [lComp_ap, iVal_ap, eVar_ap, List.getElem?_cons_zero, varK_some, Res.bind_ok, srcOf_tup, szlS _ (show xs.length ≤ 16777216 by omega), if_true]
    exact compM_map (.inl rfl) (fun x => PV.bl (btw x lo hi)) xs fun d hd => ⟨_, rfl, rfl, by simp [between_dv (hx d hd)]⟩
  simp [start1, List.replicate, e1, tyD, isiT, areB, c, vAll_map]
def rndB (d : PV) : Bool := match d with
  | .str x => decide (x = "near" ∨ x = "cut" ∨ x = "down")
  | _ => false
theorem inV_strs (x : Str) : ∀ ys : List Str, inV (.str x) (ys.map V.str) = decide (x ∈ ys)
  | [] => by simp [inV]
  | y :: ys => by
    have ih := inV_strs x ys
    unfold inV at ih ⊢
    rw [List.map_cons, List.any_cons, ih]
    by_cases e : x = y
    · subst e; simp [eqV]
    · have e' : ¬ y = x := fun z => e z.symm
      simp [eqV, e, e']
theorem flats_strs : ∀ ys : List Str, flats? (ys.map PV.str) = some (ys.map V.str)
  | [] => rfl
  | y :: ys => by simp [flats?, flat?, flats_strs ys]
theorem vIn_strs (neg : Bool) (x : Str) (ys : List Str) (S : Store) : vIn neg (.str x) (.tup (ys.map PV.str)) S = .ok (.bl (if neg then !decide (x ∈ ys) else decide (x ∈ ys))) S := by
  unfold vIn
  simp [flat?, seqOf, flats_strs, inV_strs]
theorem rnd_dv {d : PV} (h : dv d = true) (S : Store) : m_p_is_rounding [d] S = .ok (.bl (rndB d)) S := by
  have e1 := isi_str h S
  refine run_fn ?_
  unfold b_p_is_rounding
  cases d <;> first
    | (simp [dv] at h; done)
    | (simp [start1, List.replicate, e1, tyD, isiT, rndB]; done)
    | skip
  rename_i x
  have z : 3 ≤ sizeLine := seq_le (by omega)
  have v := vIn_strs false x ["near", "cut", "down"] S
  simp at v
  simp [start1, List.replicate, e1, tyD, isiT, rndB, z, v]
def lenD : PV → Nat
  | .tup xs => xs.length
  | _ => 0
def intD : PV → Int
  | .int i => i
  | _ => 0
def isB : PV → Bool
  | .bl _ => true
  | _ => false
/-- the class of the first thing that is wrong with the parts of a filter -/
def fault (a b c d e f : PV) : Option Str :=
  if areB a (-32) 32 && (decide (1 ≤ lenD a) && decide (lenD a ≤ 3)) then
    if btw b 1 16 then
      if rndB c then
        if btw d 1 60 then
          if isB e && isB f then
            if 2500 < (2 * intD d + 1) ^ lenD a then some "NoRoom" else none
          else some "NoFlag"
        else some "NoHigh"
      else some "NoRounding"
    else some "NoBottom"
  else some "NoTops"
theorem vAll_bs (bs : List Bool) (S : Store) : vAll [.lst (bs.map PV.bl)] S = .ok (.bl (bs.all id)) S := by
  have := vAll_map (fun b : Bool => b) bs S
  rw [show (bs.map PV.bl) = bs.map fun x => PV.bl x from rfl, this]; rfl
theorem isT_bool (d : PV) (h : dv d = true) : isiT (tyD d) "bool" = isB d := by
  cases d <;> first | (simp [dv] at h; done) | simp [tyD, isiT, isB]
theorem are_tup {a : PV} {lo hi : Int} (h : areB a lo hi = true) : ∃ ts : List Int, a = tsv ts ∧ ∀ t ∈ ts, lo ≤ t ∧ t ≤ hi := by
  cases a with
  | tup xs =>
    obtain ⟨ts, e, ht⟩ := ints_of (vs := xs) (P := fun t => lo ≤ t ∧ t ≤ hi) fun i v hv => by
      have := List.all_eq_true.mp h v (List.mem_of_getElem? hv)
      cases v with
      | int t => exact ⟨t, rfl, by simpa [btw] using this⟩
      | _ => simp [btw] at this
    exact ⟨ts, by rw [e]; rfl, ht⟩
  | _ => simp [areB] at h
theorem btw_int {d : PV} {lo hi : Int} (h : btw d lo hi = true) : ∃ t, d = .int t ∧ lo ≤ t ∧ t ≤ hi := by
  cases d with
  | int t => exact ⟨t, rfl, by simpa [btw] using h⟩
  | _ => simp [btw] at h
theorem isB_bl {d : PV} (h : isB d = true) : ∃ b, d = .bl b := by
  cases d with
  | bl b => exact ⟨b, rfl⟩
  | _ => simp [isB] at h
theorem flags_c (a b c d e f : PV) (he : dv e = true) (hf : dv f = true) (S : Store) : c_p_need_parts_1 [some a, some b, some c, some d, some (.tup [e, f]), none] S = .ok ([isB e, isB f].map PV.bl) S := by
  unfold c_p_need_parts_1
  simp
  exact compM_map (.inl rfl) (fun x => .bl (isB x)) [e, f] fun x hx => by
    simp at hx
    rcases hx with rfl | rfl
    · exact ⟨_, rfl, rfl, by simp [isi_bool he, isT_bool _ he]⟩
    · exact ⟨_, rfl, rfl, by simp [isi_bool hf, isT_bool _ hf]⟩
theorem need_dv {a b c d e f : PV} (ha : Val a) (hb : dv b = true) (hc : dv c = true) (hd : dv d = true) (he : dv e = true) (hf : dv f = true) (S : Store) :
    m_p_need_parts [a, b, c, d, .tup [e, f]] S = (match fault a b c d e f with
      | some k => .err k S
      | none => .ok .non S) := by
  have e1 := are_dv ha (-32) 32 S
  have e2 := between_dv hb 1 16 S
  have e3 := rnd_dv hc S
  have e4 := between_dv hd 1 60 S
  have e5 := flags_c a b c d e f he hf S
  have e6 := vAll_bs [isB e, isB f] S
  unfold fault
  by_cases h1 : areB a (-32) 32 = true
  · obtain ⟨ts, rfl, ht⟩ := are_tup h1
    rw [h1] at e1
    have l : lenD (tsv ts) = ts.length := by simp [lenD, tsv]
    rw [h1, l]
    have e7 := len_ts ts S
    by_cases h2 : 1 ≤ ts.length ∧ ts.length ≤ 3
    · have i1 : (1 : Int) ≤ ts.length := by omega
      have i2 : (ts.length : Int) ≤ 3 := by omega
      cases h3 : btw b 1 16 with
      | false =>
        rw [h3] at e2
        refine Eq.trans (fn_err (c := "NoBottom") ?_) (by simp [h2])
        unfold b_p_need_parts
        simp [start1, List.replicate, e1, e7, i1, i2, e2]
      | true =>
        rw [h3] at e2
        cases h4 : rndB c with
        | false =>
          rw [h4] at e3
          refine Eq.trans (fn_err (c := "NoRounding") ?_) (by simp [h2])
          unfold b_p_need_parts
          simp [start1, List.replicate, e1, e7, i1, i2, e2, e3]
        | true =>
          rw [h4] at e3
          cases h5 : btw d 1 60 with
          | false =>
            rw [h5] at e4
            refine Eq.trans (fn_err (c := "NoHigh") ?_) (by simp [h2])
            unfold b_p_need_parts
            simp [start1, List.replicate, e1, e7, i1, i2, e2, e3, e4]
          | true =>
            rw [h5] at e4
            cases h6 : (isB e && isB f) with
            | false =>
              have e6' : vAll [.lst ([isB e, isB f].map PV.bl)] S = .ok (.bl false) S := by rw [e6]; simpa using h6
              refine Eq.trans (fn_err (c := "NoFlag") ?_) (by simp [h2])
              unfold b_p_need_parts
              simp only [List.map_cons, List.map_nil] at e5 e6'
              simp [start1, List.replicate, e1, e7, i1, i2, e2, e3, e4, e5, e6']
            | true =>
              have e6' : vAll [.lst ([isB e, isB f].map PV.bl)] S = .ok (.bl true) S := by rw [e6]; simpa using h6
              obtain ⟨h, rfl, hh⟩ := btw_int h5
              have e8 : vMul (.int 2) (.int h) S = .ok (.int (2 * h)) S := mul2 (by omega)
              have e9 := power_ok (2 * h + 1) ts.length S h2.2 (by omega)
              simp only [List.map_cons, List.map_nil] at e5 e6'
              by_cases h7 : 2500 < (2 * h + 1) ^ ts.length
              · refine Eq.trans (fn_err (c := "NoRoom") ?_) (by simp [h2, intD, h7])
                unfold b_p_need_parts
                simp [start1, List.replicate, e1, e7, i1, i2, e2, e3, e4, e5, e6', e8, e9, h7]
              · refine Eq.trans (fn_nx (r := [some (tsv ts), some b, some c, some (.int h), some (.tup [e, f]), none]) ?_ (Nat.le_refl _)) (by simp [h2, intD, h7])
                unfold b_p_need_parts
                simp [start1, List.replicate, e1, e7, i1, i2, e2, e3, e4, e5, e6', e8, e9, h7]
    · have h2' : (decide (1 ≤ ts.length) && decide (ts.length ≤ 3)) = false := by
        rw [← Bool.decide_and]; exact decide_eq_false h2
      refine Eq.trans (fn_err (c := "NoTops") ?_) (by simp [h2'])
      unfold b_p_need_parts
      by_cases i1 : (1 : Int) ≤ ts.length
      · have i2 : ¬ (ts.length : Int) ≤ 3 := by omega
        simp [start1, List.replicate, e1, e7, i1, i2]
      · simp [start1, List.replicate, e1, e7, i1]
  · have h1 : areB a (-32) 32 = false := by simpa using h1
    rw [h1] at e1
    refine Eq.trans (fn_err (c := "NoTops") ?_) (by simp [h1])
    unfold b_p_need_parts
    simp [start1, List.replicate, e1]
theorem fault_none {a b c d e f : PV} (h : fault a b c d e f = none) : ∃ p : Pt, p.Ok ∧ PV.tup [a, b, c, d, e, f] = p.pv := by
  unfold fault at h
  split at h
  · rename_i h1
    split at h
    · rename_i h2
      split at h
      · rename_i h3
        split at h
        · rename_i h4
          split at h
          · rename_i h5
            split at h
            · cases h
            · rename_i h6
              simp only [Bool.and_eq_true, decide_eq_true_eq] at h1 h5
              obtain ⟨ts, rfl, ht⟩ := are_tup h1.1
              obtain ⟨bb, rfl, hb⟩ := btw_int h2
              obtain ⟨hh, rfl, hh'⟩ := btw_int h4
              obtain ⟨x, rfl⟩ := isB_bl h5.1
              obtain ⟨y, rfl⟩ := isB_bl h5.2
              cases c with
              | str w =>
                have l : lenD (tsv ts) = ts.length := by simp [lenD, tsv]
                rw [l] at h1 h6
                refine ⟨⟨ts, bb, w, hh, x, y⟩, ⟨h1.2, ht, hb, by simpa [rndB] using h3, hh', ?_⟩, rfl⟩
                simp only [intD] at h6
                show (2 * hh + 1) ^ ts.length ≤ 2500
                omega
              | _ => simp [rndB] at h3
          · cases h
        · cases h
      · cases h
    · cases h
  · cases h
theorem fault_pt {p : Pt} (h : p.Ok) : fault (tsv p.ts) (.int p.b) (.str p.w) (.int p.h) (.bl p.e) (.bl p.v) = none := by
  have h1 : areB (tsv p.ts) (-32) 32 = true := by
    show (p.ts.map PV.int).all (fun x => btw x (-32) 32) = true
    rw [List.all_map, List.all_eq_true]
    intro t ht
    simpa [btw] using h.ts t ht
  have l : lenD (tsv p.ts) = p.ts.length := by simp [lenD, tsv]
  have hl := h.len
  have hb := h.b
  have hh := h.h
  have hs := h.st
  have hw : rndB (.str p.w) = true := by simpa [rndB] using h.w
  unfold fault
  rw [h1, l, hw]
  have hs' : ¬ 2500 < (2 * p.h + 1) ^ p.ts.length := by
    have : (2 * p.h + 1) ^ p.ts.length ≤ 2500 := hs
    omega
  simp [btw, hl, hb, hh, isB, intD, hs']
theorem init_dv {a b c d e f : PV} (ha : Val a) (hb : dv b = true) (hc : dv c = true) (hd : dv d = true) (he : dv e = true) (hf : dv f = true) {k : Str} (h : fault a b c d e f = some k) (S : Store) :
    m_p_Filter_init [.loc S.length, a, b, c, d, e, f] (S ++ [.ins "Filter" []]) = .err k (S ++ [.ins "Filter" []]) := by
  have z2 : 2 ≤ sizeLine := seq_le (by omega)
  have n := need_dv ha hb hc hd he hf (S ++ [.ins "Filter" []])
  rw [h] at n
  refine fn_err ?_
  unfold b_p_Filter_init
  simp [start1, List.replicate, n, z2]
theorem make_dv {a b c d e f : PV} (ha : Val a) (hb : dv b = true) (hc : dv c = true) (hd : dv d = true) (he : dv e = true) (hf : dv f = true) {k : Str} (h : fault a b c d e f = some k) {S : Store} (hS : AllI S) :
    makeM true "Filter" m_p_Filter_init [a, b, c, d, e, f] S = .err k S := by
  unfold makeM
  rw [init_dv ha hb hc hd he hf h S]
  show shutE S.length k (S ++ [.ins "Filter" []]) = _
  unfold shutE
  have t : (S ++ [Cell.ins "Filter" []]).take S.length = S := by simp
  rw [if_neg (by simp), t, if_pos (allI_small hS _)]
theorem filter_dv {a b c d e f : PV} (ha : Val a) (hb : dv b = true) (hc : dv c = true) (hd : dv d = true) (he : dv e = true) (hf : dv f = true) {k : Str} (h : fault a b c d e f = some k) {S : Store} (hS : AllI S) :
    m_filter [.tup [a, b, c, d, e, f]] S = .err k S := by
  have m := make_dv ha hb hc hd he hf h hS
  have i : ∀ (j : Nat) (x : PV), [a, b, c, d, e, f][j]? = some x → vIx (.tup [a, b, c, d, e, f]) (.int j) S = .ok x S := fun j x hx => by
    show ofO (atI _ _) S = _
    rw [atI_get hx]; rfl
  have i0 := i 0 a rfl
  have i1 := i 1 b rfl
  have i2 := i 2 c rfl
  have i3 := i 3 d rfl
  have i4 := i 4 e rfl
  have i5 := i 5 f rfl
  refine fn_err ?_
  unfold b_filter
  simp at i0 i1 i2 i3 i4 i5
  simp [start1, List.replicate, i0, i1, i2, i3, i4, i5, m]
end Hl

set_option Elab.async false
set_option linter.all false
set_option maxRecDepth 100000
set_option maxHeartbeats 4000000
namespace Hl
open PySem L2 Dn PyProof.Rows
/-! ### texts of data with dicts -/
mutual
def capD : PyData → Nat
  | .none => 4
  | .bool _ => 5
  | .int _ => 1921
  | .str x => 10 * x.length + 2
  | .list xs => capDs xs + 2
  | .tuple xs => capDs xs + 3
  | .dict kvs => capDk kvs + 2
def capDs : List PyData → Nat
  | [] => 0
  | x :: xs => capD x + 2 + capDs xs
def capDk : List (PyData × PyData) → Nat
  | [] => 0
  | (x, y) :: xs => capD x + capD y + 4 + capDk xs
end
mutual
def okD : PyData → Bool
  | .none => true
  | .bool _ => true
  | .int i => decide (i.natAbs.log2 < 1920)
  | .str x => cpsOk x
  | .list xs => okDs xs
  | .tuple xs => okDs xs
  | .dict kvs => okDk kvs
def okDs : List PyData → Bool
  | [] => true
  | x :: xs => okD x && okDs xs
def okDk : List (PyData × PyData) → Bool
  | [] => true
  | (x, y) :: xs => okD x && (okD y && okDk xs)
end
theorem dictText_le (ts : List Str) : (dictText ts).length ≤ piled ts + 2 := by
  unfold dictText
  rw [sl_app, sl_app]
  have e1 : ((("{" : String) : Str)).length = 1 := rfl
  have e2 : ((("}" : String) : Str)).length = 1 := rfl
  by_cases h : ts = []
  · subst h
    have : (Str.join ", " []).length = 0 := rfl
    omega
  · have := join_length_add ts h
    omega
mutual
theorem shownD_le : ∀ {d : PyData}, okD d = true → d.shown.length ≤ capD d ∧ d.showable = true
  | .none, _ => ⟨by simp only [PyData.shown, capD]; decide, by simp [PyData.showable]⟩
  | .bool b, _ => ⟨by simp only [PyData.shown, capD]; cases b <;> decide, by simp [PyData.showable]⟩
  | .int i, h => by
    have h : i.natAbs.log2 < 1920 := by simpa [okD] using h
    exact ⟨by simp only [PyData.shown, capD]; exact int_text_len_1921 h, by simp [PyData.showable, h]⟩
  | .str x, h => by
    have h : ∀ c ∈ x.cps.toList, c < 1114112 := by
      have h2 : cpsOk x = true := by simpa [okD] using h
      exact fun c hc => of_decide_eq_true (List.all_eq_true.mp h2 c hc)
    exact ⟨by simp only [PyData.shown, capD]; exact StrLaws.reprText_len x (fun c hc => by have := h c hc; omega), by simp [PyData.showable]⟩
  | .list xs, h => by
    obtain ⟨h1, h2⟩ := shownDs_le (show okDs xs = true by simpa [okD] using h)
    refine ⟨?_, by simpa [PyData.showable] using h2⟩
    simp only [PyData.shown, capD]
    unfold listText
    rw [sl_app]
    have h4 := textFrom_le (PyData.shownAll xs) 0 "["
    have e1 : ((("[" : String) : Str)).length = 1 := rfl
    have e2 : ((("]" : String) : Str)).length = 1 := rfl
    omega
  | .tuple xs, h => by
    obtain ⟨h1, h2⟩ := shownDs_le (show okDs xs = true by simpa [okD] using h)
    refine ⟨?_, by simpa [PyData.showable] using h2⟩
    simp only [PyData.shown, capD]
    have h4 := tupleText_le (PyData.shownAll xs)
    omega
  | .dict kvs, h => by
    obtain ⟨h1, h2⟩ := shownDk_le (show okDk kvs = true by simpa [okD] using h)
    refine ⟨?_, by simpa [PyData.showable] using h2⟩
    simp only [PyData.shown, capD]
    have h4 := dictText_le (PyData.shownKv kvs)
    omega
theorem shownDs_le : ∀ {ds : List PyData}, okDs ds = true → piled (PyData.shownAll ds) ≤ capDs ds ∧ PyData.showableAll ds = true
  | [], _ => ⟨by simp [PyData.shownAll, capDs, piled], by simp [PyData.showableAll]⟩
  | x :: xs, h => by
    have h : okD x = true ∧ okDs xs = true := by simpa [okDs] using h
    obtain ⟨a1, a2⟩ := shownD_le h.1
    obtain ⟨b1, b2⟩ := shownDs_le h.2
    refine ⟨?_, by simp [PyData.showableAll, a2, b2]⟩
    simp only [PyData.shownAll, capDs]
    rw [piled_cons]
    omega
theorem shownDk_le : ∀ {ds : List (PyData × PyData)}, okDk ds = true → piled (PyData.shownKv ds) ≤ capDk ds ∧ PyData.showableKv ds = true
  | [], _ => ⟨by simp [PyData.shownKv, capDk, piled], by simp [PyData.showableKv]⟩
  | (x, y) :: xs, h => by
    have h : okD x = true ∧ okD y = true ∧ okDk xs = true := by simpa [okDk] using h
    obtain ⟨a1, a2⟩ := shownD_le h.1
    obtain ⟨c1, c2⟩ := shownD_le h.2.1
    obtain ⟨b1, b2⟩ := shownDk_le h.2.2
    refine ⟨?_, by simp [PyData.showableKv, a2, b2, c2]⟩
    simp only [PyData.shownKv, capDk]
    rw [piled_cons, sl_app, sl_app]
    have e1 : (((": " : String) : Str)).length = 2 := rfl
    omega
end
mutual
theorem data01 : ∀ {d : PV} {p : PyData}, data0 d = some p → Dn.data1 d = some p ∧ p.hasDict = false
  | .non, _, h => by simp [data0] at h; subst h; simp [Dn.data1, PyData.hasDict]
  | .bl _, _, h => by simp [data0] at h; subst h; simp [Dn.data1, PyData.hasDict]
  | .int _, _, h => by simp [data0] at h; subst h; simp [Dn.data1, PyData.hasDict]
  | .str _, _, h => by simp [data0] at h; subst h; simp [Dn.data1, PyData.hasDict]
  | .tup xs, _, h => by
    simp only [data0] at h
    cases e : data0s xs with
    | none => rw [e] at h; cases h
    | some ps =>
      rw [e] at h; cases h
      obtain ⟨a, b⟩ := data01s e
      simp [Dn.data1, a, PyData.hasDict, b]
  | .lst xs, _, h => by
    simp only [data0] at h
    cases e : data0s xs with
    | none => rw [e] at h; cases h
    | some ps =>
      rw [e] at h; cases h
      obtain ⟨a, b⟩ := data01s e
      simp [Dn.data1, a, PyData.hasDict, b]
  | .obj _ _, _, h => by simp [data0] at h
  | .loc _, _, h => by simp [data0] at h
  | .scr _, _, h => by simp [data0] at h
  | .ty _, _, h => by simp [data0] at h
  | .cls _, _, h => by simp [data0] at h
  | .exc _, _, h => by simp [data0] at h
  | .dic _, _, h => by simp [data0] at h
  | .dik _, _, h => by simp [data0] at h
theorem data01s : ∀ {ds : List PV} {ps : List PyData}, data0s ds = some ps → data1s ds = some ps ∧ PyData.hasDictAll ps = false
  | [], _, h => by simp [data0s] at h; subst h; simp [data1s, PyData.hasDictAll]
  | x :: xs, _, h => by
    simp only [data0s] at h
    cases e : data0 x with
    | none => rw [e] at h; cases h
    | some p =>
      cases e' : data0s xs with
      | none => rw [e, e'] at h; cases h
      | some ps =>
        rw [e, e'] at h; cases h
        obtain ⟨a, b⟩ := data01 e
        obtain ⟨c, d⟩ := data01s e'
        simp [data1s, a, c, PyData.hasDictAll, b, d]
end
theorem dataOD {S : Store} {d : PV} {p : PyData} (h : Dn.dataOf S d = some p) : dataD S d = some p ∧ p.hasDict = false := by
  unfold Dn.dataOf at h
  unfold dataD
  cases e : lstOf S d with
  | none => rw [e] at h; exact data01 h
  | some xs =>
    rw [e] at h
    cases e' : data0s xs with
    | none => simp only [e'] at h; cases h
    | some ps =>
      simp only [e'] at h; cases h
      obtain ⟨a, b⟩ := data01s e'
      simp [a, PyData.hasDict, b]
theorem vRepr_D {d : PV} {S : Store} {p : PyData} (h : dataD S d = some p) (hk : okD p = true) (hc : capD p ≤ 16777216) (hd : p.depth ≤ 64) : vRepr [d] S = .ok (.str p.shown) S := by
  obtain ⟨a, b⟩ := shownD_le hk
  have hz : p.shown.length ≤ sizeLine := Nat.le_trans a (Nat.le_trans hc (by decide))
  show (match Dn.dataOf S d with
    | some p => if reprOk p then Res.ok (PV.str p.shown) S else Res.bad
    | none => match dataD S d with
      | some p => if reprOkD p then Res.ok (PV.str p.shown) S else Res.bad
      | none => Res.bad) = _
  cases e : Dn.dataOf S d with
  | some q =>
    obtain ⟨e1, e2⟩ := dataOD e
    rw [h] at e1; cases e1
    exact if_pos ⟨b, e2, hd, hz⟩
  | none =>
    simp only [h]
    exact if_pos ⟨b, hd, hz⟩
/-- a value that is shown: its data, how long, how deep -/
def Sh (d : PV) (c e : Nat) : Prop := ∃ p, Dn.data1 d = some p ∧ okD p = true ∧ capD p ≤ c ∧ p.depth ≤ e
def Shs (ds : List PV) (c e : Nat) : Prop := ∃ ps, data1s ds = some ps ∧ okDs ps = true ∧ capDs ps ≤ c ∧ PyData.depthAll ps ≤ e
theorem Shs.nil (e : Nat) : Shs [] 0 e := ⟨[], rfl, rfl, Nat.le_refl _, by simp [PyData.depthAll]⟩
theorem Shs.cons {d : PV} {ds : List PV} {c1 c2 e : Nat} (h : Sh d c1 e) (t : Shs ds c2 e) : Shs (d :: ds) (c1 + c2 + 2) e := by
  obtain ⟨p, a1, a2, a3, a4⟩ := h
  obtain ⟨ps, b1, b2, b3, b4⟩ := t
  refine ⟨p :: ps, by simp [data1s, a1, b1], by simp [okDs, a2, b2], by simp only [capDs]; omega, by simp only [PyData.depthAll]; omega⟩
theorem Shs.of {c e : Nat} : ∀ {ds : List PV}, (∀ d ∈ ds, Sh d c e) → Shs ds ((c + 2) * ds.length) e
  | [], _ => Shs.nil e
  | d :: ds, h => by
    have := Shs.cons (h d List.mem_cons_self) (Shs.of (ds := ds) fun x hx => h x (List.mem_cons_of_mem _ hx))
    obtain ⟨ps, b1, b2, b3, b4⟩ := this
    exact ⟨ps, b1, b2, by rw [List.length_cons, Nat.mul_add]; omega, b4⟩
theorem Sh.le {d : PV} {c e c' e' : Nat} (h : Sh d c e) (hc : c ≤ c') (he : e ≤ e') : Sh d c' e' := let ⟨p, a, b, x, y⟩ := h; ⟨p, a, b, Nat.le_trans x hc, Nat.le_trans y he⟩
theorem Sh.lst {ds : List PV} {c e : Nat} (t : Shs ds c e) : Sh (.lst ds) (c + 2) (e + 1) := by
  obtain ⟨ps, b1, b2, b3, b4⟩ := t
  exact ⟨.list ps, by simp [Dn.data1, b1], by simp [okD, b2], by simp only [capD]; omega, by simp only [PyData.depth]; omega⟩
theorem Sh.tup {ds : List PV} {c e : Nat} (t : Shs ds c e) : Sh (.tup ds) (c + 3) (e + 1) := by
  obtain ⟨ps, b1, b2, b3, b4⟩ := t
  exact ⟨.tuple ps, by simp [Dn.data1, b1], by simp [okD, b2], by simp only [capD]; omega, by simp only [PyData.depth]; omega⟩
theorem Sh.repr_lst {ds : List PV} {c e : Nat} (t : Shs ds c e) (hc : c ≤ 10000000) (he : e ≤ 60) : ∃ w : Str, (∀ S, vRepr [.lst ds] S = .ok (.str w) S) ∧ (∀ S k, S[k]? = some (.lst ds) → vRepr [.loc k] S = .ok (.str w) S) := by
  obtain ⟨ps, b1, b2, b3, b4⟩ := t
  have k : okD (.list ps) = true := by simp [okD, b2]
  have kc : capD (.list ps) ≤ 16777216 := by simp only [capD]; omega
  have kd : (PyData.list ps).depth ≤ 64 := by simp only [PyData.depth]; omega
  exact ⟨(PyData.list ps).shown, fun S => vRepr_D (by simp [dataD, lstOf, b1]) k kc kd, fun S j hj => vRepr_D (by simp [dataD, lstOf, hj, b1]) k kc kd⟩
theorem Sh.repr {d : PV} {c e : Nat} (t : Sh d c e) (hc : c ≤ 16777216) (he : e ≤ 64) (S : Store) : ∃ p : PyData, Dn.data1 d = some p ∧ vRepr [d] S = .ok (.str p.shown) S := by
  obtain ⟨p, b1, b2, b3, b4⟩ := t
  refine ⟨p, b1, vRepr_D ?_ b2 (by omega) (by omega)⟩
  cases d <;> first | (simp [Dn.data1] at b1; done) | simpa [dataD, lstOf, Dn.data1] using b1
end Hl

set_option Elab.async false
set_option linter.all false
set_option maxRecDepth 100000
set_option maxHeartbeats 4000000
namespace Hl
open PySem L2 Dn
/-! ### values that may be handed in anywhere -/
mutual
theorem small0 {n : Nat} : ∀ {d : PV}, small 0 d = true → small n d = true
  | .non, _ => rfl
  | .bl _, _ => rfl
  | .int _, _ => rfl
  | .str _, _ => rfl
  | .tup xs, h => by simp only [small] at h ⊢; exact small0s h
  | .lst xs, h => by simp only [small] at h ⊢; exact small0s h
  | .obj _ fs, h => by simp only [small] at h ⊢; exact small0f h
  | .loc i, h => by simp [small] at h
  | .scr _, _ => rfl
  | .ty _, _ => rfl
  | .cls _, _ => rfl
  | .exc _, _ => rfl
  | .dic kvs, h => by simp only [small] at h ⊢; exact small0d h
  | .dik kvs, h => by simp only [small] at h ⊢; exact small0d h
theorem small0s {n : Nat} : ∀ {ds : List PV}, smalls 0 ds = true → smalls n ds = true
  | [], _ => rfl
  | x :: xs, h => by
    simp only [smalls, Bool.and_eq_true] at h ⊢
    exact ⟨small0 h.1, small0s h.2⟩
theorem small0f {n : Nat} : ∀ {ds : List (Str × PV)}, smallf 0 ds = true → smallf n ds = true
  | [], _ => rfl
  | (_, x) :: xs, h => by
    simp only [smallf, Bool.and_eq_true] at h ⊢
    exact ⟨small0 h.1, small0f h.2⟩
theorem small0d {n : Nat} : ∀ {ds : List (PV × PV)}, smalld 0 ds = true → smalld n ds = true
  | [], _ => rfl
  | (x, y) :: xs, h => by
    simp only [smalld, Bool.and_eq_true] at h ⊢
    exact ⟨small0 h.1, small0 h.2.1, small0d h.2.2⟩
end
structure Any (d : PV) : Prop where
  val : Val d
  sm : ∀ n, small n d = true
  sh : Sh d 40000 10
def tupB : PV → Bool
  | .tup xs => xs.all dv && decide (xs.length ≤ 100)
  | _ => true
def shB (d : PV) : Bool := match Dn.data1 d with
  | some p => okD p && (decide (capD p ≤ 40000) && decide (p.depth ≤ 10))
  | none => false
def anyB (d : PV) : Bool := dv d && (tupB d && (small 0 d && shB d))
theorem any_of {d : PV} (h : anyB d = true) : Any d := by
  simp only [anyB, Bool.and_eq_true] at h
  obtain ⟨h1, h2, h3, h4⟩ := h
  refine ⟨⟨h1, fun xs e => ?_⟩, fun n => small0 h3, ?_⟩
  · subst e
    simp only [tupB, Bool.and_eq_true, decide_eq_true_eq] at h2
    exact ⟨fun x hx => List.all_eq_true.mp h2.1 x hx, by omega⟩
  · unfold shB at h4
    split at h4
    · rename_i p e
      simp only [Bool.and_eq_true, decide_eq_true_eq] at h4
      exact ⟨p, e, h4.1, h4.2.1, h4.2.2⟩
    · cases h4
example : anyB (.tup [.int 1, .tup [.str "ab", .int (-33)], .dik [], .dik [(.str "a", .tup [])]]) = true := by decide +kernel
theorem pick_set {L k n : Nat} {S : Store} {xs : List PV} (h : Pn L k n S) (hx : 1 ≤ xs.length ∧ xs.length ≤ 100000) (hn : n ≤ 1000000000000) : ∃ d c, m_pick [.loc k, .lst xs] S = .ok d (S.set k c) ∧ d ∈ xs ∧ Pn L k (n + 1) (S.set k c) := by
  obtain ⟨v, c, e, h0, h1, hp⟩ := draw_set (a := 1009) (c := 40014) (m := xs.length) (by decide) (by decide) h (by omega) hn
  have e : m_draw [.loc k, .int xs.length] S = .ok (.int v) (S.set k c) := e
  obtain ⟨d, hd, hm⟩ := atI_in h0 h1
  refine ⟨d, c, fn_pn h hp ?_, hm, hp⟩
  have ix : vIx (.lst xs) (.int v) (S.set k c) = .ok d (S.set k c) := by
    show ofO (atI xs v) _ = _
    rw [hd]; rfl
  unfold b_pick
  simp [start1, List.replicate, e, ix]
theorem Pn.lt' {L k n : Nat} {S : Store} (h : Pn L k n S) : k < L := by
  obtain ⟨x, y, z, a, _⟩ := h.pen
  have := (List.getElem?_eq_some_iff.mp a).1
  rw [h.len] at this; exact this
theorem Pn.addC {L k n : Nat} {S : Store} (h : Pn L k n S) {c : Cell} (hc : flat1 c) : Pn (L + 1) k n (S ++ [c]) := by
  obtain ⟨x, y, z, a, b⟩ := h.pen
  exact ⟨h.all.addC hc, by simp [h.len], x, y, z, by rw [List.getElem?_append_left (by rw [h.len]; exact h.lt')]; exact a, b⟩
theorem Pn.setC {L k n j : Nat} {S : Store} (h : Pn L k n S) (hj : j ≠ k) {c : Cell} (hc : flat1 c) : Pn L k n (S.set j c) := by
  obtain ⟨x, y, z, a, b⟩ := h.pen
  exact ⟨h.all.setC j hc, by simp [h.len], x, y, z, by rw [List.getElem?_set_ne hj]; exact a, b⟩
/-- laps that may make objects -/
theorem laps_loopE {N i K c k n : Nat} {l : List (Nat × PV)} {body : SM} {it : IM} (hK : K ≤ 10000) (hi : i < N ∧ ∀ p ∈ l, p.1 ≠ i)
    (h : ∀ (t : Nat), t < K → ∀ (r : Env1) (S : Store) (L : Nat), Pn L k (n + c * t) S → Has N ((i, .int t) :: l) r → ∃ r' S' L', body r S = .ok (.nx r') S' ∧ Pn L' k (n + c * t + c) S' ∧ Has N l r') {r : Env1} {S : Store} {L : Nat} (hS : Pn L k n S) (hr : Has N l r)
    (hit : it r S = .ok ⟨rng 0 K, none⟩ S) :
    ∃ r' S' L', sFor it (gNm i) body r S = .ok (.nx r') S' ∧ Pn L' k (n + c * K) S' ∧ Has N l r' := by
  obtain ⟨r', S', e, ⟨L', h1⟩, h2⟩ := sFor_inv (g := gNm i) (b := body) (it := it) (r := r) (S := S) (S1 := S) (ds := rng 0 K) hit (fun t r S => (∃ L, Pn L k (n + c * t) S) ∧ Has N l r) ⟨⟨L, by simpa using hS⟩, hr⟩ (fun t d hd r S ⟨⟨L, hS⟩, hr⟩ => by
    obtain ⟨ht, rfl⟩ := rng_get hd
    rw [Int.zero_add]
    obtain ⟨r', S', L', e, h1, h2⟩ := h t ht _ S L hS (hr.put i (.int t) hi.2 hi.1)
    exact ⟨_, r', S', rfl, .inl e, ⟨L', by rw [Nat.mul_succ, ← Nat.add_assoc]; exact h1⟩, h2⟩)
  rw [rng_len] at h1
  exact ⟨r', S', L', e, h1, h2⟩
end Hl

set_option Elab.async false
set_option linter.all false
set_option maxRecDepth 100000
set_option maxHeartbeats 4000000
namespace Hl
open PySem L2 Dn
/-! ### the signs of texts -/
def CL (w : Str) : Prop := ∀ c ∈ w.cps.toList, c < 1114112
theorem ch_lt (ch : Char) : ch.toNat < 1114112 := by
  have := ch.valid
  show ch.val.toNat < _
  rcases this with h | h
  · have : ch.val.toNat < 0xd800 := h; omega
  · exact h.2
theorem cl_of (s : String) : CL (Str.ofString s) := fun c hc => by
  rw [PyProof.Rows.signs_ofString] at hc
  obtain ⟨ch, _, rfl⟩ := List.mem_map.mp hc
  exact ch_lt ch
theorem cl_app {a b : Str} (h1 : CL a) (h2 : CL b) : CL (a ++ b) := fun c hc => (PyProof.Rows.mem_cps_append.mp hc).elim (h1 c) (h2 c)
theorem cl_join {s : Str} (hs : CL s) {ts : List Str} (h : ∀ t ∈ ts, CL t) : CL (Str.join s ts) := fun c hc =>
  ((PyProof.Rows.mem_join s c ts).mp hc).elim (fun ⟨t, ht, hc⟩ => h t ht c hc) fun z => hs c z.2
theorem cl_char {q c : Nat} (hq : q < 1114112) (hc : c < 1114112) : ∀ d ∈ Builtin.Str.reprChar q c, d < 1114112 := by
  have hd : ∀ n d, d ∈ (Nat.toDigits 16 n).map Char.toNat → d < 1114112 := fun n d h => by
    obtain ⟨ch, _, rfl⟩ := List.mem_map.mp h
    exact ch_lt ch
  have hr : ∀ k d : Nat, d ∈ List.replicate k 48 → d < 1114112 := fun k d h => by
    have := (List.mem_replicate.mp h).2
    omega
  intro d
  unfold Builtin.Str.reprChar
  dsimp only
  repeat' split
  all_goals simp only [List.mem_append, List.mem_cons, List.not_mem_nil, or_false]
  all_goals intro h
  all_goals repeat' (refine Or.elim h ?_ ?_ <;> clear h <;> intro h)
  all_goals first
    | omega
    | exact hd _ _ h
    | exact hr _ _ h
theorem cl_fold {q : Nat} (hq : q < 1114112) : ∀ (l : List Nat) (acc : Array Nat), (∀ c ∈ acc.toList, c < 1114112) → (∀ c ∈ l, c < 1114112) → ∀ d ∈ (l.foldl (fun out c => out ++ (Builtin.Str.reprChar q c).toArray) acc).toList, d < 1114112
  | [], acc, h, _ => h
  | c :: r, acc, h, hl => by
    rw [List.foldl_cons]
    refine cl_fold hq r _ (fun d hd => ?_) fun d hd => hl d (List.mem_cons_of_mem _ hd)
    rw [Array.toList_append, List.mem_append] at hd
    rcases hd with hd | hd
    · exact h d hd
    · exact cl_char hq (hl c List.mem_cons_self) d (by simpa using hd)
theorem cl_repr {x : Str} (hx : CL x) : CL (PySem.reprText x) := by
  have hq : PySem.reprQuote x < 1114112 := by
    unfold PySem.reprQuote
    repeat' split
    all_goals decide
  intro d hd
  unfold PySem.reprText at hd
  replace hd : d ∈ ((x.cps.foldl (fun out c => out ++ (Builtin.Str.reprChar (PySem.reprQuote x) c).toArray) #[PySem.reprQuote x]).push (PySem.reprQuote x)).toList := hd
  rw [Array.toList_push, List.mem_append, ← Array.foldl_toList] at hd
  rcases hd with hd | hd
  · exact cl_fold hq _ _ (fun c hc => by simp at hc; omega) hx d hd
  · simp at hd; omega
theorem cl_from : ∀ (ts : List Str) (k : Nat) (acc : Str), CL acc → (∀ t ∈ ts, CL t) → CL (textFrom k acc ts)
  | [], _, _, h, _ => h
  | t :: ts, k, acc, h, hs => by
    unfold textFrom
    refine cl_from ts _ _ (cl_app (cl_app h ?_) (hs t List.mem_cons_self)) fun x hx => hs x (List.mem_cons_of_mem _ hx)
    split <;> exact cl_of _
mutual
theorem cl_shown : ∀ {d : PyData}, okD d = true → CL d.shown
  | .none, _ => by simp only [PyData.shown]; exact cl_of _
  | .bool b, _ => by simp only [PyData.shown]; split <;> exact cl_of _
  | .int i, _ => by simp only [PyData.shown]; exact cl_of _
  | .str x, h => by
    simp only [PyData.shown]
    have h2 : cpsOk x = true := by simpa [okD] using h
    exact cl_repr fun c hc => of_decide_eq_true (List.all_eq_true.mp h2 c hc)
  | .list xs, h => by
    simp only [PyData.shown]
    exact cl_app (cl_from _ _ _ (cl_of _) (cl_shownAll (by simpa [okD] using h))) (cl_of _)
  | .tuple xs, h => by
    simp only [PyData.shown]
    unfold tupleText
    exact cl_app (cl_app (cl_of _) (cl_join (cl_of _) (cl_shownAll (by simpa [okD] using h)))) (cl_of _)
  | .dict kvs, h => by
    simp only [PyData.shown]
    unfold dictText
    exact cl_app (cl_app (cl_of _) (cl_join (cl_of _) (cl_shownKv (by simpa [okD] using h)))) (cl_of _)
theorem cl_shownAll : ∀ {ds : List PyData}, okDs ds = true → ∀ t ∈ PyData.shownAll ds, CL t
  | [], _ => by simp [PyData.shownAll]
  | x :: xs, h => by
    have h : okD x = true ∧ okDs xs = true := by simpa [okDs] using h
    intro t ht
    simp only [PyData.shownAll, List.mem_cons] at ht
    rcases ht with rfl | ht
    · exact cl_shown h.1
    · exact cl_shownAll h.2 t ht
theorem cl_shownKv : ∀ {ds : List (PyData × PyData)}, okDk ds = true → ∀ t ∈ PyData.shownKv ds, CL t
  | [], _ => by simp [PyData.shownKv]
  | (x, y) :: xs, h => by
    have h : okD x = true ∧ okD y = true ∧ okDk xs = true := by simpa [okDk] using h
    intro t ht
    simp only [PyData.shownKv, List.mem_cons] at ht
    rcases ht with rfl | ht
    · exact cl_app (cl_app (cl_shown h.1) (cl_of _)) (cl_shown h.2.1)
    · exact cl_shownKv h.2.2 t ht
end
theorem cl_cps {w : Str} (h : CL w) : cpsOk w = true := List.all_eq_true.mpr fun c hc => decide_eq_true (h c hc)
theorem Dt.str {w : Str} (h : CL w) : Dt (.str w) (.str w) (10 * w.length + 2) 1 := ⟨by simp [data0], by simpa [okP] using cl_cps h, by simp [cap], by simp [PyData.depth]⟩
theorem strs_sum : ∀ {ws : List Str}, (∀ w ∈ ws, CL w) → ∃ c, Dts (ws.map PV.str) (ws.map PyData.str) c 1
  | [], _ => ⟨0, .nil 0 1⟩
  | w :: ws, h => by
    obtain ⟨c, hc⟩ := strs_sum (ws := ws) fun x hx => h x (List.mem_cons_of_mem _ hx)
    exact ⟨_, Dts.cons (Dt.str (h w List.mem_cons_self)) hc (Nat.le_refl _)⟩
theorem eqv_strs : ∀ (xs ys : List Str), PyData.eqvAll (xs.map PyData.str) (ys.map PyData.str) = decide (xs = ys)
  | [], [] => by simp [PyData.eqvAll]
  | [], _ :: _ => by simp [PyData.eqvAll]
  | _ :: _, [] => by simp [PyData.eqvAll]
  | x :: xs, y :: ys => by
    simp only [List.map_cons, PyData.eqvAll, PyData.eqv, eqv_strs xs ys]
    by_cases h : x = y <;> by_cases h2 : xs = ys <;> simp [h, h2]
theorem eq_strs {xs ys : List Str} (hx : ∀ w ∈ xs, CL w) (hy : ∀ w ∈ ys, CL w) (S : Store) : vEq (.lst (xs.map PV.str)) (.lst (ys.map PV.str)) S = .ok (.bl (decide (xs = ys))) S := by
  obtain ⟨c1, h1⟩ := strs_sum hx
  obtain ⟨c2, h2⟩ := strs_sum hy
  rw [vEq_dt (Dt.lst h1) (Dt.lst h2) (by omega) (by omega)]
  simp only [PyData.eqv, eqv_strs]
theorem ne_strs {xs ys : List Str} (hx : ∀ w ∈ xs, CL w) (hy : ∀ w ∈ ys, CL w) (S : Store) : vNe (.lst (xs.map PV.str)) (.lst (ys.map PV.str)) S = .ok (.bl (!decide (xs = ys))) S := by
  obtain ⟨c1, h1⟩ := strs_sum hx
  obtain ⟨c2, h2⟩ := strs_sum hy
  rw [vNe_dt (Dt.lst h1) (Dt.lst h2) (by omega) (by omega)]
  simp only [PyData.eqv, eqv_strs]
theorem ne_loc {S : Store} {k : Nat} {xs ys : List PV} (h : S[k]? = some (.lst xs)) : vNe (.loc k) (.lst ys) S = vNe (.lst xs) (.lst ys) S := by
  show vNe0 _ _ S = vNe0 _ _ S
  unfold vNe0
  have e : Dn.dataOf S (.loc k) = Dn.dataOf S (.lst xs) := by simp [Dn.dataOf, lstOf, h]
  rw [e]
theorem eq_loc {S : Store} {k : Nat} {xs ys : List PV} (h : S[k]? = some (.lst xs)) : vEq (.loc k) (.lst ys) S = vEq (.lst xs) (.lst ys) S := by
  show vEq0 _ _ S = vEq0 _ _ S
  unfold vEq0
  have e : Dn.dataOf S (.loc k) = Dn.dataOf S (.lst xs) := by simp [Dn.dataOf, lstOf, h]
  rw [e]
/-! ### tuples of integers, or not -/
def isI : PV → Bool
  | .int _ => true
  | _ => false
def areI : PV → Bool
  | .tup xs => xs.all isI
  | _ => false
theorem isT_int {d : PV} (h : dv d = true) : (isiT (tyD d) "int" && !isiT (tyD d) "bool") = isI d := by
  cases d <;> first | (simp [dv] at h; done) | simp [tyD, isiT, isI]
theorem need_int_dv {d : PV} (h : Val d) (S : Store) : m_p_need_integers [d] S = if areI d = true then .ok .non S else .err "NoState" S := by
  have e1 := isi_tup h.dv S
  have h2 := h.dv
  cases d <;> first
    | (simp [dv] at h2; done)
    | (rw [show areI _ = false from rfl, if_neg (by simp)]; refine fn_err ?_; unfold b_p_need_integers; simp [start1, List.replicate, e1, tyD, isiT]; done)
    | skip
  rename_i xs
  obtain ⟨hx, hl⟩ := h.tup xs rfl
  have c : c_p_need_integers_1 [some (.tup xs), none] S = .ok ((xs.map isI).map PV.bl) S := by
    unfold c_p_need_integers_1
    simp only [lComp_ap, iVal_ap, eVar_ap, List.getElem?_cons_zero, varK_some, Res.bind_ok, srcOf_tup, szlS _ (show xs.length ≤ 16777216 by omega), if_true]
    rw [List.map_map]
    refine compM_map (.inl rfl) (fun x => PV.bl (isI x)) xs fun d hd => ⟨_, rfl, rfl, ?_⟩
    have i1 := isi_int (hx d hd) S
    have i2 := isi_bool (hx d hd) S
    rw [← isT_int (hx d hd)]
    cases z1 : isiT (tyD d) "int" <;> cases z2 : isiT (tyD d) "bool" <;> simp [z1, z2] at i1 i2 <;> simp [i1, i2]
  have al := vAll_bs (xs.map isI) S
  rw [show (xs.map isI).all id = areI (.tup xs) by simp [areI, List.all_map]] at al
  cases q : areI (.tup xs) with
  | true =>
    rw [q] at al
    rw [if_pos rfl]
    refine fn_nx (r := [some (.tup xs), none]) ?_ (Nat.le_refl _)
    unfold b_p_need_integers
    simp [start1, List.replicate, e1, tyD, isiT, c, al, -List.map_map]
  | false =>
    rw [q] at al
    rw [if_neg (by simp)]
    refine fn_err ?_
    unfold b_p_need_integers
    simp [start1, List.replicate, e1, tyD, isiT, c, al, -List.map_map]
theorem areI_tsv {d : PV} (h : areI d = true) : ∃ ts : List Int, d = tsv ts := by
  cases d with
  | tup xs =>
    obtain ⟨ts, e, _⟩ := ints_of (vs := xs) (P := fun _ => True) fun i v hv => by
      have := List.all_eq_true.mp h v (List.mem_of_getElem? hv)
      cases v with
      | int t => exact ⟨t, rfl, trivial⟩
      | _ => simp [isI] at this
    exact ⟨ts, by rw [e]; rfl⟩
  | _ => simp [areI] at h
theorem tsv_areI (ts : List Int) : areI (tsv ts) = true := by
  show (ts.map PV.int).all isI = true
  simp [isI]
theorem val_tsv {ts : List Int} (h : ts.length ≤ 1000) : Val (tsv ts) := ⟨rfl, fun xs e => by
  cases e
  exact ⟨fun x hx => by obtain ⟨t, _, rfl⟩ := List.mem_map.mp hx; rfl, by simpa using h⟩⟩
theorem negative_ok {ts : List Int} (h : ts.length ≤ 1000) (S : Store) : m_p_negative [tsv ts] S = .ok (tsv (ts.map fun t => -t)) S := by
  have n := need_int_dv (val_tsv h) S
  rw [tsv_areI, if_pos rfl] at n
  have c : c_p_negative_1 [some (tsv ts), none] S = .ok ((ts.map fun t => -t).map PV.int) S := by
    unfold c_p_negative_1
    simp only [lComp_ap, iVal_ap, eVar_ap, List.getElem?_cons_zero, varK_some, Res.bind_ok, tsv, srcOf_tup, List.length_map, szlS _ (show ts.length ≤ 16777216 by omega), if_true]
    rw [List.map_map]
    exact compM_map2 (.inl rfl) PV.int (fun t : Int => PV.int (-t)) ts fun x hx => ⟨_, rfl, rfl, by simp⟩
  refine run_fn ?_
  unfold b_p_negative
  have t : vTuple [.lst ((ts.map fun t => -t).map PV.int)] S = .ok (tsv (ts.map fun t => -t)) S := rfl
  generalize tsv ts = d at *
  simp [start1, List.replicate, n, c, t, -List.map_map]
theorem negative_err {d : PV} (h : Val d) (hn : areI d = false) (S : Store) : m_p_negative [d] S = .err "NoState" S := by
  have n := need_int_dv h S
  rw [hn, if_neg (by simp)] at n
  refine fn_err ?_
  unfold b_p_negative
  simp [start1, List.replicate, n]
def turnI : Nat → List Int → List Int
  | _, [] => []
  | i, t :: ts => (if i % 2 = 0 then t else -t) :: turnI (i + 1) ts
@[simp] theorem turnI_len : ∀ (i : Nat) (ts : List Int), (turnI i ts).length = ts.length
  | _, [] => rfl
  | i, t :: ts => by simp [turnI, turnI_len (i + 1) ts]
theorem turnI_two : ∀ (i : Nat) (ts : List Int), turnI i (turnI i ts) = ts
  | _, [] => rfl
  | i, t :: ts => by
    simp only [turnI, turnI_two (i + 1) ts]
    split <;> simp
theorem turnI_small : ∀ (i : Nat) {ts : List Int}, (∀ t ∈ ts, smallI t) → ∀ t ∈ turnI i ts, smallI t
  | _, [], _ => by simp [turnI]
  | i, t :: ts, h => by
    intro x hx
    simp only [turnI, List.mem_cons] at hx
    rcases hx with rfl | hx
    · have := h t List.mem_cons_self
      unfold smallI at *
      split <;> omega
    · exact turnI_small (i + 1) (fun y hy => h y (List.mem_cons_of_mem _ hy)) x hx
theorem enF_turn (f : PV → PV) (hf : ∀ (i : Nat) (t : Int), f (.tup [.int i, .int t]) = .int (if i % 2 = 0 then t else -t)) : ∀ (i : Nat) (ts : List Int), (enF i (ts.map PV.int)).map f = (turnI i ts).map PV.int
  | _, [] => rfl
  | i, t :: ts => by
    simp only [List.map_cons, enF, turnI, hf i t, enF_turn f hf (i + 1) ts]
theorem enF_mem : ∀ (i : Nat) (ts : List Int) (d : PV), d ∈ enF i (ts.map PV.int) → ∃ (j : Nat) (t : Int), d = .tup [.int j, .int t]
  | _, [], d, h => by simp [enF] at h
  | i, t :: ts, d, h => by
    simp only [List.map_cons, enF, List.mem_cons] at h
    rcases h with rfl | h
    · exact ⟨i, t, rfl⟩
    · exact enF_mem (i + 1) ts d h
def pairT : PV → PV
  | .tup [.int i, .int t] => .int (if i % 2 = 0 then t else -t)
  | _ => .non
theorem pairT_nat (i : Nat) (t : Int) : pairT (.tup [.int i, .int t]) = .int (if i % 2 = 0 then t else -t) := by
  have : ((i : Int) % 2 = 0) = (i % 2 = 0) := by
    apply propext
    omega
  simp only [pairT, this]
@[simp] theorem iEnT_ap (a : EM) (r : Env1) (S : Store) : iEnT' a r S = (a r S).bind enOf := rfl
@[simp] theorem enOf_tup (xs : List PV) (S : Store) : enOf (.tup xs) S = .ok ⟨enW xs, none⟩ S := rfl
theorem mod2 (i : Int) (S : Store) : vMod (.int i) (.int 2) S = .ok (.int (i % 2)) S := vMod_int (by decide)
theorem turned_c {ts : List Int} (h : ts.length ≤ 1000) (S : Store) : c_p_turned_1 [some (tsv ts), none, none] S = .ok ((turnI 0 ts).map PV.int) S := by
  unfold c_p_turned_1
  simp only [lComp_ap, iEnT_ap, eVar_ap, List.getElem?_cons_zero, varK_some, Res.bind_ok, tsv, enOf_tup, enW_len, List.length_map, szlS _ (show ts.length ≤ 16777216 by omega), if_true]
  rw [← enF_turn pairT pairT_nat]
  refine compM_map (.inl rfl) pairT (enW (ts.map PV.int)) fun d hd => ?_
  obtain ⟨j, t, rfl⟩ := enF_mem 0 ts d hd
  refine ⟨[some (.tup (ts.map PV.int)), some (.int j), some (.int t)], by simp [wipeE], rfl, ?_⟩
  by_cases z : (j : Int) % 2 = 0
  · simp [mod2, z, pairT]
  · simp [mod2, z, pairT]
theorem turned_ok {ts : List Int} (h : ts.length ≤ 1000) (S : Store) : m_p_turned [tsv ts] S = .ok (tsv (turnI 0 ts)) S := by
  have n := need_int_dv (val_tsv h) S
  rw [tsv_areI, if_pos rfl] at n
  have c := turned_c h S
  refine run_fn ?_
  unfold b_p_turned
  have t : vTuple [.lst ((turnI 0 ts).map PV.int)] S = .ok (tsv (turnI 0 ts)) S := rfl
  generalize tsv ts = d at *
  simp [start1, List.replicate, n, c, t]
theorem turned_err {d : PV} (h : Val d) (hn : areI d = false) (S : Store) : m_p_turned [d] S = .err "NoState" S := by
  have n := need_int_dv h S
  rw [hn, if_neg (by simp)] at n
  refine fn_err ?_
  unfold b_p_turned
  simp [start1, List.replicate, n]
theorem ones_eq {α : Type} (l : List α) (S : Store) (h : l.length ≤ 1000) : vEq (.lst (l.map fun _ => PV.int 1)) (.lst []) S = .ok (.bl (decide (l = []))) S := by
  have e : (l.map fun _ => PV.int 1) = (l.map fun _ => (1 : Int)).map PV.int := by rw [List.map_map]; rfl
  rw [e, vEq_dt (S := S) (Dt.lst (Dts.ints fun x hx => by
    obtain ⟨_, _, rfl⟩ := List.mem_map.mp hx
    unfold smallI; decide)) (Dt.lst .nil') (by omega) (by omega)]
  cases l <;> simp [PyData.eqv, PyData.eqvAll]
theorem are_ok2 {d : PV} (h : Val d) (S : Store) : m_are [d] S = .ok (.bl (areI d)) S := by
  have e1 := isi_tup h.dv S
  have h2 := h.dv
  refine run_fn ?_
  unfold b_are
  cases d <;> first
    | (simp [dv] at h2; done)
    | (simp [start1, List.replicate, e1, tyD, isiT, areI]; done)
    | skip
  rename_i xs
  obtain ⟨hx, hl⟩ := h.tup xs rfl
  have c : c_are_1 [some (.tup xs), none] S = .ok ((xs.filter fun x => !isI x).map fun _ => PV.int 1) S := by
    unfold c_are_1
    simp only [lComp_ap, iVal_ap, eVar_ap, List.getElem?_cons_zero, varK_some, Res.bind_ok, srcOf_tup, szlS _ (show xs.length ≤ 16777216 by omega), if_true]
    have := compM_fm (g := gNm 1) (t := bOr (bNot (bVal (eCB vIsiU (lCons (eVar 1) (lCons (eC (.ty "int")) lNil))))) (bVal (eCB vIsiU (lCons (eVar 1) (lCons (eC (.ty "bool")) lNil))))) (f := eC (.int 1)) (c := ⟨xs, none⟩) (r0 := wipeE [some (.tup xs), none] [1]) (S := S) (.inl rfl) (fun x : PV => x) (fun _ => PV.int 1) (fun x => !isI x) xs fun x hx' => ⟨_, rfl, by
      have i1 := isi_int (hx x hx') S
      have i2 := isi_bool (hx x hx') S
      rw [← isT_int (hx x hx')]
      cases z1 : isiT (tyD x) "int" <;> cases z2 : isiT (tyD x) "bool" <;> simp [z1, z2] at i1 i2 <;> simp [i1, i2], fun _ => by simp⟩
    simpa using this
  have ne := ones_eq (xs.filter fun x => !isI x) S (Nat.le_trans (List.length_filter_le _ _) hl)
  have hd : decide ((xs.filter fun x => !isI x) = []) = areI (.tup xs) := by
    rw [Bool.eq_iff_iff]
    simp [areI, List.filter_eq_nil_iff, List.all_eq_true]
  rw [hd] at ne
  simp [start1, List.replicate, e1, tyD, isiT, c, ne]
end Hl

set_option Elab.async false
set_option linter.all false
set_option maxRecDepth 100000
set_option maxHeartbeats 4000000
namespace Hl
open PySem L2 Dn
/-! ### things of any kind, once more -/
theorem sh_i {i : Int} (h : smallI i) : Sh (.int i) 1921 1 := ⟨.int i, by simp [Dn.data1], by have := okp_int h; simpa [okP, okD] using this, by simp [capD], by simp [PyData.depth]⟩
theorem any_i {i : Int} (h : smallI i) : Any (.int i) := ⟨⟨rfl, fun _ e => nomatch e⟩, fun _ => rfl, (sh_i h).le (by omega) (by omega)⟩
theorem any_b (b : Bool) : Any (.bl b) := by cases b <;> exact any_of (by decide +kernel)
theorem shs_is {ts : List Int} (h : ∀ t ∈ ts, smallI t) : Shs (ts.map PV.int) (1923 * ts.length) 1 := by
  have := Shs.of (c := 1921) (e := 1) (ds := ts.map PV.int) fun d hd => by
    obtain ⟨t, ht, rfl⟩ := List.mem_map.mp hd
    exact sh_i (h t ht)
  simpa using this
theorem any_ts {ts : List Int} (h : ∀ t ∈ ts, smallI t) (hl : ts.length ≤ 10) : Any (tsv ts) := by
  refine ⟨val_tsv (by omega), fun n => ?_, (Sh.tup (shs_is h)).le (by omega) (by omega)⟩
  simp [tsv, small, smalls_ints]
theorem any_ls {ts : List Int} (h : ∀ t ∈ ts, smallI t) (hl : ts.length ≤ 10) : Any (.lst (ts.map PV.int)) := by
  refine ⟨⟨rfl, fun _ e => nomatch e⟩, fun n => ?_, (Sh.lst (shs_is h)).le (by omega) (by omega)⟩
  simp [small, smalls_ints]
theorem Sh.text {d : PV} {c e : Nat} (t : Sh d c e) (hc : c ≤ 16777216) (he : e ≤ 64) : ∃ w : Str, CL w ∧ ∀ S, vRepr [d] S = .ok (.str w) S := by
  obtain ⟨p, b1, b2, b3, b4⟩ := t
  refine ⟨p.shown, cl_shown b2, fun S => vRepr_D ?_ b2 (by omega) (by omega)⟩
  cases d <;> first | (simp [Dn.data1] at b1; done) | simpa [dataD, lstOf, Dn.data1] using b1
theorem Shs.two {d1 d2 : PV} {c e : Nat} (h1 : Sh d1 c e) (h2 : Sh d2 c e) : Shs [d1, d2] (2 * c + 4) e := by
  have := Shs.of (c := c) (e := e) (ds := [d1, d2]) fun x hx => by
    simp at hx
    rcases hx with rfl | rfl <;> assumption
  obtain ⟨ps, b1, b2, b3, b4⟩ := this
  exact ⟨ps, b1, b2, by simp at b3; omega, b4⟩
theorem eDk0_r (r : Env1) (S : Store) : eDk0 r S = .ok (.dik []) S := rfl
theorem pow_12 (S : Store) : vPow (.int 10) (.int 12) S = .ok (.int 1000000000000) S := by simp [vPow]
theorem draw1 {L k n : Nat} {S : Store} {m : Int} (h : Pn L k n S) (hm : 1 ≤ m ∧ m ≤ 100000000000000) (hn : n ≤ 1000000000000) : ∃ v c, m_draw [.loc k, .int m] S = .ok (.int v) (S.set k c) ∧ 0 ≤ v ∧ v < m ∧ Pn L k (n + 1) (S.set k c) :=
  draw_set (a := 1009) (c := 40014) (by decide) (by decide) h hm hn
theorem cut_mem {xs : List PV} {lo hi : Option Int} {x : PV} (h : x ∈ cutP xs lo hi) : x ∈ xs := List.mem_of_mem_drop (List.mem_of_mem_take h)
theorem cut_len (xs : List PV) (lo hi : Option Int) : (cutP xs lo hi).length ≤ xs.length := by
  unfold cutP
  rw [List.length_take, List.length_drop]
  omega
/-- integers, with things of few kinds among them -/
theorem any_mix {xs : List PV} (h : ∀ x ∈ xs, (∃ t, x = .int t ∧ smallI t) ∨ (dv x = true ∧ small 0 x = true ∧ Sh x 2000 3)) (hl : xs.length ≤ 19) : Any (.tup xs) := by
  refine ⟨⟨rfl, fun ys e => ?_⟩, fun n => ?_, ?_⟩
  · cases e
    refine ⟨fun x hx => ?_, by omega⟩
    rcases h x hx with ⟨t, rfl, _⟩ | ⟨a, _⟩
    · rfl
    · exact a
  · simp only [small]
    clear hl
    induction xs with
    | nil => rfl
    | cons x xs ih =>
      simp only [smalls, Bool.and_eq_true]
      refine ⟨?_, ih fun y hy => h y (List.mem_cons_of_mem _ hy)⟩
      rcases h x List.mem_cons_self with ⟨t, rfl, _⟩ | ⟨_, a, _⟩
      · rfl
      · exact small0 a
  · have := Shs.of (c := 2000) (e := 3) (ds := xs) fun x hx => by
      rcases h x hx with ⟨t, rfl, ht⟩ | ⟨_, _, a⟩
      · exact (sh_i ht).le (by omega) (by omega)
      · exact a
    exact (Sh.tup this).le (by omega) (by omega)
theorem ne_strV (x : Str) (S : Store) : vNe (.str x) (.str x) S = .ok (.bl false) S := by simp [vNe, strs?]
end Hl

set_option Elab.async false
set_option linter.all false
set_option maxRecDepth 100000
set_option maxHeartbeats 4000000
namespace K65
open PySem L2 Dn Hl
structure Th (d : PV) : Prop where
  any : Any d
  smi : ∀ ts : List Int, d = tsv ts → ∀ t ∈ ts, smallI t
def thB : PV → Bool
  | .tup xs => xs.all fun x => match x with
    | .int t => decide (t.natAbs < 18446744073709551616)
    | _ => true
  | _ => true
theorem th_of {d : PV} (h : anyB d = true) (h2 : thB d = true) : Th d := ⟨any_of h, fun ts e t ht => by
  subst e
  have := List.all_eq_true.mp h2 (.int t) (List.mem_map.mpr ⟨t, ht, rfl⟩)
  have q : t.natAbs < 18446744073709551616 := of_decide_eq_true this
  exact q⟩
theorem two_texts {w1 w2 : Str} (h1 : CL w1) (h2 : CL w2) : ∀ w ∈ [w1, w2], CL w := fun w hw => by
  simp at hw
  rcases hw with rfl | rfl <;> assumption
theorem right_no {d : PV} (h : Th d) (hn : areI d = false) {S : Store} (hS : AllI S) : m_right_k65 [d] S = .ok (.bl true) S := by
  obtain ⟨w, _, hw⟩ := h.any.sh.text (by omega) (by omega)
  obtain ⟨T, hT⟩ : ∃ x : Str, (("! " : Str) ++ "NoState") = x := ⟨_, rfl⟩
  have hT2 : T = "! NoState" := by rw [← hT]; decide +kernel
  have cT : CL T := by rw [hT2]; exact cl_of _
  have u : ∀ {S : Store}, AllI S → su_said [none, some (.exc "NoState")] S = .ok (.rt (.str T)) S := fun h => by rw [← hT]; exact su_ok (by decide +kernel) h
  have sn : ∀ (o1 o2 o3 o4 o5 : Option PV) {S : Store}, AllI S → eSaid vRepr su_said (eCallN 1 m_p_negative [] (lCons (eVar 0) lNil)) [some d, o1, o2, o3, o4, o5] S = .ok (.str T) S := fun o1 o2 o3 o4 o5 S hS =>
    said_exc (rp := vRepr) (c := "NoState") (S1 := S) (by simp [negative_err h.any.val hn]) (by decide +kernel) (u hS)
  have st : ∀ (o1 o2 o3 o4 o5 : Option PV) {S : Store}, AllI S → eSaid vRepr su_said (eCallN 1 m_p_turned [] (lCons (eVar 0) lNil)) [some d, o1, o2, o3, o4, o5] S = .ok (.str T) S := fun o1 o2 o3 o4 o5 S hS =>
    said_exc (rp := vRepr) (c := "NoState") (S1 := S) (by simp [turned_err h.any.val hn]) (by decide +kernel) (u hS)
  have fl : ∀ ws : List Str, flat1 (.lst (ws.map PV.str)) := fun ws n => by
    show Dn.smalls n (ws.map PV.str) = true
    induction ws with
    | nil => rfl
    | cons s ss ih => exact ih
  have hS1 : AllI (S ++ [.lst [.str T]]) := hS.addC (fl [T])
  have z1 : 1 ≤ sizeLine := szlS 1 (by decide)
  have e1 := sn (some (.str w)) none none none none hS
  have e2 := st (some (.str w)) (some (.loc S.length)) none none none hS1
  have ap := app_at (d := .str T) (last_at S (.lst [.str T])) (by simp)
  rw [set_last] at ap
  have it := isT_loc (last_at S (.lst [.str T]))
  have tw : vMul (.lst [.str "! NoState"]) (.int 2) (S ++ [.lst [.str T, .str T]]) = .ok (.lst [.str T, .str T]) (S ++ [.lst [.str T, .str T]]) := by
    rw [rep_lst (by decide) (by decide), hT2]; rfl
  have eq := eq_strs (two_texts cT cT) (two_texts cT cT) (S ++ [.lst [.str T, .str T]])
  have el := eq_loc (ys := [.str T, .str T]) (last_at S (.lst [.str T, .str T]))
  have eq' : vEq (.lst [.str T, .str T]) (.lst [.str T, .str T]) (S ++ [.lst [.str T, .str T]]) = .ok (.bl true) (S ++ [.lst [.str T, .str T]]) := by simpa using eq
  rw [eq'] at el
  have ar := are_ok2 h.any.val (S ++ [.lst [.str T, .str T]])
  rw [hn] at ar
  have hb : b_right_k65 (start1 6 [d]) S = .ok (.rt (.bl true)) (S ++ [.lst [.str T, .str T]]) := by
    unfold b_right_k65
    simp [start1, List.replicate, hw, e1, e2, z1, it, ap, ar, tw, el, ne_strV]
  exact fn_own (d := .bl true) (T := [.lst [.str T, .str T]]) hb (allI_small hS _) rfl (fun z => by cases z)
theorem sub0_c {ts : List Int} (h : ts.length ≤ 1000) (o1 o2 o3 o4 o5 : Option PV) (S : Store) : c_right_k65_2 [some (tsv ts), o1, o2, o3, o4, o5] S = .ok ((ts.map fun t => -t).map PV.int) S := by
  unfold c_right_k65_2
  simp only [lComp_ap, iVal_ap, eVar_ap, List.getElem?_cons_zero, varK_some, Res.bind_ok, tsv, srcOf_tup, List.length_map, szlS _ (show ts.length ≤ 16777216 by omega), if_true]
  rw [List.map_map]
  exact compM_map2 (.inl rfl) PV.int (fun t : Int => PV.int (-t)) ts fun x hx => ⟨_, rfl, rfl, by simp [wipeE]⟩
theorem due_c {ts : List Int} (h : ts.length ≤ 1000) (o1 o2 o3 o4 o5 : Option PV) (S : Store) : c_right_k65_1 [some (tsv ts), o1, o2, o3, o4, o5] S = .ok ((turnI 0 ts).map PV.int) S := by
  unfold c_right_k65_1
  simp only [lComp_ap, iEnT_ap, eVar_ap, List.getElem?_cons_zero, varK_some, Res.bind_ok, tsv, enOf_tup, enW_len, List.length_map, szlS _ (show ts.length ≤ 16777216 by omega), if_true]
  rw [← enF_turn pairT pairT_nat]
  refine compM_map (.inl rfl) pairT (enW (ts.map PV.int)) fun d hd => ?_
  obtain ⟨j, t, rfl⟩ := enF_mem 0 ts d hd
  refine ⟨[some (.tup (ts.map PV.int)), o1, o2, o3, some (.int j), some (.int t)], by simp [wipeE], rfl, ?_⟩
  have md : (j : Int) % 2 = 0 ∨ (j : Int) % 2 = 1 := by omega
  rcases md with z | z
  · simp [mod2, z, pairT]
  · simp [mod2, z, pairT]
theorem right_yes {ts : List Int} (h : Th (tsv ts)) {S : Store} (hS : AllI S) : m_right_k65 [tsv ts] S = .ok (.bl true) S := by
  have hl : ts.length ≤ 1000 := by have := (h.any.val.tup _ rfl).2; simpa using this
  have hs := h.smi ts rfl
  have hs1 : ∀ t ∈ ts.map (fun t => -t), smallI t := fun t ht => by
    obtain ⟨x, hx, rfl⟩ := List.mem_map.mp ht
    have := hs x hx
    unfold smallI at *
    omega
  have hs2 := turnI_small 0 hs
  have sh0 : Sh (tsv ts) (1923 * 1000 + 3) 2 := (Sh.tup (shs_is hs)).le (by omega) (by omega)
  have sh1 : Sh (tsv (ts.map fun t => -t)) (1923 * 1000 + 3) 2 := (Sh.tup (shs_is hs1)).le (by simp; omega) (by omega)
  have sh2 : Sh (tsv (turnI 0 ts)) (1923 * 1000 + 3) 2 := (Sh.tup (shs_is hs2)).le (by simp; omega) (by omega)
  obtain ⟨w, _, hw⟩ := sh0.text (by omega) (by omega)
  obtain ⟨w1, c1, hw1⟩ := sh1.text (by omega) (by omega)
  obtain ⟨w2, c2, hw2⟩ := sh2.text (by omega) (by omega)
  obtain ⟨w3, c3, hw3⟩ := (Sh.lst (Shs.two sh0 sh0)).text (by omega) (by omega)
  have n0 : ∀ S, m_p_negative [tsv ts] S = _ := fun S => negative_ok hl S
  have n1 : ∀ S, m_p_negative [tsv (ts.map fun t => -t)] S = .ok (tsv ts) S := fun S => by
    rw [negative_ok (by simpa using hl) S, List.map_map]
    congr 2
    rw [show ((fun t : Int => -t) ∘ fun t => -t) = id by funext t; simp]
    simp
  have t0 : ∀ S, m_p_turned [tsv ts] S = _ := fun S => turned_ok hl S
  have t1 : ∀ S, m_p_turned [tsv (turnI 0 ts)] S = .ok (tsv ts) S := fun S => by
    rw [turned_ok (by simpa using hl) S, turnI_two]
  have ar := fun S => are_ok2 h.any.val S
  rw [tsv_areI] at ar
  have cs := fun o1 o2 o3 o4 o5 S => sub0_c hl o1 o2 o3 o4 o5 S
  have cd := fun o1 o2 o3 o4 o5 S => due_c hl o1 o2 o3 o4 o5 S
  have v1 : ∀ S, vTuple [.lst ((ts.map fun t => -t).map PV.int)] S = .ok (tsv (ts.map fun t => -t)) S := fun S => rfl
  have v2 : ∀ S, vTuple [.lst ((turnI 0 ts).map PV.int)] S = .ok (tsv (turnI 0 ts)) S := fun S => rfl
  generalize tsv (ts.map fun t => -t) = d1 at *
  generalize tsv (turnI 0 ts) = d2 at *
  generalize tsv ts = d at *
  generalize (ts.map fun t => -t).map PV.int = l1 at *
  generalize (turnI 0 ts).map PV.int = l2 at *
  have sn : ∀ (o1 o2 o3 o4 o5 : Option PV) (S : Store), eSaid vRepr su_said (eCallN 1 m_p_negative [] (lCons (eVar 0) lNil)) [some d, o1, o2, o3, o4, o5] S = .ok (.str w1) S := fun o1 o2 o3 o4 o5 S =>
    said_val (rp := vRepr) (su := su_said) (d := d1) (S1 := S) (by simp [n0]) (hw1 S)
  have st : ∀ (o1 o2 o3 o4 o5 : Option PV) (S : Store), eSaid vRepr su_said (eCallN 1 m_p_turned [] (lCons (eVar 0) lNil)) [some d, o1, o2, o3, o4, o5] S = .ok (.str w2) S := fun o1 o2 o3 o4 o5 S =>
    said_val (rp := vRepr) (su := su_said) (d := d2) (S1 := S) (by simp [t0]) (hw2 S)
  have z1 : 1 ≤ sizeLine := szlS 1 (by decide)
  have z2 : 2 ≤ sizeLine := szlS 2 (by decide)
  have e1 := sn (some (.str w)) none none none none S
  have e2 := st (some (.str w)) (some (.loc S.length)) none none none (S ++ [.lst [.str w1]])
  have ap := app_at (d := .str w2) (last_at S (.lst [.str w1])) (by simp)
  rw [set_last] at ap
  have it := isT_loc (last_at S (.lst [.str w1]))
  have ne := ne_strs (two_texts c1 c2) (two_texts c1 c2) (S ++ [.lst [.str w1, .str w2]])
  have nl := ne_loc (ys := [.str w1, .str w2]) (last_at S (.lst [.str w1, .str w2]))
  have ne' : vNe (.lst [.str w1, .str w2]) (.lst [.str w1, .str w2]) (S ++ [.lst [.str w1, .str w2]]) = .ok (.bl false) (S ++ [.lst [.str w1, .str w2]]) := by simpa using ne
  rw [ne'] at nl
  have hb : b_right_k65 (start1 6 [d]) S = .ok (.rt (.bl true)) (S ++ [.lst [.str w1, .str w2]]) := by
    unfold b_right_k65
    simp [start1, List.replicate, hw, hw1, hw2, hw3, e1, e2, z1, z2, it, ap, ar, cs, cd, v1, v2, nl, n0, n1, t0, t1, ne_strV]
  exact fn_own (d := .bl true) (T := [.lst [.str w1, .str w2]]) hb (allI_small hS _) rfl (fun z => by cases z)
theorem right_ok {d : PV} (h : Th d) {S : Store} (hS : AllI S) : m_right_k65 [d] S = .ok (.bl true) S := by
  cases q : areI d with
  | false => exact right_no h q hS
  | true =>
    obtain ⟨ts, rfl⟩ := areI_tsv q
    exact right_yes h hS
def odds : List PV := [.non, .bl true, .bl false, .int (-1), .int 0, .int 1, .int 1000000000000, .str "", .str "0", .str "near", .tup [], .lst [], .dik [], .tup [.int 0], .lst [.int 0], .tup [.bl true], .tup [.non], .tup [.tup [.int 0]]]
def odds2 : List PV := [.tup [.int 0, .str "0"], .tup [.int 0, .int 0, .int 0, .int 0], .dik [(.int 0, .int 0)], .tup [.str "0"], .tup [.int 1000000000000], .tup [.int 0, .non], .lst [.tup [.int 0]]]
theorem odds_th : (odds ++ odds2).all (fun d => anyB d && thB d) = true := by decide +kernel
theorem odds_ok (S : Store) : m_odds [] S = .ok (.lst (odds ++ odds2)) S := by
  refine run_fn ?_
  unfold b_odds
  have k : ∀ r S, eDks (.inl 0 :: []) (lEs (eC (.int 0) :: [])) r S = .ok (.dik [(.int 0, .int 0)]) S := fun r S => rfl
  have a : vAdd (.lst odds) (.lst odds2) S = .ok (.lst (odds ++ odds2)) S := rfl
  simp only [odds, odds2] at a
  simp [start1, List.replicate, pow_12, eDk0_r, k, a, odds, odds2]
theorem th_ts {ts : List Int} (h : ∀ t ∈ ts, smallI t) (hl : ts.length ≤ 10) : Th (tsv ts) := ⟨any_ts h hl, fun us e => by
  have : ts = us := by
    unfold tsv at e
    injection e with e
    have := congrArg (List.map fun d => match d with | PV.int i => i | _ => 0) e
    simpa [Function.comp_def] using this
  rw [← this]; exact h⟩
theorem th_ls {ts : List Int} (h : ∀ t ∈ ts, smallI t) (hl : ts.length ≤ 10) : Th (.lst (ts.map PV.int)) := ⟨any_ls h hl, fun us e => by cases e⟩
def wrong : List PV := [.non, .bl true, .bl false, .str "0", .tup [.int 0]]
theorem wrong_ok {x : PV} (h : x ∈ wrong) : dv x = true ∧ small 0 x = true ∧ Sh x 2000 3 := by
  have q : wrong.all (fun x => dv x && (small 0 x && (match Dn.data1 x with | some p => okD p && (decide (capD p ≤ 2000) && decide (p.depth ≤ 3)) | none => false))) = true := by decide +kernel
  have := List.all_eq_true.mp q x h
  simp only [Bool.and_eq_true] at this
  obtain ⟨a, b, c⟩ := this
  refine ⟨a, b, ?_⟩
  split at c
  · rename_i p e
    simp only [Bool.and_eq_true, decide_eq_true_eq] at c
    exact ⟨p, e, c.1, c.2.1, c.2.2⟩
  · cases c
theorem wrong_no {x : PV} (h : x ∈ wrong) : isI x = false := by
  have q : wrong.all (fun x => !isI x) = true := by decide +kernel
  simpa using List.all_eq_true.mp q x h
theorem th_mix {ts : List Int} (h : ∀ t ∈ ts, smallI t) (hl : ts.length ≤ 9) {x : PV} (hx : x ∈ wrong) (a b : Option Int) (c d : Option Int) : Th (.tup (cutP (ts.map PV.int) a b ++ [x] ++ cutP (ts.map PV.int) c d)) := by
  have l1 := cut_len (ts.map PV.int) a b
  have l2 := cut_len (ts.map PV.int) c d
  rw [List.length_map] at l1 l2
  refine ⟨any_mix (fun y hy => ?_) (by simp; omega), fun us e => ?_⟩
  · have int : ∀ {a b}, y ∈ cutP (ts.map PV.int) a b → (∃ t, y = .int t ∧ smallI t) := fun hy => by
      obtain ⟨t, ht, rfl⟩ := List.mem_map.mp (cut_mem hy)
      exact ⟨t, rfl, h t ht⟩
    rcases List.mem_append.mp hy with hy | hy
    · rcases List.mem_append.mp hy with hy | hy
      · exact .inl (int hy)
      · simp at hy; subst hy
        exact .inr (wrong_ok hx)
    · exact .inl (int hy)
  · have m : x ∈ cutP (ts.map PV.int) a b ++ [x] ++ cutP (ts.map PV.int) c d := by simp
    have w := wrong_no hx
    unfold tsv at e
    injection e with e
    rw [e] at m
    obtain ⟨t, _, rfl⟩ := List.mem_map.mp m
    simp [isI] at w
theorem lap_ok {ns : List Int} {L k n t : Nat} {S : Store} (hp : Pn L k n S) (hn : n + 1000 ≤ 1000000000000) {r : Env1} (hr : Has 8 [(4, .int t), (0, .scr ns), (3, .loc k)] r) :
    ∃ r' S', w_law_k65_2 r S = .ok (.nx r') S' ∧ Pn L k (n + 20) S' ∧ Has 8 [(0, .scr ns), (3, .loc k)] r' := by
  have g4 := hr.get 4 (v := .int t)
  obtain ⟨m, em, hm⟩ : ∃ m : Int, (∀ S, vIx (.lst [.int 3, .int 60, .int 1000000000000]) (.int ((t : Int) % 3)) S = .ok (.int m) S) ∧ 1 ≤ m ∧ m ≤ 1000000000000 := by
    have : (t : Int) % 3 = 0 ∨ (t : Int) % 3 = 1 ∨ (t : Int) % 3 = 2 := by omega
    rcases this with e | e | e <;> rw [e]
    · exact ⟨3, fun S => rfl, by omega⟩
    · exact ⟨60, fun S => rfl, by omega⟩
    · exact ⟨1000000000000, fun S => rfl, by omega⟩
  have md : vMod (.int (t : Int)) (.int 3) S = .ok (.int ((t : Int) % 3)) S := vMod_int (by decide)
  have s5 : sSet 5 (eBin vIx (eLst (lCons (eC (.int 3)) (lCons (eC (.int 60)) (lCons (eBin vPow (eC (.int 10)) (eC (.int 12))) lNil)))) (eBin vMod (eVar 4) (eC (.int 3)))) r S = .ok (.nx (r.set 5 (some (.int m)))) S := by
    simp [-List.getElem?_set_ne, -List.getElem?_set_self, -List.set_set, g4, pow_12, md, em]
  have h5 := hr.put 5 (.int m)
  have a5 := h5.get 5 (v := .int m)
  have a3 := h5.get 3 (v := .loc k)
  obtain ⟨v, c, ev, v0, v1, p1⟩ := draw1 (m := 10) hp (by omega) (by omega)
  obtain ⟨q, rfl⟩ := Int.eq_ofNat_of_zero_le v0
  -- the integers
  have hw := (h5.set 7 none)
  obtain ⟨vs, S2, ec, p2, l2, r2⟩ := compM_inv (g := gNm 7) (t := bYes) (f := eBin vSub (eCallN 2 m_draw [] (lCons (eVar 3) (lCons (eBin vAdd (eBin vMul (eC (.int 2)) (eVar 5)) (eC (.int 1))) lNil))) (eVar 5)) (c := ⟨rng 0 q, none⟩) (r0 := wipeE (r.set 5 (some (.int m))) [7]) rfl
    (fun j S' => Pn L k (n + 1 + j) S') (fun _ v => ∃ t : Int, v = .int t ∧ smallI t) (rng 0 q) 0 (S.set k c) (fun i d hd S' hj => by
      obtain ⟨hi, rfl⟩ := rng_get hd
      rw [Int.zero_add]
      have m1 : vMul (.int 2) (.int m) S' = .ok (.int (2 * m)) S' := vMul_int (by decide) (by omega)
      obtain ⟨v, c6, e6, w0, w1, p6⟩ := draw1 (m := 2 * m + 1) hj (by omega) (by omega)
      have hh := (hw.put 7 (.int (i : Int)))
      have b3 := hh.get 3 (v := .loc k)
      have b5 := hh.get 5 (v := .int m)
      have e : wipeE (r.set 5 (some (.int m))) [7] = (r.set 5 (some (.int m))).set 7 none := rfl
      refine ⟨_, .int (v - m), S'.set k c6, rfl, rfl, ?_, ⟨v - m, rfl, by unfold smallI; omega⟩, p6.le (by omega)⟩
      rw [e]
      simp [-List.getElem?_set_ne, -List.getElem?_set_self, -List.set_set, b3, b5, m1, e6]) (p1.le (by omega))
  obtain ⟨ts, rfl, hts⟩ := ints_of r2
  rw [List.length_map, rng_len] at l2
  rw [rng_len] at p2
  have hq : q ≤ 9 := by omega
  have cc : c_law_k65_1 (r.set 5 (some (.int m))) S = .ok (ts.map PV.int) S2 := by
    unfold c_law_k65_1
    have ir := iRange1_ok (a := eCallN 2 m_draw [] (lCons (eVar 3) (lCons (eC (.int 10)) lNil))) (r := r.set 5 (some (.int m))) (S := S) (S1 := S.set k c) (n := q) (by simp [-List.getElem?_set_ne, -List.getElem?_set_self, -List.set_set, a3, ev]) (by omega)
    rw [lComp_ap, ir]
    simp only [Int.toNat_natCast, Res.bind_ok]
    rw [rng_len, if_pos (szlS _ (show q ≤ 16777216 by omega))]
    exact ec
  have tl : vTuple [.lst (ts.map PV.int)] S2 = .ok (tsv ts) S2 := rfl
  have s1 : sSet 1 (eCB vTuple (lCons (eNew c_law_k65_1) lNil)) (r.set 5 (some (.int m))) S = .ok (.nx ((r.set 5 (some (.int m))).set 1 (some (tsv ts)))) S2 := by
    simp [-List.getElem?_set_ne, -List.getElem?_set_self, -List.set_set, cc, tl]
  have h1 := h5.put 1 (tsv ts)
  have b1 := h1.get 1 (v := tsv ts)
  have b3 := h1.get 3 (v := .loc k)
  obtain ⟨u, c3, eu, u0, u1, p3⟩ := draw1 (m := ts.length + 1) p2 (by omega) (by omega)
  have ln := len_ts ts S2
  have s6 : sSet 6 (eCallN 2 m_draw [] (lCons (eVar 3) (lCons (eBin vAdd (eCB vLen (lCons (eVar 1) lNil)) (eC (.int 1))) lNil))) ((r.set 5 (some (.int m))).set 1 (some (tsv ts))) S2 = .ok (.nx (((r.set 5 (some (.int m))).set 1 (some (tsv ts))).set 6 (some (.int u)))) (S2.set k c3) := by
    simp [-List.getElem?_set_ne, -List.getElem?_set_self, -List.set_set, b1, b3, ln, eu]
  have h6 := h1.put 6 (.int u)
  have c1 := h6.get 1 (v := tsv ts)
  have c33 := h6.get 3 (v := .loc k)
  have c6 := h6.get 6 (v := .int u)
  obtain ⟨x, c4, ex, hx, p4⟩ := pick_set (xs := wrong) p3 (by decide) (by omega)
  have r1 := right_ok (th_ts hts (by omega)) p3.all
  have r2' := right_ok (th_ls hts (by omega)) p3.all
  have r3 := right_ok (th_mix hts (by omega) hx none (some u) (some u) none) p4.all
  have lv : vList [tsv ts] (S2.set k c3) = .ok (.lst (ts.map PV.int)) (S2.set k c3) := rfl
  have ts1 : ∀ S, vSl (tsv ts) none (some u) S = .ok (.tup (cutP (ts.map PV.int) none (some u))) S := fun S => rfl
  have ts2 : ∀ S, vSl (tsv ts) (some u) none S = .ok (.tup (cutP (ts.map PV.int) (some u) none)) S := fun S => rfl
  have la := cut_len (ts.map PV.int) none (some u)
  have lb := cut_len (ts.map PV.int) (some u) none
  rw [List.length_map] at la lb
  have ad1 : ∀ S, vAdd (.tup (cutP (ts.map PV.int) none (some u))) (.tup [x]) S = .ok (.tup (cutP (ts.map PV.int) none (some u) ++ [x])) S := fun S => vAdd_tup (by simp; omega)
  have ad2 : ∀ S, vAdd (.tup (cutP (ts.map PV.int) none (some u) ++ [x])) (.tup (cutP (ts.map PV.int) (some u) none)) S = .ok (.tup (cutP (ts.map PV.int) none (some u) ++ [x] ++ cutP (ts.map PV.int) (some u) none)) S := fun S => vAdd_tup (by simp; omega)
  generalize cutP (ts.map PV.int) none (some u) ++ [x] ++ cutP (ts.map PV.int) (some u) none = Y at *
  generalize cutP (ts.map PV.int) none (some u) ++ [x] = Y1 at *
  generalize tsv ts = D at *
  generalize PV.lst (ts.map PV.int) = D2 at *
  have z1 : 1 ≤ sizeLine := szlS 1 (by decide)
  refine ⟨_, S2.set k c3 |>.set k c4, ?_, p4.le (by omega), h6.sub⟩
  unfold w_law_k65_2
  rw [seq_nx s5, seq_nx s1, seq_nx s6]
  simp only [wrong] at ex
  simp [-List.getElem?_set_ne, -List.getElem?_set_self, -List.set_set, c1, c33, c6, r1, r2', r3, lv, ts1, ts2, ex, z1, ad1, ad2]
theorem law_ok (ns : List Int) (hl : ns.length ≤ 63) : ∃ S, m_law_k65 [.scr ns] [] = .ok (.bl true) S := by
  obtain ⟨r1, e1, h1⟩ := vals_loop (N := 8) (i := 1) (l := [(0, .scr ns)]) (it := iVal (eCallN 0 m_odds [] lNil)) (body := w_law_k65_1) (ds := odds ++ odds2) (by simp) (r := start1 8 [.scr ns]) (S := []) (S1 := []) (by
      have := odds_ok []
      simp [this]) (fun d hd r hr => by
    have q := List.all_eq_true.mp odds_th d hd
    simp only [Bool.and_eq_true] at q
    have ok := right_ok (th_of q.1 q.2) AllI.nil
    have g1 := hr.get 1 (v := d)
    refine ⟨_, ?_, hr.sub⟩
    unfold w_law_k65_1
    simp [-List.getElem?_set_ne, -List.getElem?_set_self, -List.set_set, g1, ok]) .start
  have l3 := cells_loop (ns := ns) hl (N := 8) (i := 2) (j := 3) (M := 3) (inner := l_law_k65_2) (by omega) (by simp) (fun r S L k hS hr => by
    obtain ⟨r', S', e, hp, hr'⟩ := laps_loop (N := 8) (i := 4) (K := 12) (c := 20) (n := 0) (l := [(0, .scr ns), (3, .loc k)]) (body := w_law_k65_2) (by omega) (by simp) (fun t ht r S hS hr => lap_ok hS (by omega) hr) hS hr
    exact ⟨r', S', e, hp.all, hr'.sub⟩) r1 [] AllI.nil h1
  obtain ⟨r', S', e3, _, h3⟩ := l3
  refine law_end (S' := S') ?_
  have e1' : l_law_k65_1 (start1 8 [.scr ns]) [] = .ok (.nx r1) [] := e1
  have e3' : l_law_k65_3 r1 [] = .ok (.nx r') S' := e3
  unfold b_law_k65
  simp [e1', e3']
end K65

set_option Elab.async false
set_option linter.all false
set_option maxRecDepth 100000
set_option maxHeartbeats 0
open PySem PySem.Spec PyProof.Rows L2 Dn
open PySem PySem.W PySem.Calls PyProof.Rows
theorem PySem.Challenge.cw_hushloops_k65_other_signs_holds : PySem.Challenge.rw_hushloops_k65_other_signs.Holds := by
  w_on; o_law
  refine HandSHeadRun.head_any (r := OpenLaw.row PySem.Challenge.rw_hushloops_k65_other_signs) (q := view (OpenLaw.row PySem.Challenge.rw_hushloops_k65_other_signs).prog [40]) (H := K65.hk) (ob := K65.ob) (M := 20000) (loose := K65.nms) (d := HandSHeadRun.topDef (OpenLaw.row PySem.Challenge.rw_hushloops_k65_other_signs).prog 40) (kwd := []) K65.ob_eq
    (by kernel_rfl) (fun s => by kernel_rfl) K65.run (by kernel_rfl) (by kernel_rfl) (by kernel_rfl) (by rfl) (by first | assumption | decide +kernel) (by decide +kernel) ⟨rfl, rfl, rfl, rfl, rfl, by decide +kernel⟩ ?hw ?hc
  case hw => w_witness2
  case hc =>
    refine Dn.walk_G (l := PySem.Challenge.rw_hushloops_k65_other_signs) (n := 63) (k := 6) (x := "_law_script") (m := Hl.m_law_k65) rfl (by decide) (by kernel_rfl) ⟨rfl, by decide, by decide⟩ ?F (fun ns h hb => K65.law_ok ns h)
    intro w mg fa h Y G hmg0
    obtain ⟨K0, KX0, tc, c⟩ := Y
    have T := Dn.tchk_ok KX0 tc
    have KX := Dn.mkT_in (ls := K65.ls) KX0
    have hmg : mg ("law" : PySem.Str) = some (.ref fa) := by
      have e : (HandSHeadRun.topDef (OpenLaw.row PySem.Challenge.rw_hushloops_k65_other_signs).prog 40).name = ("law" : PySem.Str) := by kernel_rfl
      rw [← e]
      exact hmg0
    have hl := He.glo_ok KX G (c.fact 54 (f := Dn.fa (.glo "law")))
    rw [hmg] at hl
    cases hl
    have F := c.def_ 12 (d := K65.d_law)
    exact ⟨_, _, KX, T, fun s v => L2.FunD.bindsA (ps := ["_law_script"]) F (fun _ _ _ _ _ _ us hl => match us, hl with | [_], _ => by kernel_rfl) s [v] rfl, fun base kb gb bt => K65.g_law ⟨c, kb, gb, bt⟩⟩

